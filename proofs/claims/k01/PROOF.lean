import PyProof.Rows.All
import Wide.All
import OpenK.AllK
import Wide.FinOn
import HandS.AnyAll
import HandS.Codes
import HandS.Defaults
import HandS.ExcOwn
import HandS.FStr
import HandS.ForMost
import HandS.GenList
import HandS.Head0
import HandS.Head1
import HandS.Head2
import HandS.HeadEnd
import HandS.HeadHook1
import HandS.HeadHook2
import HandS.HeadHook3
import HandS.HeadHook4
import HandS.HeadWalk
import HandS.Lambda
import HandS.StrMore
import HandS.Style
import HandS.TryOnly
import HandS.Words
import KE.KStateDown
import PyProof.StrOps2
import PySem.Challenge.RW_formstack_k01_kinds_of_answers
-- text FsA
set_option Elab.async false
set_option linter.all false
/-! FsA: values as trees, the inner language, its evaluator. -/
namespace FS
open PySem

/-- values: lists, tuples and dicts that are never changed are trees; ref n: the n-th changed object; clo l d: the l-th lambda, made in the frame d -/
inductive D where
  | non | bl (b : Bool) | int (i : Int) | str (x : List Nat)
  | tup (xs : List D) | lst (xs : List D) | dic (kvs : List (D × D)) | frl (xs : List D)
  | ref (n : Nat) | clo (l d : Nat)
  deriving Inhabited

inductive MO where
  | gone | lst (xs : List D) | dic (kvs : List (D × D)) | ins (c : Nat) (fs : List (Nat × D))
  deriving Inhabited
abbrev MH := List MO
abbrev Fr := List (Option D)

inductive R (α : Type) where
  | ok (a : α) (h : MH) | exc (c : Nat) (h : MH) | stk

def R.bind {α β : Type} : R α → (α → MH → R β) → R β
  | .ok a h, f => f a h
  | .exc c h, _ => .exc c h
  | .stk, _ => .stk
def R.noX {α : Type} : R α → R α
  | .ok a h => .ok a h
  | _ => .stk
def R.opt {α : Type} (h : MH) : Option α → R α
  | some a => .ok a h
  | none => .stk

inductive RS where
  | nx (fr : Fr) (h : MH) | ret (d : D) (h : MH) | brk (fr : Fr) (h : MH) | cnt (fr : Fr) (h : MH) | exc (c : Nat) (fr : Fr) (h : MH) | stk

/-! ### the syntax -/
inductive Bop where
  | add | sub | mul | fdiv | mod | pow
inductive Cop where
  | eq | ne | lt | le | gt | ge | isin | notin | isn | notn
inductive Bi where
  | len | int | str | abs | max2 | min2 | list | tuple
inductive Me where
  | strip | lstrip | rstrip | split | join | lower | upper | part
inductive Gq where
  | any | all
inductive T where
  | nm (i : Nat) | tup (ts : List T)

mutual
inductive E where
  | k (d : D)
  | var (i : Nat)
  | glb (i : Nat)
  | bin (op : Bop) (a b : E)
  | neg (a : E)
  | cmp (op : Cop) (a b : E)
  | chn (op op2 : Cop) (a b c : E)
  | bop (an : Bool) (es : Es)
  | bnot (a : E)
  | ife (c : Ct) (a b : E)
  | ix (a b : E)
  | sl (a lo hi : E)
  | nop
  | tup (es : Es)
  | lst (m : Bool) (es : Es)
  | call (f : Nat) (es : Es)
  | bi (b : Bi) (es : Es)
  | me (m : Me) (o : E) (es : Es)
  | lam (l : Nat)
  | app (i : Nat)
  | lc (own : List Nat) (t : T) (it : Iw) (ifs : Cs) (e : E)
  | gen (q : Gq) (own : List Nat) (t : T) (it : Iw) (ifs : Cs) (e : E)
  | fs (es : Es)
/-- tests -/
inductive Ct where
  | v (e : E)
  | nt (a : Ct)
  | bop (an : Bool) (cs : Cs)
  | ife (c a b : Ct)
  | cmp (op : Cop) (a b : E)
  | chn (op op2 : Cop) (a b c : E)
inductive Cs where
  | nil
  | cons (c : Ct) (cs : Cs)
inductive Es where
  | nil
  | cons (e : E) (es : Es)
inductive Iw where
  | e (a : E)
  | rng (es : Es)
end

def Es.isNil : Es → Bool
  | .nil => true
  | .cons _ _ => false
inductive Hd where
  | ret (d : D) | pas
mutual
inductive S where
  | set (t : T) (e : E)
  | par (ts : List Nat) (es : Es)
  | sub (e o i : E)
  | ife (c : Ct) (a b : Ss)
  | for_ (t : T) (it : Iw) (b : Ss)
  | whl (n : Nat) (c : Ct) (b : Ss)
  | ret (e : E)
  | retn
  | rai (c : Nat)
  | tri (b : Ss) (hs : List (Nat × Hd))
  | exp (e : E)
  | doc
  | pas
  | cnt
  | brk
inductive Ss where
  | nil
  | cons (s : S) (r : Ss)
end

structure Lam where
  cap : List Nat
  body : E
structure Fn where
  ar : Nat
  nl : Nat
  dfl : List D
  lamf : Bool
  body : Ss
structure Pg where
  fns : List Fn
  lams : List Lam
  sup : List (Nat × Nat)
  ncl : Nat
  glb : List D

inductive Cal where
  | fn (i : Nat) | lam (l : Nat) (fr : Fr)

/-! ### values' own operations -/
def line : Nat := 16777216
def b2i : Bool → Int
  | true => 1
  | false => 0
mutual
def deq : D → D → Bool
  | .non, .non => true
  | .bl a, .bl b => a == b
  | .bl a, .int j => decide (b2i a = j)
  | .int i, .bl b => decide (i = b2i b)
  | .int i, .int j => decide (i = j)
  | .str x, .str y => x == y
  | .lst xs, .lst ys => deqs xs ys
  | .tup xs, .tup ys => deqs xs ys
  | _, _ => false
def deqs : List D → List D → Bool
  | [], [] => true
  | x :: xs, y :: ys => deq x y && deqs xs ys
  | _, _ => false
end
def flatD : D → Bool
  | .non => true
  | .bl _ => true
  | .int _ => true
  | .str _ => true
  | _ => false
mutual
/-- data that == reads: at most k deep -/
def shp : Nat → D → Bool
  | _, .non => true
  | _, .bl _ => true
  | _, .int _ => true
  | _, .str x => x.all (fun c => Nat.blt c 1114112)
  | 0, _ => false
  | k + 1, .lst xs => shps k xs
  | k + 1, .tup xs => shps k xs
  | _, _ => false
def shps : Nat → List D → Bool
  | _, [] => true
  | k, x :: xs => shp k x && shps k xs
end
mutual
def noClo : D → Bool
  | .clo _ _ => false
  | .tup xs => noClos xs
  | .lst xs => noClos xs
  | .frl xs => noClos xs
  | .dic kvs => noCloKv kvs
  | _ => true
def noClos : List D → Bool
  | [] => true
  | x :: xs => noClo x && noClos xs
def noCloKv : List (D × D) → Bool
  | [] => true
  | (k, v) :: r => noClo k && noClo v && noCloKv r
end

def lstOf (h : MH) : D → Option (List D)
  | .lst xs => some xs
  | .ref n => (match h[n]? with
    | some (.lst xs) => some xs
    | _ => none)
  | _ => none
def seqOf (h : MH) : D → Option (List D)
  | .tup xs => some xs
  | d => lstOf h d

def eqOpt (x y : D) : Option Bool :=
  if flatD x && flatD y then (match x, y with
    | .bl _, .int _ => none
    | .int _, .bl _ => none
    | _, _ => some (deq x y))
  else if shp 60 x && shp 60 y then some (deq x y) else none

/-- y stands within x -/
def begins : List Nat → List Nat → Bool
  | [], _ => true
  | _ :: _, [] => false
  | a :: r, b :: s => Nat.beq a b && begins r s
def within (y : List Nat) : List Nat → Bool
  | [] => y.isEmpty
  | a :: r => begins y (a :: r) || within y r

def inOpt (h : MH) (x y : D) : Option Bool :=
  match y with
  | .str s => (match x with
    | .str t => some (within t s)
    | _ => none)
  | d => (match seqOf h d with
    | some ys => if flatD x && ys.all flatD then some (ys.any fun z => deq z x) else none
    | none => none)

def small (i : Int) : Bool := decide (-18446744073709551616 < i) && decide (i < 18446744073709551616)
def repL {α : Type} (n : Nat) (x : List α) : List α := (List.replicate n x).flatten

def binV (op : Bop) (x y : D) (h : MH) : R D :=
  match op, x, y with
  | .add, .int i, .int j => .ok (.int (i + j)) h
  | .add, .str a, .str b => if Nat.ble (a.length + b.length) line then .ok (.str (a ++ b)) h else .stk
  | .add, .lst a, .lst b => if Nat.ble (a.length + b.length) line then .ok (.lst (a ++ b)) h else .stk
  | .add, .tup a, .tup b => if !a.isEmpty && Nat.ble (a.length + b.length) line then .ok (.tup (a ++ b)) h else .stk
  | .sub, .int i, .int j => .ok (.int (i - j)) h
  | .mul, .int i, .int j => if small i || small j then .ok (.int (i * j)) h else .stk
  | .mul, .str a, .int j => if decide (-1000000 ≤ j) && decide (j ≤ 1000000) && Nat.ble (a.length * j.toNat) line then .ok (.str (repL j.toNat a)) h else .stk
  | .mul, .lst a, .int j => if decide (-1000000 ≤ j) && decide (j ≤ 1000000) && Nat.ble (a.length * j.toNat) line then .ok (.lst (repL j.toNat a)) h else .stk
  | .fdiv, .int i, .int j => if decide (0 < j) && decide (j < 1073741824) then .ok (.int (i / j)) h else .stk
  | .mod, .int i, .int j => if decide (0 < j) then .ok (.int (i % j)) h else .stk
  | .pow, .int i, .int j => if decide (0 ≤ j) && decide (j ≤ 1000000) && small i then .ok (.int (i ^ j.toNat)) h else .stk
  | _, _, _ => .stk

def ltL : List Nat → List Nat → Bool
  | [], [] => false
  | [], _ :: _ => true
  | _ :: _, [] => false
  | a :: r, b :: s => Nat.blt a b || (Nat.beq a b && ltL r s)

def cmpV (op : Cop) (x y : D) (h : MH) : Option Bool :=
  match op with
  | .eq => eqOpt x y
  | .ne => (eqOpt x y).map not
  | .lt => (match x, y with
    | .int i, .int j => some (decide (i < j))
    | _, _ => none)
  | .le => (match x, y with
    | .int i, .int j => some (decide (i ≤ j))
    | _, _ => none)
  | .gt => (match x, y with
    | .int i, .int j => some (decide (j < i))
    | _, _ => none)
  | .ge => (match x, y with
    | .int i, .int j => some (decide (j ≤ i))
    | _, _ => none)
  | .isin => inOpt h x y
  | .notin => (inOpt h x y).map not
  | .isn => (match y with
    | .non => some (match x with | .non => true | _ => false)
    | _ => none)
  | .notn => (match y with
    | .non => some (match x with | .non => false | _ => true)
    | _ => none)

def truV (h : MH) : D → Option Bool
  | .non => some false
  | .bl b => some b
  | .int i => some (decide (i ≠ 0))
  | .str x => if Nat.ble x.length line then some (!x.isEmpty) else none
  | .tup xs => some (!xs.isEmpty)
  | .lst xs => some (!xs.isEmpty)
  | _ => none

def ixN (n : Nat) (i : Int) : Option Nat :=
  if 0 ≤ i then (if i < n then some i.toNat else none) else if -(n : Int) ≤ i then some (i + n).toNat else none
def ixV (x y : D) (h : MH) : Option D :=
  match y with
  | .int i => (match x with
    | .str s => if Nat.ble s.length line then (match ixN s.length i with
      | some j => (match s[j]? with
        | some c => some (.str [c])
        | none => none)
      | none => none) else none
    | d => (match seqOf h d with
      | some xs => (match ixN xs.length i with
        | some j => xs[j]?
        | none => none)
      | none => none))
  | _ => none
def sIx (n d : Nat) : Option Int → Nat
  | none => d
  | some v => if v < 0 then (v + (n : Int)).toNat else min v.toNat n
def cut {α : Type} (xs : List α) (lo hi : Option Int) : List α :=
  (xs.drop (sIx xs.length 0 lo)).take (sIx xs.length xs.length hi - sIx xs.length 0 lo)
def slV (x : D) (lo hi : Option Int) (h : MH) : Option D :=
  match x with
  | .str s => if Nat.ble s.length line then some (.str (cut s lo hi)) else none
  | .frl xs => some (.lst (cut xs lo hi))
  | d => (match lstOf h d with
    | some xs => some (.lst (cut xs lo hi))
    | none => none)

/-! texts -/
def ascii (x : List Nat) : Bool := x.all fun c => Nat.blt c 128
def lstripL (p : Nat → Bool) (x : List Nat) : List Nat := x.dropWhile p
def rstripL (p : Nat → Bool) (x : List Nat) : List Nat := (x.reverse.dropWhile p).reverse
def isDig (c : Nat) : Bool := Nat.ble 48 c && Nat.ble c 57
/-- the figures of a number -/
def figs : Nat → Nat → List Nat → List Nat
  | 0, _, acc => acc
  | f + 1, n, acc => if n < 10 then (48 + n) :: acc else figs f (n / 10) ((48 + n % 10) :: acc)
def natL (n : Nat) : List Nat := figs (n + 1) n []
def intL : Int → List Nat
  | .ofNat n => natL n
  | .negSucc n => 45 :: natL (n + 1)
def strsOf : List D → Option (List (List Nat))
  | [] => some []
  | .str x :: r => (match strsOf r with
    | some l => some (x :: l)
    | none => none)
  | _ :: _ => none
def lenS : List (List Nat) → Nat
  | [] => 0
  | x :: r => x.length + lenS r

def intOk (i : Int) : Bool := decide (i.natAbs.log2 < 1920)
def txtV : D → Option (List Nat)
  | .str x => if Nat.ble x.length line then some x else none
  | .int i => if intOk i then some (intL i) else none
  | _ => none

def biV (b : Bi) (as : List D) (h : MH) : R D :=
  match b, as with
  | .len, [.str x] => if Nat.ble x.length line then .ok (.int x.length) h else .stk
  | .len, [d] => (match seqOf h d with
    | some xs => .ok (.int xs.length) h
    | none => .stk)
  | .int, [.int i] => .ok (.int i) h
  | .int, [.bl b] => .ok (.int (b2i b)) h
  | .int, [.str x] => if !x.isEmpty && Nat.ble x.length 640 && x.all isDig then .ok (.int ((NumText.digitsVal x : Nat))) h else .stk
  | .str, [.int i] => if intOk i then .ok (.str (intL i)) h else .stk
  | .abs, [.int i] => .ok (.int (if i < 0 then -i else i)) h
  | .max2, [.int i, .int j] => .ok (.int (if j > i then j else i)) h
  | .min2, [.int i, .int j] => .ok (.int (if j < i then j else i)) h
  | .list, [d] => (match seqOf h d with
    | some xs => .ok (.lst xs) h
    | none => .stk)
  | .tuple, [.tup xs] => .ok (.tup xs) h
  | .tuple, [d] => (match lstOf h d with
    | some xs => .ok (.tup xs) h
    | none => .stk)
  | _, _ => .stk

def meV (m : Me) (o : D) (as : List D) (h : MH) : R D :=
  match m, o, as with
  | .strip, .str x, [.str y] => if Nat.ble x.length line then .ok (.str (rstripL y.contains (lstripL y.contains x))) h else .stk
  | .lstrip, .str x, [.str y] => if Nat.ble x.length line then .ok (.str (lstripL y.contains x)) h else .stk
  | .rstrip, .str x, [.str y] => if Nat.ble x.length line then .ok (.str (rstripL y.contains x)) h else .stk
  | .split, .str x, [.str y] => if !y.isEmpty && ascii y && Nat.ble (x.length + 2) line then .ok (.lst ((TL.spl y 0 [] x).map .str)) h else .stk
  | .join, .str x, [d] => (match seqOf h d with
    | some ys => (match strsOf ys with
      | some l => if Nat.ble (lenS l + l.length * x.length) line then .ok (.str (TL.joinL x l)) h else .stk
      | none => .stk)
    | none => .stk)
  | .lower, .str x, [] => if ascii x && Nat.ble x.length 5592405 then .ok (.str (x.map PyProof.Rows.lo1)) h else .stk
  | .upper, .str x, [] => if ascii x && Nat.ble x.length 5592405 then .ok (.str (x.map PyProof.Rows.up1)) h else .stk
  | .part, .str x, [.str y] => if !y.isEmpty && Nat.ble x.length line then (match TL.par y [] x with
    | some (p, q) => .ok (.tup [.str p, .str y, .str q]) h
    | none => .ok (.tup [.str x, .str [], .str []]) h) else .stk
  | _, _, _ => .stk

/-! ### frames, walks -/
def get (fr : Fr) (i : Nat) : Option D := match fr[i]? with
  | some (some d) => some d
  | _ => none
def put (fr : Fr) (i : Nat) (d : D) : Fr := fr.set i (some d)
def wipeF : Fr → List Nat → Fr
  | fr, [] => fr
  | fr, v :: vs => (wipeF fr vs).set v none
mutual
def asg : T → D → Fr → Option Fr
  | .nm i, d, fr => if i < fr.length then some (put fr i d) else none
  | .tup ts, .tup xs, fr => asgs ts xs fr
  | .tup _, _, _ => none
def asgs : List T → List D → Fr → Option Fr
  | [], [], fr => some fr
  | t :: ts, x :: xs, fr => (match asg t x fr with
    | some fr1 => asgs ts xs fr1
    | none => none)
  | _, _, _ => none
end
/-- the frame at depth d, below the one that runs -/
def frameAt (o : List Fr) (d : Nat) : Option Fr := if d < o.length then o[o.length - 1 - d]? else none

/-- what is walked -/
def itemsOf (h : MH) : D → Option (List D)
  | .str x => if Nat.ble x.length line then some (x.map fun c => .str [c]) else none
  | .tup xs => some xs
  | .lst xs => some xs
  | _ => none
def intsFrom (lo : Int) : Nat → List D
  | 0 => []
  | n + 1 => .int lo :: intsFrom (lo + 1) n
def rngOk (i : Int) : Bool := decide (-1000000000 ≤ i) && decide (i ≤ 1000000000)
def rngV : List D → Option (List D)
  | [.int j] => if rngOk j && Nat.ble j.toNat line then some (intsFrom 0 j.toNat) else none
  | [.int i, .int j] => if rngOk i && rngOk j && Nat.ble (j - i).toNat line then some (intsFrom i (j - i).toNat) else none
  | _ => none

def mapW (f : D → MH → R (Option D)) : List D → MH → R (List D)
  | [], h => .ok [] h
  | x :: xs, h => (f x h).bind fun o h1 => (mapW f xs h1).bind fun ys h2 => .ok (match o with
    | some y => y :: ys
    | none => ys) h2
/-- any (w: true), all (w: false) -/
def anyW (w : Bool) (f : D → MH → R (Option Bool)) : List D → MH → R Bool
  | [], h => .ok (!w) h
  | x :: xs, h => (f x h).bind fun o h1 => match o with
    | some b => if b == w then .ok w h1 else anyW w f xs h1
    | none => anyW w f xs h1

/-! ### the evaluator -/
abbrev CF := Cal → List Fr → List D → MH → R D
def E.isNop : E → Bool
  | .nop => true
  | _ => false
def opE : Bool → D → Option (Option Int)
  | true, _ => some none
  | false, .int i => some (some i)
  | _, _ => none

mutual
def evE (g : Pg) (cf : CF) (o : List Fr) : E → Fr → MH → R D
  | .k d, _, h => .ok d h
  | .var i, fr, h => .opt h (get fr i)
  | .glb i, _, h => .opt h g.glb[i]?
  | .bin op a b, fr, h => (evE g cf o a fr h).bind fun x h1 => (evE g cf o b fr h1).bind fun y h2 => binV op x y h2
  | .neg a, fr, h => (evE g cf o a fr h).bind fun x h1 => match x with
    | .int i => .ok (.int (-i)) h1
    | _ => .stk
  | .cmp op a b, fr, h => (evE g cf o a fr h).bind fun x h1 => (evE g cf o b fr h1).bind fun y h2 => match cmpV op x y h2 with
    | some c => .ok (.bl c) h2
    | none => .stk
  | .chn op op2 a b c, fr, h => (evE g cf o a fr h).bind fun x h1 => (evE g cf o b fr h1).bind fun y h2 => match cmpV op x y h2 with
    | some true => (evE g cf o c fr h2).bind fun z h3 => (match cmpV op2 y z h3 with
      | some c => .ok (.bl c) h3
      | none => .stk)
    | some false => .ok (.bl false) h2
    | none => .stk
  | .bop an es, fr, h => (evB g cf o an es fr h).bind fun b h1 => .ok (.bl b) h1
  | .bnot a, fr, h => (evE g cf o a fr h).bind fun x h1 => match x with
    | .bl b => .ok (.bl (!b)) h1
    | _ => .stk
  | .ife c a b, fr, h => (evT g cf o c fr h).bind fun t h1 => match t with
    | true => evE g cf o a fr h1
    | false => evE g cf o b fr h1
  | .ix a b, fr, h => (evE g cf o a fr h).bind fun x h1 => (evE g cf o b fr h1).bind fun y h2 => .opt h2 (ixV x y h2)
  | .sl a lo hi, fr, h => (evE g cf o a fr h).bind fun x h1 => (evE g cf o lo fr h1).bind fun l h2 => match opE lo.isNop l with
    | some l => (evE g cf o hi fr h2).bind fun u h3 => (match opE hi.isNop u with
      | some u => .opt h3 (slV x l u h3)
      | none => .stk)
    | none => .stk
  | .nop, _, h => .ok .non h
  | .tup es, fr, h => (evEs g cf o es fr h).bind fun xs h1 => if Nat.ble xs.length line then .ok (.tup xs) h1 else .stk
  | .lst m es, fr, h => (evEs g cf o es fr h).bind fun xs h1 => if Nat.ble xs.length line then (match m with
      | false => .ok (.lst xs) h1
      | true => if noClos xs then .ok (.ref h1.length) (h1 ++ [.lst xs]) else .stk) else .stk
  | .call f es, fr, h => (evEs g cf o es fr h).bind fun xs h1 => cf (.fn f) (fr :: o) xs h1
  | .bi b es, fr, h => (evEs g cf o es fr h).bind fun xs h1 => biV b xs h1
  | .me m e es, fr, h => (evE g cf o e fr h).bind fun x h1 => match x with
    | .str s => (evEs g cf o es fr h1).bind fun xs h2 => meV m (.str s) xs h2
    | _ => .stk
  | .lam l, _, h => .ok (.clo l o.length) h
  | .app i, fr, h => match get fr i with
    | some (.clo l d) => (match g.lams[l]?, frameAt o d with
      | some L, some f => if L.cap.all (fun i => Nat.blt i f.length) then cf (.lam l (L.cap.map (get f))) (fr :: o) [] h else .stk
      | _, _ => .stk)
    | _ => .stk
  | .lc own t it ifs e, fr, h => (evI g cf o it fr h).bind fun xs h1 => if Nat.ble xs.length line then ((mapW (fun x h2 => match asg t x (wipeF fr own) with
      | some fr1 => (evTs g cf ([] :: o) true ifs fr1 h2).noX.bind fun b h3 => (match b with
        | true => (evE g cf ([] :: o) e fr1 h3).noX.bind fun y h4 => .ok (some y) h4
        | false => .ok none h3)
      | none => .stk) xs h1).bind fun ys h5 => .ok (.lst ys) h5) else .stk
  | .gen q own t it ifs e, fr, h => (evI g cf o it fr h).bind fun xs h1 => (anyW (match q with | .any => true | .all => false) (fun x h2 => match asg t x (wipeF fr own) with
      | some fr1 => (evTs g cf ([] :: o) true ifs fr1 h2).noX.bind fun b h3 => (match b with
        | true => (evE g cf ([] :: o) e fr1 h3).noX.bind fun y h4 => (match y with
          | .bl c => .ok (some c) h4
          | _ => .stk)
        | false => .ok none h3)
      | none => .stk) xs h1).bind fun c h5 => .ok (.bl c) h5
  | .fs es, fr, h => (evJ g cf o [] es fr h).bind fun l h1 => .ok (.str l) h1
/-- the parts of a text, one behind the other -/
def evJ (g : Pg) (cf : CF) (o : List Fr) : List Nat → Es → Fr → MH → R (List Nat)
  | acc, .nil, _, h => .ok acc h
  | acc, .cons e es, fr, h => (evE g cf o e fr h).bind fun x h1 => match txtV x with
    | some t => if Nat.ble (acc.length + t.length) line then evJ g cf o (acc ++ t) es fr h1 else .stk
    | none => .stk
def evEs (g : Pg) (cf : CF) (o : List Fr) : Es → Fr → MH → R (List D)
  | .nil, _, h => .ok [] h
  | .cons e es, fr, h => (evE g cf o e fr h).bind fun x h1 => (evEs g cf o es fr h1).bind fun xs h2 => .ok (x :: xs) h2
/-- a chain of and (an), or: each a bool -/
def evB (g : Pg) (cf : CF) (o : List Fr) : Bool → Es → Fr → MH → R Bool
  | _, .nil, _, _ => .stk
  | an, .cons e es, fr, h => (evE g cf o e fr h).bind fun x h1 => match x with
    | .bl b => if es.isNil then .ok b h1 else if b == an then evB g cf o an es fr h1 else .ok b h1
    | _ => .stk
/-- a test -/
def evT (g : Pg) (cf : CF) (o : List Fr) : Ct → Fr → MH → R Bool
  | .v e, fr, h => (evE g cf o e fr h).bind fun x h1 => .opt h1 (truV h1 x)
  | .nt a, fr, h => (evT g cf o a fr h).bind fun b h1 => .ok (!b) h1
  | .bop an cs, fr, h => evTs g cf o an cs fr h
  | .ife c a b, fr, h => (evT g cf o c fr h).bind fun t h1 => match t with
    | true => evT g cf o a fr h1
    | false => evT g cf o b fr h1
  | .cmp op a b, fr, h => (evE g cf o a fr h).bind fun x h1 => (evE g cf o b fr h1).bind fun y h2 => .opt h2 (cmpV op x y h2)
  | .chn op op2 a b c, fr, h => (evE g cf o a fr h).bind fun x h1 => (evE g cf o b fr h1).bind fun y h2 => match cmpV op x y h2 with
    | some true => (evE g cf o c fr h2).bind fun z h3 => .opt h3 (cmpV op2 y z h3)
    | some false => .ok false h2
    | none => .stk
def evTs (g : Pg) (cf : CF) (o : List Fr) : Bool → Cs → Fr → MH → R Bool
  | an, .nil, _, h => .ok an h
  | an, .cons c cs, fr, h => (evT g cf o c fr h).bind fun b h1 => if b == an then evTs g cf o an cs fr h1 else .ok b h1
def evI (g : Pg) (cf : CF) (o : List Fr) : Iw → Fr → MH → R (List D)
  | .e a, fr, h => (evE g cf o a fr h).bind fun x h1 => .opt h1 (itemsOf h1 x)
  | .rng es, fr, h => (evEs g cf o es fr h).bind fun xs h1 => .opt h1 (rngV xs)
end

/-! ### statements -/
def forM (f : D → Fr → MH → RS) : List D → Fr → MH → RS
  | [], fr, h => .nx fr h
  | x :: xs, fr, h => match f x fr h with
    | .nx fr1 h1 => forM f xs fr1 h1
    | .cnt fr1 h1 => forM f xs fr1 h1
    | .brk fr1 h1 => .nx fr1 h1
    | r => r
def whileM (c : Fr → MH → R Bool) (f : Fr → MH → RS) : Nat → Fr → MH → RS
  | 0, _, _ => .stk
  | n + 1, fr, h => match c fr h with
    | .ok false h1 => .nx fr h1
    | .ok true h1 => (match f fr h1 with
      | .nx fr1 h2 => whileM c f n fr1 h2
      | .cnt fr1 h2 => whileM c f n fr1 h2
      | .brk fr1 h2 => .nx fr1 h2
      | r => r)
    | .exc c h1 => .exc c fr h1
    | .stk => .stk
def R.toS {α : Type} (fr : Fr) : R α → (α → MH → RS) → RS
  | .ok a h, f => f a h
  | .exc c h, _ => .exc c fr h
  | .stk, _ => .stk
def asgNs : List Nat → List D → Fr → Option Fr
  | [], [], fr => some fr
  | t :: ts, x :: xs, fr => if t < fr.length then asgNs ts xs (put fr t x) else none
  | _, _, _ => none
def sub (g : Pg) (a b : Nat) : Bool := Nat.beq a b || g.sup.any fun p => Nat.beq p.1 a && Nat.beq p.2 b
def setAt (h : MH) (x i d : D) : Option MH :=
  match x, i with
  | .ref n, .int j => (match h[n]? with
    | some (.lst xs) => (match ixN xs.length j with
      | some k => if noClo d then some (h.set n (.lst (xs.set k d))) else none
      | none => none)
    | _ => none)
  | _, _ => none
def hdOf (g : Pg) (c : Nat) : List (Nat × Hd) → Option Hd
  | [] => none
  | p :: r => if sub g c p.1 then some p.2 else hdOf g c r
def RS.opt (fr : Fr) (h : MH) : Option Fr → RS
  | some fr1 => .nx fr1 h
  | none => .stk

mutual
def evS (g : Pg) (cf : CF) (o : List Fr) : S → Fr → MH → RS
  | .set t e, fr, h => (evE g cf o e fr h).toS fr fun d h1 => match asg t d fr with
    | some fr1 => .nx fr1 h1
    | none => .stk
  | .par ts es, fr, h => (evEs g cf o es fr h).toS fr fun ds h1 => match asgNs ts ds fr with
    | some fr1 => .nx fr1 h1
    | none => .stk
  | .sub e a i, fr, h => (evE g cf o e fr h).toS fr fun d h1 => (evE g cf o a fr h1).toS fr fun x h2 => (evE g cf o i fr h2).toS fr fun j h3 => match setAt h3 x j d with
    | some h4 => .nx fr h4
    | none => .stk
  | .ife c a b, fr, h => (evT g cf o c fr h).toS fr fun t h1 => match t with
    | true => evSs g cf o a fr h1
    | false => evSs g cf o b fr h1
  | .for_ t it b, fr, h => (evI g cf o it fr h).toS fr fun xs h1 => forM (fun x fr1 h2 => match asg t x fr1 with
    | some fr2 => evSs g cf o b fr2 h2
    | none => .stk) xs fr h1
  | .whl n c b, fr, h => whileM (fun fr1 h1 => evT g cf o c fr1 h1) (fun fr1 h1 => evSs g cf o b fr1 h1) n fr h
  | .ret e, fr, h => (evE g cf o e fr h).toS fr fun d h1 => .ret d h1
  | .retn, _, h => .ret .non h
  | .rai c, fr, h => .exc c fr h
  | .tri b hs, fr, h => match evSs g cf o b fr h with
    | .exc c fr1 h1 => if c < g.ncl then (match hdOf g c hs with
      | some (.ret d) => .ret d h1
      | some .pas => .nx fr1 h1
      | none => .exc c fr1 h1) else .stk
    | r => r
  | .exp e, fr, h => (evE g cf o e fr h).toS fr fun _ h1 => .nx fr h1
  | .doc, fr, h => .nx fr h
  | .pas, fr, h => .nx fr h
  | .cnt, fr, h => .cnt fr h
  | .brk, fr, h => .brk fr h
def evSs (g : Pg) (cf : CF) (o : List Fr) : Ss → Fr → MH → RS
  | .nil, fr, h => .nx fr h
  | .cons s r, fr, h => match evS g cf o s fr h with
    | .nx fr1 h1 => evSs g cf o r fr1 h1
    | x => x
end

/-- a call at most k deep -/
def callK (g : Pg) : Nat → CF
  | 0, _, _, _, _ => .stk
  | k + 1, .fn i, o, xs, h => (match g.fns[i]? with
    | some F => if xs.length ≤ F.ar ∧ F.ar ≤ xs.length + F.dfl.length then (match evSs g (callK g k) o F.body ((xs ++ F.dfl.drop (xs.length + F.dfl.length - F.ar)).map some ++ List.replicate (F.nl - F.ar) none) h with
      | .ret d h1 => if F.lamf && !noClo d then .stk else .ok d h1
      | .nx _ h1 => .ok .non h1
      | .exc c _ h1 => .exc c h1
      | _ => .stk) else .stk
    | none => .stk)
  | k + 1, .lam l fr, o, _, h => (match g.lams[l]? with
    | some L => evE g (callK g k) o L.body fr h
    | none => .stk)
end FS

-- text FsB
set_option Elab.async false
set_option linter.all false
set_option maxHeartbeats 1000000
/-! FsB: what stands for what: values, changed objects, frames. -/
namespace FS
open PySem PySem.Spec PyProof.Rows L2 LamX

/-- what a lambda takes from its maker -/
structure CI where
  cells : List (Str × Addr)
  N : List Str
  sc : Scope
  qual : Str
/-- the ground -/
structure GD where
  P : Program
  w : World
  K : PySem.W.Frag
  mg : Str → Option Value
  TQ : Addr → Option (Str × (Pos → Bool))
  lamC : Nat → CI → Arguments → Expr → Scope → Prop
  /-- lists that are being made -/
  tmp : List Addr
/-- the same, other lists being made -/
abbrev GD.tm (G : GD) (t : List Addr) : GD := { G with tmp := t }

def Im (G : GD) (ρ : List Addr) (H : Hp) (a : Addr) (o : HO) : Prop := (a ∉ ρ ∧ a ∉ G.tmp) ∧ H a = some o
/-- a lambda's object -/
def CloO (q : Str) (params : Arguments) (body : Expr) (scope : Scope) (cl : List (Str × Addr)) (pm : Value) (c' : Addr) (ctv : Value) (f : Addr) : HO :=
  .ext fun h => h.get? f = some (PySem.W.kla_obj "<lambda>" q params body scope cl pm c' ctv)
def KT (K : PySem.W.Frag) (a : Addr) (xs : List V) : Prop :=
  ∃ (o : Obj) (its : Array Value) (n : Nat), K.lookup a = some o ∧ o.cls = .type "tuple" ∧ o.data = .seq its n ∧ its.size ≤ sizeLine ∧ Vals xs its.toList
def KL (K : PySem.W.Frag) (a : Addr) (xs : List V) : Prop :=
  ∃ (o : Obj) (its : Array Value) (n : Nat), K.lookup a = some o ∧ o.cls = .type "list" ∧ o.dict = none ∧ o.data = .seq its n ∧ its.size ≤ sizeLine ∧ Vals xs its.toList
def keyD : D → Option Key
  | .int i => some (.inl i)
  | .str x => some (.inr (SX.S x))
  | _ => none

mutual
def rep (G : GD) (cm : List (Option CI)) (ρ : List Addr) (H : Hp) : D → V → Prop
  | .non, v => v = .non
  | .bl b, v => v = .bl b
  | .int i, v => v = .int i
  | .str x, v => v = .str (SX.S x)
  | .tup xs, v => ∃ a ys, v = .ref a ∧ (Im G ρ H a (.tup ys) ∨ KT G.K a ys) ∧ reps G cm ρ H xs ys
  | .lst xs, v => ∃ a ys, v = .ref a ∧ Im G ρ H a (.lst ys) ∧ reps G cm ρ H xs ys
  | .dic kvs, v => ∃ a ys, v = .ref a ∧ Im G ρ H a (.dK ys) ∧ repk G cm ρ H kvs ys
  | .frl xs, v => ∃ a ys, v = .ref a ∧ ((∃ o, Im G ρ H a (.frz o (.lst ys))) ∨ KL G.K a ys) ∧ reps G cm ρ H xs ys
  | .ref n, v => ∃ a, v = .ref a ∧ ρ[n]? = some a
  | .clo l d, v => ∃ (f c' : Addr) (ci : CI) (pm ctv : Value) (params : Arguments) (body : Expr) (scope : Scope), v = .ref f ∧ cm[d]? = some (some ci) ∧ G.lamC l ci params body scope ∧
      Im G ρ H f (CloO (ci.qual ++ "<lambda>") params body scope (cloFrom ci.cells scope.names []) pm c' ctv f) ∧ Im G ρ H c' (CodeO c' (ci.qual ++ "<lambda>"))
def reps (G : GD) (cm : List (Option CI)) (ρ : List Addr) (H : Hp) : List D → List V → Prop
  | [], ys => ys = []
  | x :: xs, ys => ∃ y r, ys = y :: r ∧ rep G cm ρ H x y ∧ reps G cm ρ H xs r
def repk (G : GD) (cm : List (Option CI)) (ρ : List Addr) (H : Hp) : List (D × D) → List (Key × V) → Prop
  | [], ys => ys = []
  | (k, x) :: xs, ys => ∃ c y r, ys = (c, y) :: r ∧ keyD k = some c ∧ rep G cm ρ H x y ∧ repk G cm ρ H xs r
end

/-- what is behind: old things stay, but the changed objects -/
structure Ext (ρ : List Addr) (H : Hp) (ρ' : List Addr) (H' : Hp) : Prop where
  pre : ∃ t, ρ' = ρ ++ t
  keep : ∀ a o, H a = some o → a ∉ ρ → (∀ ps, o ≠ .tbl ps) → H' a = some o
  tbl : ∀ a ps, H a = some (.tbl ps) → a ∉ ρ → ∃ more, H' a = some (.tbl (ps ++ more))
  new : ∀ a ∈ ρ', a ∈ ρ ∨ H a = none
theorem Ext.refl (ρ : List Addr) (H : Hp) : Ext ρ H ρ H := ⟨⟨[], by simp⟩, fun _ _ e _ _ => e, fun _ ps e _ => ⟨#[], by simp [e]⟩, fun _ h => .inl h⟩
theorem Ext.nin {ρ ρ' : List Addr} {H H' : Hp} (e : Ext ρ H ρ' H') {a : Addr} {o : HO} (h : H a = some o) (n : a ∉ ρ) : a ∉ ρ' := fun m => by
  rcases e.new a m with z | z
  · exact n z
  · rw [h] at z; cases z
theorem Ext.trans {ρ ρ1 ρ2 : List Addr} {H H1 H2 : Hp} (a : Ext ρ H ρ1 H1) (b : Ext ρ1 H1 ρ2 H2) : Ext ρ H ρ2 H2 where
  pre := by
    obtain ⟨t, e⟩ := a.pre
    obtain ⟨u, e2⟩ := b.pre
    exact ⟨t ++ u, by rw [e2, e, List.append_assoc]⟩
  keep := fun c o h n nt => b.keep c o (a.keep c o h n nt) (a.nin h n) nt
  tbl := fun c ps h n => by
    obtain ⟨m1, e1⟩ := a.tbl c ps h n
    obtain ⟨m2, e2⟩ := b.tbl c _ e1 (a.nin h n)
    exact ⟨m1 ++ m2, by rw [e2, Array.append_assoc]⟩
  new := fun c h => by
    rcases b.new c h with z | z
    · exact a.new c z
    · by_cases hc : c ∈ ρ
      · exact .inl hc
      · right
        cases q : H c with
        | none => rfl
        | some o =>
          exfalso
          by_cases ht : ∃ ps, o = .tbl ps
          · obtain ⟨ps, rfl⟩ := ht
            obtain ⟨m, e⟩ := a.tbl c ps q hc
            rw [e] at z; cases z
          · rw [a.keep c o q hc (fun ps e => ht ⟨ps, e⟩)] at z; cases z
theorem Im.ext {G : GD} {ρ ρ' : List Addr} {H H' : Hp} {a : Addr} {o : HO} (e : Ext ρ H ρ' H') (h : Im G ρ H a o) (nt : ∀ ps, o ≠ .tbl ps) : Im G ρ' H' a o := ⟨⟨e.nin h.2 h.1.1, h.1.2⟩, e.keep a o h.2 h.1.1 nt⟩
theorem Ext.ix {ρ ρ' : List Addr} {H H' : Hp} (e : Ext ρ H ρ' H') {n : Nat} {a : Addr} (h : ρ[n]? = some a) : ρ'[n]? = some a := by
  obtain ⟨t, rfl⟩ := e.pre
  obtain ⟨hn, e⟩ := List.getElem?_eq_some_iff.mp h
  rw [List.getElem?_append_left hn]
  exact h

/-- deeper frames -/
def Deeper (cm cm' : List (Option CI)) : Prop := ∀ (d : Nat) (ci : CI), cm[d]? = some (some ci) → cm'[d]? = some (some ci)
theorem Deeper.refl (cm : List (Option CI)) : Deeper cm cm := fun _ _ h => h
theorem Deeper.app (cm t : List (Option CI)) : Deeper cm (cm ++ t) := fun d ci h => by
  obtain ⟨hn, e⟩ := List.getElem?_eq_some_iff.mp h
  rw [List.getElem?_append_left hn]
  exact h

/-- how what is seen goes on -/
structure Mv (G G' : GD) (cm cm' : List (Option CI)) (ρ ρ' : List Addr) (H H' : Hp) : Prop where
  K : G'.K = G.K
  lam : G'.lamC = G.lamC
  dp : Deeper cm cm'
  im : ∀ a o, (∀ ps, o ≠ .tbl ps) → Im G ρ H a o → Im G' ρ' H' a o
  ix : ∀ (n : Nat) (a : Addr), ρ[n]? = some a → ρ'[n]? = some a
section
variable {G G' : GD} {cm cm' : List (Option CI)} {ρ ρ' : List Addr} {H H' : Hp}
mutual
theorem rep.mv (m : Mv G G' cm cm' ρ ρ' H H') : ∀ (d : D) (v : V), rep G cm ρ H d v → rep G' cm' ρ' H' d v
  | .non, v, h => by unfold rep at h ⊢; exact h
  | .bl b, v, h => by unfold rep at h ⊢; exact h
  | .int b, v, h => by unfold rep at h ⊢; exact h
  | .str b, v, h => by unfold rep at h ⊢; exact h
  | .tup xs, v, h => by
    unfold rep at h ⊢
    obtain ⟨a, ys, e1, e2, e3⟩ := h
    exact ⟨a, ys, e1, e2.imp (fun z => m.im _ _ (fun _ q => by cases q) z) (fun z => by rw [m.K]; exact z), reps.mv m xs ys e3⟩
  | .lst xs, v, h => by
    unfold rep at h ⊢
    obtain ⟨a, ys, e1, e2, e3⟩ := h
    exact ⟨a, ys, e1, m.im _ _ (fun _ q => by cases q) e2, reps.mv m xs ys e3⟩
  | .dic xs, v, h => by
    unfold rep at h ⊢
    obtain ⟨a, ys, e1, e2, e3⟩ := h
    exact ⟨a, ys, e1, m.im _ _ (fun _ q => by cases q) e2, repk.mv m xs ys e3⟩
  | .frl xs, v, h => by
    unfold rep at h ⊢
    obtain ⟨a, ys, e1, e2, e3⟩ := h
    exact ⟨a, ys, e1, e2.imp (fun ⟨o, z⟩ => ⟨o, m.im _ _ (fun _ q => by cases q) z⟩) (fun z => by rw [m.K]; exact z), reps.mv m xs ys e3⟩
  | .ref n, v, h => by
    unfold rep at h ⊢
    obtain ⟨a, e1, e2⟩ := h
    exact ⟨a, e1, m.ix _ _ e2⟩
  | .clo l d, v, h => by
    unfold rep at h ⊢
    obtain ⟨f, c', ci, pm, ctv, params, body, scope, e1, e2, e3, e4, e5⟩ := h
    exact ⟨f, c', ci, pm, ctv, params, body, scope, e1, m.dp _ _ e2, by rw [m.lam]; exact e3, m.im _ _ (fun _ q => by unfold CloO at q; cases q) e4, m.im _ _ codeO_ne e5⟩
theorem reps.mv (m : Mv G G' cm cm' ρ ρ' H H') : ∀ (xs : List D) (ys : List V), reps G cm ρ H xs ys → reps G' cm' ρ' H' xs ys
  | [], ys, h => by unfold reps at h ⊢; exact h
  | x :: xs, ys, h => by
    unfold reps at h ⊢
    obtain ⟨y, r, e1, e2, e3⟩ := h
    exact ⟨y, r, e1, rep.mv m x y e2, reps.mv m xs r e3⟩
theorem repk.mv (m : Mv G G' cm cm' ρ ρ' H H') : ∀ (xs : List (D × D)) (ys : List (Key × V)), repk G cm ρ H xs ys → repk G' cm' ρ' H' xs ys
  | [], ys, h => by unfold repk at h ⊢; exact h
  | (k, x) :: xs, ys, h => by
    unfold repk at h ⊢
    obtain ⟨c, y, r, e1, e2, e3, e4⟩ := h
    exact ⟨c, y, r, e1, e2, rep.mv m x y e3, repk.mv m xs r e4⟩
end
theorem Mv.of (dp : Deeper cm cm') (e : Ext ρ H ρ' H') : Mv G G cm cm' ρ ρ' H H' := ⟨rfl, rfl, dp, fun _ _ nt h => h.ext e nt, fun _ _ h => e.ix h⟩
theorem rep.mono (dp : Deeper cm cm') (e : Ext ρ H ρ' H') (d : D) (v : V) (h : rep G cm ρ H d v) : rep G cm' ρ' H' d v := rep.mv (Mv.of dp e) d v h
theorem reps.mono (dp : Deeper cm cm') (e : Ext ρ H ρ' H') (d : List D) (v : List V) (h : reps G cm ρ H d v) : reps G cm' ρ' H' d v := reps.mv (Mv.of dp e) d v h
theorem repk.mono (dp : Deeper cm cm') (e : Ext ρ H ρ' H') (d : List (D × D)) (v : List (Key × V)) (h : repk G cm ρ H d v) : repk G cm' ρ' H' d v := repk.mv (Mv.of dp e) d v h
/-- a list that is being made is written -/
theorem Mv.wr {t : Addr} {u : HO} (h : t ∈ G.tmp) : Mv G G cm cm ρ ρ H (upd H t u) := ⟨rfl, rfl, Deeper.refl _, fun a o _ z => ⟨z.1, by rw [upd_ne (fun e => z.1.2 (by rw [e]; exact h))]; exact z.2⟩, fun _ _ h => h⟩
/-- fewer lists that are being made -/
theorem Mv.less {t t' : List Addr} (h : ∀ a ∈ t', a ∈ t) : Mv (G.tm t) (G.tm t') cm cm ρ ρ H H := ⟨rfl, rfl, Deeper.refl _, fun a o _ z => ⟨⟨z.1.1, fun m => z.1.2 (h a m)⟩, z.2⟩, fun _ _ h => h⟩
/-- one more, new -/
theorem Mv.more {t : List Addr} {p : Addr} (h : H p = none) : Mv (G.tm t) (G.tm (p :: t)) cm cm ρ ρ H H := ⟨rfl, rfl, Deeper.refl _, fun a o _ z => ⟨⟨z.1.1, fun m => by
  rcases List.mem_cons.mp m with e | m
  · have h2 := z.2
    rw [e, h] at h2
    cases h2
  · exact z.1.2 m⟩, z.2⟩, fun _ _ h => h⟩
mutual
/-- what holds no lambda -/
theorem rep.bare : ∀ (d : D) (v : V), noClo d = true → rep G cm ρ H d v → rep G cm' ρ H d v
  | .non, v, _, h => by unfold rep at h ⊢; exact h
  | .bl b, v, _, h => by unfold rep at h ⊢; exact h
  | .int b, v, _, h => by unfold rep at h ⊢; exact h
  | .str b, v, _, h => by unfold rep at h ⊢; exact h
  | .tup xs, v, n, h => by
    unfold rep at h ⊢
    unfold noClo at n
    obtain ⟨a, ys, e1, e2, e3⟩ := h
    exact ⟨a, ys, e1, e2, reps.bare xs ys n e3⟩
  | .lst xs, v, n, h => by
    unfold rep at h ⊢
    unfold noClo at n
    obtain ⟨a, ys, e1, e2, e3⟩ := h
    exact ⟨a, ys, e1, e2, reps.bare xs ys n e3⟩
  | .dic xs, v, n, h => by
    unfold rep at h ⊢
    unfold noClo at n
    obtain ⟨a, ys, e1, e2, e3⟩ := h
    exact ⟨a, ys, e1, e2, repk.bare xs ys n e3⟩
  | .frl xs, v, n, h => by
    unfold rep at h ⊢
    unfold noClo at n
    obtain ⟨a, ys, e1, e2, e3⟩ := h
    exact ⟨a, ys, e1, e2, reps.bare xs ys n e3⟩
  | .ref n, v, _, h => by unfold rep at h ⊢; exact h
  | .clo l d, v, n, h => by
    unfold noClo at n
    cases n
theorem reps.bare : ∀ (xs : List D) (ys : List V), noClos xs = true → reps G cm ρ H xs ys → reps G cm' ρ H xs ys
  | [], ys, _, h => by unfold reps at h ⊢; exact h
  | x :: xs, ys, n, h => by
    unfold reps at h ⊢
    unfold noClos at n
    rw [Bool.and_eq_true] at n
    obtain ⟨y, r, e1, e2, e3⟩ := h
    exact ⟨y, r, e1, rep.bare x y n.1 e2, reps.bare xs r n.2 e3⟩
theorem repk.bare : ∀ (xs : List (D × D)) (ys : List (Key × V)), noCloKv xs = true → repk G cm ρ H xs ys → repk G cm' ρ H xs ys
  | [], ys, _, h => by unfold repk at h ⊢; exact h
  | (k, x) :: xs, ys, n, h => by
    unfold repk at h ⊢
    unfold noCloKv at n
    rw [Bool.and_eq_true, Bool.and_eq_true] at n
    obtain ⟨c, y, r, e1, e2, e3, e4⟩ := h
    exact ⟨c, y, r, e1, e2, rep.bare x y n.1.2 e3, repk.bare xs r n.2 e4⟩
end
mutual
/-- the last frame made no lambda -/
theorem rep.top : ∀ (d : D) (v : V), rep G (cm ++ [none]) ρ H d v → rep G cm ρ H d v
  | .non, v, h => by unfold rep at h ⊢; exact h
  | .bl b, v, h => by unfold rep at h ⊢; exact h
  | .int b, v, h => by unfold rep at h ⊢; exact h
  | .str b, v, h => by unfold rep at h ⊢; exact h
  | .tup xs, v, h => by
    unfold rep at h ⊢
    obtain ⟨a, ys, e1, e2, e3⟩ := h
    exact ⟨a, ys, e1, e2, reps.top xs ys e3⟩
  | .lst xs, v, h => by
    unfold rep at h ⊢
    obtain ⟨a, ys, e1, e2, e3⟩ := h
    exact ⟨a, ys, e1, e2, reps.top xs ys e3⟩
  | .dic xs, v, h => by
    unfold rep at h ⊢
    obtain ⟨a, ys, e1, e2, e3⟩ := h
    exact ⟨a, ys, e1, e2, repk.top xs ys e3⟩
  | .frl xs, v, h => by
    unfold rep at h ⊢
    obtain ⟨a, ys, e1, e2, e3⟩ := h
    exact ⟨a, ys, e1, e2, reps.top xs ys e3⟩
  | .ref n, v, h => by unfold rep at h ⊢; exact h
  | .clo l d, v, h => by
    unfold rep at h ⊢
    obtain ⟨f, c', ci, pm, ctv, params, body, scope, e1, e2, e3⟩ := h
    refine ⟨f, c', ci, pm, ctv, params, body, scope, e1, ?_, e3⟩
    obtain ⟨hn, e⟩ := List.getElem?_eq_some_iff.mp e2
    by_cases hd : d < cm.length
    · rw [List.getElem?_append_left hd] at e2
      exact e2
    · rw [List.getElem?_append_right (by omega)] at e2
      have h0 : d - cm.length = 0 := by
        simp at hn
        omega
      rw [h0] at e2
      cases e2
theorem reps.top : ∀ (xs : List D) (ys : List V), reps G (cm ++ [none]) ρ H xs ys → reps G cm ρ H xs ys
  | [], ys, h => by unfold reps at h ⊢; exact h
  | x :: xs, ys, h => by
    unfold reps at h ⊢
    obtain ⟨y, r, e1, e2, e3⟩ := h
    exact ⟨y, r, e1, rep.top x y e2, reps.top xs r e3⟩
theorem repk.top : ∀ (xs : List (D × D)) (ys : List (Key × V)), repk G (cm ++ [none]) ρ H xs ys → repk G cm ρ H xs ys
  | [], ys, h => by unfold repk at h ⊢; exact h
  | (k, x) :: xs, ys, h => by
    unfold repk at h ⊢
    obtain ⟨c, y, r, e1, e2, e3, e4⟩ := h
    exact ⟨c, y, r, e1, e2, rep.top x y e3, repk.top xs r e4⟩
end
theorem reps.length : ∀ {xs : List D} {ys : List V}, reps G cm ρ H xs ys → xs.length = ys.length
  | [], ys, h => by
    unfold reps at h
    subst h
    rfl
  | x :: xs, ys, h => by
    unfold reps at h
    obtain ⟨y, r, e1, e2, e3⟩ := h
    rw [e1, List.length_cons, List.length_cons, reps.length e3]
theorem reps.get : ∀ {xs : List D} {ys : List V} {i : Nat} {x : D}, reps G cm ρ H xs ys → xs[i]? = some x → ∃ y, ys[i]? = some y ∧ rep G cm ρ H x y
  | [], ys, i, x, h, e => by simp at e
  | z :: xs, ys, i, x, h, e => by
    unfold reps at h
    obtain ⟨y, r, e1, e2, e3⟩ := h
    subst e1
    cases i with
    | zero =>
      simp at e
      subst e
      exact ⟨y, rfl, e2⟩
    | succ i =>
      obtain ⟨y', h1, h2⟩ := reps.get (i := i) (x := x) e3 (by simpa using e)
      exact ⟨y', by simpa using h1, h2⟩
theorem reps.app : ∀ {xs zs : List D} {ys ws : List V}, reps G cm ρ H xs ys → reps G cm ρ H zs ws → reps G cm ρ H (xs ++ zs) (ys ++ ws)
  | [], zs, ys, ws, h, h2 => by
    unfold reps at h
    subst h
    exact h2
  | x :: xs, zs, ys, ws, h, h2 => by
    unfold reps at h
    obtain ⟨y, r, e1, e2, e3⟩ := h
    subst e1
    rw [List.cons_append, List.cons_append]
    unfold reps
    exact ⟨y, r ++ ws, rfl, e2, reps.app e3 h2⟩
theorem reps.one {x : D} {y : V} (h : rep G cm ρ H x y) : reps G cm ρ H [x] [y] := by
  unfold reps
  exact ⟨y, [], rfl, h, by unfold reps; rfl⟩
theorem reps.nil : reps G cm ρ H [] [] := by unfold reps; rfl
theorem reps.cons {x : D} {y : V} {xs : List D} {ys : List V} (h : rep G cm ρ H x y) (h2 : reps G cm ρ H xs ys) : reps G cm ρ H (x :: xs) (y :: ys) := by
  unfold reps
  exact ⟨y, ys, rfl, h, h2⟩
theorem reps.drop : ∀ {xs : List D} {ys : List V} (n : Nat), reps G cm ρ H xs ys → reps G cm ρ H (xs.drop n) (ys.drop n)
  | xs, ys, 0, h => h
  | [], ys, n + 1, h => by
    unfold reps at h
    subst h
    exact reps.nil
  | x :: xs, ys, n + 1, h => by
    unfold reps at h
    obtain ⟨y, r, e1, e2, e3⟩ := h
    subst e1
    exact reps.drop n e3
theorem reps.take : ∀ {xs : List D} {ys : List V} (n : Nat), reps G cm ρ H xs ys → reps G cm ρ H (xs.take n) (ys.take n)
  | xs, ys, 0, h => by
    rw [List.take_zero, List.take_zero]
    exact reps.nil
  | [], ys, n + 1, h => by
    unfold reps at h
    subst h
    exact reps.nil
  | x :: xs, ys, n + 1, h => by
    unfold reps at h
    obtain ⟨y, r, e1, e2, e3⟩ := h
    subst e1
    exact reps.cons e2 (reps.take n e3)
theorem reps.set : ∀ {xs : List D} {ys : List V} {x : D} {y : V} (n : Nat), reps G cm ρ H xs ys → rep G cm ρ H x y → reps G cm ρ H (xs.set n x) (ys.set n y)
  | [], ys, x, y, n, h, q => by
    unfold reps at h
    subst h
    exact reps.nil
  | z :: xs, ys, x, y, 0, h, q => by
    unfold reps at h
    obtain ⟨y', r, e1, e2, e3⟩ := h
    subst e1
    exact reps.cons q e3
  | z :: xs, ys, x, y, n + 1, h, q => by
    unfold reps at h
    obtain ⟨y', r, e1, e2, e3⟩ := h
    subst e1
    exact reps.cons e2 (reps.set n e3 q)
theorem reps.rpt {xs : List D} {ys : List V} (h : reps G cm ρ H xs ys) : ∀ n : Nat, reps G cm ρ H (repL n xs) (List.replicate n ys).flatten
  | 0 => reps.nil
  | n + 1 => by
    unfold repL
    rw [List.replicate_succ, List.replicate_succ, List.flatten_cons, List.flatten_cons]
    exact reps.app h (reps.rpt h n)
end

/-! ### the changed objects, the tables -/
def Mu : HO → Bool
  | .lst _ => true
  | .dK _ => true
  | .ins _ _ _ => true
  | _ => false
theorem Mu.nt {o : HO} (h : Mu o = true) : ∀ ps, o ≠ .tbl ps := fun ps e => by
  rw [e] at h
  cases h
theorem Mu.nc {o : HO} (h : Mu o = true) (c : Addr) (q : Str) : o ≠ CodeO c q := fun e => by
  rw [e] at h
  unfold CodeO at h
  cases h
def mrep (G : GD) (ρ : List Addr) (H : Hp) (a : Addr) : MO → Prop
  | .gone => ∃ o, H a = some o ∧ Mu o = true
  | .lst xs => ∃ ys, H a = some (.lst ys) ∧ reps G [] ρ H xs ys
  | .dic kvs => ∃ ys, H a = some (.dK ys) ∧ repk G [] ρ H kvs ys
  | .ins _ _ => False
def TabR (H : Hp) (P : Addr) (q : Str) (L : Pos → Bool) : Prop :=
  ∃ ps : Array Value, H P = some (.tbl ps) ∧ TriplesOk ps.toList ∧ ∀ (pos : Pos) (cv : Value), L pos = true → codeAmong pos ps.toList = some cv → ∃ c, cv = .ref c ∧ H c = some (CodeO c q)
structure Gd (G : GD) (ρ : List Addr) (H : Hp) (mh : MH) : Prop where
  len : ρ.length = mh.length
  nd : ρ.Nodup
  chg : ∀ (n : Nat) (a : Addr) (o : MO), ρ[n]? = some a → mh[n]? = some o → mrep G ρ H a o
  tab : ∀ P q L, G.TQ P = some (q, L) → P ∉ ρ ∧ TabR H P q L
  tmp : ∀ a ∈ G.tmp, a ∉ ρ ∧ ∃ o, H a = some o ∧ Mu o = true
theorem mrep.there {G : GD} {ρ : List Addr} {H : Hp} {a : Addr} : ∀ {o : MO}, mrep G ρ H a o → ∃ u, H a = some u ∧ Mu u = true
  | .gone, h => h
  | .lst xs, ⟨ys, e, _⟩ => ⟨_, e, rfl⟩
  | .dic xs, ⟨ys, e, _⟩ => ⟨_, e, rfl⟩
  | .ins _ _, h => h.elim
theorem Gd.there {G : GD} {ρ : List Addr} {H : Hp} {mh : MH} (g : Gd G ρ H mh) {a : Addr} (h : a ∈ ρ) : ∃ u, H a = some u ∧ Mu u = true := by
  obtain ⟨n, hn, e⟩ := List.getElem_of_mem h
  have e1 : ρ[n]? = some a := by rw [List.getElem?_eq_getElem hn, e]
  have hm : n < mh.length := by rw [← g.len]; exact hn
  exact (g.chg n a _ e1 (List.getElem?_eq_getElem hm)).there
theorem Gd.fresh {G : GD} {ρ : List Addr} {H : Hp} {mh : MH} (g : Gd G ρ H mh) {p : Addr} (h : H p = none) : p ∉ ρ := fun m => by
  obtain ⟨u, e, _⟩ := g.there m
  rw [h] at e
  cases e
theorem mrep.ext {G : GD} {ρ ρ' : List Addr} {H H' : Hp} {a : Addr} (e : Ext ρ H ρ' H') (k : H' a = H a) : ∀ {o : MO}, mrep G ρ H a o → mrep G ρ' H' a o
  | .gone, h => by
    obtain ⟨o, e1, e2⟩ := h
    exact ⟨o, by rw [k]; exact e1, e2⟩
  | .lst xs, ⟨ys, e1, e2⟩ => ⟨ys, by rw [k]; exact e1, e2.mono (Deeper.refl _) e _ _⟩
  | .dic xs, ⟨ys, e1, e2⟩ => ⟨ys, by rw [k]; exact e1, e2.mono (Deeper.refl _) e _ _⟩
  | .ins _ _, h => h
theorem TabR.of {H H' : Hp} {P : Addr} {q : Str} {L : Pos → Bool} (t : TabR H P q L) (e : ∀ b o, H b = some o → H' b = some o) : TabR H' P q L := by
  obtain ⟨ps, h1, h2, h3⟩ := t
  refine ⟨ps, e _ _ h1, h2, fun pos cv hl hc => ?_⟩
  obtain ⟨c, e1, e2⟩ := h3 pos cv hl hc
  exact ⟨c, e1, e _ _ e2⟩
theorem TabR.kept' {H : Hp} {P p : Addr} {q : Str} {L : Pos → Bool} {u o : HO} (t : TabR H P q L) (hu : H p = some u) (mu : Mu u = true) : TabR (upd H p o) P q L := by
  obtain ⟨ps, e1, e2, e3⟩ := t
  have n1 : ∀ b v, H b = some v → Mu v = false → upd H p o b = some v := fun b v e n => by
    rw [upd_ne]
    · exact e
    · intro z
      rw [z, hu] at e
      cases e
      rw [mu] at n
      cases n
  refine ⟨ps, n1 _ _ e1 rfl, e2, fun pos cv hl hc => ?_⟩
  obtain ⟨c, q1, q2⟩ := e3 pos cv hl hc
  exact ⟨c, q1, n1 _ _ q2 rfl⟩
section
variable {G : GD} {ρ ρ' : List Addr} {H H' : Hp} {mh : MH} {p a : Addr}
theorem Ext.upd {o : HO} (h : H p = none) : Ext ρ H ρ (upd H p o) :=
  ⟨⟨[], by simp⟩, fun b u e _ _ => by rw [upd_ne (ne_of_none e h)]; exact e, fun b ps e _ => ⟨#[], by rw [upd_ne (ne_of_none e h), e]; simp⟩, fun _ h => .inl h⟩
theorem Gd.freshT (g : Gd G ρ H mh) (h : H p = none) : p ∉ G.tmp := fun m => by
  obtain ⟨_, o, e, _⟩ := g.tmp p m
  rw [h] at e
  cases e
theorem Gd.fresh2 (g : Gd G ρ H mh) (h : H p = none) : p ∉ ρ ∧ p ∉ G.tmp := ⟨g.fresh h, g.freshT h⟩
theorem Gd.code {c : Addr} {q : Str} (g : Gd G ρ H mh) (h : H c = some (CodeO c q)) : c ∉ ρ ∧ c ∉ G.tmp := by
  refine ⟨fun m => ?_, fun m => ?_⟩
  · obtain ⟨u, e, n⟩ := g.there m
    rw [h] at e
    exact Mu.nc n c q (Option.some.inj e).symm
  · obtain ⟨_, u, e, n⟩ := g.tmp c m
    rw [h] at e
    exact Mu.nc n c q (Option.some.inj e).symm
/-- a new thing that is never changed -/
theorem Gd.new (g : Gd G ρ H mh) {o : HO} (h : H p = none) : Gd G ρ (upd H p o) mh where
  len := g.len
  nd := g.nd
  chg := fun n b u e1 e2 => (g.chg n b u e1 e2).ext (Ext.upd h) (by
    obtain ⟨v, e3, _⟩ := (g.chg n b u e1 e2).there
    rw [upd_ne (ne_of_none e3 h)])
  tab := fun P q L e => ⟨(g.tab P q L e).1, (g.tab P q L e).2.of fun b u z => by rw [upd_ne (ne_of_none z h)]; exact z⟩
  tmp := fun a m => by
    obtain ⟨n, o, e, nt⟩ := g.tmp a m
    exact ⟨n, o, by rw [upd_ne (ne_of_none e h)]; exact e, nt⟩
theorem Ext.mutNew {o : HO} (h : H p = none) : Ext ρ H (ρ ++ [p]) (L2.upd H p o) :=
  ⟨⟨[p], rfl⟩, fun b u e _ _ => by rw [upd_ne (ne_of_none e h)]; exact e, fun b ps e _ => ⟨#[], by rw [upd_ne (ne_of_none e h), e]; simp⟩, fun b m => by
    rcases List.mem_append.mp m with z | z
    · exact .inl z
    · right
      rw [List.mem_singleton] at z
      rw [z]
      exact h⟩
/-- a new list that is changed later -/
theorem Gd.mutNew (g : Gd G ρ H mh) {xs : List D} {ys : List V} (h : H p = none) (r : reps G [] ρ H xs ys) : Gd G (ρ ++ [p]) (L2.upd H p (.lst ys)) (mh ++ [.lst xs]) where
  len := by rw [List.length_append, List.length_append, g.len]; rfl
  nd := by
    rw [List.nodup_append]
    refine ⟨g.nd, by simp, fun b hb c hc e => ?_⟩
    rw [List.mem_singleton] at hc
    rw [e, hc] at hb
    exact g.fresh h hb
  chg := fun n b u e1 e2 => by
    have ex : Ext ρ H (ρ ++ [p]) (L2.upd H p (.lst ys)) := Ext.mutNew h
    by_cases hn : n < ρ.length
    · rw [List.getElem?_append_left hn] at e1
      rw [List.getElem?_append_left (by rw [← g.len]; exact hn)] at e2
      refine (g.chg n b u e1 e2).ext ex ?_
      obtain ⟨v, e3, _⟩ := (g.chg n b u e1 e2).there
      rw [upd_ne (ne_of_none e3 h)]
    · have e0 : n = ρ.length := by
        obtain ⟨z, _⟩ := List.getElem?_eq_some_iff.mp e1
        rw [List.length_append] at z
        simp at z
        omega
      subst e0
      rw [List.getElem?_append_right (Nat.le_refl _), Nat.sub_self] at e1
      rw [List.getElem?_append_right (by rw [g.len]; exact Nat.le_refl _), g.len, Nat.sub_self] at e2
      have e1 : p = b := by simpa using e1
      have e2 : MO.lst xs = u := by simpa using e2
      subst e1
      subst e2
      exact ⟨ys, upd_same, r.mono (Deeper.refl _) ex _ _⟩
  tab := fun P q L e => ⟨fun m => by
    obtain ⟨h1, ps, h2, _⟩ := g.tab P q L e
    rcases List.mem_append.mp m with z | z
    · exact h1 z
    · rw [List.mem_singleton] at z
      rw [z, h] at h2
      exact absurd h2 (fun q => by cases q), (g.tab P q L e).2.of fun b u z => by rw [upd_ne (ne_of_none z h)]; exact z⟩
  tmp := fun a m => by
    obtain ⟨n, o, e, nt⟩ := g.tmp a m
    refine ⟨fun z => ?_, o, by rw [upd_ne (ne_of_none e h)]; exact e, nt⟩
    rcases List.mem_append.mp z with z | z
    · exact n z
    · rw [List.mem_singleton] at z
      rw [z, h] at e
      cases e
theorem Ext.store {o : HO} (h : a ∈ ρ) : Ext ρ H ρ (L2.upd H a o) :=
  ⟨⟨[], by simp⟩, fun b u e n _ => by rw [upd_ne (fun z => n (by rw [z]; exact h))]; exact e, fun b ps e n => ⟨#[], by rw [upd_ne (fun z => n (by rw [z]; exact h)), e]; simp⟩, fun _ h => .inl h⟩
theorem nd_inj : ∀ {l : List Addr}, l.Nodup → ∀ {m n : Nat} (hm : m < l.length) (hn : n < l.length), l[m] = l[n] → m = n
  | [], _, m, n, hm, _, _ => absurd hm (Nat.not_lt_zero _)
  | x :: l, nd, 0, 0, _, _, _ => rfl
  | x :: l, nd, 0, n + 1, _, hn, e => by
    have e' : x = l[n]'(Nat.lt_of_succ_lt_succ hn) := e
    exact absurd (by rw [e']; exact List.getElem_mem _) (List.nodup_cons.mp nd).1
  | x :: l, nd, m + 1, 0, hm, _, e => by
    have e' : l[m]'(Nat.lt_of_succ_lt_succ hm) = x := e
    exact absurd (by rw [← e']; exact List.getElem_mem _) (List.nodup_cons.mp nd).1
  | x :: l, nd, m + 1, n + 1, hm, hn, e => by rw [nd_inj (List.nodup_cons.mp nd).2 (Nat.lt_of_succ_lt_succ hm) (Nat.lt_of_succ_lt_succ hn) e]
theorem nodup_get : ∀ {l : List Addr} {m n : Nat} {a : Addr}, l.Nodup → l[m]? = some a → l[n]? = some a → m = n := fun {l m n a} nd h1 h2 => by
  obtain ⟨hm, e1⟩ := List.getElem?_eq_some_iff.mp h1
  obtain ⟨hn, e2⟩ := List.getElem?_eq_some_iff.mp h2
  exact nd_inj nd hm hn (e1.trans e2.symm)
/-- a changed list is written -/
theorem Gd.store (g : Gd G ρ H mh) {n : Nat} {xs xs' : List D} {ys ys' : List V} (h : ρ[n]? = some a) (e : mh[n]? = some (.lst xs)) (hy : H a = some (.lst ys)) (r : reps G [] ρ H xs' ys') : Gd G ρ (L2.upd H a (.lst ys')) (mh.set n (.lst xs')) where
  len := by rw [List.length_set]; exact g.len
  nd := g.nd
  chg := fun m b u e1 e2 => by
    have hm : a ∈ ρ := List.mem_of_getElem? h
    have ex : Ext ρ H ρ (L2.upd H a (.lst ys')) := Ext.store hm
    by_cases hmn : m = n
    · subst hmn
      rw [h] at e1
      cases e1
      rw [List.getElem?_set_self (List.getElem?_eq_some_iff.mp e).1] at e2
      cases e2
      exact ⟨ys', upd_same, r.mono (Deeper.refl _) ex _ _⟩
    · rw [List.getElem?_set_ne (fun z => hmn z.symm)] at e2
      refine (g.chg m b u e1 e2).ext ex ?_
      rw [upd_ne]
      intro z
      rw [z] at e1
      exact hmn (nodup_get g.nd e1 h)
  tab := fun P q L z => by
    obtain ⟨h1, h2⟩ := g.tab P q L z
    refine ⟨h1, ?_⟩
    obtain ⟨ps, e1, e2, e3⟩ := h2
    have np : ∀ b u, H b = some u → u ≠ .lst ys → L2.upd H a (.lst ys') b = some u := fun b u q1 q2 => by
      rw [upd_ne]
      · exact q1
      · intro q3
        rw [q3, hy] at q1
        exact q2 (Option.some.inj q1).symm
    refine ⟨ps, np _ _ e1 (fun q => by cases q), e2, fun pos cv hl hc => ?_⟩
    obtain ⟨c, q1, q2⟩ := e3 pos cv hl hc
    exact ⟨c, q1, np _ _ q2 (fun q => by unfold CodeO at q; cases q)⟩
  tmp := fun b m => by
    obtain ⟨n1, u, e1, nt⟩ := g.tmp b m
    exact ⟨n1, u, by rw [upd_ne (fun z => n1 (by rw [z]; exact List.mem_of_getElem? h))]; exact e1, nt⟩
end

/-! ### frames -/
structure FrR (G : GD) (cm : List (Option CI)) (ρ : List Addr) (H : Hp) (σ : L2.St) (fr : Fr) : Prop where
  len : σ.length = fr.length
  at_ : ∀ i d, get fr i = some d → ∃ v, σ[i]? = some (some v) ∧ rep G cm ρ H d v
/-- the frames below: what lambdas took -/
def OutR (G : GD) (cm : List (Option CI)) (h0 : Heap) (H0 : Hp) (fs ex : List Addr) (ρ : List Addr) (H : Hp) (o : List Fr) : Prop :=
  ∀ (d : Nat) (ci : CI) (f : Fr), cm[d]? = some (some ci) → frameAt o d = some f → ∀ (i : Nat) (x : Str) (c : Addr), ci.N[i]? = some x → ci.sc.names.lookup x = some .cell → ci.cells.lookup x = some c →
    (H0 c = none ∧ c ∉ fs ∧ c ∉ ex ∧ ∃ w, h0.IsCell c w) ∧ ∀ dd, get f i = some dd → ∃ u v, h0.IsCell c (some u) ∧ RelV v u ∧ rep G cm ρ H dd v
section
variable {G : GD} {cm : List (Option CI)} {ρ ρ' : List Addr} {H H' : Hp} {σ : L2.St} {fr fr' : Fr} {o : List Fr} {h0 : Heap} {H0 : Hp} {fs ex : List Addr}
theorem FrR.ext (f : FrR G cm ρ H σ fr) (e : Ext ρ H ρ' H') : FrR G cm ρ' H' σ fr := ⟨f.len, fun i d h => let ⟨v, h1, h2⟩ := f.at_ i d h; ⟨v, h1, h2.mono (Deeper.refl _) e _ _⟩⟩
theorem OutR.ext (r : OutR G cm h0 H0 fs ex ρ H o) (e : Ext ρ H ρ' H') : OutR G cm h0 H0 fs ex ρ' H' o := fun d ci f h1 h2 i x c h3 h4 h5 => by
  obtain ⟨q1, q2⟩ := r d ci f h1 h2 i x c h3 h4 h5
  refine ⟨q1, fun dd hd => ?_⟩
  obtain ⟨u, v, z1, z2, z3⟩ := q2 dd hd
  exact ⟨u, v, z1, z2, z3.mono (Deeper.refl _) e _ _⟩
theorem get_put {i j : Nat} {d : D} (h : i < fr.length) : get (put fr i d) j = if i = j then some d else get fr j := by
  unfold get put
  by_cases e : i = j
  · subst e
    rw [List.getElem?_set_self h, if_pos rfl]
  · rw [List.getElem?_set_ne e, if_neg e]
theorem FrR.put (f : FrR G cm ρ H σ fr) {i : Nat} {d : D} {v : V} (h : i < fr.length) (r : rep G cm ρ H d v) : FrR G cm ρ H (σ.set i (some v)) (put fr i d) := by
  refine ⟨by rw [List.length_set, f.len]; unfold FS.put; rw [List.length_set], fun j dd hj => ?_⟩
  rw [get_put h] at hj
  by_cases e : i = j
  · subst e
    rw [if_pos rfl] at hj
    cases hj
    exact ⟨v, by rw [List.getElem?_set_self (by rw [f.len]; exact h)], r⟩
  · rw [if_neg e] at hj
    rw [List.getElem?_set_ne e]
    exact f.at_ j dd hj
theorem wipe_get : ∀ {vs : List Nat} {fr : Fr} {i : Nat} {d : D}, get (wipeF fr vs) i = some d → get fr i = some d ∧ i ∉ vs
  | [], fr, i, d, h => ⟨h, by simp⟩
  | v :: vs, fr, i, d, h => by
    unfold wipeF get at h
    by_cases e : v = i
    · subst e
      by_cases hl : v < (wipeF fr vs).length
      · rw [List.getElem?_set_self hl] at h
        cases h
      · have : ((wipeF fr vs).set v none)[v]? = none := by
          rw [List.getElem?_eq_none_iff, List.length_set]
          omega
        rw [this] at h
        cases h
    · rw [List.getElem?_set_ne e] at h
      obtain ⟨h1, h2⟩ := wipe_get (vs := vs) (fr := fr) (i := i) (d := d) h
      exact ⟨h1, fun m => (List.mem_cons.mp m).elim (fun z => e z.symm) h2⟩
theorem wipeF_length : ∀ (vs : List Nat) (fr : Fr), (wipeF fr vs).length = fr.length
  | [], fr => rfl
  | v :: vs, fr => by
    unfold wipeF
    rw [List.length_set, wipeF_length vs fr]
theorem wipe_keep : ∀ {vs : List Nat} {σ : L2.St} {i : Nat} {v : V}, σ[i]? = some (some v) → i ∉ vs → (wipe σ vs)[i]? = some (some v)
  | [], σ, i, v, h, _ => h
  | w :: vs, σ, i, v, h, n => by
    unfold wipe
    rw [List.getElem?_set_ne (fun z => n (by rw [z]; exact List.mem_cons_self))]
    exact wipe_keep h fun m => n (List.mem_cons_of_mem _ m)
theorem FrR.wipe (f : FrR G cm ρ H σ fr) (vs : List Nat) : FrR G cm ρ H (L2.wipe σ vs) (wipeF fr vs) :=
  ⟨by rw [wipe_length, wipeF_length, f.len], fun i d h => by
    obtain ⟨h1, h2⟩ := wipe_get h
    obtain ⟨v, e1, e2⟩ := f.at_ i d h1
    exact ⟨v, wipe_keep e1 h2, e2⟩⟩
end
end FS

-- text FsC
set_option Elab.async false
set_option linter.all false
set_option maxHeartbeats 1000000
/-! FsC: texts: what the model's own functions make of code lists. -/
namespace FS
open PySem PySem.Spec PyProof.Rows L2 LamX

theorem begins_iff : ∀ {y l : List Nat}, begins y l = true ↔ l.take y.length = y ∧ y.length ≤ l.length
  | [], l => by simp [begins]
  | a :: r, [] => by simp [begins]
  | a :: r, b :: s => by
    unfold begins
    have hb : Nat.beq a b = true ↔ a = b := ⟨Nat.eq_of_beq_eq_true, fun e => by rw [e]; exact Nat.beq_refl b⟩
    rw [Bool.and_eq_true, begins_iff (y := r) (l := s), hb]
    simp only [List.length_cons, List.take_succ_cons, List.cons.injEq, Nat.succ_le_succ_iff]
    constructor
    · rintro ⟨h1, h2, h3⟩
      exact ⟨⟨h1.symm, h2⟩, h3⟩
    · rintro ⟨⟨h1, h2⟩, h3⟩
      exact ⟨h1.symm, h2, h3⟩
theorem within_iff {y : List Nat} : ∀ {l : List Nat}, within y l = true ↔ ∃ i, i + y.length ≤ l.length ∧ (l.drop i).take y.length = y
  | [] => by
    unfold within
    constructor
    · intro h
      have e : y = [] := List.isEmpty_iff.mp h
      subst e
      exact ⟨0, by simp, by simp⟩
    · rintro ⟨i, h1, h2⟩
      have : y.length = 0 := by
        rw [List.length_nil] at h1
        omega
      rw [List.isEmpty_iff]
      exact List.length_eq_zero_iff.mp this
  | a :: l => by
    unfold within
    rw [Bool.or_eq_true, begins_iff, within_iff (l := l)]
    constructor
    · rintro (⟨h1, h2⟩ | ⟨i, h1, h2⟩)
      · exact ⟨0, by omega, by simpa using h1⟩
      · exact ⟨i + 1, by rw [List.length_cons]; omega, by simpa using h2⟩
    · rintro ⟨i, h1, h2⟩
      cases i with
      | zero => exact .inl ⟨by simpa using h2, by omega⟩
      | succ i => exact .inr ⟨i, by rw [List.length_cons] at h1; omega, by simpa using h2⟩
theorem within_S (y l : List Nat) : (!(Builtin.Str.occurrences (SX.S l) (SX.S y) 0 (SX.S l).length 1).isEmpty) = within y l := by
  rw [Bool.eq_iff_iff, StrLaws.found_iff, within_iff]
  constructor
  · rintro ⟨i, h1, h2⟩
    rw [StrLaws.subAt_eq] at h2
    refine ⟨i, by simpa [SX.S_len] using h1, ?_⟩
    have := eq_of_beq h2
    simpa [SX.S_len] using this
  · rintro ⟨i, h1, h2⟩
    refine ⟨i, by simpa [SX.S_len] using h1, ?_⟩
    rw [StrLaws.subAt_eq]
    have : ((SX.S l).cps.toList.drop i).take (SX.S y).length = (SX.S y).cps.toList := by simpa [SX.S_len] using h2
    rw [this]
    exact beq_self_eq_true _

/-! strips -/
theorem take_length_takeWhile {p : Nat → Bool} : ∀ l : List Nat, l.drop (l.takeWhile p).length = l.dropWhile p
  | [] => rfl
  | a :: l => by
    by_cases h : p a = true
    · rw [List.takeWhile_cons_of_pos h, List.dropWhile_cons_of_pos h, List.length_cons, List.drop_succ_cons, take_length_takeWhile l]
    · rw [List.takeWhile_cons_of_neg h, List.dropWhile_cons_of_neg h]
      rfl
theorem tw_le {p : Nat → Bool} (l : List Nat) : (l.takeWhile p).length ≤ l.length := by
  exact (List.takeWhile_sublist p).length_le
theorem S_sub (l : List Nat) (i j : Nat) : Builtin.Str.strSub (SX.S l) i j = SX.S ((l.drop i).take (j - i)) := by
  refine TL.ext_tl ?_
  show (Builtin.Str.strSub (SX.S l) i j).cps.toList = _
  rw [StrLaws.strSub_toList]
theorem rstrip_take {p : Nat → Bool} (l : List Nat) : l.take (l.length - (l.reverse.takeWhile p).length) = rstripL p l := by
  unfold rstripL
  rw [← take_length_takeWhile l.reverse, List.drop_reverse, List.reverse_reverse]
theorem stripBy_S (p : Nat → Bool) (l r : Bool) (x : List Nat) : Txt.stripBy p l r (SX.S x) = SX.S ((if r = true then rstripL p else id) ((if l = true then lstripL p else id) x)) := by
  have hd : x.drop (stripLo p l (SX.S x)) = (if l = true then lstripL p else id) x := by
    unfold stripLo
    cases l
    · rfl
    · exact take_length_takeWhile x
  have hlo : stripLo p l (SX.S x) ≤ x.length := by
    unfold stripLo
    cases l
    · exact Nat.zero_le _
    · exact tw_le x
  have hhi : stripHi p r (SX.S x) (stripLo p l (SX.S x)) - stripLo p l (SX.S x) = if r = true then (x.drop (stripLo p l (SX.S x))).length - ((x.drop (stripLo p l (SX.S x))).reverse.takeWhile p).length else (x.drop (stripLo p l (SX.S x))).length := by
    generalize stripLo p l (SX.S x) = n at hlo
    unfold stripHi
    cases r
    · simp [SX.S_len]
    · rw [if_pos rfl, if_pos rfl, SX.S_len, List.length_drop]
      show x.length - ((x.drop n).reverse.takeWhile p).length - n = _
      omega
  have main : stripped p l r (SX.S x) = SX.S ((if r = true then rstripL p else id) ((if l = true then lstripL p else id) x)) := by
    unfold stripped
    rw [S_sub, hhi, hd]
    cases r
    · rw [if_neg Bool.false_ne_true, if_neg Bool.false_ne_true, List.take_length]
      rfl
    · rw [if_pos rfl, if_pos rfl, rstrip_take]
  unfold Txt.stripBy
  split
  · rename_i hs
    rw [← main]
    unfold stripSame at hs
    rw [Bool.and_eq_true] at hs
    have h1 : stripLo p l (SX.S x) = 0 := by simpa using hs.1
    have h2 : stripHi p r (SX.S x) (stripLo p l (SX.S x)) = (SX.S x).length := by simpa using hs.2
    unfold stripped
    rw [S_sub, h2, h1, List.drop_zero, SX.S_len, Nat.sub_zero, List.take_length]
  · exact main
theorem strip_S (x y : List Nat) : Txt.stripChars (SX.S x) (SX.S y) = SX.S (rstripL y.contains (lstripL y.contains x)) := by
  unfold Txt.stripChars
  have e : ((SX.S y).cps.contains : Nat → Bool) = y.contains := by
    funext c
    simp
  rw [e, stripBy_S]
  rfl
theorem lstrip_S (x y : List Nat) : Txt.lstripChars (SX.S x) (SX.S y) = SX.S (lstripL y.contains x) := by
  unfold Txt.lstripChars
  have e : ((SX.S y).cps.contains : Nat → Bool) = y.contains := by
    funext c
    simp
  rw [e, stripBy_S]
  rfl
theorem rstrip_S (x y : List Nat) : Txt.rstripChars (SX.S x) (SX.S y) = SX.S (rstripL y.contains x) := by
  unfold Txt.rstripChars
  have e : ((SX.S y).cps.contains : Nat → Bool) = y.contains := by
    funext c
    simp
  rw [e, stripBy_S]
  rfl

/-! numbers -/
theorem figs_eq : ∀ (f n : Nat) (acc : List Nat), n < f → figs f n acc = TL.numL n ++ acc
  | 0, n, acc, h => absurd h (Nat.not_lt_zero _)
  | f + 1, n, acc, h => by
    unfold figs
    by_cases hn : n < 10
    · rw [if_pos hn, TL.numL_lt hn]
      rfl
    · rw [if_neg hn, TL.numL_step (by omega), figs_eq f (n / 10) _ (by omega), List.append_assoc]
      rfl
theorem natL_eq (n : Nat) : natL n = TL.numL n := by
  unfold natL
  rw [figs_eq _ _ _ (Nat.lt_succ_self n), List.append_nil]
theorem str_int : ∀ i : Int, Str.ofString (toString i) = SX.S (intL i)
  | .ofNat n => by
    show Str.ofString (toString ((n : Nat) : Int)) = SX.S (natL n)
    rw [SX.num_S, natL_eq]
  | .negSucc n => by
    show Str.ofString (toString (Int.negSucc n)) = SX.S (45 :: natL (n + 1))
    have e : toString (Int.negSucc n) = "-" ++ toString (n + 1) := rfl
    have e2 := SX.num_S (n + 1)
    have e3 : toString (((n + 1 : Nat)) : Int) = toString (n + 1) := rfl
    rw [e3, Str.ofString_eq_toList] at e2
    rw [e, Str.ofString_eq_toList, String.toList_append, List.map_append, natL_eq]
    have e4 := congrArg (fun z : Str => z.cps.toList) e2
    have e5 : (toString (n + 1)).toList.map Char.toNat = TL.numL (n + 1) := by simpa using e4
    rw [e5]
    rfl
theorem isDig_all {x : List Nat} (h : x.all isDig = true) : x.all (fun c => decide (48 ≤ c) && decide (c ≤ 57)) = true := by
  refine List.all_eq_true.mpr fun c hc => ?_
  have := List.all_eq_true.mp h c hc
  unfold isDig at this
  rw [Bool.and_eq_true, Nat.ble_eq, Nat.ble_eq] at this
  rw [Bool.and_eq_true, decide_eq_true_eq, decide_eq_true_eq]
  exact this
theorem sIx_eq (n d : Nat) (o : Option Int) : HT.sIx n d o = sIx n d o := by
  cases o <;> rfl
theorem cutS_S (x : List Nat) (lo hi : Option Int) : cutS (SX.S x) lo hi = SX.S (cut x lo hi) := by
  unfold cutS cut
  rw [sIx_eq, sIx_eq, SX.S_len]
theorem cutV_eq (xs : List V) (lo hi : Option Int) : cutV xs lo hi = cut xs lo hi := by
  unfold cutV cut
  rw [sIx_eq, sIx_eq]
theorem ixN_eq (n : Nat) (i : Int) : L2.ixN n i = ixN n i := rfl
theorem str_rep (x : List Nat) : ∀ n : Nat, (List.replicate n (SX.S x).cps).foldl (· ++ ·) #[] = (repL n x).toArray := by
  have gen : ∀ (n : Nat) (acc : Array Nat), (List.replicate n x.toArray).foldl (· ++ ·) acc = acc ++ (repL n x).toArray := by
    intro n
    induction n with
    | zero =>
      intro acc
      simp [repL]
    | succ n ih =>
      intro acc
      rw [List.replicate_succ, List.foldl_cons, ih]
      unfold repL
      rw [List.replicate_succ, List.flatten_cons]
      simp
  intro n
  rw [gen]
  simp
theorem repL_length {α : Type} (n : Nat) (x : List α) : (repL n x).length = x.length * n := by
  unfold repL
  induction n with
  | zero => simp
  | succ n ih => rw [List.replicate_succ, List.flatten_cons, List.length_append, ih, Nat.mul_succ, Nat.add_comm]
theorem lenS_eq : ∀ l : List (List Nat), lenS l = ((l.map SX.S).map (·.length)).sum
  | [] => rfl
  | x :: r => by
    unfold lenS
    rw [lenS_eq r, List.map_cons, List.map_cons, List.sum_cons, SX.S_len]
end FS

-- text FsD
set_option Elab.async false
set_option linter.all false
set_option maxHeartbeats 1000000
/-! FsD: the operations on values. -/
namespace FS
open PySem PySem.Spec PyProof.Rows L2 LamX

theorem line_eq : line = sizeLine := by rw [sizeLine_eq]; rfl
theorem le_line {n : Nat} (h : Nat.ble n line = true) : n ≤ sizeLine := by
  rw [← line_eq]
  exact Nat.le_of_ble_eq_true h

/-- what a result gives: the wish T is served by each Q that takes what the result tells -/
def Gv {α β : Type} (G : GD) (rl : List Addr → Hp → α → β → Prop) (ρ : List Addr) (H : Hp) (r : R α) (T : (β → Hp → Prop) → Prop) : Prop :=
  match r with
  | .ok d mh' => ∀ Q : β → Hp → Prop, (∀ ρ' H' v, Ext ρ H ρ' H' → Gd G ρ' H' mh' → rl ρ' H' d v → Q v H') → T Q
  | .exc _ _ => False
  | .stk => True

section
variable {G : GD} {cm : List (Option CI)} {ρ : List Addr} {H : Hp} {mh : MH} {T : VK → Prop}
theorem Gv.same {d : D} {v : V} (g : Gd G ρ H mh) (r : rep G cm ρ H d v) (h : ∀ Q : VK, Q v H → T Q) : Gv G (rep G cm) ρ H (.ok d mh) T := fun Q hq => h Q (hq ρ H v (Ext.refl _ _) g r)
theorem Gv.newL {xs : List D} {ys : List V} (g : Gd G ρ H mh) (r : reps G cm ρ H xs ys) (h : ∀ Q : VK, (∀ p, H p = none → Q (.ref p) (upd H p (.lst ys))) → T Q) : Gv G (rep G cm) ρ H (.ok (.lst xs) mh) T := fun Q hq =>
  h Q fun p hp => hq ρ _ _ (Ext.upd hp) (g.new hp) (by
    unfold rep
    exact ⟨p, ys, rfl, ⟨g.fresh2 hp, upd_same⟩, r.mono (Deeper.refl _) (Ext.upd hp) _ _⟩)
theorem Gv.newT {xs : List D} {ys : List V} (g : Gd G ρ H mh) (r : reps G cm ρ H xs ys) (h : ∀ Q : VK, (∀ p, H p = none → Q (.ref p) (upd H p (.tup ys))) → T Q) : Gv G (rep G cm) ρ H (.ok (.tup xs) mh) T := fun Q hq =>
  h Q fun p hp => hq ρ _ _ (Ext.upd hp) (g.new hp) (by
    unfold rep
    exact ⟨p, ys, rfl, .inl ⟨g.fresh2 hp, upd_same⟩, r.mono (Deeper.refl _) (Ext.upd hp) _ _⟩)
theorem Deeper.nil (cm : List (Option CI)) : Deeper [] cm := fun d ci h => by simp at h

/-! what stands for a sequence -/
theorem lst_of {d : D} {v : V} {xs : List D} (g : Gd G ρ H mh) (r : rep G cm ρ H d v) (h : lstOf mh d = some xs) : ∃ a ys, v = .ref a ∧ H a = some (.lst ys) ∧ reps G cm ρ H xs ys := by
  unfold lstOf at h
  split at h
  · cases h
    unfold rep at r
    obtain ⟨a, ys, e1, e2, e3⟩ := r
    exact ⟨a, ys, e1, e2.2, e3⟩
  · rename_i n
    unfold rep at r
    obtain ⟨a, e1, e2⟩ := r
    split at h
    · rename_i zs hz
      cases h
      obtain ⟨ys, e3, e4⟩ := g.chg n a _ e2 hz
      exact ⟨a, ys, e1, e3, e4.mono (Deeper.nil _) (Ext.refl _ _) _ _⟩
    · cases h
  · cases h
theorem seq_of {d : D} {v : V} {xs : List D} (g : Gd G ρ H mh) (r : rep G cm ρ H d v) (h : seqOf mh d = some xs) : ∃ a ys, v = .ref a ∧ (SqL G.K H a ys ∨ SqT G.K H a ys) ∧ reps G cm ρ H xs ys := by
  unfold seqOf at h
  split at h
  · cases h
    unfold rep at r
    obtain ⟨a, ys, e1, e2, e3⟩ := r
    refine ⟨a, ys, e1, .inr ?_, e3⟩
    rcases e2 with e2 | e2
    · exact SqT.of e2.2
    · exact .inr e2
  · obtain ⟨a, ys, e1, e2, e3⟩ := lst_of g r h
    exact ⟨a, ys, e1, .inl (SqL.of e2), e3⟩

/-! ### binary operations -/
def rAddS : R2 := fun x y H Q => ∃ i j, x = .str i ∧ y = .str j ∧ i.length + j.length ≤ sizeLine ∧ Q (.str (i ++ j)) H
def rMulS : R2 := fun x y H Q => ∃ (z : List Nat) (k : Int), x = .str (SX.S z) ∧ y = .int k ∧ -1000000 ≤ k ∧ k ≤ 1000000 ∧ z.length * k.toNat ≤ sizeLine ∧ Q (.str (SX.S (repL k.toNat z))) H
theorem op_mulS {X : Cx} : OpR X (binaryOp .Mult) rMulS := by
  intro pins s σ H x y v u Q I rx ry h
  obtain ⟨z, k, rfl, rfl, h1, h2, h3, q⟩ := h
  obtain ⟨t, rfl⟩ := rx
  obtain ⟨t', rfl⟩ := ry
  have hz : sizeLine = 16777216 := sizeLine_eq
  refine PySem.P.mul_str ?_ (fun h5 _ => ?_) (fun h5 _ => ?_) ?_
  · have a1 : ¬ k < -(2 ^ 63 : Int) := by omega
    have a2 : ¬ k ≥ 2 ^ 63 := by omega
    rw [decide_eq_false a1, decide_eq_false a2]
    rfl
  · have hk : 0 < k := by omega
    intro hc
    have h6 : ((SX.S z).length : Int) * k ≤ 2 ^ 63 - 1 := by
      rw [SX.S_len]
      have : ((z.length * k.toNat : Nat) : Int) ≤ 16777216 := by omega
      rw [Int.natCast_mul, Int.toNat_of_nonneg (by omega)] at this
      omega
    have := (Int.le_ediv_iff_mul_le hk).mpr h6
    omega
  · rw [SX.S_len]
    exact decide_eq_false (by omega)
  · by_cases hk : k < 1
    · rw [if_pos hk]
      refine ⟨by decide, .str _, H, I.tok _, ⟨_, rfl⟩, ?_⟩
      have e : k.toNat = 0 := by omega
      rw [e] at q
      exact q
    · rw [if_neg hk]
      split
      · rename_i h6
        refine ⟨.str (SX.S z), H, I, ⟨_, rfl⟩, ?_⟩
        rw [Bool.or_eq_true] at h6
        have e : repL k.toNat z = z := by
          rcases h6 with h6 | h6
          · have : k = 1 := by simpa using h6
            subst this
            show ([z] : List (List Nat)).flatten = z
            simp
          · have : z.length = 0 := by simpa [SX.S_len] using h6
            have : z = [] := List.length_eq_zero_iff.mp this
            subst this
            apply List.length_eq_zero_iff.mp
            rw [repL_length]
            simp
        rw [e] at q
        exact q
      · refine ⟨?_, .str _, H, I.tok _, ⟨_, rfl⟩, ?_⟩
        · rw [str_rep]
          show (SX.S _).length ≤ _
          rw [SX.S_len, repL_length]
          exact h3
        · rw [str_rep]
          exact q
def rB (K : PySem.W.Frag) : Bop → R2
  | .add => fun x y H Q => rI0 (fun i j => .int (i + j)) x y H Q ∨ rAddS x y H Q ∨ rCat x y H Q ∨ rCatT K x y H Q
  | .sub => rI0 fun i j => .int (i - j)
  | .mul => fun x y H Q => rI CMul (fun i j => .int (i * j)) x y H Q ∨ rMulS x y H Q ∨ rRep x y H Q
  | .fdiv => rI CDiv fun i j => .int (i / j)
  | .mod => rI (fun _ j => 0 < j) fun i j => .int (i % j)
  | .pow => rI CPow fun i j => .int (i ^ j.toNat)
def opB : Bop → Operator
  | .add => .Add
  | .sub => .Sub
  | .mul => .Mult
  | .fdiv => .FloorDiv
  | .mod => .Mod
  | .pow => .Pow
theorem op_B {X : Cx} : ∀ op : Bop, OpR X (binaryOp (opB op)) (rB X.K op)
  | .add => OpR.or op_add (OpR.or op_add_str (OpR.or op_cat op_catT))
  | .sub => op_sub
  | .mul => OpR.or op_mul (OpR.or op_mulS op_rep)
  | .fdiv => op_fdiv
  | .mod => op_mod
  | .pow => op_pow
theorem small_of {i : Int} (h : small i = true) : -(2 ^ 64) < i ∧ i < 2 ^ 64 := by
  unfold small at h
  rw [Bool.and_eq_true, decide_eq_true_eq, decide_eq_true_eq] at h
  constructor
  · have := h.1; omega
  · have := h.2; omega
theorem binV_ok {op : Bop} {d e : D} {x y : V} (g : Gd G ρ H mh) (rx : rep G cm ρ H d x) (ry : rep G cm ρ H e y) : Gv G (rep G cm) ρ H (binV op d e mh) (fun Q => rB G.K op x y H Q) := by
  unfold binV
  split
  · unfold rep at rx ry
    subst rx ry
    exact Gv.same g (by unfold rep; rfl) fun Q q => .inl ⟨_, _, rfl, rfl, q⟩
  · split
    · rename_i hz
      unfold rep at rx ry
      subst rx ry
      exact Gv.same g (by unfold rep; rw [← SX.S_cat]) fun Q q => .inr (.inl ⟨_, _, rfl, rfl, by rw [SX.S_len, SX.S_len]; exact le_line hz, q⟩)
    · trivial
  · split
    · rename_i hz
      unfold rep at rx ry
      obtain ⟨a, ys, rfl, h1, h2⟩ := rx
      obtain ⟨b, zs, rfl, h3, h4⟩ := ry
      exact Gv.newL g (h2.app h4) fun Q q => .inr (.inr (.inl ⟨a, b, ys, zs, rfl, rfl, h1.2, h3.2, by rw [← h2.length, ← h4.length]; exact le_line hz, q⟩))
    · trivial
  · split
    · rename_i hz
      rw [Bool.and_eq_true] at hz
      unfold rep at rx ry
      obtain ⟨a, ys, rfl, h1, h2⟩ := rx
      obtain ⟨b, zs, rfl, h3, h4⟩ := ry
      have t1 : SqT G.K H a ys := by
        rcases h1 with z | z
        · exact SqT.of z.2
        · exact .inr z
      have t2 : SqT G.K H b zs := by
        rcases h3 with z | z
        · exact SqT.of z.2
        · exact .inr z
      rename_i as bs
      have ne : ys ≠ [] := by
        intro e
        have := h2.length
        rw [e] at this
        have : as = [] := List.length_eq_zero_iff.mp this
        rw [this] at hz
        simp at hz
      refine fun Q hq => .inr (.inr (.inr ⟨a, b, ys, zs, rfl, rfl, t1, t2, ne, by rw [← h2.length, ← h4.length]; exact le_line hz.2, fun e => ?_, fun e p hp => ?_⟩))
      · refine hq ρ H _ (Ext.refl _ _) g ?_
        have : bs = [] := by
          have := h4.length
          rw [e] at this
          exact List.length_eq_zero_iff.mp this
        rw [this, List.append_nil]
        unfold rep
        exact ⟨a, ys, rfl, h1, h2⟩
      · refine hq ρ _ _ (Ext.upd hp) (g.new hp) ?_
        unfold rep
        exact ⟨p, ys ++ zs, rfl, .inl ⟨g.fresh2 hp, upd_same⟩, (h2.app h4).mono (Deeper.refl _) (Ext.upd hp) _ _⟩
    · trivial
  · unfold rep at rx ry
    subst rx ry
    exact Gv.same g (by unfold rep; rfl) fun Q q => ⟨_, _, rfl, rfl, q⟩
  · split
    · rename_i hz
      unfold rep at rx ry
      subst rx ry
      rw [Bool.or_eq_true] at hz
      exact Gv.same g (by unfold rep; rfl) fun Q q => .inl ⟨_, _, rfl, rfl, hz.imp small_of small_of, q⟩
    · trivial
  · split
    · rename_i hz
      unfold rep at rx ry
      subst rx ry
      rw [Bool.and_eq_true, Bool.and_eq_true, decide_eq_true_eq, decide_eq_true_eq] at hz
      exact Gv.same g (by unfold rep; rfl) fun Q q => .inr (.inl ⟨_, _, rfl, rfl, hz.1.1, hz.1.2, le_line hz.2, q⟩)
    · trivial
  · split
    · rename_i hz
      unfold rep at rx ry
      obtain ⟨a, ys, rfl, h1, h2⟩ := rx
      subst ry
      rw [Bool.and_eq_true, Bool.and_eq_true, decide_eq_true_eq, decide_eq_true_eq] at hz
      exact Gv.newL g (h2.rpt _) fun Q q => .inr (.inr ⟨a, _, ys, rfl, rfl, h1.2, by omega, by omega, by rw [← h2.length]; exact le_line hz.2, q⟩)
    · trivial
  · split
    · rename_i hz
      unfold rep at rx ry
      subst rx ry
      rw [Bool.and_eq_true, decide_eq_true_eq, decide_eq_true_eq] at hz
      exact Gv.same g (by unfold rep; rfl) fun Q q => ⟨_, _, rfl, rfl, hz, q⟩
    · trivial
  · split
    · rename_i hz
      unfold rep at rx ry
      subst rx ry
      rw [decide_eq_true_eq] at hz
      exact Gv.same g (by unfold rep; rfl) fun Q q => ⟨_, _, rfl, rfl, hz, q⟩
    · trivial
  · split
    · rename_i hz
      unfold rep at rx ry
      subst rx ry
      rw [Bool.and_eq_true, Bool.and_eq_true, decide_eq_true_eq, decide_eq_true_eq] at hz
      have hs := small_of hz.2
      exact Gv.same g (by unfold rep; rfl) fun Q q => ⟨_, _, rfl, rfl, ⟨hz.1.1, hz.1.2, by omega⟩, q⟩
    · trivial
  · trivial
end
end FS

-- text FsE
set_option Elab.async false
set_option linter.all false
set_option maxHeartbeats 1000000
/-! FsE: comparisons, truth, subscripts, built-ins, methods. -/
namespace FS
open PySem PySem.Spec PyProof.Rows L2 LamX

mutual
def py : D → PyData
  | .non => .none
  | .bl b => .bool b
  | .int i => .int i
  | .str x => .str (SX.S x)
  | .lst xs => .list (pys xs)
  | .tup xs => .tuple (pys xs)
  | _ => .none
def pys : List D → List PyData
  | [] => []
  | x :: xs => py x :: pys xs
end
mutual
theorem eqv_py : ∀ (k m : Nat) (x y : D), shp k x = true → shp m y = true → PyData.eqv (py x) (py y) = deq x y
  | _, _, .non, .non, _, _ => by rfl
  | _, _, .non, .bl b, _, _ => by rfl
  | _, _, .non, .int j, _, _ => by rfl
  | _, _, .non, .str y, _, _ => by rfl
  | _, _, .non, .lst ys, _, _ => by rfl
  | _, _, .non, .tup ys, _, _ => by rfl
  | _, 0, .non, .dic _, _, h => by unfold shp at h; cases h
  | _, _ + 1, .non, .dic _, _, h => by unfold shp at h; cases h
  | _, 0, .non, .frl _, _, h => by unfold shp at h; cases h
  | _, _ + 1, .non, .frl _, _, h => by unfold shp at h; cases h
  | _, 0, .non, .ref _, _, h => by unfold shp at h; cases h
  | _, _ + 1, .non, .ref _, _, h => by unfold shp at h; cases h
  | _, 0, .non, .clo _ _, _, h => by unfold shp at h; cases h
  | _, _ + 1, .non, .clo _ _, _, h => by unfold shp at h; cases h
  | _, _, .bl a, .non, _, _ => by rfl
  | _, _, .bl a, .bl b, _, _ => by rfl
  | _, _, .bl a, .int j, _, _ => by show (((if a = true then 1 else 0 : Int) == j) = decide (b2i a = j)); cases a <;> exact Bool.beq_eq_decide_eq _ _
  | _, _, .bl a, .str y, _, _ => by rfl
  | _, _, .bl a, .lst ys, _, _ => by rfl
  | _, _, .bl a, .tup ys, _, _ => by rfl
  | _, 0, .bl _, .dic _, _, h => by unfold shp at h; cases h
  | _, _ + 1, .bl _, .dic _, _, h => by unfold shp at h; cases h
  | _, 0, .bl _, .frl _, _, h => by unfold shp at h; cases h
  | _, _ + 1, .bl _, .frl _, _, h => by unfold shp at h; cases h
  | _, 0, .bl _, .ref _, _, h => by unfold shp at h; cases h
  | _, _ + 1, .bl _, .ref _, _, h => by unfold shp at h; cases h
  | _, 0, .bl _, .clo _ _, _, h => by unfold shp at h; cases h
  | _, _ + 1, .bl _, .clo _ _, _, h => by unfold shp at h; cases h
  | _, _, .int i, .non, _, _ => by rfl
  | _, _, .int i, .bl b, _, _ => by show ((i == (if b = true then 1 else 0 : Int)) = decide (i = b2i b)); cases b <;> exact Bool.beq_eq_decide_eq _ _
  | _, _, .int i, .int j, _, _ => by exact Bool.beq_eq_decide_eq i j
  | _, _, .int i, .str y, _, _ => by rfl
  | _, _, .int i, .lst ys, _, _ => by rfl
  | _, _, .int i, .tup ys, _, _ => by rfl
  | _, 0, .int _, .dic _, _, h => by unfold shp at h; cases h
  | _, _ + 1, .int _, .dic _, _, h => by unfold shp at h; cases h
  | _, 0, .int _, .frl _, _, h => by unfold shp at h; cases h
  | _, _ + 1, .int _, .frl _, _, h => by unfold shp at h; cases h
  | _, 0, .int _, .ref _, _, h => by unfold shp at h; cases h
  | _, _ + 1, .int _, .ref _, _, h => by unfold shp at h; cases h
  | _, 0, .int _, .clo _ _, _, h => by unfold shp at h; cases h
  | _, _ + 1, .int _, .clo _ _, _, h => by unfold shp at h; cases h
  | _, _, .str z, .non, _, _ => by rfl
  | _, _, .str z, .bl b, _, _ => by rfl
  | _, _, .str z, .int j, _, _ => by rfl
  | _, _, .str z, .str y, _, _ => by exact SX.S_beq z y
  | _, _, .str z, .lst ys, _, _ => by rfl
  | _, _, .str z, .tup ys, _, _ => by rfl
  | _, 0, .str _, .dic _, _, h => by unfold shp at h; cases h
  | _, _ + 1, .str _, .dic _, _, h => by unfold shp at h; cases h
  | _, 0, .str _, .frl _, _, h => by unfold shp at h; cases h
  | _, _ + 1, .str _, .frl _, _, h => by unfold shp at h; cases h
  | _, 0, .str _, .ref _, _, h => by unfold shp at h; cases h
  | _, _ + 1, .str _, .ref _, _, h => by unfold shp at h; cases h
  | _, 0, .str _, .clo _ _, _, h => by unfold shp at h; cases h
  | _, _ + 1, .str _, .clo _ _, _, h => by unfold shp at h; cases h
  | _, _, .lst xs, .non, _, _ => by rfl
  | _, _, .lst xs, .bl b, _, _ => by rfl
  | _, _, .lst xs, .int j, _, _ => by rfl
  | _, _, .lst xs, .str y, _, _ => by rfl
  | 0, _, .lst xs, .lst ys, h, _ => by unfold shp at h; cases h
  | _ + 1, 0, .lst xs, .lst ys, _, h => by unfold shp at h; cases h
  | k + 1, m + 1, .lst xs, .lst ys, h1, h2 => by
    unfold shp at h1 h2
    exact eqv_pys k m xs ys h1 h2
  | _, _, .lst xs, .tup ys, _, _ => by rfl
  | _, 0, .lst _, .dic _, _, h => by unfold shp at h; cases h
  | _, _ + 1, .lst _, .dic _, _, h => by unfold shp at h; cases h
  | _, 0, .lst _, .frl _, _, h => by unfold shp at h; cases h
  | _, _ + 1, .lst _, .frl _, _, h => by unfold shp at h; cases h
  | _, 0, .lst _, .ref _, _, h => by unfold shp at h; cases h
  | _, _ + 1, .lst _, .ref _, _, h => by unfold shp at h; cases h
  | _, 0, .lst _, .clo _ _, _, h => by unfold shp at h; cases h
  | _, _ + 1, .lst _, .clo _ _, _, h => by unfold shp at h; cases h
  | _, _, .tup xs, .non, _, _ => by rfl
  | _, _, .tup xs, .bl b, _, _ => by rfl
  | _, _, .tup xs, .int j, _, _ => by rfl
  | _, _, .tup xs, .str y, _, _ => by rfl
  | _, _, .tup xs, .lst ys, _, _ => by rfl
  | 0, _, .tup xs, .tup ys, h, _ => by unfold shp at h; cases h
  | _ + 1, 0, .tup xs, .tup ys, _, h => by unfold shp at h; cases h
  | k + 1, m + 1, .tup xs, .tup ys, h1, h2 => by
    unfold shp at h1 h2
    exact eqv_pys k m xs ys h1 h2
  | _, 0, .tup _, .dic _, _, h => by unfold shp at h; cases h
  | _, _ + 1, .tup _, .dic _, _, h => by unfold shp at h; cases h
  | _, 0, .tup _, .frl _, _, h => by unfold shp at h; cases h
  | _, _ + 1, .tup _, .frl _, _, h => by unfold shp at h; cases h
  | _, 0, .tup _, .ref _, _, h => by unfold shp at h; cases h
  | _, _ + 1, .tup _, .ref _, _, h => by unfold shp at h; cases h
  | _, 0, .tup _, .clo _ _, _, h => by unfold shp at h; cases h
  | _, _ + 1, .tup _, .clo _ _, _, h => by unfold shp at h; cases h
  | 0, _, .dic _, _, h, _ => by unfold shp at h; cases h
  | _ + 1, _, .dic _, _, h, _ => by unfold shp at h; cases h
  | 0, _, .frl _, _, h, _ => by unfold shp at h; cases h
  | _ + 1, _, .frl _, _, h, _ => by unfold shp at h; cases h
  | 0, _, .ref _, _, h, _ => by unfold shp at h; cases h
  | _ + 1, _, .ref _, _, h, _ => by unfold shp at h; cases h
  | 0, _, .clo _ _, _, h, _ => by unfold shp at h; cases h
  | _ + 1, _, .clo _ _, _, h, _ => by unfold shp at h; cases h
theorem eqv_pys : ∀ (k m : Nat) (x y : List D), shps k x = true → shps m y = true → PyData.eqvAll (pys x) (pys y) = deqs x y
  | k, m, [], [], _, _ => by unfold pys PyData.eqvAll deqs; rfl
  | k, m, [], y :: ys, _, _ => by unfold pys PyData.eqvAll deqs; rfl
  | k, m, x :: xs, [], _, _ => by unfold pys PyData.eqvAll deqs; rfl
  | k, m, x :: xs, y :: ys, h1, h2 => by
    unfold shps at h1 h2
    rw [Bool.and_eq_true] at h1 h2
    unfold pys PyData.eqvAll deqs
    rw [eqv_py k m x y h1.1 h2.1, eqv_pys k m xs ys h1.2 h2.2]
end
mutual
theorem can_py : ∀ (k : Nat) (x : D), shp k x = true → PyData.canLay0 (py x) = true ∧ PyData.depth (py x) ≤ k
  | _, .non, _ => ⟨rfl, Nat.zero_le _⟩
  | _, .bl _, _ => ⟨rfl, Nat.zero_le _⟩
  | _, .int _, _ => ⟨rfl, Nat.zero_le _⟩
  | k, .str x, h => by
    refine ⟨?_, Nat.zero_le _⟩
    have h : (x.all fun c => Nat.blt c 1114112) = true := by cases k <;> exact h
    show PyData.strOk (SX.S x) = true
    unfold PyData.strOk
    rw [← Array.all_toList]
    refine List.all_eq_true.mpr fun c hc => ?_
    have := List.all_eq_true.mp h c hc
    exact decide_eq_true (Nat.le_of_ble_eq_true this)
  | 0, .lst _, h => by unfold shp at h; cases h
  | 0, .tup _, h => by unfold shp at h; cases h
  | k + 1, .lst xs, h => by
    unfold shp at h
    obtain ⟨h1, h2⟩ := can_pys k xs h
    exact ⟨h1, Nat.succ_le_succ h2⟩
  | k + 1, .tup xs, h => by
    unfold shp at h
    obtain ⟨h1, h2⟩ := can_pys k xs h
    exact ⟨h1, Nat.succ_le_succ h2⟩
  | 0, .dic _, h => by unfold shp at h; cases h
  | _ + 1, .dic _, h => by unfold shp at h; cases h
  | 0, .frl _, h => by unfold shp at h; cases h
  | _ + 1, .frl _, h => by unfold shp at h; cases h
  | 0, .ref _, h => by unfold shp at h; cases h
  | _ + 1, .ref _, h => by unfold shp at h; cases h
  | 0, .clo _ _, h => by unfold shp at h; cases h
  | _ + 1, .clo _ _, h => by unfold shp at h; cases h
theorem can_pys : ∀ (k : Nat) (x : List D), shps k x = true → PyData.canLayAll0 (pys x) = true ∧ PyData.depthAll (pys x) ≤ k
  | _, [], _ => ⟨rfl, Nat.zero_le _⟩
  | k, x :: xs, h => by
    unfold shps at h
    rw [Bool.and_eq_true] at h
    obtain ⟨h1, h2⟩ := can_py k x h.1
    obtain ⟨h3, h4⟩ := can_pys k xs h.2
    refine ⟨?_, ?_⟩
    · show (PyData.canLay0 (py x) && PyData.canLayAll0 (pys xs)) = true
      rw [h1, h3]
      rfl
    · show max (PyData.depth (py x)) (PyData.depthAll (pys xs)) ≤ k
      omega
end
theorem shaped_py {x : D} (h : shp 60 x = true) : SeqAt.shaped (py x) = true := by
  obtain ⟨h1, h2⟩ := can_py 60 x h
  unfold SeqAt.shaped
  rw [h1, Bool.true_and, decide_eq_true_eq]
  omega
section
variable {G : GD} {cm : List (Option CI)} {ρ : List Addr} {H : Hp} {mh : MH}
mutual
theorem dp_py : ∀ (k : Nat) (x : D) (v : V), shp k x = true → rep G cm ρ H x v → Dp G.K H v (py x)
  | _, .non, v, _, r => by unfold rep at r; subst r; exact .non
  | _, .bl _, v, _, r => by unfold rep at r; subst r; exact .bl _
  | _, .int _, v, _, r => by unfold rep at r; subst r; exact .int _
  | _, .str _, v, _, r => by unfold rep at r; subst r; exact .str _
  | 0, .lst _, _, h, _ => by unfold shp at h; cases h
  | 0, .tup _, _, h, _ => by unfold shp at h; cases h
  | k + 1, .lst xs, v, h, r => by
    unfold shp at h
    unfold rep at r
    obtain ⟨a, ys, rfl, h1, h2⟩ := r
    exact .lst (SqL.of h1.2) (dp_pys k xs ys h h2)
  | k + 1, .tup xs, v, h, r => by
    unfold shp at h
    unfold rep at r
    obtain ⟨a, ys, rfl, h1, h2⟩ := r
    refine .tup ?_ (dp_pys k xs ys h h2)
    rcases h1 with z | z
    · exact SqT.of z.2
    · exact .inr z
  | 0, .dic _, _, h, _ => by unfold shp at h; cases h
  | _ + 1, .dic _, _, h, _ => by unfold shp at h; cases h
  | 0, .frl _, _, h, _ => by unfold shp at h; cases h
  | _ + 1, .frl _, _, h, _ => by unfold shp at h; cases h
  | 0, .ref _, _, h, _ => by unfold shp at h; cases h
  | _ + 1, .ref _, _, h, _ => by unfold shp at h; cases h
  | 0, .clo _ _, _, h, _ => by unfold shp at h; cases h
  | _ + 1, .clo _ _, _, h, _ => by unfold shp at h; cases h
theorem dp_pys : ∀ (k : Nat) (x : List D) (ys : List V), shps k x = true → reps G cm ρ H x ys → DpAll G.K H ys (pys x)
  | _, [], ys, _, r => by unfold reps at r; subst r; exact .nil
  | k, x :: xs, ys, h, r => by
    unfold shps at h
    rw [Bool.and_eq_true] at h
    unfold reps at r
    obtain ⟨y, t, rfl, h1, h2⟩ := r
    exact .cons (dp_py k x y h.1 h1) (dp_pys k xs t h.2 h2)
end
/-! flat values -/
def flv : D → V
  | .non => .non
  | .bl b => .bl b
  | .int i => .int i
  | .str x => .str (SX.S x)
  | _ => .non
theorem flat_of : ∀ {x : D} {v : V}, flatD x = true → rep G cm ρ H x v → v = flv x ∧ flatV v = true
  | .non, v, _, r => by unfold rep at r; subst r; exact ⟨rfl, rfl⟩
  | .bl _, v, _, r => by unfold rep at r; subst r; exact ⟨rfl, rfl⟩
  | .int _, v, _, r => by unfold rep at r; subst r; exact ⟨rfl, rfl⟩
  | .str _, v, _, r => by unfold rep at r; subst r; exact ⟨rfl, rfl⟩
  | .lst _, _, h, _ => by cases h
  | .tup _, _, h, _ => by cases h
  | .dic _, _, h, _ => by cases h
  | .frl _, _, h, _ => by cases h
  | .ref _, _, h, _ => by cases h
  | .clo _ _, _, h, _ => by cases h
theorem eqV_flv : ∀ {x y : D}, flatD x = true → flatD y = true → eqV (flv x) (flv y) = deq x y
  | .non, .non, _, _ => rfl
  | .non, .bl _, _, _ => rfl
  | .non, .int _, _, _ => rfl
  | .non, .str _, _, _ => rfl
  | .bl _, .non, _, _ => rfl
  | .bl _, .bl _, _, _ => rfl
  | .bl a, .int j, _, _ => by show (((if a = true then 1 else 0 : Int) == j) = decide (b2i a = j)); cases a <;> exact Bool.beq_eq_decide_eq _ _
  | .bl _, .str _, _, _ => rfl
  | .int _, .non, _, _ => rfl
  | .int i, .bl b, _, _ => by show ((i == (if b = true then 1 else 0 : Int)) = decide (i = b2i b)); cases b <;> exact Bool.beq_eq_decide_eq _ _
  | .int i, .int j, _, _ => by exact Bool.beq_eq_decide_eq i j
  | .int _, .str _, _, _ => rfl
  | .str _, .non, _, _ => rfl
  | .str _, .bl _, _, _ => rfl
  | .str _, .int _, _, _ => rfl
  | .str x, .str y, _, _ => SX.S_beq x y
  | .lst _, _, h, _ => by cases h
  | .tup _, _, h, _ => by cases h
  | .dic _, _, h, _ => by cases h
  | .frl _, _, h, _ => by cases h
  | .ref _, _, h, _ => by cases h
  | .clo _ _, _, h, _ => by cases h
  | .non, .lst _, _, h => by cases h
  | .non, .tup _, _, h => by cases h
  | .non, .dic _, _, h => by cases h
  | .non, .frl _, _, h => by cases h
  | .non, .ref _, _, h => by cases h
  | .non, .clo _ _, _, h => by cases h
  | .bl _, .lst _, _, h => by cases h
  | .bl _, .tup _, _, h => by cases h
  | .bl _, .dic _, _, h => by cases h
  | .bl _, .frl _, _, h => by cases h
  | .bl _, .ref _, _, h => by cases h
  | .bl _, .clo _ _, _, h => by cases h
  | .int _, .lst _, _, h => by cases h
  | .int _, .tup _, _, h => by cases h
  | .int _, .dic _, _, h => by cases h
  | .int _, .frl _, _, h => by cases h
  | .int _, .ref _, _, h => by cases h
  | .int _, .clo _ _, _, h => by cases h
  | .str _, .lst _, _, h => by cases h
  | .str _, .tup _, _, h => by cases h
  | .str _, .dic _, _, h => by cases h
  | .str _, .frl _, _, h => by cases h
  | .str _, .ref _, _, h => by cases h
  | .str _, .clo _ _, _, h => by cases h
/-- any of flat items -/
theorem inV_of {x : D} {v : V} (fx : flatD x = true) (r : rep G cm ρ H x v) : ∀ {xs : List D} {ys : List V}, xs.all flatD = true → reps G cm ρ H xs ys → inV v ys = xs.any (fun z => deq z x) ∧ ys.all flatV = true
  | [], ys, _, h => by unfold reps at h; subst h; exact ⟨rfl, rfl⟩
  | z :: xs, ys, f, h => by
    rw [List.all_cons, Bool.and_eq_true] at f
    unfold reps at h
    obtain ⟨y, t, rfl, h1, h2⟩ := h
    obtain ⟨e1, e2⟩ := inV_of fx r f.2 h2
    obtain ⟨e3, e4⟩ := flat_of f.1 h1
    obtain ⟨e5, _⟩ := flat_of fx r
    constructor
    · unfold inV at e1 ⊢
      rw [List.any_cons, List.any_cons, e1, e3, e5, eqV_flv f.1 fx]
    · rw [List.all_cons, e4, e2]
      rfl

/-! ### comparisons -/
def rInS : R2 := fun x y H Q => ∃ i j, x = .str i ∧ y = .str j ∧ Q (.bl (!(Builtin.Str.occurrences j i 0 j.length 1).isEmpty)) H
def rNinS : R2 := fun x y H Q => ∃ i j, x = .str i ∧ y = .str j ∧ Q (.bl (!(!(Builtin.Str.occurrences j i 0 j.length 1).isEmpty))) H
def rC (K : PySem.W.Frag) : Cop → R2
  | .eq => fun x y H Q => rEq x y H Q ∨ rEqD K x y H Q
  | .ne => fun x y H Q => rNe x y H Q ∨ rNeD K x y H Q
  | .lt => rI0 fun i j => .bl (decide (i < j))
  | .le => rI0 fun i j => .bl (decide (i ≤ j))
  | .gt => rI0 fun i j => .bl (decide (j < i))
  | .ge => rI0 fun i j => .bl (decide (j ≤ i))
  | .isin => fun x y H Q => rInS x y H Q ∨ rIn K false x y H Q
  | .notin => fun x y H Q => rNinS x y H Q ∨ rIn K true x y H Q
  | .isn => fun x y H Q => y = .non ∧ Q (.bl (decide (x = .non))) H
  | .notn => fun x y H Q => y = .non ∧ Q (.bl (!decide (x = .non))) H
def opC : Cop → CmpOp
  | .eq => .Eq
  | .ne => .NotEq
  | .lt => .Lt
  | .le => .LtE
  | .gt => .Gt
  | .ge => .GtE
  | .isin => .In
  | .notin => .NotIn
  | .isn => .Is
  | .notn => .IsNot
theorem op_C {X : Cx} (hu : X.A.units + 64 < cLine) : ∀ op : Cop, OpR X (compareOp (opC op)) (rC X.K op)
  | .eq => OpR.or op_eq (op_eqD hu)
  | .ne => OpR.or op_ne (op_neD hu)
  | .lt => op_lt
  | .le => op_le
  | .gt => op_gt
  | .ge => op_ge
  | .isin => OpR.or op_in_str op_in_seq
  | .notin => OpR.or op_notin_str op_notIn_seq
  | .isn => op_isN
  | .notn => op_notN
theorem flv_inj : ∀ {x y : D}, flatD x = true → flatD y = true → (∀ a j, ¬ (x = .bl a ∧ y = .int j)) → (∀ i b, ¬ (x = .int i ∧ y = .bl b)) → scal (flv x) (flv y) = true ∧ decide (flv x = flv y) = deq x y := by
  intro x y hx hy n1 n2
  have key : ∀ {x y : D}, flatD x = true → flatD y = true → (∀ a j, ¬ (x = .bl a ∧ y = .int j)) → (∀ i b, ¬ (x = .int i ∧ y = .bl b)) → scal (flv x) (flv y) = true ∧ eqV (flv x) (flv y) = decide (flv x = flv y) := by
    intro x y hx hy n1 n2
    cases x <;> cases hx <;> cases y <;> cases hy <;> first
      | exact absurd ⟨rfl, rfl⟩ (n1 _ _)
      | exact absurd ⟨rfl, rfl⟩ (n2 _ _)
      | (refine ⟨rfl, ?_⟩; first | rfl | exact dec_int.symm | exact dec_bl.symm | exact dec_str.symm)
  obtain ⟨h1, h2⟩ := key hx hy n1 n2
  exact ⟨h1, by rw [← h2, eqV_flv hx hy]⟩
theorem eqOpt_ok {x y : D} {v u : V} {b : Bool} (rx : rep G cm ρ H x v) (ry : rep G cm ρ H y u) (h : eqOpt x y = some b) :
    (scal v u = true ∧ decide (v = u) = b) ∨ ∃ d e, Dp G.K H v d ∧ Dp G.K H u e ∧ SeqAt.shaped d = true ∧ SeqAt.shaped e = true ∧ PyData.eqv d e = b := by
  unfold eqOpt at h
  split at h
  · rename_i hf
    rw [Bool.and_eq_true] at hf
    left
    obtain ⟨e1, _⟩ := flat_of hf.1 rx
    obtain ⟨e2, _⟩ := flat_of hf.2 ry
    subst e1 e2
    split at h
    · cases h
    · cases h
    · rename_i n1 n2
      cases h
      exact flv_inj hf.1 hf.2 (fun a j ⟨p, q⟩ => n1 a j p q) (fun i b ⟨p, q⟩ => n2 i b p q)
  · split at h
    · rename_i hs
      rw [Bool.and_eq_true] at hs
      cases h
      exact .inr ⟨py x, py y, dp_py 60 x v hs.1 rx, dp_py 60 y u hs.2 ry, shaped_py hs.1, shaped_py hs.2, eqv_py 60 60 x y hs.1 hs.2⟩
    · cases h
theorem inOpt_ok {x y : D} {v u : V} {b : Bool} (g : Gd G ρ H mh) (rx : rep G cm ρ H x v) (ry : rep G cm ρ H y u) (h : inOpt mh x y = some b) :
    (∃ i j, v = .str i ∧ u = .str j ∧ (!(Builtin.Str.occurrences j i 0 j.length 1).isEmpty) = b) ∨ ∃ p xs, u = .ref p ∧ (SqL G.K H p xs ∨ SqT G.K H p xs) ∧ flatV v = true ∧ xs.all flatV = true ∧ inV v xs = b := by
  unfold inOpt at h
  split at h
  · split at h
    · cases h
      unfold rep at rx ry
      subst rx ry
      exact .inl ⟨_, _, rfl, rfl, within_S _ _⟩
    · cases h
  · split at h
    · rename_i ys hq
      split at h
      · rename_i hf
        cases h
        rw [Bool.and_eq_true] at hf
        obtain ⟨a, zs, e1, e2, e3⟩ := seq_of g ry hq
        obtain ⟨e4, e5⟩ := inV_of hf.1 rx hf.2 e3
        exact .inr ⟨a, zs, e1, e2, (flat_of hf.1 rx).2, e5, e4⟩
      · cases h
    · cases h
theorem non_iff : ∀ {x : D} {v : V}, rep G cm ρ H x v → decide (v = .non) = (match x with | .non => true | _ => false)
  | .non, v, r => by unfold rep at r; subst r; rfl
  | .bl _, v, r => by unfold rep at r; subst r; rfl
  | .int _, v, r => by unfold rep at r; subst r; rfl
  | .str _, v, r => by unfold rep at r; subst r; rfl
  | .lst _, v, r => by unfold rep at r; obtain ⟨a, _, rfl, _⟩ := r; rfl
  | .tup _, v, r => by unfold rep at r; obtain ⟨a, _, rfl, _⟩ := r; rfl
  | .dic _, v, r => by unfold rep at r; obtain ⟨a, _, rfl, _⟩ := r; rfl
  | .frl _, v, r => by unfold rep at r; obtain ⟨a, _, rfl, _⟩ := r; rfl
  | .ref _, v, r => by unfold rep at r; obtain ⟨a, rfl, _⟩ := r; rfl
  | .clo _ _, v, r => by unfold rep at r; obtain ⟨f, _, _, _, _, _, _, _, rfl, _⟩ := r; rfl
/-- a comparison: b is what it says -/
theorem cmpV_ok {op : Cop} {x y : D} {v u : V} {b : Bool} (g : Gd G ρ H mh) (rx : rep G cm ρ H x v) (ry : rep G cm ρ H y u) (h : cmpV op x y mh = some b) (Q : VK) (q : Q (.bl b) H) : rC G.K op v u H Q := by
  unfold cmpV at h
  cases op
  · rcases eqOpt_ok rx ry h with ⟨h1, h2⟩ | ⟨d, e, h1, h2, h3, h4, h5⟩
    · exact .inl ⟨h1, by rw [h2]; exact q⟩
    · exact .inr ⟨d, e, h1, h2, h3, h4, by rw [h5]; exact q⟩
  · obtain ⟨c, hc, e⟩ := Option.map_eq_some_iff.mp h
    subst e
    rcases eqOpt_ok rx ry hc with ⟨h1, h2⟩ | ⟨d, e, h1, h2, h3, h4, h5⟩
    · exact .inl ⟨h1, by rw [h2]; exact q⟩
    · exact .inr ⟨d, e, h1, h2, h3, h4, by rw [h5]; exact q⟩
  · dsimp only at h
    split at h
    · cases h
      unfold rep at rx ry
      subst rx ry
      exact ⟨_, _, rfl, rfl, q⟩
    · cases h
  · dsimp only at h
    split at h
    · cases h
      unfold rep at rx ry
      subst rx ry
      exact ⟨_, _, rfl, rfl, q⟩
    · cases h
  · dsimp only at h
    split at h
    · cases h
      unfold rep at rx ry
      subst rx ry
      exact ⟨_, _, rfl, rfl, q⟩
    · cases h
  · dsimp only at h
    split at h
    · cases h
      unfold rep at rx ry
      subst rx ry
      exact ⟨_, _, rfl, rfl, q⟩
    · cases h
  · rcases inOpt_ok g rx ry h with ⟨i, j, h1, h2, h3⟩ | ⟨p, xs, h1, h2, h3, h4, h5⟩
    · exact .inl ⟨i, j, h1, h2, by rw [h3]; exact q⟩
    · exact .inr ⟨p, xs, h1, h2, h3, h4, by rw [h5]; exact q⟩
  · obtain ⟨c, hc, e⟩ := Option.map_eq_some_iff.mp h
    subst e
    rcases inOpt_ok g rx ry hc with ⟨i, j, h1, h2, h3⟩ | ⟨p, xs, h1, h2, h3, h4, h5⟩
    · exact .inl ⟨i, j, h1, h2, by rw [h3]; exact q⟩
    · exact .inr ⟨p, xs, h1, h2, h3, h4, by rw [h5]; exact q⟩
  · dsimp only at h
    split at h
    · unfold rep at ry
      subst ry
      cases h
      exact ⟨rfl, by rw [non_iff rx]; exact q⟩
    · cases h
  · dsimp only at h
    split at h
    · unfold rep at ry
      subst ry
      refine ⟨rfl, ?_⟩
      rw [non_iff rx]
      cases h
      cases x <;> exact q
    · cases h

/-! ### truth -/
theorem truV_ok {x : D} {v : V} {b : Bool} (g : Gd G ρ H mh) (r : rep G cm ρ H x v) (h : truV mh x = some b) : TruV G.K v H b := by
  unfold truV at h
  split at h
  · cases h
    unfold rep at r
    subst r
    exact rfl
  · cases h
    unfold rep at r
    subst r
    exact rfl
  · cases h
    unfold rep at r
    subst r
    show decide _ = _
    rename_i i
    by_cases hi : i = 0
    · subst hi
      rfl
    · rw [decide_eq_true hi]
      exact (bne_iff_ne.mpr hi).symm
  · split at h
    · rename_i z hz
      cases h
      unfold rep at r
      subst r
      refine ⟨by rw [SX.S_len]; exact le_line hz, ?_⟩
      rw [SX.S_len]
      cases z with
      | nil => rfl
      | cons a l =>
        refine (bne_iff_ne.mpr ?_).symm
        rw [List.length_cons]
        omega
    · cases h
  · cases h
    unfold rep at r
    obtain ⟨a, ys, rfl, h1, h2⟩ := r
    refine .inr (.inl ⟨ys, ?_, ?_⟩)
    · rcases h1 with z | z
      · exact SqT.of z.2
      · exact .inr z
    · have e := h2.length
      rename_i xs
      cases xs <;> cases ys <;> first | rfl | simp at e
  · cases h
    unfold rep at r
    obtain ⟨a, ys, rfl, h1, h2⟩ := r
    refine .inl ⟨ys, SqL.of h1.2, ?_⟩
    have e := h2.length
    rename_i xs
    cases xs <;> cases ys <;> first | rfl | simp at e
  · cases h
end
end FS

-- text FsF
set_option Elab.async false
set_option linter.all false
set_option maxHeartbeats 1000000
/-! FsF: subscripts, slices, built-ins, methods. -/
namespace FS
open PySem PySem.Spec PyProof.Rows L2 LamX

section
variable {G : GD} {cm : List (Option CI)} {ρ : List Addr} {H : Hp} {mh : MH}
theorem atI_of {α : Type} {xs : List α} {i : Int} {j : Nat} {x : α} (h : ixN xs.length i = some j) (e : xs[j]? = some x) : atI xs i = some x := by
  unfold atI
  rw [ixN_eq, h]
  exact e
theorem ixV_ok {x y d : D} {v u : V} (g : Gd G ρ H mh) (rx : rep G cm ρ H x v) (ry : rep G cm ρ H y u) (h : ixV x y mh = some d) (Q : VK) (q : ∀ w, rep G cm ρ H d w → Q w H) : rIx G.K v u H Q := by
  unfold ixV at h
  split at h
  · unfold rep at ry
    subst ry
    split at h
    · split at h
      · rename_i s hz
        split at h
        · rename_i j hj
          split at h
          · rename_i c hc
            cases h
            unfold rep at rx
            subst rx
            refine .inr (.inr ⟨_, _, c, rfl, rfl, by rw [SX.S_len]; exact le_line hz, atI_of hj hc, q _ (by unfold rep; rfl)⟩)
          · cases h
        · cases h
      · cases h
    · split at h
      · rename_i xs hx
        split at h
        · rename_i j hj
          obtain ⟨a, ys, rfl, e2, e3⟩ := seq_of g rx hx
          obtain ⟨w, h1, h2⟩ := e3.get h
          have hj' := hj
          rw [e3.length] at hj'
          rcases e2 with e2 | e2
          · exact .inl ⟨a, ys, _, w, rfl, rfl, e2, atI_of hj' h1, q w h2⟩
          · exact .inr (.inl ⟨a, ys, _, w, rfl, rfl, e2, atI_of hj' h1, q w h2⟩)
        · cases h
      · cases h
  · cases h
def rSl (K : PySem.W.Frag) : V → Option Int → Option Int → Hp → VK → Prop := fun x lo hi H Q => rSlS x lo hi H Q ∨ rSlL K x lo hi H Q
theorem sl_any {X : Cx} : SlR X (rSl X.K) := SlR.or sl_str sl_list
theorem cut_reps {xs : List D} {ys : List V} (r : reps G cm ρ H xs ys) (lo hi : Option Int) : reps G cm ρ H (cut xs lo hi) (cut ys lo hi) := by
  unfold cut
  rw [← r.length]
  exact (r.drop _).take _
theorem slV_ok {x d : D} {v : V} {lo hi : Option Int} (g : Gd G ρ H mh) (rx : rep G cm ρ H x v) (h : slV x lo hi mh = some d) : Gv G (rep G cm) ρ H (.ok d mh) (fun Q => rSl G.K v lo hi H Q) := by
  unfold slV at h
  split at h
  · split at h
    · rename_i hz
      cases h
      unfold rep at rx
      subst rx
      exact Gv.same g (by unfold rep; rfl) fun Q q => .inl ⟨_, rfl, by rw [SX.S_len]; exact le_line hz, by rw [cutS_S]; exact q⟩
    · cases h
  · cases h
    unfold rep at rx
    obtain ⟨a, ys, rfl, e2, e3⟩ := rx
    refine Gv.newL g (cut_reps e3 lo hi) fun Q q => .inr ⟨a, ys, rfl, ?_, by rw [cutV_eq]; exact q⟩
    rcases e2 with ⟨o, z⟩ | z
    · exact .inl (.inr ⟨o, z.2⟩)
    · exact .inr z
  · split at h
    · rename_i xs hx
      cases h
      obtain ⟨a, ys, rfl, e2, e3⟩ := lst_of g rx hx
      exact Gv.newL g (cut_reps e3 lo hi) fun Q q => .inr ⟨a, ys, rfl, SqL.of e2, by rw [cutV_eq]; exact q⟩
    · cases h

/-! ### built-ins -/
def nmBi : Bi → Str
  | .len => "len"
  | .int => "int"
  | .str => "str"
  | .abs => "abs"
  | .max2 => "max"
  | .min2 => "min"
  | .list => "list"
  | .tuple => "tuple"
def vlBi : Bi → Value
  | .len => .builtin "len"
  | .int => .type "int"
  | .str => .type "str"
  | .abs => .builtin "abs"
  | .max2 => .builtin "max"
  | .min2 => .builtin "min"
  | .list => .type "list"
  | .tuple => .type "tuple"
theorem boot_Bi : ∀ b : Bi, bootBuiltins (nmBi b) = some (vlBi b)
  | .len => boot_len
  | .int => boot_int
  | .str => boot_str
  | .abs => boot_abs
  | .max2 => boot_max
  | .min2 => boot_min
  | .list => boot_list
  | .tuple => boot_tuple
def rBi (K : PySem.W.Frag) : Bi → List V → Hp → VK → Prop
  | .len => fun xs H Q => ∃ x n, xs = [x] ∧ LenV K x H n ∧ Q (.int n) H
  | .int => fun xs H Q => ((∃ i, xs = [.int i] ∧ Q (.int i) H) ∨ ∃ k, xs = [.bl k] ∧ Q (.int (if k then 1 else 0)) H) ∨ ∃ a n, xs = [.str a] ∧ PySem.intText? a = some n ∧ a.length ≤ 640 ∧ Q (.int n) H
  | .str => fun xs H Q => ∃ i, xs = [.int i] ∧ i.natAbs.log2 < 1920 ∧ Q (.str (toString i)) H
  | .abs => fun xs H Q => ∃ i, xs = [.int i] ∧ Q (.int (if i < 0 then -i else i)) H
  | .max2 => fun xs H Q => ∃ i j, xs = [.int i, .int j] ∧ Q (.int (if j > i then j else i)) H
  | .min2 => fun xs H Q => ∃ i j, xs = [.int i, .int j] ∧ Q (.int (if j < i then j else i)) H
  | .list => fun xs H Q => ∃ p ys, xs = [.ref p] ∧ (SqL K H p ys ∨ SqT K H p ys) ∧ ∀ l, H l = none → Q (.ref l) (upd H l (.lst ys))
  | .tuple => fun xs H Q => ∃ p ys, xs = [.ref p] ∧ ((SqL K H p ys ∧ ∀ l, H l = none → Q (.ref l) (upd H l (.tup ys))) ∨ (SqT K H p ys ∧ Q (.ref p) H))
theorem call_Bi {X : Cx} (hc : X.calm = true) : ∀ b : Bi, CallR X (vlBi b) (rBi X.K b)
  | .len => call_len
  | .int => fun pins s σ H xs us Q I r h => h.elim (fun z => call_int1 pins s σ H xs us Q I r z) (fun z => call_int_str pins s σ H xs us Q I r z)
  | .str => call_str_int
  | .abs => call_abs
  | .max2 => call_max2 hc
  | .min2 => call_min2 hc
  | .list => call_list_of
  | .tuple => call_tuple_of
theorem two_of {x y : D} {vs : List V} (r : reps G cm ρ H [x, y] vs) : ∃ v w, vs = [v, w] ∧ rep G cm ρ H x v ∧ rep G cm ρ H y w := by
  unfold reps at r
  obtain ⟨v, t, rfl, h1, h2⟩ := r
  unfold reps at h2
  obtain ⟨w, t2, rfl, h3, h4⟩ := h2
  unfold reps at h4
  subst h4
  exact ⟨v, w, rfl, h1, h3⟩
theorem one_of {x : D} {vs : List V} (r : reps G cm ρ H [x] vs) : ∃ v, vs = [v] ∧ rep G cm ρ H x v := by
  unfold reps at r
  obtain ⟨v, t, rfl, h1, h2⟩ := r
  unfold reps at h2
  subst h2
  exact ⟨v, rfl, h1⟩
theorem biV_ok {b : Bi} {as : List D} {vs : List V} (g : Gd G ρ H mh) (r : reps G cm ρ H as vs) : Gv G (rep G cm) ρ H (biV b as mh) (fun Q => rBi G.K b vs H Q) := by
  unfold biV
  split
  · split
    · rename_i hz
      obtain ⟨v, rfl, h⟩ := one_of r
      unfold rep at h
      subst h
      exact Gv.same g (by unfold rep; rfl) fun Q q => ⟨_, _, rfl, ⟨by rw [SX.S_len]; exact le_line hz, rfl⟩, by rw [SX.S_len]; exact q⟩
    · trivial
  · split
    · rename_i xs hx
      obtain ⟨v, rfl, h⟩ := one_of r
      obtain ⟨a, ys, rfl, e2, e3⟩ := seq_of g h hx
      exact Gv.same g (by unfold rep; rfl) fun Q q => ⟨_, ys.length, rfl, e2.imp (fun z => ⟨ys, z, rfl⟩) (fun z => ⟨ys, z, rfl⟩), by rw [← e3.length]; exact q⟩
    · trivial
  · obtain ⟨v, rfl, h⟩ := one_of r
    unfold rep at h
    subst h
    exact Gv.same g (by unfold rep; rfl) fun Q q => .inl (.inl ⟨_, rfl, q⟩)
  · obtain ⟨v, rfl, h⟩ := one_of r
    unfold rep at h
    subst h
    exact Gv.same g (by unfold rep; rfl) fun Q q => .inl (.inr ⟨_, rfl, by rename_i b; cases b <;> exact q⟩)
  · split
    · rename_i x hz
      obtain ⟨v, rfl, h⟩ := one_of r
      unfold rep at h
      subst h
      rw [Bool.and_eq_true, Bool.and_eq_true] at hz
      have hne : x ≠ [] := by
        intro e
        rw [e] at hz
        simp at hz
      have hl : x.length ≤ 640 := Nat.le_of_ble_eq_true hz.1.2
      exact Gv.same g (by unfold rep; rfl) fun Q q => .inr ⟨_, _, rfl, SX.int_S (isDig_all hz.2) hne (by omega), by rw [SX.S_len]; exact hl, q⟩
    · trivial
  · split
    · rename_i hz
      obtain ⟨v, rfl, h⟩ := one_of r
      unfold rep at h
      subst h
      exact Gv.same g (by unfold rep; rfl) fun Q q => ⟨_, rfl, of_decide_eq_true hz, by rw [show ((toString _ : String) : Str) = SX.S _ from str_int _]; exact q⟩
    · trivial
  · obtain ⟨v, rfl, h⟩ := one_of r
    unfold rep at h
    subst h
    exact Gv.same g (by unfold rep; rfl) fun Q q => ⟨_, rfl, q⟩
  · obtain ⟨v, w, rfl, h, h'⟩ := two_of r
    unfold rep at h h'
    subst h h'
    exact Gv.same g (by unfold rep; rfl) fun Q q => ⟨_, _, rfl, q⟩
  · obtain ⟨v, w, rfl, h, h'⟩ := two_of r
    unfold rep at h h'
    subst h h'
    exact Gv.same g (by unfold rep; rfl) fun Q q => ⟨_, _, rfl, q⟩
  · split
    · rename_i xs hx
      obtain ⟨v, rfl, h⟩ := one_of r
      obtain ⟨a, ys, rfl, e2, e3⟩ := seq_of g h hx
      exact Gv.newL g e3 fun Q q => ⟨a, ys, rfl, e2, q⟩
    · trivial
  · obtain ⟨v, rfl, h⟩ := one_of r
    have h' := h
    unfold rep at h'
    obtain ⟨a, ys, rfl, e2, e3⟩ := h'
    refine Gv.same g h fun Q q => ⟨a, ys, rfl, .inr ⟨?_, q⟩⟩
    rcases e2 with e2 | e2
    · exact SqT.of e2.2
    · exact .inr e2
  · split
    · rename_i xs hx
      obtain ⟨v, rfl, h⟩ := one_of r
      obtain ⟨a, ys, rfl, e2, e3⟩ := lst_of g h hx
      exact Gv.newT g e3 fun Q q => ⟨a, ys, rfl, .inl ⟨SqL.of e2, q⟩⟩
    · trivial
  · trivial

/-! ### methods -/
def nmMe : Me → Str
  | .strip => "strip"
  | .lstrip => "lstrip"
  | .rstrip => "rstrip"
  | .split => "split"
  | .join => "join"
  | .lower => "lower"
  | .upper => "upper"
  | .part => "partition"
def idMe : Me → String
  | .strip => "str.strip"
  | .lstrip => "str.lstrip"
  | .rstrip => "str.rstrip"
  | .split => "str.split"
  | .join => "str.join"
  | .lower => "str.lower"
  | .upper => "str.upper"
  | .part => "str.partition"
theorem slot_Me : ∀ m : Me, Slot "str" (nmMe m) (idMe m)
  | .strip => F.slot_str_strip
  | .lstrip => F.slot_str_lstrip
  | .rstrip => F.slot_str_rstrip
  | .split => F.slot_str_split
  | .join => F.slot_str_join
  | .lower => F.slot_str_lower
  | .upper => F.slot_str_upper
  | .part => F.slot_str_partition
theorem type_Me : ∀ m : Me, typeOf (.builtin (idMe m)) = pure (.type "method_descriptor")
  | .strip => F.type_str_strip
  | .lstrip => F.type_str_lstrip
  | .rstrip => F.type_str_rstrip
  | .split => F.type_str_split
  | .join => F.type_str_join
  | .lower => F.type_str_lower
  | .upper => F.type_str_upper
  | .part => F.type_str_partition
def rMe (K : PySem.W.Frag) : Me → V → List V → Hp → VK → Prop
  | .strip => fun x xs H Q => ∃ a b, x = .str a ∧ xs = [.str b] ∧ a.length ≤ sizeLine ∧ Q (.str (Txt.stripChars a b)) H
  | .lstrip => fun x xs H Q => ∃ a b, x = .str a ∧ xs = [.str b] ∧ a.length ≤ sizeLine ∧ Q (.str (Txt.lstripChars a b)) H
  | .rstrip => fun x xs H Q => ∃ a b, x = .str a ∧ xs = [.str b] ∧ a.length ≤ sizeLine ∧ Q (.str (Txt.rstripChars a b)) H
  | .split => fun x xs H Q => ∃ a b, x = .str a ∧ xs = [.str b] ∧ (b.length == 0) = false ∧ a.length + 2 ≤ sizeLine ∧ rNewStrs (Txt.split a b) H Q
  | .join => fun x xs H Q => ∃ a p, ∃ ys : List Str, x = .str a ∧ xs = [.ref p] ∧ (SqL K H p (ys.map V.str) ∨ SqT K H p (ys.map V.str)) ∧ (ys.map (·.length)).sum + ys.length * a.length ≤ 16777216 ∧ Q (.str (Txt.join a ys)) H
  | .lower => fun x xs H Q => ∃ a, x = .str a ∧ xs = [] ∧ a.length ≤ 5592405 ∧ Q (.str (Txt.lower a)) H
  | .upper => fun x xs H Q => ∃ a, x = .str a ∧ xs = [] ∧ a.length ≤ 5592405 ∧ Q (.str (Txt.upper a)) H
  | .part => fun x xs H Q => ∃ a b, x = .str a ∧ xs = [.str b] ∧ (b.length == 0) = false ∧ a.length ≤ sizeLine ∧ ∀ p, H p = none → Q (.ref p) (upd H p (.tup [.str (Txt.partition a b).1, .str (Txt.partition a b).2.1, .str (Txt.partition a b).2.2]))
theorem mt_Me {X : Cx} : ∀ m : Me, MtR X (idMe m) (rMe X.K m)
  | .strip => mt_stripChars
  | .lstrip => mt_lstripChars
  | .rstrip => mt_rstripChars
  | .split => mt_split
  | .join => mt_join
  | .lower => mt_lower
  | .upper => mt_upper
  | .part => mt_partition
theorem strsOf_ok : ∀ {xs : List D} {ys : List V} {l : List (List Nat)}, strsOf xs = some l → reps G cm ρ H xs ys → ys = (l.map SX.S).map V.str
  | [], ys, l, h, r => by
    unfold reps at r
    subst r
    cases h
    rfl
  | x :: xs, ys, l, h, r => by
    unfold strsOf at h
    split at h
    · rename_i e
      cases e
    · rename_i z t e
      split at h
      · rename_i l2 h2
        cases h
        cases e
        unfold reps at r
        obtain ⟨y, t2, rfl, h3, h4⟩ := r
        unfold rep at h3
        subst h3
        rw [strsOf_ok h2 h4]
        rfl
      · cases h
    · cases h
theorem reps_strs : ∀ (l : List (List Nat)), reps G cm ρ H (l.map D.str) ((l.map SX.S).map V.str)
  | [] => reps.nil
  | x :: l => reps.cons (by unfold rep; rfl) (reps_strs l)
theorem asc {x : List Nat} (h : ascii x = true) : x.all (fun c => decide (c < 128)) = true := by
  refine List.all_eq_true.mpr fun c hc => ?_
  exact decide_eq_true (Nat.le_of_ble_eq_true (List.all_eq_true.mp h c hc))
theorem S_len0 {y : List Nat} (h : (!y.isEmpty) = true) : ((SX.S y).length == 0) = false := by
  rw [SX.S_len]
  cases y with
  | nil => cases h
  | cons a l => rfl
theorem ne_nil {y : List Nat} (h : (!y.isEmpty) = true) : y ≠ [] := by
  intro e
  rw [e] at h
  cases h
theorem meV_ok {m : Me} {o : D} {as : List D} {v : V} {vs : List V} (g : Gd G ρ H mh) (ro : rep G cm ρ H o v) (r : reps G cm ρ H as vs) : Gv G (rep G cm) ρ H (meV m o as mh) (fun Q => rMe G.K m v vs H Q) := by
  unfold meV
  split
  · split
    · rename_i hz
      obtain ⟨u, rfl, h⟩ := one_of r
      unfold rep at h ro
      subst h ro
      exact Gv.same g (by unfold rep; rfl) fun Q q => ⟨_, _, rfl, rfl, by rw [SX.S_len]; exact le_line hz, by rw [strip_S]; exact q⟩
    · trivial
  · split
    · rename_i hz
      obtain ⟨u, rfl, h⟩ := one_of r
      unfold rep at h ro
      subst h ro
      exact Gv.same g (by unfold rep; rfl) fun Q q => ⟨_, _, rfl, rfl, by rw [SX.S_len]; exact le_line hz, by rw [lstrip_S]; exact q⟩
    · trivial
  · split
    · rename_i hz
      obtain ⟨u, rfl, h⟩ := one_of r
      unfold rep at h ro
      subst h ro
      exact Gv.same g (by unfold rep; rfl) fun Q q => ⟨_, _, rfl, rfl, by rw [SX.S_len]; exact le_line hz, by rw [rstrip_S]; exact q⟩
    · trivial
  · split
    · rename_i hz
      rw [Bool.and_eq_true, Bool.and_eq_true] at hz
      obtain ⟨u, rfl, h⟩ := one_of r
      unfold rep at h ro
      subst h ro
      refine Gv.newL g (reps_strs _) fun Q q => ⟨_, _, rfl, rfl, S_len0 hz.1.1, by rw [SX.S_len]; exact le_line hz.2, ?_⟩
      unfold rNewStrs
      rw [SX.split_S (ne_nil hz.1.1)]
      · exact q
      · refine List.all_eq_true.mpr fun c hc => ?_
        have := of_decide_eq_true (List.all_eq_true.mp (asc hz.1.2) c hc)
        exact decide_eq_true (by omega)
    · trivial
  · split
    · rename_i ys hx
      split
      · rename_i l hl
        split
        · rename_i hz
          obtain ⟨u, rfl, h⟩ := one_of r
          unfold rep at ro
          subst ro
          obtain ⟨a, zs, rfl, e2, e3⟩ := seq_of g h hx
          have e4 := strsOf_ok hl e3
          rw [e4] at e2
          refine Gv.same g (by unfold rep; rfl) fun Q q => ⟨_, a, l.map SX.S, rfl, rfl, e2, ?_, by rw [SX.join_S]; exact q⟩
          rw [← lenS_eq, List.length_map, SX.S_len]
          exact Nat.le_of_ble_eq_true hz
        · trivial
      · trivial
    · trivial
  · split
    · rename_i hz
      rw [Bool.and_eq_true] at hz
      unfold reps at r
      subst r
      unfold rep at ro
      subst ro
      exact Gv.same g (by unfold rep; rfl) fun Q q => ⟨_, rfl, rfl, by rw [SX.S_len]; exact Nat.le_of_ble_eq_true hz.2, by rw [SX.lower_S (asc hz.1)]; exact q⟩
    · trivial
  · split
    · rename_i hz
      rw [Bool.and_eq_true] at hz
      unfold reps at r
      subst r
      unfold rep at ro
      subst ro
      exact Gv.same g (by unfold rep; rfl) fun Q q => ⟨_, rfl, rfl, by rw [SX.S_len]; exact Nat.le_of_ble_eq_true hz.2, by rw [SX.upper_S (asc hz.1)]; exact q⟩
    · trivial
  · split
    · rename_i hz
      rw [Bool.and_eq_true] at hz
      obtain ⟨u, rfl, h⟩ := one_of r
      unfold rep at h ro
      subst h ro
      split
      · rename_i p q hp
        refine Gv.newT g (reps.cons (by unfold rep; rfl) (reps.cons (by unfold rep; rfl) (reps.one (by unfold rep; rfl)))) fun Q q => ⟨_, _, rfl, rfl, S_len0 hz.1, by rw [SX.S_len]; exact le_line hz.2, ?_⟩
        rw [SX.partition_some (ne_nil hz.1) hp]
        exact q
      · rename_i hp
        refine Gv.newT g (reps.cons (by unfold rep; rfl) (reps.cons (by unfold rep; rfl) (reps.one (by unfold rep; rfl)))) fun Q q => ⟨_, _, rfl, rfl, S_len0 hz.1, by rw [SX.S_len]; exact le_line hz.2, ?_⟩
        rw [SX.partition_none (ne_nil hz.1) hp]
        exact q
    · trivial
  · trivial
end
end FS

-- text FsG
set_option Elab.async false
set_option linter.all false
set_option maxHeartbeats 1000000
/-! FsG: contexts, wishes, what a sound expression is. -/
namespace FS
open PySem PySem.Spec PyProof.Rows L2 LamX

/-! ### the readings of a text of the program themselves -/
def wE (X : Cx) (e : Expr) : TE := fun σ H Q => ∀ pins s, Inv X pins σ H s → wpAny (model X.prog X.w) X.A (eval e X.env) (EP X pins σ Q) X.xe s
def wT (X : Cx) (e : Expr) : TT := fun σ H Q => ∀ pins s, Inv X pins σ H s → wpAny (model X.prog X.w) X.A (isTrue e X.env (eval e X.env)) (TP X pins σ Q) X.xe s
def wW (X : Cx) (e : Expr) : TT := fun σ H Q => ∀ whole pins s, Inv X pins σ H s → wpAny (model X.prog X.w) X.A (isTrue e X.env whole) (TP X pins σ Q) X.xe s
def wA (X : Cx) (es : List Expr) : TA := fun σ H Q => ∀ pos pins s, Inv X pins σ H s → wpAny (model X.prog X.w) X.A (spliced (backTo pos (starEach es X.env))) (AP X pins σ Q) X.xe s
def wS (X : Cx) (st : Stmt) : TS := fun D σ H => ∀ pins s, Inv X pins σ H s → wpAny (model X.prog X.w) X.A (exec st X.env) (SP X pins D) X.xe s
def wSs (X : Cx) (st : List Stmt) : TS := fun D σ H => ∀ pins s, Inv X pins σ H s → wpAny (model X.prog X.w) X.A (execs st X.env) (SP X pins D) X.xe s
def wG (X : Cx) (t : Expr) : TG := fun v σ H Q => ∀ pins s u, Inv X pins σ H s → RelV v u → wpAny (model X.prog X.w) X.A (assign t X.env u) (fun _ s' => ∃ σ' H', Inv X pins σ' H' s' ∧ Q σ' H') X.xe s
def wI (X : Cx) (tg it : Expr) : TI := fun σ H R => ∀ pins s, Inv X pins σ H s → wpAny (model X.prog X.w) X.A (eval it X.env) (fun v s1 => wpAny (model X.prog X.w) X.A (pyIter v) (PIE X pins σ tg R) X.xe s1) X.xe s
theorem pe_w {X : Cx} {e : Expr} : PE X e (wE X e) := ⟨fun pins s σ H Q I h => h pins s I⟩
theorem pt_w {X : Cx} {e : Expr} : PT X e (wT X e) := ⟨fun pins s σ H Q I h => h pins s I⟩
theorem pw_w {X : Cx} {e : Expr} : PW X e (wW X e) := ⟨fun whole pins s σ H Q I h => h whole pins s I⟩
theorem pa_w {X : Cx} {es : List Expr} : PA X es (wA X es) := ⟨fun pos pins s σ H Q I h => h pos pins s I⟩
theorem ps_w {X : Cx} {st : Stmt} : PS X st (wS X st) := ⟨fun pins s σ H D I h => h pins s I⟩
theorem pss_w {X : Cx} {st : List Stmt} : PSs X st (wSs X st) := ⟨fun pins s σ H D I h => h pins s I⟩
theorem pg_w {X : Cx} {t : Expr} : PG X t (wG X t) := ⟨fun pins s σ H v u Q I r h => h pins s u I r⟩
theorem pi_w {X : Cx} {tg it : Expr} : PI X tg it (wI X tg it) := ⟨fun pins s σ H R I h => h pins s I⟩
theorem of_pe {X : Cx} {e : Expr} {t : TE} (p : PE X e t) {σ : L2.St} {H : Hp} {Q : VK} (h : t σ H Q) : wE X e σ H Q := fun pins s I => p.run pins s σ H Q I h
theorem of_pt {X : Cx} {e : Expr} {t : TT} (p : PT X e t) {σ : L2.St} {H : Hp} {Q : Bool → Hp → Prop} (h : t σ H Q) : wT X e σ H Q := fun pins s I => p.run pins s σ H Q I h
theorem of_pw {X : Cx} {e : Expr} {t : TT} (p : PW X e t) {σ : L2.St} {H : Hp} {Q : Bool → Hp → Prop} (h : t σ H Q) : wW X e σ H Q := fun whole pins s I => p.run whole pins s σ H Q I h
theorem of_pa {X : Cx} {es : List Expr} {t : TA} (p : PA X es t) {σ : L2.St} {H : Hp} {Q : List V → Hp → Prop} (h : t σ H Q) : wA X es σ H Q := fun pos pins s I => p.run pos pins s σ H Q I h
theorem of_ps {X : Cx} {st : Stmt} {t : TS} (p : PS X st t) {σ : L2.St} {H : Hp} {D : Ends} (h : t D σ H) : wS X st D σ H := fun pins s I => p.run pins s σ H D I h
theorem of_pss {X : Cx} {st : List Stmt} {t : TS} (p : PSs X st t) {σ : L2.St} {H : Hp} {D : Ends} (h : t D σ H) : wSs X st D σ H := fun pins s I => p.run pins s σ H D I h
theorem of_pg {X : Cx} {tg : Expr} {t : TG} (p : PG X tg t) {σ : L2.St} {H : Hp} {v : V} {Q : L2.St → Hp → Prop} (h : t v σ H Q) : wG X tg v σ H Q := fun pins s u I r => p.run pins s σ H v u Q I r h
theorem of_pi {X : Cx} {tg it : Expr} {t : TI} (p : PI X tg it t) {σ : L2.St} {H : Hp} {R : It → Hp → Prop} (h : t σ H R) : wI X tg it σ H R := fun pins s I => p.run pins s σ H R I h

/-! ### what is looked at in the program's text -/
/-- a context's text: its slots' names, its scope, which cells are its own, where it makes lambdas -/
structure SC where
  N : List Str
  sc : Scope
  fnc : Str → Bool
  hasT : Bool
  hasL : Bool
  L : List (Nat × Nat)
  gn : Nat
def posB (l : List (Nat × Nat)) : Pos → Bool := fun p => l.any fun q => Nat.beq q.1 p.line && Nat.beq q.2 p.col
structure JC where
  gln : List Str
  fnn : List Str
  clsn : List Str
  bok : Str → Bool
  lamB : Nat → SC → Arguments → Expr → Scope → Bool
/-- what the ground must have -/
structure GX where
  g : Pg
  base : Heap
  cls : Nat → Value
  fad : Nat → Addr
structure GOk (J : JC) (G : GD) (Y : GX) : Prop where
  glb : ∀ (i : Nat) (x : Str) (d : D), J.gln[i]? = some x → Y.g.glb[i]? = some d → ∃ u v, G.mg x = some u ∧ RelV v u ∧ ∀ τ cm ρ H, rep (G.tm τ) cm ρ H d v
  bok : ∀ x, J.bok x = true → G.mg x = none
  lam : ∀ l C params body scope ci, J.lamB l C params body scope = true → ci.N = C.N → ci.sc = C.sc → G.lamC l ci params body scope
  exc : ∀ (c : Nat) (x : Str), J.clsn[c]? = some x → ∃ a, Y.cls c = .ref a ∧ G.mg x = some (.ref a) ∧ PySem.W.excIn G.K a [.type "ValueError", .type "Exception", .type "BaseException", .type "object"] "ValueError.__new__" = true ∧ PySem.W.keepIn G.K (.ref a) = true ∧
    PySem.W.subIn G.K (.ref a) (.type "BaseException") = some true ∧ PySem.W.typeIn G.K (.ref a) = some (.type "type")
  exm : ∀ (c d : Nat) (y : Str), c < Y.g.ncl → J.clsn[d]? = some y → PySem.W.exmOne G.K (Y.cls c) (Y.cls d) = some (sub Y.g c d)
  fns : ∀ i x, J.fnn[i]? = some x → G.mg x = some (.ref (Y.fad i)) ∧ PySem.W.keepIn G.K (.ref (Y.fad i)) = true
/-- the context X runs the text C at depth o.length, with room for k calls -/
structure CtxOk (G : GD) (Y : GX) (C : SC) (k : Nat) (cm : List (Option CI)) (o : List Fr) (X : Cx) : Prop where
  prog : X.prog = G.P
  w : X.w = G.w
  K : X.K = G.K
  mg : X.mg = G.mg
  N : X.N = C.N
  nd : C.N.Nodup
  sc : X.env.scope = C.sc
  kind : C.sc.kind = .function
  calm : X.calm = true
  fn : ∀ x, C.fnc x = true → X.fn x = true
  room : Room (2 * k + C.gn) X.A
  base : ∀ b o, Y.base.get? b = some o → X.base.get? b = some o
  code : C.hasT = true → ∃ c P, X.env.code = .ref c ∧ TabB Y.base G.mg c P ∧ G.TQ P = some (X.env.qual ++ "<lambda>", posB C.L)
  lamf : C.hasL = true → ∀ x, X.fn x = true
  nlam : C.hasL = false → cm[o.length]? = some none
  lamc : C.hasL = true → ∃ ci, cm[o.length]? = some (some ci)
  own : ∀ ci, cm[o.length]? = some (some ci) → ci.cells = X.env.cells ∧ ci.N = C.N ∧ ci.sc = C.sc ∧ ci.qual = X.env.qual
  len : cm.length = o.length + 1
structure OutF (G : GD) (cm : List (Option CI)) (base : Heap) (ρ : List Addr) (H : Hp) (ci : CI) (f : Fr) : Prop where
  inj : ∀ x y c, ci.cells.lookup x = some c → ci.cells.lookup y = some c → x = y
  at_ : ∀ (i : Nat) (x : Str), ci.N[i]? = some x → ci.sc.names.lookup x = some .cell → ∃ c ob w, ci.cells.lookup x = some c ∧ base.get? c = some ob ∧ ob.data = .cell w ∧ ∀ dd, get f i = some dd → ∃ u v, w = some u ∧ RelV v u ∧ rep G cm ρ H dd v
def OutB (G : GD) (cm : List (Option CI)) (base : Heap) (ρ : List Addr) (H : Hp) (o : List Fr) : Prop :=
  ∀ (d : Nat) (ci : CI) (f : Fr), cm[d]? = some (some ci) → frameAt o d = some f → f ≠ [] → OutF G cm base ρ H ci f
theorem OutF.mv {G G' : GD} {cm cm' : List (Option CI)} {base base' : Heap} {ρ ρ' : List Addr} {H H' : Hp} {ci : CI} {f : Fr} (r : OutF G cm base ρ H ci f) (up : ∀ b o, base.get? b = some o → base'.get? b = some o) (m : ∀ d v, rep G cm ρ H d v → rep G' cm' ρ' H' d v) : OutF G' cm' base' ρ' H' ci f :=
  ⟨r.inj, fun i x h1 h2 => by
    obtain ⟨c, ob, w, q1, q2, q3, q4⟩ := r.at_ i x h1 h2
    refine ⟨c, ob, w, q1, up _ _ q2, q3, fun dd hd => ?_⟩
    obtain ⟨u, v, p1, p2, p3⟩ := q4 dd hd
    exact ⟨u, v, p1, p2, m _ _ p3⟩⟩
theorem OutB.ext {G : GD} {cm : List (Option CI)} {base : Heap} {ρ ρ' : List Addr} {H H' : Hp} {o : List Fr} (r : OutB G cm base ρ H o) (e : Ext ρ H ρ' H') : OutB G cm base ρ' H' o := fun d ci f h1 h2 h3 => (r d ci f h1 h2 h3).mv (fun _ _ z => z) fun d v z => z.mono (Deeper.refl _) e
/-- where a run stands -/
structure StR (G : GD) (cm : List (Option CI)) (X : Cx) (o : List Fr) (ρ : List Addr) (H : Hp) (mh : MH) (σ : L2.St) (fr : Fr) : Prop where
  gd : Gd G ρ H mh
  fr : FrR G cm ρ H σ fr
  out : OutB G cm X.base ρ H o
theorem StR.step {G : GD} {cm : List (Option CI)} {X : Cx} {o : List Fr} {ρ ρ' : List Addr} {H H' : Hp} {mh mh' : MH} {σ : L2.St} {fr : Fr} (s : StR G cm X o ρ H mh σ fr) (e : Ext ρ H ρ' H') (g : Gd G ρ' H' mh') : StR G cm X o ρ' H' mh' σ fr :=
  ⟨g, s.fr.ext e, s.out.ext e⟩

/-! ### results and wishes -/
def RK {α β : Type} (G : GD) (Y : GX) (X : Cx) (σ : L2.St) (rl : List Addr → Hp → α → β → Prop) (ρ : List Addr) (H : Hp) (r : R α) (Q : β → Hp → Prop) : Prop :=
  match r with
  | .ok d mh' => ∀ ρ' H' v, Ext ρ H ρ' H' → Gd G ρ' H' mh' → rl ρ' H' d v → Q v H'
  | .exc c mh' => ∃ W : WX, Takes X W ∧ ∀ ρ' H' dd, Ext ρ H ρ' H' → Gd G ρ' H' mh' → W (Y.cls c) dd σ H'
  | .stk => False
section
variable {G : GD} {Y : GX} {X : Cx} {σ : L2.St} {ρ ρ1 : List Addr} {H H1 : Hp} {α β γ δ : Type} {rl : List Addr → Hp → α → β → Prop} {rl2 : List Addr → Hp → γ → δ → Prop}
theorem RK.step {r : R α} {Q : β → Hp → Prop} (h : RK G Y X σ rl ρ H r Q) (e : Ext ρ H ρ1 H1) : RK G Y X σ rl ρ1 H1 r Q := by
  cases r with
  | ok d mh' => exact fun ρ' H' v e2 g r => h ρ' H' v (e.trans e2) g r
  | exc c mh' =>
    obtain ⟨W, t, h⟩ := h
    exact ⟨W, t, fun ρ' H' dd e2 g => h ρ' H' dd (e.trans e2) g⟩
  | stk => exact h
theorem RK.seq {r : R α} {f : α → MH → R γ} {Q1 : β → Hp → Prop} {Q : δ → Hp → Prop} (h : RK G Y X σ rl2 ρ H (r.bind f) Q)
    (k : ∀ d mh1 ρ1 H1 v, r = .ok d mh1 → Ext ρ H ρ1 H1 → Gd G ρ1 H1 mh1 → rl ρ1 H1 d v → RK G Y X σ rl2 ρ1 H1 (f d mh1) Q → Q1 v H1) : RK G Y X σ rl ρ H r Q1 := by
  cases r with
  | ok d mh' => exact fun ρ' H' v e2 g r => k d mh' ρ' H' v rfl e2 g r (RK.step h e2)
  | exc c mh' => exact h
  | stk => exact h
theorem Gv.use {r : R α} {T : (β → Hp → Prop) → Prop} {Q : β → Hp → Prop} (g : Gv G rl ρ H r T) (h : RK G Y X σ rl ρ H r Q) : T Q := by
  cases r with
  | ok d mh' => exact g Q h
  | exc c mh' => exact False.elim g
  | stk => exact False.elim h
end
section
variable (J : JC) (G : GD) (Y : GX) (cf : CF) (k : Nat)
def rB1 (_ : List Addr) (_ : Hp) (b : Bool) (c : Bool) : Prop := b = c
def SE (C : SC) (e : E) (a : Expr) : Prop := ∀ τ X cm o, CtxOk (G.tm τ) Y C k cm o X → ∀ ρ H mh σ fr, StR (G.tm τ) cm X o ρ H mh σ fr → ∀ Q : VK, RK (G.tm τ) Y X σ (rep (G.tm τ) cm) ρ H (evE Y.g cf o e fr mh) Q → wE X a σ H Q
def SEs (C : SC) (e : Es) (a : List Expr) : Prop := ∀ τ X cm o, CtxOk (G.tm τ) Y C k cm o X → ∀ ρ H mh σ fr, StR (G.tm τ) cm X o ρ H mh σ fr → ∀ Q : List V → Hp → Prop, RK (G.tm τ) Y X σ (reps (G.tm τ) cm) ρ H (evEs Y.g cf o e fr mh) Q → wA X a σ H Q
/-- a chain of and, or, as a value -/
def SB (C : SC) (an : Bool) (e : Es) (a : Expr) : Prop := ∀ τ X cm o, CtxOk (G.tm τ) Y C k cm o X → ∀ ρ H mh σ fr, StR (G.tm τ) cm X o ρ H mh σ fr → ∀ Q : VK, RK (G.tm τ) Y X σ rB1 ρ H (evB Y.g cf o an e fr mh) (fun b H' => Q (.bl b) H') → wE X a σ H Q
def ST (C : SC) (e : Ct) (a : Expr) : Prop := ∀ τ X cm o, CtxOk (G.tm τ) Y C k cm o X → ∀ ρ H mh σ fr, StR (G.tm τ) cm X o ρ H mh σ fr → ∀ Q : Bool → Hp → Prop, RK (G.tm τ) Y X σ rB1 ρ H (evT Y.g cf o e fr mh) Q → wT X a σ H Q
/-- a chain of tests -/
def SW (C : SC) (an : Bool) (e : Cs) (a : Expr) : Prop := ∀ τ X cm o, CtxOk (G.tm τ) Y C k cm o X → ∀ ρ H mh σ fr, StR (G.tm τ) cm X o ρ H mh σ fr → ∀ Q : Bool → Hp → Prop, RK (G.tm τ) Y X σ rB1 ρ H (evTs Y.g cf o an e fr mh) Q → wW X a σ H Q
/-- calls: of a def of the program, of a lambda -/
def CallF : Prop := ∀ τ C X cm o, CtxOk (G.tm τ) Y C k cm o X → ∀ ρ H mh σ fr, StR (G.tm τ) cm X o ρ H mh σ fr → ∀ i xs vs us pins s (Q : VK), Inv X pins σ H s → reps (G.tm τ) cm ρ H xs vs → Vals vs us →
  RK (G.tm τ) Y X σ (rep (G.tm τ) cm) ρ H (cf (.fn i) (fr :: o) xs mh) Q → wpAny (model X.prog X.w) X.A (call (.ref (Y.fad i)) us) (EP X pins σ Q) X.xe s
def CallL : Prop := ∀ τ C X cm o, CtxOk (G.tm τ) Y C k cm o X → ∀ ρ H mh σ fr, StR (G.tm τ) cm X o ρ H mh σ fr → ∀ l d v L f pins s (Q : VK), Inv X pins σ H s → rep (G.tm τ) cm ρ H (.clo l d) v → Y.g.lams[l]? = some L → frameAt o d = some f → L.cap.all (fun i => Nat.blt i f.length) = true →
  RK (G.tm τ) Y X σ (rep (G.tm τ) cm) ρ H (cf (.lam l (L.cap.map (get f))) (fr :: o) [] mh) Q → ∀ a, v = .ref a → wpAny (model X.prog X.w) X.A (call (.ref a) []) (EP X pins σ Q) X.xe s
end
end FS

-- text FsH
set_option Elab.async false
set_option linter.all false
set_option maxHeartbeats 1000000
/-! FsH: sound expressions, construct by construct. -/
namespace FS
open PySem PySem.Spec PyProof.Rows L2 LamX

/-- neither a slice nor starred -/
def pl : Expr → Bool
  | .Slice .. => false
  | .Starred .. => false
  | _ => true
theorem pl_ix {b : Expr} (h : pl b = true) : PlainIx b := by
  intro o i
  cases b <;> first | rfl | (cases h)
theorem pl_star {e : Expr} {es : List Expr} {env : Env} (h : pl e = true) : starEach (e :: es) env = (false, eval e env) :: starEach es env := by
  cases e <;> first | rfl | (cases h)
theorem pl_none : ∀ {es : List Expr} {env : Env} {pos : Pos}, es.all pl = true → (backTo pos (starEach es env)).any (·.1) = false
  | [], _, _, _ => rfl
  | e :: es, env, pos, h => by
    rw [List.all_cons, Bool.and_eq_true] at h
    rw [pl_star h.1]
    unfold backTo
    rw [List.map_cons, List.any_cons]
    exact pl_none (pos := pos) h.2
/-- tests by their value's truth -/
def tst : Expr → Bool
  | .UnaryOp .Not _ _ => false
  | .BoolOp .. => false
  | .IfExp .. => false
  | .Compare .. => false
  | _ => true
theorem tst_eq {a : Expr} (h : tst a = true) (env : Env) (whole : Sem Value) : isTrue a env whole = (do let v ← whole; standAt a.pos; holding [v] (truthy v)) := by
  cases a <;> first
    | rfl
    | (cases h)
    | (rename_i op _ _; cases op <;> first | rfl | (cases h))

section
variable {G : GD} {Y : GX} {cf : CF} {k : Nat} {C : SC} {cm : List (Option CI)} {o : List Fr} {X : Cx}
theorem CtxOk.units (cx : CtxOk G Y C k cm o X) : X.A.units + 64 < cLine := cx.room.units
theorem CtxOk.ndX (cx : CtxOk G Y C k cm o X) : X.N.Nodup := by rw [cx.N]; exact cx.nd
/-! ### atoms -/
theorem se_non {i : Nat} {pos : Pos} : SE G Y cf k C (.k .non) (.Constant .none i pos) := fun τ X cm o cx ρ H mh σ fr st Q h => by
  unfold evE at h
  exact of_pe pe_non (h ρ H _ (Ext.refl _ _) st.gd (by unfold rep; rfl))
theorem se_bl {b : Bool} {i : Nat} {pos : Pos} : SE G Y cf k C (.k (.bl b)) (.Constant (.bool b) i pos) := fun τ X cm o cx ρ H mh σ fr st Q h => by
  unfold evE at h
  exact of_pe pe_bl (h ρ H _ (Ext.refl _ _) st.gd (by unfold rep; rfl))
theorem se_int {n : Int} {i : Nat} {pos : Pos} : SE G Y cf k C (.k (.int n)) (.Constant (.int n) i pos) := fun τ X cm o cx ρ H mh σ fr st Q h => by
  unfold evE at h
  exact of_pe pe_int (h ρ H _ (Ext.refl _ _) st.gd (by unfold rep; rfl))
theorem se_str {x : List Nat} {y : Str} {i : Nat} {pos : Pos} (e : y = SX.S x) : SE G Y cf k C (.k (.str x)) (.Constant (.str y) i pos) := fun τ X cm o cx ρ H mh σ fr st Q h => by
  unfold evE at h
  subst e
  exact of_pe pe_str (h ρ H _ (Ext.refl _ _) st.gd (by unfold rep; rfl))
theorem se_var {i : Nat} {x : Str} {pos : Pos} (hN : C.N[i]? = some x) (hv : Vis C.sc x) (hd : (x == ("__debug__" : Str)) = false) (hcd : (x == ("__classdict__" : Str)) = false) : SE G Y cf k C (.var i) (.Name x pos) := fun τ X cm o cx ρ H mh σ fr st Q h => by
  unfold evE R.opt at h
  split at h
  · rename_i d hg
    obtain ⟨v, e1, e2⟩ := st.fr.at_ i d hg
    exact of_pe (pe_var (by rw [cx.N]; exact hN) (by rw [cx.sc]; exact hv) hd hcd) ⟨v, e1, h ρ H v (Ext.refl _ _) st.gd e2⟩
  · exact False.elim h
theorem gl_of (cx : CtxOk G Y C k cm o X) {x : Str} (h : C.sc.names.lookup x = some .globalImplicit) : Gl X x := by
  show X.env.scope.names.lookup x = _
  rw [cx.sc]
  exact h
theorem se_glb {J : JC} (ok : GOk J G Y) {i : Nat} {x : Str} {pos : Pos} (hm : J.gln[i]? = some x) (hl : C.sc.names.lookup x = some .globalImplicit) (hd : (x == ("__debug__" : Str)) = false) : SE G Y cf k C (.glb i) (.Name x pos) := fun τ X cm o cx ρ H mh σ fr st Q h => by
  unfold evE R.opt at h
  split at h
  · rename_i d hd2
    obtain ⟨u, v, e1, e2, e3⟩ := ok.glb i x d hm hd2
    exact of_pe (pe_glob (gl_of cx hl) (by rw [cx.mg]; exact e1) e2 hd) (h ρ H v (Ext.refl _ _) st.gd (e3 τ cm ρ H))
  · exact False.elim h

/-! ### operations -/
variable {a b c : E} {a' b' c' : Expr}
theorem se_bin {op : Bop} {pos : Pos} (ha : SE G Y cf k C a a') (hb : SE G Y cf k C b b') : SE G Y cf k C (.bin op a b) (.BinOp a' (opB op) b' pos) := fun τ X cm o cx ρ H mh σ fr st Q h => by
  unfold evE at h
  refine of_pe (pe_op (op_B op) pe_w pe_w) ?_
  refine ha τ X cm o cx ρ H mh σ fr st _ (h.seq fun d1 mh1 ρ1 H1 v1 _ e1 g1 r1 h1 => ?_)
  refine hb τ X cm o cx ρ1 H1 mh1 σ fr (st.step e1 g1) _ (h1.seq fun d2 mh2 ρ2 H2 v2 _ e2 g2 r2 h2 => ?_)
  rw [cx.K]
  exact (binV_ok g2 (r1.mono (Deeper.refl _) e2) r2).use h2
theorem se_neg {pos : Pos} (ha : SE G Y cf k C a a') : SE G Y cf k C (.neg a) (.UnaryOp .USub a' pos) := fun τ X cm o cx ρ H mh σ fr st Q h => by
  unfold evE at h
  refine of_pe (pe_un un_neg pe_w) ?_
  refine ha τ X cm o cx ρ H mh σ fr st _ (h.seq fun d1 mh1 ρ1 H1 v1 _ e1 g1 r1 h1 => ?_)
  split at h1
  · unfold rep at r1
    exact ⟨_, r1, h1 ρ1 H1 _ (Ext.refl _ _) g1 (by unfold rep; rfl)⟩
  · exact False.elim h1
theorem se_cmp {op : Cop} {pos : Pos} (ha : SE G Y cf k C a a') (hb : SE G Y cf k C b b') (hm : behindInMarks (opC op) b' = false) : SE G Y cf k C (.cmp op a b) (.Compare a' [opC op] [b'] pos) := fun τ X cm o cx ρ H mh σ fr st Q h => by
  unfold evE at h
  refine of_pe (pe_cmpR (op_C cx.units op) pe_w pe_w hm) ?_
  refine ha τ X cm o cx ρ H mh σ fr st _ (h.seq fun d1 mh1 ρ1 H1 v1 _ e1 g1 r1 h1 => ?_)
  refine hb τ X cm o cx ρ1 H1 mh1 σ fr (st.step e1 g1) _ (h1.seq fun d2 mh2 ρ2 H2 v2 _ e2 g2 r2 h2 => ?_)
  rw [cx.K]
  split at h2
  · rename_i c hc
    exact cmpV_ok g2 (r1.mono (Deeper.refl _) e2) r2 hc Q (h2 ρ2 H2 _ (Ext.refl _ _) g2 (by unfold rep; rfl))
  · exact False.elim h2
theorem st_cmp {op : Cop} {pos : Pos} (ha : SE G Y cf k C a a') (hb : SE G Y cf k C b b') (hm : behindInMarks (opC op) b' = false) : ST G Y cf k C (.cmp op a b) (.Compare a' [opC op] [b'] pos) := fun τ X cm o cx ρ H mh σ fr st Q h => by
  unfold evT at h
  refine of_pt (pt_cmpR (op_C cx.units op) pe_w pe_w hm) ?_
  refine ha τ X cm o cx ρ H mh σ fr st _ (h.seq fun d1 mh1 ρ1 H1 v1 _ e1 g1 r1 h1 => ?_)
  refine hb τ X cm o cx ρ1 H1 mh1 σ fr (st.step e1 g1) _ (h1.seq fun d2 mh2 ρ2 H2 v2 _ e2 g2 r2 h2 => ?_)
  rw [cx.K]
  unfold R.opt at h2
  split at h2
  · rename_i c hc
    exact cmpV_ok g2 (r1.mono (Deeper.refl _) e2) r2 hc (fun x H' => ∃ k, x = .bl k ∧ Q k H') ⟨c, rfl, h2 ρ2 H2 c (Ext.refl _ _) g2 rfl⟩
  · exact False.elim h2
theorem se_chn {op op2 : Cop} {pos : Pos} (ha : SE G Y cf k C a a') (hb : SE G Y cf k C b b') (hc : SE G Y cf k C c c') (hm : lastMarks [opC op, opC op2] [b', c'] = false) : SE G Y cf k C (.chn op op2 a b c) (.Compare a' [opC op, opC op2] [b', c'] pos) := fun τ X cm o cx ρ H mh σ fr st Q h => by
  unfold evE at h
  refine of_pe (pe_chain (op_C cx.units op) (op_C cx.units op2) pe_w pe_w pe_w hm) ?_
  refine ha τ X cm o cx ρ H mh σ fr st _ (h.seq fun d1 mh1 ρ1 H1 v1 _ e1 g1 r1 h1 => ?_)
  refine hb τ X cm o cx ρ1 H1 mh1 σ fr (st.step e1 g1) _ (h1.seq fun d2 mh2 ρ2 H2 v2 _ e2 g2 r2 h2 => ?_)
  rw [cx.K]
  split at h2
  · rename_i hq
    refine cmpV_ok g2 (r1.mono (Deeper.refl _) e2) r2 hq _ ⟨true, rfl, ?_⟩
    rw [if_pos rfl]
    refine hc τ X cm o cx ρ2 H2 mh2 σ fr ((st.step e1 g1).step e2 g2) _ (h2.seq fun d3 mh3 ρ3 H3 v3 _ e3 g3 r3 h3 => ?_)
    split at h3
    · rename_i q hq2
      exact cmpV_ok g3 (r2.mono (Deeper.refl _) e3) r3 hq2 Q (h3 ρ3 H3 _ (Ext.refl _ _) g3 (by unfold rep; rfl))
    · exact False.elim h3
  · rename_i hq
    refine cmpV_ok g2 (r1.mono (Deeper.refl _) e2) r2 hq _ ⟨false, rfl, ?_⟩
    rw [if_neg Bool.false_ne_true]
    exact h2 ρ2 H2 _ (Ext.refl _ _) g2 (by unfold rep; rfl)
  · exact False.elim h2
theorem st_chn {op op2 : Cop} {pos : Pos} (ha : SE G Y cf k C a a') (hb : SE G Y cf k C b b') (hc : SE G Y cf k C c c') (hm : lastMarks [opC op, opC op2] [b', c'] = false) : ST G Y cf k C (.chn op op2 a b c) (.Compare a' [opC op, opC op2] [b', c'] pos) := fun τ X cm o cx ρ H mh σ fr st Q h => by
  unfold evT at h
  refine of_pt (pt_chain (op_C cx.units op) (op_C cx.units op2) pe_w pe_w pe_w hm) ?_
  refine ha τ X cm o cx ρ H mh σ fr st _ (h.seq fun d1 mh1 ρ1 H1 v1 _ e1 g1 r1 h1 => ?_)
  refine hb τ X cm o cx ρ1 H1 mh1 σ fr (st.step e1 g1) _ (h1.seq fun d2 mh2 ρ2 H2 v2 _ e2 g2 r2 h2 => ?_)
  rw [cx.K]
  split at h2
  · rename_i hq
    refine cmpV_ok g2 (r1.mono (Deeper.refl _) e2) r2 hq _ ⟨true, rfl, ?_⟩
    rw [if_pos rfl]
    refine hc τ X cm o cx ρ2 H2 mh2 σ fr ((st.step e1 g1).step e2 g2) _ (h2.seq fun d3 mh3 ρ3 H3 v3 _ e3 g3 r3 h3 => ?_)
    unfold R.opt at h3
    split at h3
    · rename_i q hq2
      exact cmpV_ok g3 (r2.mono (Deeper.refl _) e3) r3 hq2 (fun x H' => ∃ k, x = .bl k ∧ Q k H') ⟨q, rfl, h3 ρ3 H3 _ (Ext.refl _ _) g3 rfl⟩
    · exact False.elim h3
  · rename_i hq
    refine cmpV_ok g2 (r1.mono (Deeper.refl _) e2) r2 hq _ ⟨false, rfl, ?_⟩
    rw [if_neg Bool.false_ne_true]
    exact ⟨false, rfl, h2 ρ2 H2 _ (Ext.refl _ _) g2 rfl⟩
  · exact False.elim h2
theorem se_ix {pos : Pos} (ha : SE G Y cf k C a a') (hb : SE G Y cf k C b b') (hp : pl b' = true) : SE G Y cf k C (.ix a b) (.Subscript a' b' pos) := fun τ X cm o cx ρ H mh σ fr st Q h => by
  unfold evE at h
  refine of_pe (pe_ix ix_seq pe_w pe_w (pl_ix hp)) ?_
  refine ha τ X cm o cx ρ H mh σ fr st _ (h.seq fun d1 mh1 ρ1 H1 v1 _ e1 g1 r1 h1 => ?_)
  refine hb τ X cm o cx ρ1 H1 mh1 σ fr (st.step e1 g1) _ (h1.seq fun d2 mh2 ρ2 H2 v2 _ e2 g2 r2 h2 => ?_)
  rw [cx.K]
  unfold R.opt at h2
  split at h2
  · rename_i d hd
    exact ixV_ok g2 (r1.mono (Deeper.refl _) e2) r2 hd Q fun w rw' => h2 ρ2 H2 w (Ext.refl _ _) g2 rw'
  · exact False.elim h2
/-- a part of a slice -/
def SO (G : GD) (Y : GX) (cf : CF) (k : Nat) (C : SC) : E → Option Expr → Prop
  | .nop, none => True
  | .nop, some _ => False
  | _, none => False
  | e, some a => SE G Y cf k C e a
theorem nop_iff {e : E} (h : e ≠ .nop) : e.isNop = false := by cases e <;> first | rfl | exact absurd rfl h
theorem so_some {e : E} {b : Expr} (h : SO G Y cf k C e (some b)) : e.isNop = false ∧ SE G Y cf k C e b := by
  cases e <;> first | exact ⟨rfl, h⟩ | exact False.elim h
theorem so_none {e : E} (h : SO G Y cf k C e none) : e = .nop := by
  cases e <;> first | rfl | exact False.elim h
/-- the reading of a slice's part -/
def wO (X : Cx) : Option Expr → TO
  | none => tNoPart
  | some b => tPart (wE X b)
theorem po_w {X : Cx} : ∀ {p : Option Expr}, PO X p (wO X p)
  | none => po_none
  | some b => po_some pe_w
theorem so_seq {τ : List Addr} {γ δ : Type} {rl2 : List Addr → Hp → γ → δ → Prop} {e : E} {p : Option Expr} (hs : SO G Y cf k C e p) (cx : CtxOk (G.tm τ) Y C k cm o X) {ρ : List Addr} {H : Hp} {mh : MH} {σ : L2.St} {fr : Fr} (st : StR (G.tm τ) cm X o ρ H mh σ fr) {f : Option Int → MH → R γ} {Q : δ → Hp → Prop} {Q1 : Option Int → Hp → Prop}
    (h : RK (G.tm τ) Y X σ rl2 ρ H ((evE Y.g cf o e fr mh).bind fun l h2 => match opE e.isNop l with | some l => f l h2 | none => .stk) Q)
    (kk : ∀ i mh1 ρ1 H1, Ext ρ H ρ1 H1 → Gd (G.tm τ) ρ1 H1 mh1 → RK (G.tm τ) Y X σ rl2 ρ1 H1 (f i mh1) Q → Q1 i H1) : wO X p σ H Q1 := by
  cases p with
  | none =>
    have e0 := so_none hs
    subst e0
    unfold evE at h
    exact kk none mh ρ H (Ext.refl _ _) st.gd h
  | some b =>
    obtain ⟨hn, hs⟩ := so_some hs
    show wE X b σ H fun x H1 => ∃ i, x = .int i ∧ Q1 (some i) H1
    refine hs τ X cm o cx ρ H mh σ fr st _ (h.seq fun d mh1 ρ1 H1 v _ e1 g1 r1 h1 => ?_)
    rw [hn] at h1
    cases d with
    | int i =>
      unfold rep at r1
      exact ⟨_, r1, kk _ mh1 ρ1 H1 e1 g1 h1⟩
    | _ => exact False.elim h1
theorem se_sl {lo hi : E} {lo' hi' : Option Expr} {pos p2 : Pos} (ha : SE G Y cf k C a a') (hl : SO G Y cf k C lo lo') (hh : SO G Y cf k C hi hi') : SE G Y cf k C (.sl a lo hi) (.Subscript a' (.Slice lo' hi' none p2) pos) := fun τ X cm o cx ρ H mh σ fr st Q h => by
  unfold evE at h
  refine of_pe (pe_slice sl_any pe_w po_w po_w) ?_
  refine ha τ X cm o cx ρ H mh σ fr st _ (h.seq fun d1 mh1 ρ1 H1 v1 _ e1 g1 r1 h1 => ?_)
  refine so_seq hl cx (st.step e1 g1) h1 fun l mh2 ρ2 H2 e2 g2 h2 => ?_
  refine so_seq hh cx ((st.step e1 g1).step e2 g2) h2 fun u mh3 ρ3 H3 e3 g3 h3 => ?_
  rw [cx.K]
  unfold R.opt at h3
  split at h3
  · rename_i d hd
    exact (slV_ok g3 ((r1.mono (Deeper.refl _) e2).mono (Deeper.refl _) e3) hd).use h3
  · exact False.elim h3

/-! ### tests -/
theorem rb_ok {σ : L2.St} {ρ : List Addr} {H : Hp} {mh : MH} {b : Bool} {Q : Bool → Hp → Prop} (g : Gd G ρ H mh) (h : RK G Y X σ rB1 ρ H (.ok b mh) Q) : Q b H := h ρ H b (Ext.refl _ _) g rfl
theorem st_v (ht : tst a' = true) (ha : SE G Y cf k C a a') : ST G Y cf k C (.v a) a' := fun τ X cm o cx ρ H mh σ fr st Q h => by
  unfold evT at h
  refine of_pt (pt_truth pe_w (tst_eq ht _)) ?_
  refine ha τ X cm o cx ρ H mh σ fr st _ (h.seq fun d1 mh1 ρ1 H1 v1 _ e1 g1 r1 h1 => ?_)
  unfold R.opt at h1
  split at h1
  · rename_i b hb
    exact ⟨b, by rw [cx.K]; exact truV_ok g1 r1 hb, rb_ok g1 h1⟩
  · exact False.elim h1
theorem st_nt {t : Ct} {pos : Pos} (ha : ST G Y cf k C t a') : ST G Y cf k C (.nt t) (.UnaryOp .Not a' pos) := fun τ X cm o cx ρ H mh σ fr st Q h => by
  unfold evT at h
  refine of_pt (pt_not pt_w) ?_
  refine ha τ X cm o cx ρ H mh σ fr st _ (h.seq fun d1 mh1 ρ1 H1 v1 _ e1 g1 r1 h1 => ?_)
  have r1 : d1 = v1 := r1
  subst r1
  exact rb_ok g1 h1
theorem st_ife {t u w : Ct} {pos : Pos} (ht : ST G Y cf k C t a') (hu : ST G Y cf k C u b') (hw : ST G Y cf k C w c') : ST G Y cf k C (.ife t u w) (.IfExp a' b' c' pos) := fun τ X cm o cx ρ H mh σ fr st Q h => by
  unfold evT at h
  have key : wT X a' σ H fun b H1 => if b = true then wT X b' σ H1 Q else wT X c' σ H1 Q := by
    refine ht τ X cm o cx ρ H mh σ fr st _ (h.seq fun d1 mh1 ρ1 H1 v1 _ e1 g1 r1 h1 => ?_)
    have r1 : d1 = v1 := r1
    subst r1
    cases d1
    · rw [if_neg Bool.false_ne_true]
      exact hw τ X cm o cx ρ1 H1 mh1 σ fr (st.step e1 g1) Q h1
    · rw [if_pos rfl]
      exact hu τ X cm o cx ρ1 H1 mh1 σ fr (st.step e1 g1) Q h1
  intro pins s I
  show wpAny _ _ (do if ← isTrue a' X.env (eval a' X.env) then isTrue b' X.env (eval b' X.env) else isTrue c' X.env (eval c' X.env)) _ _ s
  refine wpAny_bind (thn (key pins s I) fun b s1 ⟨H1, I1, q⟩ => ?_)
  cases b
  · exact q pins s1 I1
  · exact q pins s1 I1
theorem se_ife {t : Ct} {pos : Pos} (ht : ST G Y cf k C t a') (hb : SE G Y cf k C b b') (hc : SE G Y cf k C c c') : SE G Y cf k C (.ife t b c) (.IfExp a' b' c' pos) := fun τ X cm o cx ρ H mh σ fr st Q h => by
  unfold evE at h
  refine of_pe (pe_ifExp pt_w pe_w pe_w) ?_
  refine ht τ X cm o cx ρ H mh σ fr st _ (h.seq fun d1 mh1 ρ1 H1 v1 _ e1 g1 r1 h1 => ?_)
  have r1 : d1 = v1 := r1
  subst r1
  cases d1
  · rw [if_neg Bool.false_ne_true]
    exact hc τ X cm o cx ρ1 H1 mh1 σ fr (st.step e1 g1) Q h1
  · rw [if_pos rfl]
    exact hb τ X cm o cx ρ1 H1 mh1 σ fr (st.step e1 g1) Q h1
theorem se_bnot {pos : Pos} (ha : SE G Y cf k C a a') : SE G Y cf k C (.bnot a) (.UnaryOp .Not a' pos) := fun τ X cm o cx ρ H mh σ fr st Q h => by
  unfold evE at h
  refine of_pe (pe_not pe_w) ?_
  refine ha τ X cm o cx ρ H mh σ fr st _ (h.seq fun d1 mh1 ρ1 H1 v1 _ e1 g1 r1 h1 => ?_)
  split at h1
  · unfold rep at r1
    exact ⟨_, r1, h1 ρ1 H1 _ (Ext.refl _ _) g1 (by unfold rep; rfl)⟩
  · exact False.elim h1
/-! chains -/
variable {es : Es} {cs : Cs} {t : Ct} {es' : List Expr} {pos : Pos}
theorem sb_one {an : Bool} {op : BoolOp} (ha : SE G Y cf k C a a') : SB G Y cf k C an (.cons a .nil) (.BoolOp op [a'] pos) := fun τ X cm o cx ρ H mh σ fr st Q h => by
  unfold evB at h
  refine of_pe (pe_one pe_w) ?_
  refine ha τ X cm o cx ρ H mh σ fr st _ (h.seq fun d1 mh1 ρ1 H1 v1 _ e1 g1 r1 h1 => ?_)
  split at h1
  · unfold rep at r1
    subst r1
    exact h1 ρ1 H1 _ (Ext.refl _ _) g1 rfl
  · exact False.elim h1
theorem sb_and (hn : es.isNil = false) (ha : SE G Y cf k C a a') (hb : SB G Y cf k C true es (.BoolOp .And (b' :: es') pos)) : SB G Y cf k C true (.cons a es) (.BoolOp .And (a' :: b' :: es') pos) := fun τ X cm o cx ρ H mh σ fr st Q h => by
  unfold evB at h
  refine of_pe (pe_and pe_w pe_w) ?_
  refine ha τ X cm o cx ρ H mh σ fr st _ (h.seq fun d1 mh1 ρ1 H1 v1 _ e1 g1 r1 h1 => ?_)
  split at h1
  · rename_i c _
    unfold rep at r1
    refine ⟨c, r1, ?_⟩
    rw [hn, if_neg Bool.false_ne_true] at h1
    cases c
    · rw [if_neg Bool.false_ne_true]
      exact h1 ρ1 H1 _ (Ext.refl _ _) g1 rfl
    · rw [if_pos rfl]
      exact hb τ X cm o cx ρ1 H1 mh1 σ fr (st.step e1 g1) Q h1
  · exact False.elim h1
theorem sb_or (hn : es.isNil = false) (ha : SE G Y cf k C a a') (hb : SB G Y cf k C false es (.BoolOp .Or (b' :: es') pos)) : SB G Y cf k C false (.cons a es) (.BoolOp .Or (a' :: b' :: es') pos) := fun τ X cm o cx ρ H mh σ fr st Q h => by
  unfold evB at h
  refine of_pe (pe_or pe_w pe_w) ?_
  refine ha τ X cm o cx ρ H mh σ fr st _ (h.seq fun d1 mh1 ρ1 H1 v1 _ e1 g1 r1 h1 => ?_)
  split at h1
  · rename_i c _
    unfold rep at r1
    refine ⟨c, r1, ?_⟩
    rw [hn, if_neg Bool.false_ne_true] at h1
    cases c
    · rw [if_neg Bool.false_ne_true]
      exact hb τ X cm o cx ρ1 H1 mh1 σ fr (st.step e1 g1) Q h1
    · rw [if_pos rfl]
      exact h1 ρ1 H1 _ (Ext.refl _ _) g1 rfl
  · exact False.elim h1
theorem se_bop {an : Bool} (ha : SB G Y cf k C an es a') : SE G Y cf k C (.bop an es) a' := fun τ X cm o cx ρ H mh σ fr st Q h => by
  unfold evE at h
  refine ha τ X cm o cx ρ H mh σ fr st Q (h.seq fun d1 mh1 ρ1 H1 v1 _ e1 g1 r1 h1 => ?_)
  have r1 : d1 = v1 := r1
  subst r1
  exact h1 ρ1 H1 _ (Ext.refl _ _) g1 (by unfold rep; rfl)
theorem sw_and1 (ha : ST G Y cf k C t a') : SW G Y cf k C true (.cons t .nil) (.BoolOp .And [a'] pos) := fun τ X cm o cx ρ H mh σ fr st Q h => by
  unfold evTs at h
  refine of_pw (pw_and1 pt_w) ?_
  refine ha τ X cm o cx ρ H mh σ fr st _ (h.seq fun d1 mh1 ρ1 H1 v1 _ e1 g1 r1 h1 => ?_)
  have r1 : d1 = v1 := r1
  subst r1
  unfold evTs at h1
  cases d1
  · exact rb_ok g1 h1
  · exact rb_ok g1 h1
theorem sw_or1 (ha : ST G Y cf k C t a') : SW G Y cf k C false (.cons t .nil) (.BoolOp .Or [a'] pos) := fun τ X cm o cx ρ H mh σ fr st Q h => by
  unfold evTs at h
  refine of_pw (pw_or1 pt_w) ?_
  refine ha τ X cm o cx ρ H mh σ fr st _ (h.seq fun d1 mh1 ρ1 H1 v1 _ e1 g1 r1 h1 => ?_)
  have r1 : d1 = v1 := r1
  subst r1
  unfold evTs at h1
  cases d1
  · exact rb_ok g1 h1
  · exact rb_ok g1 h1
theorem sw_and (ha : ST G Y cf k C t a') (hb : SW G Y cf k C true cs (.BoolOp .And (b' :: es') pos)) : SW G Y cf k C true (.cons t cs) (.BoolOp .And (a' :: b' :: es') pos) := fun τ X cm o cx ρ H mh σ fr st Q h => by
  unfold evTs at h
  refine of_pw (pw_and pt_w pw_w) ?_
  refine ha τ X cm o cx ρ H mh σ fr st _ (h.seq fun d1 mh1 ρ1 H1 v1 _ e1 g1 r1 h1 => ?_)
  have r1 : d1 = v1 := r1
  subst r1
  cases d1
  · exact rb_ok g1 h1
  · rw [if_pos rfl]
    exact hb τ X cm o cx ρ1 H1 mh1 σ fr (st.step e1 g1) Q h1
theorem sw_or (ha : ST G Y cf k C t a') (hb : SW G Y cf k C false cs (.BoolOp .Or (b' :: es') pos)) : SW G Y cf k C false (.cons t cs) (.BoolOp .Or (a' :: b' :: es') pos) := fun τ X cm o cx ρ H mh σ fr st Q h => by
  unfold evTs at h
  refine of_pw (pw_or pt_w pw_w) ?_
  refine ha τ X cm o cx ρ H mh σ fr st _ (h.seq fun d1 mh1 ρ1 H1 v1 _ e1 g1 r1 h1 => ?_)
  have r1 : d1 = v1 := r1
  subst r1
  cases d1
  · rw [if_neg Bool.false_ne_true]
    exact hb τ X cm o cx ρ1 H1 mh1 σ fr (st.step e1 g1) Q h1
  · exact rb_ok g1 h1
theorem st_bop {an : Bool} (ha : SW G Y cf k C an cs a') : ST G Y cf k C (.bop an cs) a' := fun τ X cm o cx ρ H mh σ fr st Q h => by
  unfold evT at h
  exact of_pt pw_w.pt (ha τ X cm o cx ρ H mh σ fr st Q h)

/-! ### argument lists, displays -/
theorem ses_nil : SEs G Y cf k C .nil [] := fun τ X cm o cx ρ H mh σ fr st Q h => by
  unfold evEs at h
  exact of_pa pa_nil (h ρ H [] (Ext.refl _ _) st.gd reps.nil)
theorem ses_cons (hp : pl a' = true) (ha : SE G Y cf k C a a') (hb : SEs G Y cf k C es es') : SEs G Y cf k C (.cons a es) (a' :: es') := fun τ X cm o cx ρ H mh σ fr st Q h => by
  unfold evEs at h
  refine of_pa (pa_cons pe_w pa_w (pl_star hp)) ?_
  refine ha τ X cm o cx ρ H mh σ fr st _ (h.seq fun d1 mh1 ρ1 H1 v1 _ e1 g1 r1 h1 => ?_)
  refine hb τ X cm o cx ρ1 H1 mh1 σ fr (st.step e1 g1) _ (h1.seq fun d2 mh2 ρ2 H2 v2 _ e2 g2 r2 h2 => ?_)
  exact h2 ρ2 H2 _ (Ext.refl _ _) g2 (reps.cons (r1.mono (Deeper.refl _) e2) r2)
theorem se_tup {i : Nat} (ha : SEs G Y cf k C es es') : SE G Y cf k C (.tup es) (.Tuple es' i pos) := fun τ X cm o cx ρ H mh σ fr st Q h => by
  unfold evE at h
  refine of_pe (pe_tup pa_w) ?_
  refine ha τ X cm o cx ρ H mh σ fr st _ (h.seq fun d1 mh1 ρ1 H1 v1 _ e1 g1 r1 h1 => ?_)
  split at h1
  · rename_i hz
    refine ⟨by rw [← r1.length]; exact le_line hz, fun p hp => h1 ρ1 _ _ (Ext.upd hp) (g1.new hp) ?_⟩
    unfold rep
    exact ⟨p, v1, rfl, .inl ⟨g1.fresh2 hp, upd_same⟩, r1.mono (Deeper.refl _) (Ext.upd hp) _ _⟩
  · exact False.elim h1
theorem se_lst {m : Bool} (ha : SEs G Y cf k C es es') : SE G Y cf k C (.lst m es) (.List es' pos) := fun τ X cm o cx ρ H mh σ fr st Q h => by
  unfold evE at h
  refine of_pe (pe_lst pa_w) ?_
  refine ha τ X cm o cx ρ H mh σ fr st _ (h.seq fun d1 mh1 ρ1 H1 v1 _ e1 g1 r1 h1 => ?_)
  split at h1
  · rename_i hz
    refine ⟨by rw [← r1.length]; exact le_line hz, fun p hp => ?_⟩
    cases m
    · refine h1 ρ1 _ _ (Ext.upd hp) (g1.new hp) ?_
      unfold rep
      exact ⟨p, v1, rfl, ⟨g1.fresh2 hp, upd_same⟩, r1.mono (Deeper.refl _) (Ext.upd hp) _ _⟩
    · dsimp only at h1
      split at h1
      · rename_i hc
        refine h1 _ _ _ (Ext.mutNew hp) (g1.mutNew hp (r1.bare _ _ hc)) ?_
        unfold rep
        refine ⟨p, rfl, ?_⟩
        rw [← g1.len, List.getElem?_append_right (Nat.le_refl _), Nat.sub_self]
        rfl
      · exact False.elim h1
  · exact False.elim h1
/-- texts of parts -/
theorem txtV_ok {d : D} {x : List Nat} {v : V} {ρ : List Addr} {H : Hp} {Q : VK} (h : txtV d = some x) (r : rep G cm ρ H d v) (q : Q (.str (SX.S x)) H) :
    (∃ y : Str, v = .str y ∧ y.length ≤ sizeLine ∧ Q (.str y) H) ∨ ∃ i : Int, v = .int i ∧ i.natAbs.log2 < 1920 ∧ Q (.str (toString i)) H := by
  unfold txtV at h
  split at h
  · split at h
    · rename_i hz
      cases h
      unfold rep at r
      exact .inl ⟨_, r, by rw [SX.S_len]; exact le_line hz, q⟩
    · cases h
  · split at h
    · rename_i hz
      cases h
      unfold rep at r
      exact .inr ⟨_, r, of_decide_eq_true hz, by rw [show ((toString _ : String) : Str) = SX.S _ from str_int _]; exact q⟩
    · cases h
  · cases h
/-- a part of an f-string -/
def SP (G : GD) (Y : GX) (cf : CF) (k : Nat) (C : SC) (e : E) (p : Expr) : Prop := ∀ τ X cm o, CtxOk (G.tm τ) Y C k cm o X → ∀ ρ H mh σ fr, StR (G.tm τ) cm X o ρ H mh σ fr → ∀ Q : VK,
  RK (G.tm τ) Y X σ (rep (G.tm τ) cm) ρ H (evE Y.g cf o e fr mh) (fun v H' => (∃ y : Str, v = .str y ∧ y.length ≤ sizeLine ∧ Q (.str y) H') ∨ ∃ i : Int, v = .int i ∧ i.natAbs.log2 < 1920 ∧ Q (.str (toString i)) H') → wE X p σ H Q
theorem sp_fmt (ha : SE G Y cf k C a a') : SP G Y cf k C a (.FormattedValue a' (-1) none pos) := fun τ X cm o cx ρ H mh σ fr st Q h => of_pe (pe_fmt pe_w) (ha τ X cm o cx ρ H mh σ fr st _ h)
theorem sp_str {x : List Nat} {y : Str} {i : Nat} (e : y = SX.S x) : SP G Y cf k C (.k (.str x)) (.Constant (.str y) i pos) := fun τ X cm o cx ρ H mh σ fr st Q h => by
  unfold evE at h
  subst e
  rcases h ρ H _ (Ext.refl _ _) st.gd (by unfold rep; rfl) with ⟨y, e1, _, q⟩ | ⟨i, e1, _, _⟩
  · cases e1
    exact of_pe pe_str q
  · cases e1
inductive SPs (G : GD) (Y : GX) (cf : CF) (k : Nat) (C : SC) : Es → List Expr → Prop
  | nil : SPs G Y cf k C .nil []
  | cons {e : E} {p : Expr} {es : Es} {ps : List Expr} : SP G Y cf k C e p → SPs G Y cf k C es ps → SPs G Y cf k C (.cons e es) (p :: ps)
theorem pj_w {X : Cx} : ∀ {ps : List Expr}, PJ X ps (ps.map (wE X))
  | [] => .nil
  | _ :: _ => .cons pe_w pj_w
theorem sps_run {τ : List Addr} {es : Es} {ps : List Expr} (hs : SPs G Y cf k C es ps) (cx : CtxOk (G.tm τ) Y C k cm o X) {σ : L2.St} {fr : Fr} {Q : VK} : ∀ (acc : List Nat) (ρ : List Addr) (H : Hp) (mh : MH), StR (G.tm τ) cm X o ρ H mh σ fr →
    RK (G.tm τ) Y X σ (rep (G.tm τ) cm) ρ H ((evJ Y.g cf o acc es fr mh).bind fun l h1 => .ok (.str l) h1) Q → tJs (ps.map (wE X)) (SX.S acc) σ H fun out H1 => Q (.str out) H1 := by
  induction hs with
  | nil =>
    intro acc ρ H mh st h
    unfold evJ at h
    exact h ρ H _ (Ext.refl _ _) st.gd (by unfold rep; rfl)
  | @cons e p es ps h1 h2 ih =>
    intro acc ρ H mh st h
    unfold evJ at h
    show wE X p σ H fun x H1 => ∃ y : Str, x = .str y ∧ (SX.S acc ++ y).length ≤ sizeLine ∧ tJs (ps.map (wE X)) (SX.S acc ++ y) σ H1 fun out H1 => Q (.str out) H1
    refine h1 τ X cm o cx ρ H mh σ fr st _ ?_
    have h' : RK (G.tm τ) Y X σ (rep (G.tm τ) cm) ρ H ((evE Y.g cf o e fr mh).bind fun x h1 => ((match txtV x with
      | some t => if Nat.ble (acc.length + t.length) line then evJ Y.g cf o (acc ++ t) es fr h1 else .stk
      | none => .stk : R (List Nat)).bind fun l h1 => .ok (.str l) h1)) Q := by
      revert h
      cases evE Y.g cf o e fr mh <;> exact fun h => h
    refine h'.seq fun d mh1 ρ1 H1 v _ e1 g1 r1 q1 => ?_
    split at q1
    · rename_i x hx
      split at q1
      · rename_i hz
        refine txtV_ok (Q := fun v H' => ∃ y : Str, v = .str y ∧ (SX.S acc ++ y).length ≤ sizeLine ∧ tJs (ps.map (wE X)) (SX.S acc ++ y) σ H' fun out H2 => Q (.str out) H2) hx r1 ⟨_, rfl, ?_, ?_⟩
        · rw [SX.S_cat, SX.S_len, List.length_append]
          exact le_line hz
        · rw [SX.S_cat]
          exact ih (acc ++ x) ρ1 H1 mh1 (st.step e1 g1) q1
      · exact False.elim q1
    · exact False.elim q1
theorem se_fs {p1 p2 : Expr} {ps : List Expr} (hs : SPs G Y cf k C es (p1 :: p2 :: ps)) : SE G Y cf k C (.fs es) (.JoinedStr (p1 :: p2 :: ps) pos) := fun τ X cm o cx ρ H mh σ fr st Q h => by
  unfold evE at h
  exact of_pe (pe_joined pj_w) (sps_run hs cx [] ρ H mh st h)

/-! ### built-ins, methods -/
theorem se_bi {J : JC} (ok : GOk J G Y) {b : Bi} {p : Pos} (hg : C.sc.names.lookup (nmBi b) = some .globalImplicit) (hb : J.bok (nmBi b) = true) (hp : pl a' = true) (hps : es'.all pl = true) (ha : SEs G Y cf k C es (a' :: es')) :
    SE G Y cf k C (.bi b es) (.Call (.Name (nmBi b) p) (a' :: es') [] pos) := fun τ X cm o cx ρ H mh σ fr st Q h => by
  unfold evE at h
  have hm : X.mg (nmBi b) = none := by rw [cx.mg]; exact ok.bok _ hb
  have hn : nmBi b ≠ "__name__" := by cases b <;> decide
  have hd : (nmBi b == ("__debug__" : Str)) = false := by cases b <;> decide
  have h0 : wA X (a' :: es') σ H fun vs H1 => rBi X.K b vs H1 Q := by
    refine ha τ X cm o cx ρ H mh σ fr st _ (h.seq fun d1 mh1 ρ1 H1 v1 _ e1 g1 r1 h1 => ?_)
    rw [cx.K]
    exact (biV_ok g1 r1).use h1
  have hc := call_Bi (X := X) cx.calm b
  have hv := boot_Bi b
  cases hq : vlBi b with
  | builtin id =>
    rw [hq] at hc hv
    exact of_pe (pe_callB hc (gl_of cx hg) hm hv pa_w hn hd (pl_star hp) (pl_none hps)) h0
  | type T =>
    rw [hq] at hc hv
    exact of_pe (pe_callTy hc (gl_of cx hg) hm hv pa_w hn hd (pl_star hp) (pl_none hps)) h0
  | _ => cases b <;> cases hq
/-- an object whose attribute is plainly looked up: no call of super -/
def plO : Expr → Bool
  | .Call (.Name x _) [] [] _ => !(x == ("super" : Str))
  | _ => true
theorem plO_eq {a : Expr} {m : Str} {env : Env} (h : plO a = true) : attributeBase a m env (eval a env) = eval a env := by
  unfold attributeBase
  split
  · rename_i x p q
    unfold plO at h
    have hx : (x != ("super" : Str)) = true := h
    rw [hx]
    rfl
  · rfl
theorem few_ok {env : Env} {cpos : Pos} : ∀ {es : List Expr}, es.all pl = true → (backTo cpos (starEach es env)).all (fun x => !x.1) = true
  | [], _ => rfl
  | e :: es, h => by
    rw [List.all_cons, Bool.and_eq_true] at h
    rw [pl_star h.1]
    unfold backTo
    rw [List.map_cons, List.all_cons]
    exact few_ok (cpos := cpos) h.2
theorem se_me0 {m : Me} {apos cpos : Pos} (hb : plO a' = true) (hl : (apos.endLine == cpos.line) = true) (ha : SE G Y cf k C a a') : SE G Y cf k C (.me m a .nil) (.Call (.Attribute a' (nmMe m) apos) [] [] cpos) := fun τ X cm o cx ρ H mh σ fr st Q h => by
  unfold evE at h
  refine of_pe (pe_bm0 F.plainAttrs_str (slot_Me m) (type_Me m) (mt_Me m) pe_w (plO_eq hb) hl) ?_
  refine ha τ X cm o cx ρ H mh σ fr st _ (h.seq fun d1 mh1 ρ1 H1 v1 _ e1 g1 r1 h1 => ?_)
  split at h1
  · unfold evEs at h1
    have r1' := r1
    unfold rep at r1'
    subst r1'
    exact ⟨rfl, by rw [cx.K]; exact (meV_ok g1 r1 reps.nil).use h1⟩
  · exact False.elim h1
theorem few_all {n : Nat} {es : List Expr} {env : Env} {cpos : Pos} (h : es.all pl = true) (hl : es.length < 30) : ((backTo cpos (starEach es env)).all (fun x => !x.1) && (backToKw cpos (keywordEach [] env)).all (fun x => x.1.isSome)
      && decide (es.length + ([] : List Keyword).length + (if ([] : List Keyword).isEmpty then 0 else 1) < 30)) = true := by
  rw [few_ok h, Bool.true_and]
  have e2 : (backToKw cpos (keywordEach [] env)).all (fun x => x.1.isSome) = true := rfl
  rw [e2, Bool.true_and, decide_eq_true_eq]
  exact hl
theorem se_me {m : Me} {apos cpos : Pos} (hb : plO a' = true) (hl : (apos.endLine == cpos.line) = true) (hp : pl b' = true) (hps : es'.all pl = true) (hn : es'.length < 29) (ha : SE G Y cf k C a a') (hes : SEs G Y cf k C es (b' :: es')) : SE G Y cf k C (.me m a es) (.Call (.Attribute a' (nmMe m) apos) (b' :: es') [] cpos) := fun τ X cm o cx ρ H mh σ fr st Q h => by
  unfold evE at h
  refine of_pe (pe_bm F.plainAttrs_str (slot_Me m) (type_Me m) (mt_Me m) pe_w pa_w (plO_eq hb) (few_all (n := 0) (by rw [List.all_cons, hp, hps]; rfl) (by rw [List.length_cons]; omega)) hl (pl_star hp) (pl_none hps)) ?_
  refine ha τ X cm o cx ρ H mh σ fr st _ (h.seq fun d1 mh1 ρ1 H1 v1 _ e1 g1 r1 h1 => ?_)
  split at h1
  · have r1' := r1
    unfold rep at r1'
    subst r1'
    refine ⟨rfl, ?_⟩
    refine hes τ X cm o cx ρ1 H1 mh1 σ fr (st.step e1 g1) _ (h1.seq fun d2 mh2 ρ2 H2 v2 _ e2 g2 r2 h2 => ?_)
    rw [cx.K]
    exact (meV_ok g2 (r1.mono (Deeper.refl _) e2) r2).use h2
  · exact False.elim h1
end
end FS

-- text FsI
set_option Elab.async false
set_option linter.all false
set_option maxHeartbeats 1000000
/-! FsI: lambdas made; calls by name; comprehensions. -/
namespace FS
open PySem PySem.Spec PyProof.Rows L2 LamX

/-- no parameters -/
def noPar : Arguments → Bool
  | ⟨[], [], none, [], [], none, []⟩ => true
  | _ => false
theorem noPar_def {p : Arguments} (h : noPar p = true) (env : Env) : defaultsOf p env = ([], []) := by
  unfold noPar at h
  split at h
  · rfl
  · cases h
section
variable {G : GD} {X : Cx} {pins : List (Addr × Obj)} {σ : L2.St} {H : Hp} {s : Shared} {ρ : List Addr} {mh : MH}
theorem TabR.snoc {P c : Addr} {q : Str} {L : Pos → Bool} {pos : Pos} {ps : Array Value} {H1 : Hp} (hP : H P = some (.tbl ps)) (t : TabR H P q L) (hk : ∀ b o, H b = some o → (∀ ps, o ≠ .tbl ps) → H1 b = some o) (h1 : H1 P = some (.tbl (ps ++ #[rawInt pos.line, rawInt pos.col, .ref c])))
    (h2 : H1 c = some (CodeO c q) ∨ ∀ pos' cv, L pos' = true → codeAmong pos' (ps.toList ++ [rawInt pos.line, rawInt pos.col, .ref c]) = some cv → codeAmong pos' ps.toList = some cv) : TabR H1 P q L := by
  obtain ⟨ps', e1, e2, e3⟩ := t
  rw [hP] at e1
  cases e1
  have eL : (ps ++ #[rawInt pos.line, rawInt pos.col, .ref c]).toList = ps.toList ++ [rawInt pos.line, rawInt pos.col, .ref c] := by simp
  refine ⟨_, h1, by rw [eL]; exact PySem.TriplesOk_snoc _ _ _ _ e2, fun pos' cv hl hcv => ?_⟩
  rw [eL] at hcv
  have old : codeAmong pos' ps.toList = some cv → ∃ c, cv = .ref c ∧ H1 c = some (CodeO c q) := fun z => by
    obtain ⟨c0, q1, q2⟩ := e3 pos' cv hl z
    exact ⟨c0, q1, hk _ _ q2 codeO_ne⟩
  rcases h2 with h2 | h2
  · rcases among_app _ e2 hcv with z | z
    · exact old z
    · exact ⟨c, z, h2⟩
  · exact old (h2 pos' cv hl hcv)
theorem TabR.kept {P : Addr} {q : Str} {L : Pos → Bool} {H1 : Hp} (t : TabR H P q L) (hk : ∀ b o, H b = some o → (∀ ps, o ≠ .tbl ps) → H1 b = some o) (hP : ∀ ps, H P = some (.tbl ps) → H1 P = some (.tbl ps)) : TabR H1 P q L := by
  obtain ⟨ps', e1, e2, e3⟩ := t
  refine ⟨ps', hP _ e1, e2, fun pos' cv hl hcv => ?_⟩
  obtain ⟨c0, q1, q2⟩ := e3 pos' cv hl hcv
  exact ⟨c0, q1, hk _ _ q2 codeO_ne⟩
/-- a table has grown: all that is known goes on -/
theorem Gd.grown {P : Addr} {H1 : Hp} {ps more : Array Value} (g : Gd G ρ H mh) (hP : H P = some (.tbl ps)) (hk : ∀ b o, H b = some o → (∀ ps, o ≠ .tbl ps) → H1 b = some o) (h1 : H1 P = some (.tbl (ps ++ more)))
    (ho : ∀ b qs, b ≠ P → H b = some (.tbl qs) → H1 b = some (.tbl qs)) (ht : ∀ q L, G.TQ P = some (q, L) → TabR H1 P q L) : Ext ρ H ρ H1 ∧ Gd G ρ H1 mh := by
  have ex : Ext ρ H ρ H1 := by
    refine ⟨⟨[], by simp⟩, fun b o e _ nt => hk b o e nt, fun b qs e _ => ?_, fun _ h => .inl h⟩
    by_cases hb : b = P
    · subst hb
      rw [hP] at e
      cases e
      exact ⟨more, h1⟩
    · exact ⟨#[], by rw [ho b qs hb e]; simp⟩
  refine ⟨ex, g.len, g.nd, fun n b u e1 e2 => ?_, fun P' q L e => ⟨(g.tab P' q L e).1, ?_⟩, fun a m => ?_⟩
  · have k := g.chg n b u e1 e2
    refine k.ext ex ?_
    obtain ⟨v, e3, e4⟩ := k.there
    rw [hk b v e3 (Mu.nt e4), e3]
  · by_cases hb : P' = P
    · subst hb
      exact ht q L e
    · exact (g.tab P' q L e).2.kept hk fun ps e => ho P' ps hb e
  · obtain ⟨n, o, e, nt⟩ := g.tmp a m
    exact ⟨n, o, hk a o e (Mu.nt nt), nt⟩
/-- a lambda is made -/
theorem lam_mk {c P : Addr} {L : Pos → Bool} {params : Arguments} {body : Expr} {scope : Scope} {pos : Pos} {Q : Value → Shared → Prop} (I : Inv X pins σ H s) (g : Gd G ρ H mh) (TB : TabB X.base X.mg c P) (hcode : X.env.code = .ref c)
    (hT : G.TQ P = some (X.env.qual ++ "<lambda>", L)) (hL : L pos = true) (hp : noPar params = true) (hfree : ∀ y ∈ scope.names, y.2 = .free → ∃ c, X.env.cells.lookup y.1 = some c)
    (h : ∀ (f c' : Addr) (pm ctv : Value) (H1 : Hp) (s' : Shared), Inv X pins σ H1 s' → Ext ρ H ρ H1 → Gd G ρ H1 mh →
      Im G ρ H1 f (CloO (X.env.qual ++ "<lambda>") params body scope (cloFrom X.env.cells scope.names []) pm c' ctv f) → Im G ρ H1 c' (CodeO c' (X.env.qual ++ "<lambda>")) → Q (.ref f) s') :
    wpAny (model X.prog X.w) X.A (eval (.Lambda params body scope pos) X.env) Q X.xe s := by
  obtain ⟨hPρ, tr⟩ := g.tab P _ _ hT
  obtain ⟨ps, hP, ht, ha⟩ := _root_.id tr
  refine PySem.W.kla_eval (noPar_def hp _) ?_
  have bP : s.heap.BuiltinsAt X.mg P := TB.bm.keeps I.bk
  have oP : s.heap.get? P = some { cls := .none, data := .fields ps } := I.hok P _ hP
  -- the function's object, laid last
  have lay : ∀ {H' : Hp} {h' : Heap} {tk : Nat} {c' : Addr} {ctv : Value}, Inv X pins σ H' { s with heap := h', toks := tk } → Ext ρ H ρ H' → Gd G ρ H' mh → Im G ρ H' c' (CodeO c' (X.env.qual ++ "<lambda>")) →
      Q (.ref h'.objs.size) { s with heap := h'.push (PySem.W.kla_obj "<lambda>" (X.env.qual ++ "<lambda>") params body scope (cloFrom X.env.cells scope.names []) ((X.mg "__name__").getD .none) c' ctv), toks := tk } := fun {H' h' tk c' ctv} J ex gd hc => by
    have nf : H' h'.objs.size = none := J.hok.fresh (Nat.le_refl _)
    have ol : (h'.push (PySem.W.kla_obj "<lambda>" (X.env.qual ++ "<lambda>") params body scope (cloFrom X.env.cells scope.names []) ((X.mg "__name__").getD .none) c' ctv)).get? h'.objs.size = some (PySem.W.kla_obj "<lambda>" (X.env.qual ++ "<lambda>") params body scope (cloFrom X.env.cells scope.names []) ((X.mg "__name__").getD .none) c' ctv) := Heap.get?_push_size _ rfl
    have J2 := J.laid (o := CloO (X.env.qual ++ "<lambda>") params body scope (cloFrom X.env.cells scope.names []) ((X.mg "__name__").getD .none) c' ctv h'.objs.size) (t' := tk) (fun b o e => Heap.get?_push_of_some (PySem.W.kla_obj "<lambda>" (X.env.qual ++ "<lambda>") params body scope (cloFrom X.env.cells scope.names []) ((X.mg "__name__").getD .none) c' ctv) e) (Nat.le_refl _)
      ⟨ol, ⟨_, ol⟩, fun h1 h2 e st => st _ e⟩
    exact h h'.objs.size c' _ ctv _ _ J2 (ex.trans (Ext.upd nf)) (gd.new nf) ⟨gd.fresh2 nf, upd_same⟩ (hc.ext (Ext.upd nf) codeO_ne)
  cases hc : codeAmong pos ps.toList with
  | none =>
    refine PySem.W.kla_makeFunction (mg := X.mg) (c := c) (P := P) (ps := ps) (closure_ok hfree) I.ok.glob (I.mod.glob.keeps I.bk) hcode (TB.code.keeps I.bk) oP ht hc TB.gP bP fun c' ctv h' tk hx hge hlt hrec htb => ?_
    obtain ⟨c2, oc, vs, t, e2, hoc, hd, hv⟩ := hrec
    cases e2
    have nC : H c' = none := I.hok.fresh hge
    have J := inv_table (t' := tk) (more := #[rawInt pos.line, rawInt pos.col, .ref c']) I hP hx htb hge ⟨oc, vs, t, hoc, hd, hv⟩
    have nPc : P ≠ c' := ne_of_none hP nC
    have hk : ∀ b o, H b = some o → (∀ ps, o ≠ .tbl ps) → upd (upd H P (.tbl (ps ++ #[rawInt pos.line, rawInt pos.col, .ref c']))) c' (CodeO c' (X.env.qual ++ "<lambda>")) b = some o := fun b o e nt => by
      rw [upd_ne (ne_of_none e nC), upd_ne (fun z => by rw [z, hP] at e; exact nt ps (Option.some.inj e).symm)]
      exact e
    have atP : upd (upd H P (.tbl (ps ++ #[rawInt pos.line, rawInt pos.col, .ref c']))) c' (CodeO c' (X.env.qual ++ "<lambda>")) P = some (.tbl (ps ++ #[rawInt pos.line, rawInt pos.col, .ref c'])) := by rw [upd_ne nPc, upd_same]
    obtain ⟨ex, gd⟩ := g.grown hP hk atP (fun b qs hb e => by rw [upd_ne (ne_of_none e nC), upd_ne hb]; exact e) (fun q L' e => by
      rw [hT] at e
      cases e
      exact tr.snoc hP hk atP (.inl upd_same))
    have nc : c' ∉ ρ ∧ c' ∉ G.tmp := g.fresh2 nC
    exact lay J ex gd ⟨nc, upd_same⟩
  | some cv =>
    obtain ⟨c', e, hco⟩ := ha pos cv hL hc
    subst e
    refine PySem.W.kla_makeFunctionHit (mg := X.mg) (c := c) (P := P) (ps := ps) (closure_ok hfree) I.ok.glob (I.mod.glob.keeps I.bk) hcode (TB.code.keeps I.bk) oP ht hc bP fun ctv h' tk hx hsz => ?_
    have J : Inv X pins σ H { s with heap := h', toks := tk } := I.kept hx
    exact lay J (Ext.refl _ _) g ⟨g.code hco, hco⟩
end
section
variable {G : GD} {Y : GX} {cf : CF} {k : Nat} {C : SC} {J : JC}
theorem vis_of {X : Cx} {τ : List Addr} {cm : List (Option CI)} {o : List Fr} (cx : CtxOk (G.tm τ) Y C k cm o X) {x : Str} (h : Vis C.sc x) : Vis X.env.scope x := by
  rw [cx.sc]
  exact h
theorem tab_up {base h : Heap} {mg : Str → Option Value} {c P : Addr} (t : TabB base mg c P) (k : ∀ b o, base.get? b = some o → h.get? b = some o) : TabB h mg c P := ⟨t.code.keeps k, t.bm.keeps k, t.gP⟩
theorem se_lam (ok : GOk J G Y) {l : Nat} {params : Arguments} {body : Expr} {scope : Scope} {pos : Pos} (h1 : C.hasT = true) (h2 : C.hasL = true) (h3 : posB C.L pos = true) (h4 : noPar params = true) (h5 : lamSB C.sc scope = true) (h6 : J.lamB l C params body scope = true) :
    SE G Y cf k C (.lam l) (.Lambda params body scope pos) := fun τ X cm o cx ρ H mh σ fr st Q h => by
  unfold evE at h
  intro pins s I
  obtain ⟨c, P, e1, e2, e3⟩ := cx.code h1
  obtain ⟨ci, hci⟩ := cx.lamc h2
  obtain ⟨q1, q2, q3, q4⟩ := cx.own ci hci
  have hL : LamS X.env.scope scope := by
    rw [cx.sc]
    exact lamS_by h5
  refine lam_mk I st.gd (by rw [cx.mg]; exact tab_up e2 cx.base) e1 e3 h3 h4 (hL.has I.ok) fun f c' pm ctv H1 s' I1 ex gd f1 f2 => ?_
  refine ⟨.ref f, H1, I1, rfl, h ρ H1 _ ex gd ?_⟩
  unfold rep
  refine ⟨f, c', ci, pm, ctv, params, body, scope, rfl, hci, ok.lam l C params body scope ci h6 q2 q3, ?_, ?_⟩
  · rw [q1, q4]
    exact f1
  · rw [q4]
    exact f2
theorem se_app {i : Nat} {x : Str} {p1 p2 : Pos} (hL : CallL G Y cf k) (hN : C.N[i]? = some x) (hv : Vis C.sc x) (hd : (x == ("__debug__" : Str)) = false) (hcd : (x == ("__classdict__" : Str)) = false) : SE G Y cf k C (.app i) (.Call (.Name x p1) [] [] p2) := fun τ X cm o cx ρ H mh σ fr st Q h => by
  unfold evE at h
  split at h
  · rename_i l d hg
    split at h
    · rename_i L f h1 h2
      have hcap : L.cap.all (fun i => Nat.blt i f.length) = true := by
        cases q : L.cap.all (fun i => Nat.blt i f.length) with
        | true => rfl
        | false =>
          rw [q] at h
          exact False.elim h
      rw [hcap, if_pos rfl] at h
      obtain ⟨v, e1, e2⟩ := st.fr.at_ i _ hg
      intro pins s I
      refine wpAny_Call_Name_kw (thn ((pe_var (X := X) (pos := p1) (i := i) (by rw [cx.N]; exact hN) (vis_of cx hv) hd hcd).run pins s σ H (fun w H1 => w = v ∧ H1 = H) I ⟨v, e1, rfl, rfl⟩) fun u s1 ⟨w, H1, I1, r1, q1⟩ => ?_)
      obtain ⟨rfl, rfl⟩ := q1
      have e2' := e2
      unfold rep at e2'
      obtain ⟨fa, c', ci, pm, ctv, params, body, scope, rfl, _, _, hf, _⟩ := e2'
      obtain rfl : u = Value.ref fa := r1
      have of1 := (I1.hok fa _ hf.2).1
      exact PySem.W.callWith_F0 ⟨_, _, _, _, of1⟩ (hL τ C X cm o cx ρ H1 mh σ fr st l d _ L f pins s1 Q I1 e2 h1 h2 hcap h fa rfl)
    · exact False.elim h
  · exact False.elim h
theorem se_call (ok : GOk J G Y) (hF : CallF G Y cf k) {f : Nat} {es : Es} {x : Str} {a' : Expr} {es' : List Expr} {p pos : Pos} (hf : J.fnn[f]? = some x) (hg : C.sc.names.lookup x = some .globalImplicit) (hd : (x == ("__debug__" : Str)) = false) (hp : pl a' = true) (hps : es'.all pl = true)
    (ha : SEs G Y cf k C es (a' :: es')) : SE G Y cf k C (.call f es) (.Call (.Name x p) (a' :: es') [] pos) := fun τ X cm o cx ρ H mh σ fr st Q h => by
  unfold evE at h
  intro pins s I
  obtain ⟨e1, e2⟩ := ok.fns f x hf
  refine wpAny_Call_Name_kw (ld_glob I (gl_of cx hg) (by rw [cx.mg]; exact e1) ?_ hd)
  have h0 : wA X (a' :: es') σ H fun vs H1 => ∀ us s1, Inv X pins σ H1 s1 → Vals vs us → wpAny (model X.prog X.w) X.A (call (.ref (Y.fad f)) us) (EP X pins σ Q) X.xe s1 := by
    refine ha τ X cm o cx ρ H mh σ fr st _ (h.seq fun d1 mh1 ρ1 H1 v1 _ e1 g1 r1 h1 => ?_)
    exact fun us s1 I1 r => hF τ C X cm o cx ρ1 H1 mh1 σ fr (st.step e1 g1) f d1 v1 us pins s1 Q I1 r1 r h1
  exact PySem.W.callWith_K (h₀ := X.base) I.ok.mod.kin (by rw [cx.K]; exact e2) (thn (h0 pos pins s I) fun us s1 ⟨vs, H1, I1, r, q⟩ => ⟨I1.kIn, q us s1 I1 r⟩) (pl_star hp) (pl_none hps)
theorem se_call0 (ok : GOk J G Y) (hF : CallF G Y cf k) {f : Nat} {x : Str} {p pos : Pos} (hf : J.fnn[f]? = some x) (hg : C.sc.names.lookup x = some .globalImplicit) (hd : (x == ("__debug__" : Str)) = false) : SE G Y cf k C (.call f .nil) (.Call (.Name x p) [] [] pos) := fun τ X cm o cx ρ H mh σ fr st Q h => by
  unfold evE evEs at h
  intro pins s I
  obtain ⟨e1, e2⟩ := ok.fns f x hf
  refine wpAny_Call_Name_kw (ld_glob I (gl_of cx hg) (by rw [cx.mg]; exact e1) ?_ hd)
  exact PySem.W.callWith_K0 I.kIn (by rw [cx.K]; exact e2) (hF τ C X cm o cx ρ H mh σ fr st f [] [] [] pins s Q I reps.nil .nil h)
end
end FS

-- text FsJ
set_option Elab.async false
set_option linter.all false
set_option maxHeartbeats 1000000
/-! FsJ: targets, what is walked, list comprehensions. -/
namespace FS
open PySem PySem.Spec PyProof.Rows L2 LamX

/-! ### targets -/
mutual
def tgOf (K : PySem.W.Frag) : T → TG
  | .nm i => gName i
  | .tup ts => gTup K ts.length (tgsOf K ts)
def tgsOf (K : PySem.W.Frag) : List T → TGs
  | [] => gNil
  | t :: ts => gCons (tgOf K t) (tgsOf K ts)
end
mutual
def tNs : T → List Nat
  | .nm i => [i]
  | .tup ts => tNss ts
def tNss : List T → List Nat
  | [] => []
  | t :: ts => tNs t ++ tNss ts
end
theorem set_comm' {σ : L2.St} {i j : Nat} {a b : Option V} (h : i ≠ j) : (σ.set i a).set j b = (σ.set j b).set i a := List.set_comm _ _ h
theorem wipe_set : ∀ {vs : List Nat} {σ : L2.St} {i : Nat} {x : Option V}, wipe (σ.set i x) vs = if i ∈ vs then wipe σ vs else (wipe σ vs).set i x
  | [], σ, i, x => by simp [wipe]
  | v :: vs, σ, i, x => by
    show (wipe (σ.set i x) vs).set v none = if i ∈ v :: vs then (wipe σ vs).set v none else ((wipe σ vs).set v none).set i x
    rw [wipe_set (vs := vs)]
    by_cases h : i ∈ vs
    · rw [if_pos h, if_pos (List.mem_cons_of_mem _ h)]
    · rw [if_neg h]
      by_cases e : i = v
      · subst e
        rw [if_pos List.mem_cons_self, List.set_set]
      · rw [if_neg (fun m => (List.mem_cons.mp m).elim e h), set_comm' e]
section
variable {G : GD} {cm : List (Option CI)} {ρ : List Addr} {H : Hp}
theorem asgs_len : ∀ {ts : List T} {xs : List D} {fr fr' : Fr}, asgs ts xs fr = some fr' → xs.length = ts.length
  | [], [], fr, fr', _ => rfl
  | t :: ts, x :: xs, fr, fr', h => by
    unfold asgs at h
    split at h
    · rw [List.length_cons, List.length_cons, asgs_len h]
    · cases h
  | [], _ :: _, _, _, h => by unfold asgs at h; cases h
  | _ :: _, [], _, _, h => by unfold asgs at h; cases h
mutual
theorem asg_ok : ∀ (t : T) (d : D) (v : V) (σ : L2.St) (fr fr' : Fr) (Q : L2.St → Hp → Prop), asg t d fr = some fr' → rep G cm ρ H d v → FrR G cm ρ H σ fr →
    (∀ σ', FrR G cm ρ H σ' fr' → (∀ vs, (∀ i ∈ tNs t, i ∈ vs) → wipe σ' vs = wipe σ vs) → Q σ' H) → tgOf G.K t v σ H Q
  | .nm i, d, v, σ, fr, fr', Q, h, r, f, q => by
    unfold asg at h
    split at h
    · rename_i hl
      cases h
      unfold tgOf gName
      exact q _ (f.put hl r) fun vs hv => by rw [wipe_set, if_pos (hv i (by unfold tNs; exact List.mem_cons_self))]
    · cases h
  | .tup ts, .tup xs, v, σ, fr, fr', Q, h, r, f, q => by
    unfold asg at h
    unfold rep at r
    obtain ⟨a, ys, rfl, e2, e3⟩ := r
    unfold tgOf gTup
    refine ⟨a, ys, rfl, ?_, by rw [← e3.length, asgs_len h], asgs_ok ts xs ys σ fr fr' Q h e3 f fun σ' f' hw => q σ' f' fun vs hv => hw vs (by unfold tNs at hv; exact hv)⟩
    rcases e2 with e2 | e2
    · exact SqT.of e2.2
    · exact .inr e2
  | .tup ts, .non, _, _, _, _, _, h, _, _, _ => by unfold asg at h; cases h
  | .tup ts, .bl _, _, _, _, _, _, h, _, _, _ => by unfold asg at h; cases h
  | .tup ts, .int _, _, _, _, _, _, h, _, _, _ => by unfold asg at h; cases h
  | .tup ts, .str _, _, _, _, _, _, h, _, _, _ => by unfold asg at h; cases h
  | .tup ts, .lst _, _, _, _, _, _, h, _, _, _ => by unfold asg at h; cases h
  | .tup ts, .dic _, _, _, _, _, _, h, _, _, _ => by unfold asg at h; cases h
  | .tup ts, .frl _, _, _, _, _, _, h, _, _, _ => by unfold asg at h; cases h
  | .tup ts, .ref _, _, _, _, _, _, h, _, _, _ => by unfold asg at h; cases h
  | .tup ts, .clo _ _, _, _, _, _, _, h, _, _, _ => by unfold asg at h; cases h
theorem asgs_ok : ∀ (ts : List T) (xs : List D) (ys : List V) (σ : L2.St) (fr fr' : Fr) (Q : L2.St → Hp → Prop), asgs ts xs fr = some fr' → reps G cm ρ H xs ys → FrR G cm ρ H σ fr →
    (∀ σ', FrR G cm ρ H σ' fr' → (∀ vs, (∀ i ∈ tNss ts, i ∈ vs) → wipe σ' vs = wipe σ vs) → Q σ' H) → tgsOf G.K ts ys σ H Q
  | [], [], ys, σ, fr, fr', Q, h, r, f, q => by
    unfold asgs at h
    cases h
    unfold reps at r
    subst r
    unfold tgsOf gNil
    exact ⟨rfl, q σ f fun _ _ => rfl⟩
  | t :: ts, x :: xs, ys, σ, fr, fr', Q, h, r, f, q => by
    unfold asgs at h
    unfold reps at r
    obtain ⟨y, zs, rfl, r1, r2⟩ := r
    split at h
    · rename_i fr1 h1
      unfold tgsOf gCons
      refine ⟨y, zs, rfl, asg_ok t x y σ fr fr1 _ h1 r1 f fun σ1 f1 w1 => ?_⟩
      refine asgs_ok ts xs zs σ1 fr1 fr' Q h r2 f1 fun σ2 f2 w2 => q σ2 f2 fun vs hv => ?_
      unfold tNss at hv
      rw [w2 vs (fun i m => hv i (List.mem_append_right _ m)), w1 vs (fun i m => hv i (List.mem_append_left _ m))]
    · cases h
  | [], _ :: _, _, _, _, _, _, h, _, _, _ => by unfold asgs at h; cases h
  | _ :: _, [], _, _, _, _, _, h, _, _, _ => by unfold asgs at h; cases h
end
end
/-- a target's look -/
def stT : Expr → Bool
  | .Starred .. => false
  | _ => true
mutual
def chkT (C : SC) : T → Expr → Bool
  | .nm i, .Name x _ => decide (C.N[i]? = some x) && (decide (C.sc.names.lookup x = some .local) || (decide (C.sc.names.lookup x = some .cell) && C.fnc x))
  | .tup ts, .Tuple es _ _ => chkTs C ts es
  | _, _ => false
def chkTs (C : SC) : List T → List Expr → Bool
  | [], [] => true
  | t :: ts, e :: es => chkT C t e && chkTs C ts es
  | _, _ => false
end
theorem asgE_cons {C : SC} {t : T} {e : Expr} {es : List Expr} {env : Env} (h : chkT C t e = true) : assignEach (e :: es) env = (false, assign e env) :: assignEach es env := by
  cases e <;> first | rfl | (cases t <;> (unfold chkT at h; cases h))
theorem chkTs_each {C : SC} {env : Env} : ∀ {ts : List T} {es : List Expr}, chkTs C ts es = true → (assignEach es env).length = ts.length ∧ (assignEach es env).findIdx? (·.1) = none
  | [], [], _ => ⟨rfl, rfl⟩
  | t :: ts, e :: es, h => by
    unfold chkTs at h
    rw [Bool.and_eq_true] at h
    obtain ⟨h1, h2⟩ := chkTs_each (env := env) h.2
    rw [asgE_cons h.1]
    refine ⟨by rw [List.length_cons, List.length_cons, h1], ?_⟩
    rw [List.findIdx?_cons, h2]
    rfl
  | [], _ :: _, h => by unfold chkTs at h; cases h
  | _ :: _, [], h => by unfold chkTs at h; cases h
section
variable {G : GD} {Y : GX} {k : Nat} {C : SC} {cm : List (Option CI)} {o : List Fr} {X : Cx}
theorem CtxOk.fnX (cx : CtxOk G Y C k cm o X) {x : Str} (h : C.sc.names.lookup x = some .local ∨ (C.sc.names.lookup x = some .cell ∧ C.fnc x = true)) : Loc X.env.scope x ∧ (X.fn x = true ∨ X.env.scope.names.lookup x = some .local) := by
  rw [cx.sc]
  rcases h with h | ⟨h1, h2⟩
  · exact ⟨.inl h, .inr h⟩
  · exact ⟨.inr h1, .inl (cx.fn x h2)⟩
mutual
theorem chkT_ok (cx : CtxOk G Y C k cm o X) : ∀ (t : T) (e : Expr), chkT C t e = true → PG X e (tgOf X.K t)
  | .nm i, e, h => by
    cases e <;> first | (unfold chkT at h; cases h) | skip
    unfold chkT at h
    simp only [Bool.and_eq_true, Bool.or_eq_true, decide_eq_true_eq] at h
    obtain ⟨h1, h2⟩ := cx.fnX h.2
    unfold tgOf
    exact pg_name cx.ndX (by rw [cx.N]; exact h.1) h1 h2
  | .tup ts, e, h => by
    cases e <;> first | (unfold chkT at h; cases h) | skip
    unfold chkT at h
    obtain ⟨h1, h2⟩ := chkTs_each (env := X.env) h
    unfold tgOf
    exact pg_tup cx.calm (chkTs_ok cx ts _ h) h1 h2
theorem chkTs_ok (cx : CtxOk G Y C k cm o X) : ∀ (ts : List T) (es : List Expr), chkTs C ts es = true → PGs X es (tgsOf X.K ts)
  | [], [], _ => by unfold tgsOf; exact pgs_nil
  | t :: ts, e :: es, h => by
    unfold chkTs at h
    rw [Bool.and_eq_true] at h
    unfold tgsOf
    exact pgs_cons (chkT_ok cx t e h.1) (chkTs_ok cx ts es h.2) (by rw [asgE_cons h.1]; rfl)
  | [], _ :: _, h => by unfold chkTs at h; cases h
  | _ :: _, [], h => by unfold chkTs at h; cases h
end
end

/-! ### what is walked -/
structure Wk (ρ : List Addr) (H : Hp) (J : L2.It) (ys : List V) : Prop where
  go : ∀ i ρ' H', Ext ρ H ρ' H' → i < ys.length → J.go i H'
  yld : ∀ i ρ' H' x H'', Ext ρ H ρ' H' → i < ys.length → J.yld i H' x H'' → H'' = H' ∧ ys[i]? = some x
  stop : ∀ i ρ' H', Ext ρ H ρ' H' → ys.length ≤ i → J.stop i H'
def rI (G : GD) (cm : List (Option CI)) (ρ : List Addr) (H : Hp) (xs : List D) (J : L2.It) : Prop := ∃ ys, reps G cm ρ H xs ys ∧ Wk ρ H J ys
section
variable {G : GD} {cm : List (Option CI)} {ρ : List Addr} {H : Hp}
theorem wk_list {a : Addr} {ys : List V} (h : Im G ρ H a (.lst ys)) : Wk ρ H (Itl G.K a) ys where
  go := fun i ρ' H' e hi => ⟨ys, ys[i], SqL.of (h.ext e fun _ q => by cases q).2, List.getElem?_eq_getElem hi⟩
  yld := fun i ρ' H' x H'' e _ y => ⟨y.1, y.2 ys (SqL.of (h.ext e fun _ q => by cases q).2)⟩
  stop := fun i ρ' H' e hi => ⟨ys, SqL.of (h.ext e fun _ q => by cases q).2, hi⟩
theorem wk_tup {a : Addr} {ys : List V} (h : Im G ρ H a (.tup ys) ∨ KT G.K a ys) : Wk ρ H (Itt G.K a) ys := by
  have key : ∀ {ρ' H'}, Ext ρ H ρ' H' → SqT G.K H' a ys := fun e => by
    rcases h with h | h
    · exact SqT.of (h.ext e fun _ q => by cases q).2
    · exact .inr h
  exact ⟨fun i ρ' H' e hi => ⟨ys, ys[i], key e, List.getElem?_eq_getElem hi⟩, fun i ρ' H' x H'' e _ y => ⟨y.1, y.2 ys (key e)⟩, fun i ρ' H' e hi => ⟨ys, key e, hi⟩⟩
theorem wk_str (x : List Nat) : Wk ρ H (Its (SX.S x)) (x.map fun c => V.str (SX.S [c])) where
  go := fun i ρ' H' e hi => by
    show i < (SX.S x).cps.size
    simpa using hi
  yld := fun i ρ' H' y H'' e _ h => by
    obtain ⟨h1, c, h2, h3⟩ := h
    refine ⟨h1, ?_⟩
    rw [List.getElem?_map]
    have : x[i]? = some c := by simpa using h2
    rw [this, h3]
    rfl
  stop := fun i ρ' H' e hi => by
    show (SX.S x).cps.size ≤ i
    simpa using hi
theorem reps_signs : ∀ x : List Nat, reps G cm ρ H (x.map fun c => D.str [c]) (x.map fun c => V.str (SX.S [c]))
  | [] => reps.nil
  | c :: x => reps.cons (by unfold rep; rfl) (reps_signs x)
def intsV (lo : Int) (n : Nat) : List V := (List.range n).map fun i => V.int (lo + (i : Nat))
theorem intsV_succ (lo : Int) (n : Nat) : intsV lo (n + 1) = V.int lo :: intsV (lo + 1) n := by
  unfold intsV
  rw [List.range_succ_eq_map, List.map_cons, List.map_map]
  congr 1
  · simp
  · apply List.map_congr_left
    intro i _
    show V.int (lo + ((i + 1 : Nat) : Int)) = V.int (lo + 1 + (i : Int))
    congr 1
    omega
theorem reps_ints : ∀ (n : Nat) (lo : Int), reps G cm ρ H (intsFrom lo n) (intsV lo n)
  | 0, lo => reps.nil
  | n + 1, lo => by
    rw [intsV_succ]
    unfold intsFrom
    exact reps.cons (by unfold rep; rfl) (reps_ints n (lo + 1))
theorem wk_rng (lo : Int) (n : Nat) : Wk ρ H (Itr lo n) (intsV lo n) where
  go := fun i ρ' H' e hi => by
    show i < n
    unfold intsV at hi
    simpa using hi
  yld := fun i ρ' H' x H'' e hi h => by
    obtain ⟨h1, h2⟩ := h
    refine ⟨h1, ?_⟩
    unfold intsV at hi ⊢
    rw [List.length_map, List.length_range] at hi
    rw [List.getElem?_map, List.getElem?_range hi, h2]
    rfl
  stop := fun i ρ' H' e hi => by
    show n ≤ i
    unfold intsV at hi
    simpa using hi
end
section
variable {G : GD} {Y : GX} {cf : CF} {k : Nat} {C : SC} {J : JC} {cm : List (Option CI)} {o : List Fr} {X : Cx}
/-- a walked thing, sound -/
def SI (G : GD) (Y : GX) (cf : CF) (k : Nat) (C : SC) (it : Iw) (tg a : Expr) : Prop := ∀ τ X cm o, CtxOk (G.tm τ) Y C k cm o X → ∀ ρ H mh σ fr, StR (G.tm τ) cm X o ρ H mh σ fr → ∀ Rq : L2.It → Hp → Prop,
  RK (G.tm τ) Y X σ (rI (G.tm τ) cm) ρ H (evI Y.g cf o it fr mh) Rq → wI X tg a σ H Rq
theorem si_e {a : E} {a' tg : Expr} (ha : SE G Y cf k C a a') : SI G Y cf k C (.e a) tg a' := fun τ X cm o cx ρ H mh σ fr st Rq h => by
  unfold evI at h
  have h1 := ha τ X cm o cx ρ H mh σ fr st
  revert h h1
  cases evE Y.g cf o a fr mh with
  | stk => exact fun h _ => False.elim h
  | exc c mh1 => exact fun h h1 => of_pi (pi_list pe_w) (h1 _ h)
  | ok d mh1 =>
    intro h h1
    have h : RK (G.tm τ) Y X σ (rI (G.tm τ) cm) ρ H (R.opt mh1 (itemsOf mh1 d)) Rq := h
    cases d with
    | str x =>
      refine of_pi (pi_str pe_w) (h1 _ fun ρ' H' v e g r => ?_)
      unfold rep at r
      refine ⟨_, r, ?_⟩
      by_cases hz : Nat.ble x.length line = true
      · have e1 : itemsOf mh1 (.str x) = some (x.map fun c => .str [c]) := by
          exact if_pos hz
        rw [e1] at h
        exact h ρ' H' _ e g ⟨_, reps_signs x, wk_str x⟩
      · have e1 : itemsOf mh1 (.str x) = none := by
          exact if_neg hz
        rw [e1] at h
        exact False.elim h
    | lst xs =>
      refine of_pi (pi_list pe_w) (h1 _ fun ρ' H' v e g r => ?_)
      unfold rep at r
      obtain ⟨a, ys, rfl, e2, e3⟩ := r
      refine ⟨a, rfl, ⟨ys, SqL.of e2.2⟩, ?_⟩
      rw [cx.K]
      exact h ρ' H' _ e g ⟨ys, e3, wk_list (G := G.tm τ) e2⟩
    | tup xs =>
      refine of_pi (pi_tup pe_w) (h1 _ fun ρ' H' v e g r => ?_)
      unfold rep at r
      obtain ⟨a, ys, rfl, e2, e3⟩ := r
      refine ⟨a, rfl, ⟨ys, ?_⟩, ?_⟩
      · rw [cx.K]
        rcases e2 with e2 | e2
        · exact SqT.of e2.2
        · exact .inr e2
      · rw [cx.K]
        exact h ρ' H' _ e g ⟨ys, e3, wk_tup (G := G.tm τ) e2⟩
    | _ => exact False.elim h
theorem rng_of {j : Int} (h : rngOk j = true) : -(2 ^ 62) ≤ j ∧ j < 2 ^ 62 := by
  unfold rngOk at h
  rw [Bool.and_eq_true, decide_eq_true_eq, decide_eq_true_eq] at h
  constructor
  · have := h.1; omega
  · have := h.2; omega
def Es.len : Es → Nat
  | .nil => 0
  | .cons _ es => es.len + 1
theorem bind_ok {α β : Type} {r : R α} {f : α → MH → R β} {b : β} {h' : MH} (h : r.bind f = .ok b h') : ∃ a h1, r = .ok a h1 ∧ f a h1 = .ok b h' := by
  cases r with
  | ok a h1 => exact ⟨a, h1, rfl, h⟩
  | exc c h1 => cases h
  | stk => cases h
theorem evEs_len {g : Pg} {cf : CF} {o : List Fr} : ∀ {es : Es} {fr : Fr} {h h' : MH} {ds : List D}, evEs g cf o es fr h = .ok ds h' → ds.length = es.len
  | .nil, fr, h, h', ds, e => by
    unfold evEs at e
    cases e
    rfl
  | .cons a es, fr, h, h', ds, e => by
    unfold evEs at e
    obtain ⟨x, h1, e1, e2⟩ := bind_ok e
    obtain ⟨xs, h2, e3, e4⟩ := bind_ok e2
    cases e4
    show xs.length + 1 = es.len + 1
    rw [evEs_len e3]
theorem si_rng1 (ok : GOk J G Y) {es : Es} {a' tg : Expr} {p pos : Pos} (hg : C.sc.names.lookup ("range" : Str) = some .globalImplicit) (hb : J.bok "range" = true) (hp : pl a' = true) (hn : es.len = 1) (ha : SEs G Y cf k C es [a']) : SI G Y cf k C (.rng es) tg (.Call (.Name "range" p) [a'] [] pos) := fun τ X cm o cx ρ H mh σ fr st Rq h => by
  unfold evI at h
  refine of_pi (pi_range1 (gl_of cx hg) (by rw [cx.mg]; exact ok.bok _ hb) pa_w (pl_star hp)) ?_
  refine ha τ X cm o cx ρ H mh σ fr st _ (h.seq fun d1 mh1 ρ1 H1 v1 eq e1 g1 r1 h1 => ?_)
  have hl := evEs_len eq
  rw [hn] at hl
  unfold R.opt at h1
  split at h1
  · rename_i xs hx
    unfold rngV at hx
    split at hx
    · split at hx
      · rename_i j hj
        cases hx
        rw [Bool.and_eq_true] at hj
        obtain ⟨v, rfl, rv⟩ := one_of r1
        unfold rep at rv
        subst rv
        obtain ⟨b1, b2⟩ := rng_of hj.1
        exact ⟨j, rfl, b1, b2, h1 ρ1 H1 _ (Ext.refl _ _) g1 ⟨_, reps_ints _ _, wk_rng _ _⟩⟩
      · cases hx
    · cases hl
    · cases hx
  · exact False.elim h1
theorem si_rng2 (ok : GOk J G Y) {es : Es} {a' b' tg : Expr} {p pos : Pos} (hg : C.sc.names.lookup ("range" : Str) = some .globalImplicit) (hb : J.bok "range" = true) (hp : pl a' = true) (hp2 : pl b' = true) (hn : es.len = 2) (ha : SEs G Y cf k C es [a', b']) : SI G Y cf k C (.rng es) tg (.Call (.Name "range" p) [a', b'] [] pos) := fun τ X cm o cx ρ H mh σ fr st Rq h => by
  unfold evI at h
  have s2 : starEach [b'] X.env = [(false, eval b' X.env)] := pl_star hp2
  refine of_pi (pi_range2 (gl_of cx hg) (by rw [cx.mg]; exact ok.bok _ hb) pa_w (by rw [pl_star hp, s2]) s2) ?_
  refine ha τ X cm o cx ρ H mh σ fr st _ (h.seq fun d1 mh1 ρ1 H1 v1 eq e1 g1 r1 h1 => ?_)
  have hl := evEs_len eq
  rw [hn] at hl
  unfold R.opt at h1
  split at h1
  · rename_i xs hx
    unfold rngV at hx
    split at hx
    · cases hl
    · split at hx
      · rename_i i j hj
        cases hx
        rw [Bool.and_eq_true, Bool.and_eq_true] at hj
        obtain ⟨v, w, rfl, rv, rw'⟩ := two_of r1
        unfold rep at rv rw'
        subst rv rw'
        obtain ⟨b1, b2⟩ := rng_of hj.1.1
        obtain ⟨b3, b4⟩ := rng_of hj.1.2
        exact ⟨i, j, rfl, ⟨b1, b2, b3, b4⟩, h1 ρ1 H1 _ (Ext.refl _ _) g1 ⟨_, reps_ints _ _, wk_rng _ _⟩⟩
      · cases hx
    · cases hx
  · exact False.elim h1

/-! ### list comprehensions -/
/-- the text of a comprehension's block -/
def blkSC (C : SC) (scope : Scope) : SC := { N := C.N, sc := relS scope C.sc, fnc := fun x => decide (scope.names.lookup x = some .cell), hasT := C.hasT, hasL := false, L := C.L, gn := C.gn }
theorem CtxOk.blk {scope : Scope} (cx : CtxOk G Y C k cm o X) (hk : scope.kind = .function) (s : Shared) (H : Hp) (cl : List (Str × Addr)) (D : Addr) (fp : List Addr) : CtxOk G Y (blkSC C scope) k (cm ++ [none]) ([] :: o) (X.blk s H scope (compEnvC scope cl D X.env) fp) where
  prog := cx.prog
  w := cx.w
  K := cx.K
  mg := cx.mg
  N := cx.N
  nd := cx.nd
  sc := by
    show relabel scope X.env = relS scope C.sc
    rw [← cx.sc]
    rfl
  kind := hk
  calm := cx.calm
  fn := fun x h => by
    have h : decide (scope.names.lookup x = some .cell) = true := h
    show (scope.names.lookup x == some .cell) = true
    rw [of_decide_eq_true h]
    rfl
  room := cx.room
  base := cx.base
  code := cx.code
  lamf := fun h => by cases h
  nlam := fun _ => by
    have e : ([] :: o).length = cm.length := by rw [cx.len]; rfl
    rw [e, List.getElem?_append_right (Nat.le_refl _), Nat.sub_self]
    rfl
  lamc := fun h => by cases h
  own := fun ci h => by
    have e : ([] :: o).length = cm.length := by rw [cx.len]; rfl
    rw [e, List.getElem?_append_right (Nat.le_refl _), Nat.sub_self] at h
    cases h
  len := by rw [List.length_append, cx.len]; rfl
theorem frameAt_blk {o : List Fr} {d : Nat} {f : Fr} (h : frameAt ([] :: o) d = some f) : (d < o.length ∧ frameAt o d = some f) ∨ f = [] := by
  unfold frameAt at h ⊢
  rw [List.length_cons] at h
  by_cases hd : d < o.length
  · left
    refine ⟨hd, ?_⟩
    rw [if_pos hd]
    rw [if_pos (by omega)] at h
    have e : o.length + 1 - 1 - d = (o.length - 1 - d) + 1 := by omega
    rw [e] at h
    exact h
  · right
    by_cases hd2 : d < o.length + 1
    · rw [if_pos hd2] at h
      have e : o.length + 1 - 1 - d = 0 := by omega
      rw [e] at h
      exact (Option.some.inj h).symm
    · rw [if_neg hd2] at h
      cases h
theorem OutB.blk {base : Heap} {ρ : List Addr} {H : Hp} (hl : cm.length = o.length + 1) (r : OutB G cm base ρ H o) : OutB G (cm ++ [none]) base ρ H ([] :: o) := fun d ci f h1 h2 h3 => by
  rcases frameAt_blk h2 with ⟨hd, h2⟩ | h2
  · rw [List.getElem?_append_left (by omega)] at h1
    exact (r d ci f h1 h2 h3).mv (fun _ _ z => z) fun d v z => z.mono (Deeper.app _ _) (Ext.refl _ _)
  · exact absurd h2 h3
/-- the tests of a comprehension -/
inductive SIf (G : GD) (Y : GX) (cf : CF) (k : Nat) (C : SC) : Cs → List Expr → Prop
  | none : SIf G Y cf k C .nil []
  | one {t : Ct} {e : Expr} : ST G Y cf k C t e → SIf G Y cf k C (.cons t .nil) [e]
def wTs (X : Cx) (ifs : List Expr) : TT := fun σ H Q => ∀ pins s, Inv X pins σ H s → wpAny (model X.prog X.w) X.A (forIn ifs true fun c r => if r = true then do let ok ← isTrue c X.env (eval c X.env); pure (ForInStep.yield ok) else pure (ForInStep.yield r)) (TP X pins σ Q) X.xe s
theorem sif_run {τ : List Addr} {cs : Cs} {ifs : List Expr} (hs : SIf G Y cf k C cs ifs) (cx : CtxOk (G.tm τ) Y C k cm o X) {ρ : List Addr} {H : Hp} {mh : MH} {σ : L2.St} {fr : Fr} (st : StR (G.tm τ) cm X o ρ H mh σ fr) {Q : Bool → Hp → Prop}
    (h : RK (G.tm τ) Y X σ rB1 ρ H (evTs Y.g cf o true cs fr mh) Q) : wTs X ifs σ H Q := by
  cases hs with
  | none =>
    unfold evTs at h
    exact fun pins s I => pts_nil.run pins s σ H Q I (rb_ok st.gd h)
  | one ht =>
    unfold evTs at h
    have key := ht τ X cm o cx ρ H mh σ fr st Q (h.seq fun d1 mh1 ρ1 H1 v1 _ e1 g1 r1 h1 => by
      have r1 : d1 = v1 := r1
      subst r1
      unfold evTs at h1
      cases d1
      · exact rb_ok g1 h1
      · exact rb_ok g1 h1)
    exact fun pins s I => (pts_one pt_w).run pins s σ H Q I key
theorem mapW_noexc {f : D → MH → R (Option D)} (hf : ∀ x h c h', f x h ≠ .exc c h') : ∀ (xs : List D) (h : MH) (c : Nat) (h' : MH), mapW f xs h ≠ .exc c h'
  | [], h, c, h', e => by unfold mapW at e; cases e
  | x :: xs, h, c, h', e => by
    unfold mapW at e
    cases hx : f x h with
    | ok o h1 =>
      rw [hx] at e
      have e : (mapW f xs h1).bind _ = .exc c h' := e
      cases hr : mapW f xs h1 with
      | ok ys h2 =>
        rw [hr] at e
        cases e
      | exc c2 h2 => exact mapW_noexc hf xs h1 c2 h2 hr
      | stk =>
        rw [hr] at e
        cases e
    | exc c2 h2 => exact hf x h c2 h2 hx
    | stk =>
      rw [hx] at e
      cases e
theorem noX_ok {α : Type} {r : R α} {a : α} {h : MH} (e : r.noX = .ok a h) : r = .ok a h := by
  cases r with
  | ok b h2 => exact e
  | exc c h2 => cases e
  | stk => cases e
theorem noX_exc {α : Type} {r : R α} {c : Nat} {h : MH} : r.noX ≠ .exc c h := by
  cases r <;> (intro e; cases e)
/-- a turn of a comprehension -/
def lcF (g : Pg) (cf : CF) (o : List Fr) (own : List Nat) (t : T) (ifs : Cs) (e : E) (fr : Fr) (x : D) (h2 : MH) : R (Option D) :=
  match asg t x (wipeF fr own) with
  | some fr1 => (evTs g cf ([] :: o) true ifs fr1 h2).noX.bind fun b h3 => (match b with
    | true => (evE g cf ([] :: o) e fr1 h3).noX.bind fun y h4 => .ok (some y) h4
    | false => .ok none h3)
  | none => .stk
theorem lcF_noexc {g : Pg} {cf : CF} {o : List Fr} {own : List Nat} {t : T} {ifs : Cs} {e : E} {fr : Fr} (x : D) (h : MH) (c : Nat) (h' : MH) : lcF g cf o own t ifs e fr x h ≠ .exc c h' := by
  intro q
  unfold lcF at q
  split at q
  · rename_i fr1 _
    cases h1 : (evTs g cf ([] :: o) true ifs fr1 h).noX with
    | ok b h3 =>
      rw [h1] at q
      cases b with
      | true =>
        have q : (evE g cf ([] :: o) e fr1 h3).noX.bind (fun y h4 => R.ok (some y) h4) = .exc c h' := q
        cases h2 : (evE g cf ([] :: o) e fr1 h3).noX with
        | ok y h4 =>
          rw [h2] at q
          cases q
        | exc c2 h4 => exact noX_exc h2
        | stk =>
          rw [h2] at q
          cases q
      | false => cases q
    | exc c2 h3 => exact noX_exc h1
    | stk =>
      rw [h1] at q
      cases q
  · cases q
theorem mapW_cons {f : D → MH → R (Option D)} {x : D} {xs zs : List D} {h h' : MH} (e : mapW f (x :: xs) h = .ok zs h') : ∃ o h1 ys, f x h = .ok o h1 ∧ mapW f xs h1 = .ok ys h' ∧ zs = (match o with | some y => y :: ys | none => ys) := by
  unfold mapW at e
  obtain ⟨o, h1, e1, e2⟩ := bind_ok e
  obtain ⟨ys, h2, e3, e4⟩ := bind_ok e2
  cases e4
  exact ⟨o, h1, ys, e1, e3, rfl⟩
theorem Gd.less {τ τ' : List Addr} {ρ : List Addr} {H : Hp} {mh : MH} (g : Gd (G.tm τ) ρ H mh) (h : ∀ a ∈ τ', a ∈ τ) : Gd (G.tm τ') ρ H mh where
  len := g.len
  nd := g.nd
  chg := fun n a o e1 e2 => by
    have := g.chg n a o e1 e2
    cases o with
    | gone => exact this
    | lst xs =>
      obtain ⟨ys, q1, q2⟩ := this
      exact ⟨ys, q1, q2.mv (Mv.less h) _ _⟩
    | dic xs =>
      obtain ⟨ys, q1, q2⟩ := this
      exact ⟨ys, q1, q2.mv (Mv.less h) _ _⟩
    | ins c fs => exact this
  tab := g.tab
  tmp := fun a m => g.tmp a (h a m)
/-- a new list, to be filled -/
theorem Gd.more {τ : List Addr} {ρ : List Addr} {H : Hp} {mh : MH} {p : Addr} (g : Gd (G.tm τ) ρ H mh) (h : H p = none) (xs : List V) : Gd (G.tm (p :: τ)) ρ (upd H p (.lst xs)) mh := by
  have g2 : Gd (G.tm τ) ρ (upd H p (.lst xs)) mh := g.new h
  refine ⟨g2.len, g2.nd, fun n a o e1 e2 => ?_, g2.tab, fun a m => ?_⟩
  · have k0 := g.chg n a o e1 e2
    obtain ⟨u, hu, _⟩ := k0.there
    have ha : upd H p (.lst xs) a = H a := by rw [upd_ne (ne_of_none hu h)]
    have ex : Ext ρ H ρ (upd H p (.lst xs)) := Ext.upd h
    cases o with
    | gone =>
      obtain ⟨o', q1, q2⟩ := k0
      exact ⟨o', by rw [ha]; exact q1, q2⟩
    | lst zs =>
      obtain ⟨ys, q1, q2⟩ := k0
      exact ⟨ys, by rw [ha]; exact q1, (q2.mv (Mv.more (p := p) h) _ _).mono (Deeper.refl _) ex _ _⟩
    | dic zs =>
      obtain ⟨ys, q1, q2⟩ := k0
      exact ⟨ys, by rw [ha]; exact q1, (q2.mv (Mv.more (p := p) h) _ _).mono (Deeper.refl _) ex _ _⟩
    | ins c fs => exact k0
  · rcases List.mem_cons.mp m with e | m
    · rw [e]
      exact ⟨g.fresh h, _, upd_same, rfl⟩
    · exact g2.tmp a m
/-- the list that is being made is written -/
theorem Gd.wr {τ : List Addr} {ρ : List Addr} {H : Hp} {mh : MH} {p : Addr} (g : Gd (G.tm τ) ρ H mh) (hp : p ∈ τ) (xs : List V) : Gd (G.tm τ) ρ (upd H p (.lst xs)) mh := by
  obtain ⟨np, u, hu, mu⟩ := g.tmp p hp
  have nt : ∀ b ps, H b = some (.tbl ps) → b ≠ p := fun b ps e z => by
    rw [z, hu] at e
    cases e
    cases mu
  refine ⟨g.len, g.nd, fun n a o e1 e2 => ?_, fun P q L e => ⟨(g.tab P q L e).1, (g.tab P q L e).2.kept' hu mu⟩, fun a m => ?_⟩
  · have k0 := g.chg n a o e1 e2
    have ha : upd H p (.lst xs) a = H a := by
      rw [upd_ne]
      intro z
      exact np (by rw [← z]; exact List.mem_of_getElem? e1)
    cases o with
    | gone =>
      obtain ⟨o', q1, q2⟩ := k0
      exact ⟨o', by rw [ha]; exact q1, q2⟩
    | lst zs =>
      obtain ⟨ys, q1, q2⟩ := k0
      exact ⟨ys, by rw [ha]; exact q1, q2.mv (Mv.wr hp) _ _⟩
    | dic zs =>
      obtain ⟨ys, q1, q2⟩ := k0
      exact ⟨ys, by rw [ha]; exact q1, q2.mv (Mv.wr hp) _ _⟩
    | ins c fs => exact k0
  · obtain ⟨n1, o, e, m1⟩ := g.tmp a m
    by_cases hb : a = p
    · subst hb
      exact ⟨n1, _, upd_same, rfl⟩
    · exact ⟨n1, o, by rw [upd_ne hb]; exact e, m1⟩
end
end FS

-- text FsR
set_option Elab.async false
set_option linter.all false
set_option maxHeartbeats 1000000
/-! FsR: any, all of a generator expression: the walk. -/
namespace FS
open PySem PySem.Spec PyProof.Rows L2 GxR GenW

/-- the context of a generator expression's body -/
abbrev gctx (X : Cx) (A : Around) (s : Shared) (H : Hp) (cenv : Env) (fp : List Addr) (pn : List (Addr × Obj)) : Cx :=
  { X with A := A, s_0 := s, H_0 := H, env := cenv, outer := X.stack, stack := cenv :: X.stack, ex := fp, fn := fun _ => false, pn := pn, xe := fun _ _ => False }
structure GSc (N : List Str) (sc scope : Scope) (own : List (Str × Nat)) : Prop where
  blk : BlkOk N sc scope own
  co : scope.isCoroutine = false
  cell : ∀ y ∈ scope.names, y.2 ≠ .cell
  dot : scope.names.lookup (".0" : Str) = some NameKind.local
section
variable {X : Cx} {pins : List (Addr × Obj)} {σ : L2.St} {H : Hp} {s s' : Shared}
theorem Inv.same (I : Inv X pins σ H s) (h : s'.heap = s.heap) (os : s'.os = s.os) (b : AllBare s'.gens) : Inv X pins σ H s' :=
  I.call' (ch := []) os (Un.kept fun b o e => by rw [h]; exact e) (I.hok.kept fun b o e => by rw [h]; exact e) b fun b z => by cases z
theorem Inv.more (I : Inv X pins σ H s) (h : ∀ b o, s.heap.get? b = some o → s'.heap.get? b = some o) (os : s'.os = s.os) (b : AllBare s'.gens) : Inv X pins σ H s' :=
  I.call' (ch := []) os (Un.kept h) (I.hok.kept h) b fun b z => by cases z
theorem gen_start {own : List (Str × Nat)} {scope : Scope} {fp : List Addr} {A : Around} {code : Value} {cenv : Env} {a : Addr} {gob : Obj} {m : Str → Option Value} (I : Inv X pins σ H s) (S : GSc X.N X.env.scope scope own) (hN : X.N.Nodup)
    (hfp : ∀ b ∈ fp, FpOk X pins H b ∧ b < s.heap.objs.size) (hcenv : cenv = genEnv scope (cloFrom X.env.cells scope.names []) s.heap.objs.size code builtinsNs X.env) (hA : A.frames = some (cenv :: X.stack)) (hh : X.calm = true → A.handled = none)
    (kp : ∀ b o, s.heap.get? b = some o → s'.heap.get? b = some o) (os : s'.os = s.os) (bare : AllBare s'.gens) (ns : s'.heap.Ns s.heap.objs.size m) (ha : s.heap.objs.size < a) (hg : s'.heap.get? a = some gob) (hgd : ∀ v, gob.data ≠ .cell v) :
    Inv (gctx X A s H cenv fp [(a, gob)]) [] (wipe σ (own.map (·.2))) H s' := by
  have ok := S.blk
  have hfree : ∀ y ∈ scope.names, y.2 = .free → ∃ c, X.env.cells.lookup y.1 = some c := fun y hy e => by
    rcases ok.free y hy e with k | k
    · exact I.ok.has _ (.inl k)
    · exact I.ok.has _ (.inr k)
  have hL : cenv.locals = s.heap.objs.size := by rw [hcenv]; rfl
  have hcl : cenv.cells = cloFrom X.env.cells scope.names [] := by rw [hcenv]; rfl
  have hsc : cenv.scope = scope := by rw [hcenv]; rfl
  have mem : ∀ {y c}, cenv.cells.lookup y = some c → X.env.cells.lookup y = some c ∧ c < s.heap.objs.size := fun {y c} e => by
    rw [hcl] at e
    rcases cloFrom_mem (PySem.mem_of_lookup e) with hm | ⟨h1, rfl⟩
    · cases hm
    · obtain ⟨c, hc⟩ := hfree _ h1 rfl
      rw [hc]
      obtain ⟨w, z⟩ := I.cell _ _ hc
      exact ⟨rfl, z.lt⟩
  have look : ∀ {y}, scope.names.lookup y = some .free → ∃ c, cenv.cells.lookup y = some c ∧ X.env.cells.lookup y = some c := fun {y} hl => by
    obtain ⟨c', e'⟩ := mem_lookup (cloFrom_has (cells := X.env.cells) (acc := []) (PySem.mem_of_lookup hl))
    rw [← hcl] at e'
    exact ⟨c', e', (mem e').1⟩
  have noc : ∀ y, scope.names.lookup y ≠ some .cell := fun y e => S.cell _ (PySem.mem_of_lookup e) rfl
  have okB : (gctx X A s H cenv fp [(a, gob)]).Ok := by
    refine ⟨I.ok.mod, by show cenv.scope.kind = _; rw [hsc]; exact ok.kind, by show cenv.globals = _; rw [hcenv]; exact I.ok.glob, by show cenv.builtins = _; rw [hcenv]; rfl, by show s.heap.objs.size ≤ cenv.locals; rw [hL]; exact Nat.le_refl _,
      fun y z c e1 e2 => I.ok.inj y z c (mem e1).1 (mem e2).1, fun y hy => ?_, fun y c z e => (by cases z), hh, hA, .inr ⟨rfl, by rw [hcenv]; rfl⟩, fun b hb => ⟨?_, fun y c e z => ?_⟩, I.bs, Nat.le_trans I.ok.bsz I.sz, fun b o e hb => ?_, fun b hb z => ?_, I.stack, I.stkFree⟩
    · show ∃ c, cenv.cells.lookup y = some c
      have hy : cenv.scope.names.lookup y = some .cell ∨ cenv.scope.names.lookup y = some .free := hy
      rw [hsc] at hy
      rcases hy with hy | hy
      · exact absurd hy (noc y)
      · obtain ⟨c, h1, _⟩ := look hy
        exact ⟨c, h1⟩
    · show b ≠ cenv.locals
      rw [hL]; exact Nat.ne_of_lt (hfp b hb).2
    · exact (hfp b hb).1.2.2.2.2.1 y c (mem e).1 z
    · rcases (hfp b hb).1.2.2.2.1 with z | z
      · exact I.ok.noex b o e z
      · exact absurd (Nat.lt_of_lt_of_le (Heap.lt_size e) (Nat.le_trans I.ok.bsz z)) (Nat.lt_irrefl _)
    · rcases List.mem_cons.mp (I.stkSub b z) with z | z
      · exact (hfp b hb).1.2.1 z
      · exact (hfp b hb).1.2.2.1 z
  refine ⟨okB, os, bare, Un.kept kp, ⟨m, ?_, fun i y av e1 e2 e3 => ?_⟩, fun y c e => ?_, ?_, fun y c e => ?_, fun p hp => ?_, I.hok.kept kp, by rw [wipe_length]; exact I.len⟩
  · show Heap.Ns _ cenv.locals _
    rw [hL]; exact ns
  · obtain ⟨e2, hne⟩ := wipe_some e2
    have e3 : Vis cenv.scope y := e3
    unfold Vis at e3
    rw [hsc] at e3
    have no : scope.names.lookup y ≠ some .local := fun e => by
      rcases ok.own _ (PySem.mem_of_lookup e) (.inl rfl) with e' | e'
      · obtain ⟨p, hp, hpy⟩ := List.mem_map.mp e'
        have e3 := ok.ix p hp
        have : p.1 = y := hpy
        rw [this] at e3
        exact hne (List.mem_map.mpr ⟨p, hp, nodup_ix hN e3 e1⟩)
      · exact e' (List.mem_of_getElem? e1)
    have hfr : scope.names.lookup y = some .free := by
      rcases e3 with e3 | e3 | e3
      · exact absurd e3 no
      · exact absurd e3 (noc y)
      · exact e3
    obtain ⟨m', hn, hl⟩ := I.loc
    have hvis : Vis X.env.scope y := (ok.free _ (PySem.mem_of_lookup hfr) rfl).elim (fun k => .inr (.inl k)) (fun k => .inr (.inr k))
    obtain ⟨w, r, q⟩ := hl i y av e1 e2 hvis
    refine ⟨w, r, .inr ⟨.inr (by show cenv.scope.names.lookup y = _; rw [hsc]; exact hfr), ?_⟩⟩
    obtain ⟨c, h1, h2⟩ := look hfr
    rcases q with ⟨k, _⟩ | ⟨_, c', e', z⟩
    · have k : X.env.scope.names.lookup y = some .local := k
      rcases ok.free _ (PySem.mem_of_lookup hfr) rfl with k' | k' <;> rw [show X.env.scope.names.lookup y = _ from k'] at k <;> cases k
    · rw [h2] at e'; cases e'
      exact ⟨c, h1, z.keeps kp⟩
  · obtain ⟨w, z⟩ := I.cell y c (mem e).1
    exact ⟨w, z.keeps kp⟩
  · show H cenv.locals = none
    rw [hL]; exact I.hok.fresh (Nat.le_refl _)
  · exact I.freeC y c (mem e).1
  · have hp : p ∈ [(a, gob)] ++ ([] : List (Addr × Obj)) := hp
    rw [List.append_nil] at hp
    rw [List.mem_singleton.mp hp]
    refine ⟨hg, I.hok.fresh (Nat.le_of_lt ha), by show a ≠ cenv.locals; rw [hL]; exact Nat.ne_of_gt ha, fun z => ?_, hgd⟩
    have z : a ∈ frs X.stack := z
    rcases List.mem_cons.mp (I.stkSub a z) with z | z
    · have := I.lt
      rw [← z] at this
      exact absurd (Nat.lt_trans ha this) (Nat.lt_irrefl _)
    · exact I.nofs (Nat.le_of_lt ha) z

/-! ### the generator, between two steps -/
def gEnd (X : Cx) (pins : List (Addr × Obj)) (σ : L2.St) (w : Bool) (Q : VK) : GenEnd := fun _ _ r s1 => r = .ok .next ∧ ∃ H', Inv X pins σ H' s1 ∧ Q (.bl (!w)) H'
def gY (X : Cx) (pins : List (Addr × Obj)) (σ : L2.St) (w : Bool) (Q : VK) (a : Addr) (g : Nat) : Protocol := fun _ _ v s kap =>
  ∃ H' c, Inv X pins σ H' s ∧ s.heap.IsGen a g ∧ v = .bool c ∧ (if c = w then Q (.bl w) H' else ∀ s'' : Shared, s''.heap = s.heap → s''.os = s.os → AllBare s''.gens → kap (.send .none) s'')
structure GRun (X : Cx) (pins : List (Addr × Obj)) (σ : L2.St) (w : Bool) (Q : VK) (a : Addr) (g n : Nat) (gs : GenState) (s : Shared) : Prop where
  isgen : s.heap.IsGen a g
  lim : s.heap.NoLimit
  bare : AllBare s.gens
  at_ : s.gens[g]? = some gs
  go : ∀ s'' : Shared, s''.heap = s.heap → s''.os = s.os → AllBare s''.gens → gs.Goes (model X.prog X.w) X.A.in1.in1 (gEnd X pins σ w Q) (gY X pins σ w Q a g) n (.send .none) s''
theorem gen_next {w : Bool} {Q : VK} {a : Addr} {g n : Nat} {gs : GenState} {K : Option Value → Shared → Prop} {E : Value → Shared → Prop} (hh : X.A.handled = none) (hd : X.A.depth < recursionLimit) (r : GRun X pins σ w Q a g n gs s)
    (h1 : ∀ s', (∃ H', Inv X pins σ H' s' ∧ Q (.bl (!w)) H') → K none s') (h2 : ∀ s', (∃ H', Inv X pins σ H' s' ∧ Q (.bl w) H') → K (some (.bool w)) s')
    (h3 : ∀ s' m gs', n = m + 1 → GRun X pins σ w Q a g m gs' s' → K (some (.bool (!w))) s') : wpAny (model X.prog X.w) X.A.in1 (pyNext (.ref a)) K E s := by
  have hlt : g + 1 ≤ s.gens.size := by
    have := r.at_
    obtain ⟨hi, _⟩ := Array.getElem?_eq_some_iff.mp this
    exact hi
  refine wpAny_gsz (n := g + 1) hlt (wpAny_pyNext_genexpQ (P := fun _ _ s1 => ∃ H', Inv X pins σ H' s1 ∧ Q (.bl (!w)) H') hh r.lim hd r.isgen r.at_ (r.go _ rfl rfl (allBare_setGen r.bare rfl)) (fun v s1 gs' hb hv => ?_) (fun s1 hp h' hk => ?_))
  · obtain ⟨H', c, I, hg, rfl, hq⟩ := hv
    intro hsz
    have hsz : g + 1 ≤ s1.gens.size := by
      rw [setGen_size] at hsz
      exact hsz
    by_cases hc : c = w
    · subst hc
      rw [if_pos rfl] at hq
      exact h2 _ ⟨H', Inv.same I rfl rfl (allBare_setGen I.bare hb), hq⟩
    · rw [if_neg hc] at hq
      have e : c = !w := by cases c <;> cases w <;> first | rfl | exact absurd rfl hc
      subst e
      cases n with
      | zero => exact False.elim (hq s1 rfl rfl I.bare)
      | succ m =>
        refine h3 _ m gs' rfl ⟨hg, I.nolimit, allBare_setGen I.bare hb, setGen_at hsz, fun s'' e1 e2 e3 => ?_⟩
        exact hq s'' e1 e2 e3
  · obtain ⟨H', I, q⟩ := hp
    intro _
    exact h1 _ ⟨H', Inv.more (s' := { s1.setGen g .finished with heap := h' }) I hk rfl (allBare_setGen I.bare rfl), q⟩
theorem any_loop {Q : VK} {a : Addr} {g : Nat} {R : Result → Shared → Prop} (hh : X.A.handled = none) (hd : X.A.depth < recursionLimit) (hR : ∀ b s' H', Inv X pins σ H' s' → Q (.bl b) H' → R (.ok (.ret (.bool b))) s') :
    ∀ (n : Nat) (gs : GenState) (s : Shared), GRun X pins σ true Q a g n gs s → codeAny (model X.prog X.w) X.A (.builtin "any.loop" ⟨[.ref a], []⟩) R s := by
  intro n
  induction n with
  | zero =>
    intro gs s r
    refine codeAny_builtin F.entry_any_loop ?_
    rw [Around.under_plainId F.plain_any_loop _]
    show wpAny _ X.A.in1 (pyNext (.ref a) >>= _) _ _ s
    refine wpAny_bind (gen_next hh hd r (fun s' ⟨H', I, q⟩ => ?_) (fun s' ⟨H', I, q⟩ => ?_) fun s' m gs' e _ => by cases e)
    · exact wpAny_bind (wpAny_rule (wpAny_pure (hR false s' H' I q)))
    · refine wpAny_bind (wpAny_holding (wpAny_truthy_bool ?_))
      refine wpAny_bind (wpAny_letGo ?_)
      simp only [if_true]
      exact wpAny_bind (wpAny_rule (wpAny_pure (hR true s' H' I q)))
  | succ n ih =>
    intro gs s r
    refine codeAny_builtin F.entry_any_loop ?_
    rw [Around.under_plainId F.plain_any_loop _]
    show wpAny _ X.A.in1 (pyNext (.ref a) >>= _) _ _ s
    refine wpAny_bind (gen_next hh hd r (fun s' ⟨H', I, q⟩ => ?_) (fun s' ⟨H', I, q⟩ => ?_) fun s' m gs' e r' => ?_)
    · exact wpAny_bind (wpAny_rule (wpAny_pure (hR false s' H' I q)))
    · refine wpAny_bind (wpAny_holding (wpAny_truthy_bool ?_))
      refine wpAny_bind (wpAny_letGo ?_)
      simp only [if_true]
      exact wpAny_bind (wpAny_rule (wpAny_pure (hR true s' H' I q)))
    · cases e
      refine wpAny_bind (wpAny_holding (wpAny_truthy_bool ?_))
      refine wpAny_bind (wpAny_letGo ?_)
      simp only [Bool.not_true, Bool.false_eq_true, if_false]
      exact wpAny_pure ⟨plainId_quiet F.plain_any_loop _, ih gs' s' r'⟩
theorem all_loop {Q : VK} {a : Addr} {g : Nat} {R : Result → Shared → Prop} (hh : X.A.handled = none) (hd : X.A.depth < recursionLimit) (hR : ∀ b s' H', Inv X pins σ H' s' → Q (.bl b) H' → R (.ok (.ret (.bool b))) s') :
    ∀ (n : Nat) (gs : GenState) (s : Shared), GRun X pins σ false Q a g n gs s → codeAny (model X.prog X.w) X.A (.builtin "all.loop" ⟨[.ref a], []⟩) R s := by
  intro n
  induction n with
  | zero =>
    intro gs s r
    refine codeAny_builtin F.entry_all_loop ?_
    rw [Around.under_plainId F.plain_all_loop _]
    show wpAny _ X.A.in1 (pyNext (.ref a) >>= _) _ _ s
    refine wpAny_bind (gen_next hh hd r (fun s' ⟨H', I, q⟩ => ?_) (fun s' ⟨H', I, q⟩ => ?_) fun s' m gs' e _ => by cases e)
    · exact wpAny_bind (wpAny_rule (wpAny_pure (hR true s' H' I q)))
    · refine wpAny_bind (wpAny_holding (wpAny_truthy_bool ?_))
      refine wpAny_bind (wpAny_letGo ?_)
      simp only [Bool.false_eq_true, if_false]
      exact wpAny_bind (wpAny_rule (wpAny_pure (hR false s' H' I q)))
  | succ n ih =>
    intro gs s r
    refine codeAny_builtin F.entry_all_loop ?_
    rw [Around.under_plainId F.plain_all_loop _]
    show wpAny _ X.A.in1 (pyNext (.ref a) >>= _) _ _ s
    refine wpAny_bind (gen_next hh hd r (fun s' ⟨H', I, q⟩ => ?_) (fun s' ⟨H', I, q⟩ => ?_) fun s' m gs' e r' => ?_)
    · exact wpAny_bind (wpAny_rule (wpAny_pure (hR true s' H' I q)))
    · refine wpAny_bind (wpAny_holding (wpAny_truthy_bool ?_))
      refine wpAny_bind (wpAny_letGo ?_)
      simp only [Bool.false_eq_true, if_false]
      exact wpAny_bind (wpAny_rule (wpAny_pure (hR false s' H' I q)))
    · cases e
      refine wpAny_bind (wpAny_holding (wpAny_truthy_bool ?_))
      refine wpAny_bind (wpAny_letGo ?_)
      simp only [Bool.not_false, if_true]
      exact wpAny_pure ⟨plainId_quiet F.plain_all_loop _, ih gs' s' r'⟩
end
end FS

-- text FsR2
set_option Elab.async false
set_option linter.all false
set_option maxHeartbeats 1000000
/-! FsR2: any, all of a generator expression: the rule. -/
namespace FS
open PySem PySem.Spec PyProof.Rows L2 GxR GenW

/-- the table at P has grown by the place gpos, or it had it -/
def Grew (P : Addr) (gpos : Pos) (ps : Array Value) (H1 H2 : Hp) : Prop :=
  ∃ more : Array Value, H2 = upd H1 P (.tbl (ps ++ more)) ∧ (more = #[] ∨ (codeAmong gpos ps.toList = none ∧ ∃ c, more = #[rawInt gpos.line, rawInt gpos.col, .ref c]))
/-- what a turn is to reach -/
def GTurn (w : Bool) (J : It) (g : TG) (tt : TT) (te : TE) (vs : List Nat) (σ : L2.St) (Q : VK) (W : Nat → Nat → Hp → Prop) : Prop := ∀ i m H, W i m H →
  (J.stop i H ∧ Q (.bl (!w)) H) ∨ (J.go i H ∧ ∃ Nx : Hp → Prop, (∀ H', Nx H' → ∃ m', m' < m ∧ W (i + 1) m' H') ∧ ∀ x H', J.yld i H x H' → g x (wipe σ vs) H' fun σ2 H2 => wipe σ2 vs = wipe σ vs ∧ tt σ2 H2 fun b H3 =>
    if b = true then te σ2 H3 fun y H4 => ∃ c, y = .bl c ∧ (if c = w then Q (.bl w) H4 else Nx H4) else Nx H3)
def tGen (w : Bool) (P : Addr) (gpos : Pos) (wi : TI) (g : TG) (tt : TT) (te : TE) (vs : List Nat) : TE := fun σ H Q => wi σ H fun J H1 => ∃ ps : Array Value, H1 P = some (.tbl ps) ∧ TriplesOk ps.toList ∧
  ∀ H2, Grew P gpos ps H1 H2 → ∃ W : Nat → Nat → Hp → Prop, (∃ m, W 0 m H2) ∧ GTurn w J g tt te vs σ Q W
section
variable {X : Cx} {pins : List (Addr × Obj)} {σ : L2.St} {H : Hp} {s s' : Shared}
theorem seg_gen {w : Bool} {Q : VK} {elt tg iter : Expr} {ifs : List Expr} {scope : Scope} {own : List (Str × Nat)} {pos : Pos} {g : TG} {tt : TT} {te : TE} {it a : Addr} {gi : Nat} {fp : List Addr} {tn : Nat → Heap → Prop} {J : It} {cenv : Env} {gob : Obj} {s4 : Shared} {H4 : Hp} {A : Around}
    (hc : X.calm = true) (I4 : Inv X pins σ H4 s4) (hfp : ∀ b ∈ fp, FpOk X pins H4 b ∧ b < s4.heap.objs.size) (T : Turn X.prog X.w X.K tg J fp it tn) (hgen : ∀ h : Heap, h.get? a = some gob → h.IsGen a gi) (hL : cenv.locals = s4.heap.objs.size) (ha : s4.heap.objs.size < a)
    (hco : cenv.scope.isCoroutine = false) (hA : A = X.A.in1.in1.over (.compLoop (.GeneratorExp elt [⟨tg, iter, ifs, 0⟩] scope pos) 0 (.ref it) .none cenv) [])
    (pg : PG (gctx X A s4 H4 cenv fp [(a, gob)]) tg g) (pt : PTs (gctx X A s4 H4 cenv fp [(a, gob)]) ifs tt) (pe : PE (gctx X A s4 H4 cenv fp [(a, gob)]) elt te) {W : Nat → Nat → Hp → Prop} (turn : GTurn w J g tt te (own.map (·.2)) σ Q W) :
    ∀ (m n i : Nat) (s0 s : Shared) (H : Hp), m < n → Inv (gctx X A s4 H4 cenv fp [(a, gob)]) [] (wipe σ (own.map (·.2))) H s → tn i s.heap → (∀ b ∈ fp, H b = none) → W i m H →
      Seg (model X.prog X.w) X.A.in1.in1 (gEnd X pins σ w Q) (gY X pins σ w Q a gi) n s0 (.compLoop (.GeneratorExp elt [⟨tg, iter, ifs, 0⟩] scope pos) 0 (.ref it) .none cenv) ((model X.prog X.w).den (.compLoop (.GeneratorExp elt [⟨tg, iter, ifs, 0⟩] scope pos) 0 (.ref it) .none cenv)) [] s := by
  subst hA
  generalize hX' : gctx X (X.A.in1.in1.over (.compLoop (.GeneratorExp elt [⟨tg, iter, ifs, 0⟩] scope pos) 0 (.ref it) .none cenv) []) s4 H4 cenv fp [(a, gob)] = X' at pg pt pe ⊢
  have xA : X'.A = X.A.in1.in1.over (.compLoop (.GeneratorExp elt [⟨tg, iter, ifs, 0⟩] scope pos) 0 (.ref it) .none cenv) [] := by rw [← hX']
  have xP : X'.prog = X.prog := by rw [← hX']
  have xW : X'.w = X.w := by rw [← hX']
  have xK : X'.K = X.K := by rw [← hX']
  have xe : X'.xe = fun _ _ => False := by rw [← hX']
  have xv : X'.env = cenv := by rw [← hX']
  have xx : X'.ex = fp := by rw [← hX']
  have xp : X'.pn = [(a, gob)] := by rw [← hX']
  have back : ∀ {pins' : List (Addr × Obj)} {σ' : L2.St} {H' : Hp} {s' : Shared}, Inv X' pins' σ' H' s' → Inv X pins σ H' s' := fun {pins' σ' H' s'} I' => by
    rw [← hX'] at I'
    exact I4.call' (ch := fp) I'.os I'.base I'.hok I'.bare fun b hb => ⟨(hfp b hb).1.2.2.2.1, (hfp b hb).1.2.1, (hfp b hb).1.2.2.2.2.1, (hfp b hb).1.2.2.2.2.2⟩
  have isg : ∀ {pins' : List (Addr × Obj)} {σ' : L2.St} {H' : Hp} {s' : Shared}, Inv X' pins' σ' H' s' → s'.heap.IsGen a gi := fun {pins' σ' H' s'} I' =>
    hgen _ (I'.pin (a, gob) (List.mem_append_left _ (by rw [xp]; exact List.mem_singleton.mpr rfl))).1
  have stat : ∀ {σ' : L2.St} {H' : Hp} {s' : Shared}, Inv X' [] σ' H' s' → (∀ b ∈ fp, H' b = none) → ∀ b ∈ fp, FpOk X' [] H' b := fun {σ' H' s'} I' hn b hb =>
    ⟨hn b hb, (I'.ok.exf b (by rw [xx]; exact hb)).1, I'.ok.exfs b (by rw [xx]; exact hb), .inl (by rw [xx]; exact hb), fun x c e => (I'.ok.exf b (by rw [xx]; exact hb)).2 x c e, fun p hp => by
      rw [xp, List.append_nil] at hp
      rw [List.mem_singleton.mp hp]
      exact Nat.ne_of_gt (Nat.lt_trans (hfp b hb).2 ha)⟩
  have hcX : X'.calm = true := by rw [← hX']; exact hc
  intro m
  induction m using Nat.strongRecOn with
  | ind m ih =>
    intro n i s0 s H hmn I st hn hw
    show Seg _ X.A.in1.in1 _ _ _ s0 _ ((compTurn (.GeneratorExp elt [⟨tg, iter, ifs, 0⟩] scope pos) 0 (.ref it) .none cenv).onRaise (leaving cenv)) [] s
    rw [compTurn_gen, Sem.onRaise_eq_wrap]
    refine seg_bind_wrap (wpAny_standAt ?_)
    rcases turn i m H hw with ⟨stop, qq⟩ | ⟨go, Nx, hNx, step⟩
    · have td := T.done X' xP xW xK hcX i [] s _ H (fun _ _ => False) I (stat I hn) st stop
      rw [xA] at td
      refine seg_bind_wrap (thnF td fun r s6 ⟨hr, I6⟩ => ?_)
      subst hr
      exact seg_end (.ok .next) ⟨rfl, H, back I6, qq⟩
    · have ti := T.item X' xP xW xK hcX i [] s _ H (fun _ _ => False) I (stat I hn) st go
      rw [xA] at ti
      refine seg_bind_wrap (thnF ti fun r s6 ⟨u, hr, h6⟩ => ?_)
      subst hr
      refine seg_bind_wrap (thnF h6 fun _ s7 ⟨x, H7, I7, r7, y7, st7, n7⟩ => ?_)
      have I7' := I7.pinned (stat I7 n7) (T.obj _ _ st7)
      have g7 := pg.run _ s7 _ H7 x u _ I7' r7 (step x H7 y7)
      rw [xA, xP, xW, xv, xe] at g7
      refine seg_bind_wrap (thnF g7 fun _ s8 ⟨σ8, H8, I8, hw8, q8⟩ => ?_)
      have g8 := pt.run _ s8 σ8 H8 _ I8 q8
      rw [xA, xP, xW, xv, xe] at g8
      refine seg_bind_wrap (thnF g8 fun b s9 ⟨H9, I9, q9⟩ => ?_)
      have fin : ∀ {s' : Shared} {H' : Hp}, Inv X' ([] ++ pinsAt fp s7.heap) σ8 H' s' → Nx H' → ∀ n' s0' s'', n = n' ∨ n = n' + 1 → s''.heap = s'.heap → s''.os = s'.os → AllBare s''.gens →
          Seg (model X.prog X.w) X.A.in1.in1 (gEnd X pins σ w Q) (gY X pins σ w Q a gi) n' s0' (.compLoop (.GeneratorExp elt [⟨tg, iter, ifs, 0⟩] scope pos) 0 (.ref it) .none cenv) ((model X.prog X.w).den (.compLoop (.GeneratorExp elt [⟨tg, iter, ifs, 0⟩] scope pos) 0 (.ref it) .none cenv)) [] s'' := fun {s' H'} I' nx n' s0' s'' hn' e1 e2 e3 => by
        obtain ⟨m', hm, w'⟩ := hNx H' nx
        have pin' : ∀ b ∈ fp, ∀ o, s7.heap.get? b = some o → s'.heap.get? b = some o ∧ H' b = none := fun b hb o e =>
          let z := I'.pin (b, o) (List.mem_append_right _ (List.mem_append_right _ (mem_pinsAt hb e)))
          ⟨z.1, z.2.1⟩
        have hl : (wipe σ (own.map (·.2))).length = σ8.length := by rw [← hw8, wipe_length]
        have I2 : Inv X' [] (wipe σ (own.map (·.2))) H' s' := (I'.unpinned (pins := [])).weak hl (fun j v e => by
          rw [← hw8] at e
          exact (wipe_some e).1)
        refine ih m' hm n' (i + 1) s0' s'' H' (by omega) (Inv.same I2 e1 e2 e3) (T.keep _ _ _ st7 fun b hb o e => ?_) (fun b hb => ?_) w'
        · rw [e1]
          exact (pin' b hb o e).1
        · obtain ⟨o, e, _⟩ := T.obj _ _ st7 b hb
          exact (pin' b hb o e).2
      cases b with
      | false =>
        simp only [Bool.false_eq_true, if_false] at q9 ⊢
        exact seg_again rfl (fin I9 q9 n s0 s9 (.inl rfl) rfl rfl I9.bare)
      | true =>
        simp only [if_true] at q9 ⊢
        have hy : ∀ v, yieldOut cenv v = yieldValue v := fun v => by simp only [yieldOut, hco, Bool.false_eq_true, if_false]
        simp only [hy]
        rw [Sem.bind_eq_wrap', Sem.bind_eq_wrap', Sem.wrap_wrap, Sem.wrap_wrap]
        have g9 := pe.run _ s9 σ8 H9 _ I9 q9
        rw [xA, xP, xW, xv, xe] at g9
        refine seg_wrap (thnF g9 fun z s10 ⟨yv, H10, I10, r10, c, ey, hcw⟩ => ?_)
        subst ey
        obtain rfl : z = Value.bool c := r10
        cases n with
        | zero => exact absurd hmn (Nat.not_lt_zero _)
        | succ n' =>
          refine seg_at (seg_yield rfl rfl rfl ⟨H10, c, back I10, isg I10, rfl, ?_⟩)
          by_cases hcc : c = w
          · rw [if_pos hcc] at hcw ⊢
            exact hcw
          · rw [if_neg hcc] at hcw ⊢
            intro s'' e1 e2 e3
            exact seg_again rfl (fin I10 hcw n' s'' s'' (.inr rfl) e1 e2 e3)
theorem gen_core {w : Bool} {c P : Addr} {Q : VK} {elt tg iter : Expr} {ifs : List Expr} {scope : Scope} {own : List (Str × Nat)} {pos : Pos} {wi : TI} {g : TG} {tt : TT} {te : TE} {k : Nat} {K : Value → Shared → Prop}
    (hc : X.calm = true) (hN : X.N.Nodup) (hr : Room (k + 1) X.A) (TB : TabB X.base X.mg c P) (hcode : X.env.code = .ref c) (I : Inv X pins σ H s) (hi : PI X tg iter wi) (S : GSc X.N X.env.scope scope own)
    (hg : ∀ A s H C code fp pn, Room k A → PG (gctx X A s H (genEnv scope (cloFrom X.env.cells scope.names []) C code builtinsNs X.env) fp pn) tg g) (ht : ∀ A s H C code fp pn, Room k A → PTs (gctx X A s H (genEnv scope (cloFrom X.env.cells scope.names []) C code builtinsNs X.env) fp pn) ifs tt)
    (he : ∀ A s H C code fp pn, Room k A → PE (gctx X A s H (genEnv scope (cloFrom X.env.cells scope.names []) C code builtinsNs X.env) fp pn) elt te) (hs : ∀ x, genFold iter X.env x = pure x) (h : tGen w P pos wi g tt te (own.map (·.2)) σ H Q)
    (hK : ∀ a g n gs s', GRun X pins σ w Q a g n gs s' → K (.ref a) s') :
    wpAny (model X.prog X.w) X.A (eval (.GeneratorExp elt [⟨tg, iter, ifs, 0⟩] scope pos) X.env) K X.xe s := by
  have hh : X.A.handled = none := hr.hd
  have hd : X.A.depth < recursionLimit := by have := hr.dp; omega
  have hfree : ∀ y ∈ scope.names, y.2 = .free → ∃ c, X.env.cells.lookup y.1 = some c := fun y hy e => by
    rcases S.blk.free y hy e with k | k
    · exact I.ok.has _ (.inl k)
    · exact I.ok.has _ (.inr k)
  refine wpAny_GeneratorExp_make S.co (closure_ok hfree) S.cell S.dot S.blk.kind hd (thn (hi.run pins s σ H _ I h) fun xv s1 hx => thn hx fun itv s2 h2 => ?_) hs
  obtain ⟨it, fp, tn, J, H2, e, I2, T, st2, f2, ps, hP, htr, q⟩ := h2
  subst e
  refine ⟨I2.nolimit, ?_⟩
  have hPs : s2.heap.get? P = some { cls := .none, data := .fields ps } := I2.hok P _ hP
  have hPlt : P < s2.heap.objs.size := Heap.lt_size hPs
  have cd : PySem.W.CodeHd s2.heap c P := TB.code.keeps fun b u e => I2.bk b u e
  have nfP : ∀ b ∈ fp, b ≠ P := fun b hb z => by
    have := (f2 b hb).1
    rw [z, hP] at this
    cases this
  have cont : ∀ (code : Value) (h3 : Heap) (tk : Nat) (ps' more : Array Value), Heap.ExtBut P s2.heap h3 → s2.heap.objs.size ≤ h3.objs.size → h3.get? P = some { cls := .none, data := .fields ps' } → ps' = ps ++ more → (more = #[] ∨ (codeAmong pos ps.toList = none ∧ ∃ c, more = #[rawInt pos.line, rawInt pos.col, .ref c])) →
      wpAny (model X.prog X.w) X.A (builtinsFor X.env.globals X.env.builtins) (fun bi s₄ => ∀ h', h'.Ns s₄.heap.objs.size (fun y => if y = ".0" then some (Value.ref it) else none) → Heap.SameBut s₄.heap.objs.size (s₄.heap.push { cls := .type "frame", data := .dict #[] }) h' →
          K (.ref h'.objs.size) { s₄ with
            gens := s₄.gens.push (.fresh (.compStart (.GeneratorExp elt [⟨tg, iter, ifs, 0⟩] scope pos) 0 (.ref it) .none (genEnv scope (cloFrom X.env.cells scope.names []) s₄.heap.objs.size code bi X.env))),
            toks := s₄.toks + 1 + 1 + 1,
            heap := h'.push { cls := .type "generator", data := .fields #[.int s₄.gens.size 0, .str "<genexpr>" (s₄.toks + 1), .str (X.env.qual ++ "<genexpr>") (s₄.toks + 1 + 1)] } }) X.xe { s2 with heap := h3, toks := tk } := by
    intro code h3 tk ps' more hx hsz hP3 eps hmore
    obtain ⟨bm, ob, e1, e2, e3, e4, e5, e6, e7, e8⟩ := TB.bm
    have keep3 : ∀ b u, b ≠ P → s2.heap.get? b = some u → h3.get? b = some u := fun b u hb e => hx b u hb e
    refine wpAny_builtinsFor (m := X.mg) (by rw [I2.ok.glob]; exact (I2.mod.glob.keeps I2.bk).extBut hx TB.gP) e1 e2 (keep3 _ _ e4 (I2.bk _ _ e5)) e6 e7 e8 ?_
    generalize hH3 : upd H2 P (.tbl (ps ++ more)) = H3
    have I4 : Inv X pins σ H3 { s2 with heap := h3, toks := tk } := by
      rw [← hH3]
      exact inv_tab (g' := s2.gens) (d' := s2.drawn) (t' := tk) I2 hP keep3 (by rw [← eps]; exact hP3) I2.bare
    generalize hs4 : ({ s2 with heap := h3, toks := tk } : Shared) = s4 at I4 ⊢
    have s4h : s4.heap = h3 := by rw [← hs4]
    intro h' hn' hsb
    have ez : h'.objs.size = s4.heap.objs.size + 1 := by rw [hsb.1, Heap.size_push]
    have keep' : ∀ b o, s4.heap.get? b = some o → h'.get? b = some o := fun b o e => hsb.extBut b o (Nat.ne_of_lt (Heap.lt_size e)) (Heap.get?_push_of_some _ e)
    have main : ∀ (go : Obj) (tk2 : Nat), (∀ h : Heap, h.get? h'.objs.size = some go → h.IsGen h'.objs.size s4.gens.size) → (∀ h : Heap, (h.push go).get? h.objs.size = some go) → (∀ v, go.data ≠ .cell v) →
        K (.ref h'.objs.size) { s4 with gens := s4.gens.push (.fresh (.compStart (.GeneratorExp elt [⟨tg, iter, ifs, 0⟩] scope pos) 0 (.ref it) .none (genEnv scope (cloFrom X.env.cells scope.names []) s4.heap.objs.size code builtinsNs X.env))), toks := tk2, heap := h'.push go } := by
      intro go tk2 hgen hgp hgd
      generalize hcenv : genEnv scope (cloFrom X.env.cells scope.names []) s4.heap.objs.size code builtinsNs X.env = cenv
      have keep5 : ∀ b o, s4.heap.get? b = some o → (h'.push go).get? b = some o := fun b o e => Heap.get?_push_of_some _ (keep' b o e)
      have ogo := hgp h'
      obtain ⟨W, ⟨m0, w0⟩, turn⟩ := q H3 ⟨more, hH3.symm, hmore⟩
      have f4 : ∀ b ∈ fp, FpOk X pins H3 b ∧ b < s4.heap.objs.size := fun b hb => by
        refine ⟨⟨?_, (f2 b hb).2⟩, ?_⟩
        · rw [← hH3, upd_ne (nfP b hb)]
          exact (f2 b hb).1
        · obtain ⟨o, e, _⟩ := T.obj _ _ st2 b hb
          rw [s4h]
          exact Nat.lt_of_lt_of_le (Heap.lt_size e) hsz
      have st4 : tn 0 s4.heap := T.keep _ _ _ st2 fun b hb o e => by rw [s4h]; exact keep3 b o (nfP b hb) e
      generalize hs5 : ({ s4 with gens := s4.gens.push (.fresh (.compStart (.GeneratorExp elt [⟨tg, iter, ifs, 0⟩] scope pos) 0 (.ref it) .none cenv)), toks := tk2, heap := h'.push go } : Shared) = s5
      have h5 : s5.heap = h'.push go := by rw [← hs5]
      have o5 : s5.os = s4.os := by rw [← hs5]
      have g5 : s5.gens = s4.gens.push (.fresh (.compStart (.GeneratorExp elt [⟨tg, iter, ifs, 0⟩] scope pos) 0 (.ref it) .none cenv)) := by rw [← hs5]
      have b5 : AllBare s5.gens := by rw [g5]; exact AllBare.push I4.bare rfl
      have k5 : ∀ b o, s4.heap.get? b = some o → s5.heap.get? b = some o := fun b o e => by rw [h5]; exact keep5 b o e
      have ha : s4.heap.objs.size < h'.objs.size := by rw [ez]; exact Nat.lt_succ_self _
      generalize hA : X.A.in1.in1.over (.compLoop (.GeneratorExp elt [⟨tg, iter, ifs, 0⟩] scope pos) 0 (.ref it) .none cenv) [] = A
      have rA : Room k A := by
        rw [← hA]
        refine ⟨hh, ?_, ?_⟩
        · have := hr.dp
          show X.A.depth + 1 + 3 * k + 5 < _
          omega
        · have := hr.un
          show X.A.units + 1 + 1 + 3 + 16 * k + 200 < _
          omega
      have frA : A.frames = some (cenv :: X.stack) := by
        rw [← hA]
        show pushEnvs [cenv] (pushEnvs [] X.A.frames) = _
        rw [I4.ok.frames]
        rfl
      have I5 : ∀ s'' : Shared, s''.heap = s5.heap → s''.os = s5.os → AllBare s''.gens → Inv (gctx X A s4 H3 cenv fp [(h'.objs.size, go)]) [] (wipe σ (own.map (·.2))) H3 s'' := fun s'' z1 z2 z3 =>
        gen_start (m := fun y => if y = ".0" then some (Value.ref it) else none) I4 S hN f4 hcenv.symm frA (fun _ => rA.hd) (fun b o e => by rw [z1]; exact k5 b o e) (z2.trans o5) z3 (by rw [z1, h5]; exact hn'.push _) ha (by rw [z1, h5]; exact ogo) hgd
      have hco : cenv.scope.isCoroutine = false := by rw [← hcenv]; exact S.co
      have hL : cenv.locals = s4.heap.objs.size := by rw [← hcenv]; rfl
      have loop := seg_gen (w := w) (Q := Q) (iter := iter) (scope := scope) (pos := pos) (own := own) (gi := s4.gens.size) hc I4 f4 T hgen hL ha hco hA.symm (by rw [← hcenv]; exact hg A s4 H3 _ code fp _ rA) (by rw [← hcenv]; exact ht A s4 H3 _ code fp _ rA) (by rw [← hcenv]; exact he A s4 H3 _ code fp _ rA) turn
      refine hK _ s4.gens.size (m0 + 1) (.fresh (.compStart (.GeneratorExp elt [⟨tg, iter, ifs, 0⟩] scope pos) 0 (.ref it) .none cenv)) s5 ⟨by rw [h5]; exact hgen _ ogo, I4.nolimit.keeps k5, b5, by rw [g5]; exact Array.getElem?_push_size .., fun s'' z1 z2 z3 => ⟨rfl, ?_⟩⟩
      have J5 := I5 s'' z1 z2 z3
      have st5 : tn 0 s''.heap := T.keep _ _ _ st4 fun b hb o e => by rw [z1]; exact k5 b o e
      have go2 := loop m0 (m0 + 1) 0 s'' s'' H3 (Nat.lt_succ_self _) J5 st5 (fun b hb => (f4 b hb).1.1) w0
      show Seg _ X.A.in1.in1 _ _ _ s'' _ ((compStart (.GeneratorExp elt [⟨tg, iter, ifs, 0⟩] scope pos) 0 (.ref it) .none cenv).onRaise (leaving cenv)) [] s''
      unfold compStart
      rw [Sem.onRaise_eq_wrap]
      show Seg _ X.A.in1.in1 _ _ _ s'' _ ((ask >>= _).wrap _ _ _ _) [] s''
      refine seg_bind_wrap (wpAny_askSetting ?_)
      split
      · exact seg_again rfl go2
      · refine seg_bind_wrap (wpAny_rule ?_)
        show Seg _ X.A.in1.in1 _ _ _ s'' _ ((standAt iter.pos >>= _).wrap _ _ _ _) [] s''
        exact seg_bind_wrap (wpAny_standAt (seg_bind_wrap (T.self _ 0 _ _ _ st5 (seg_again rfl go2))))
    exact main _ _ (fun h e => ⟨_, _, _, e, rfl, rfl, rfl⟩) (fun h => Heap.get?_push_size _ rfl) (fun v z => by cases z)
  cases hf : codeAmong pos ps.toList with
  | none =>
    refine wpAny_genexprCodeX hcode (cd.code hPs htr) (cd.tab hPs) hf fun c' h' tk hx hge hlt hco' _ htab' _ => ?_
    exact cont _ h' tk _ _ hx (Nat.le_trans hge (Nat.le_of_lt hlt)) htab'.2 rfl (.inr ⟨hf, c', rfl⟩)
  | some cv =>
    refine wpAny_genexprCode_hit hcode (cd.code hPs htr) hf ?_
    exact cont cv s2.heap s2.toks ps #[] (Heap.ExtBut.refl _ _) (Nat.le_refl _) hPs (by simp) (.inl rfl)
theorem pe_genAny {c P : Addr} {elt tg iter : Expr} {ifs : List Expr} {scope : Scope} {own : List (Str × Nat)} {p pos gpos : Pos} {wi : TI} {g : TG} {tt : TT} {te : TE} {k : Nat}
    (hc : X.calm = true) (hN : X.N.Nodup) (hr : Room (k + 1) X.A) (TB : TabB X.base X.mg c P) (hcode : X.env.code = .ref c) (hgl : Gl X "any") (hm : X.mg "any" = none) (hi : PI X tg iter wi) (S : GSc X.N X.env.scope scope own)
    (hg : ∀ A s H C code fp pn, Room k A → PG (gctx X A s H (genEnv scope (cloFrom X.env.cells scope.names []) C code builtinsNs X.env) fp pn) tg g) (ht : ∀ A s H C code fp pn, Room k A → PTs (gctx X A s H (genEnv scope (cloFrom X.env.cells scope.names []) C code builtinsNs X.env) fp pn) ifs tt)
    (he : ∀ A s H C code fp pn, Room k A → PE (gctx X A s H (genEnv scope (cloFrom X.env.cells scope.names []) C code builtinsNs X.env) fp pn) elt te) (hs : ∀ x, genFold iter X.env x = pure x) :
    PE X (.Call (.Name "any" p) [.GeneratorExp elt [⟨tg, iter, ifs, 0⟩] scope gpos] [] pos) (tGen true P gpos wi g tt te (own.map (·.2))) := by
  refine ⟨fun pins s σ H Q I h => ?_⟩
  refine wpAny_Call_Name_kw (ld_blt I hgl hm boot_any ?_)
  refine PyProof.Rows.callWith_builtin1 ?_ (by rfl) (by rfl)
  show wpAny _ _ (spliced ((false, eval (.GeneratorExp elt [⟨tg, iter, ifs, 0⟩] scope gpos) X.env) :: backTo pos (starEach [] X.env))) _ _ s
  refine Calls.spliced_cons (gen_core hc hN hr TB hcode I hi S hg ht he hs h fun a gi n gs s5 r => ?_)
  refine Calls.spliced_nil ?_
  refine call_function_tree F.kind_any F.plain_any F.entry_any (F.args_any1 _) ?_
  unfold Builtin.«any»
  refine wpAny_bind (m := oneArg "any" _) (wpAny_pure ?_)
  refine wpAny_bind (wpAny_pyIter_gen r.isgen ?_)
  exact wpAny_pure ⟨plainId_quiet F.plain_any_loop _, any_loop hr.hd (by have := hr.dp; omega) (fun b s' H' I' q => ⟨.bl b, H', I', rfl, q⟩) n gs s5 r⟩
theorem pe_genAll {c P : Addr} {elt tg iter : Expr} {ifs : List Expr} {scope : Scope} {own : List (Str × Nat)} {p pos gpos : Pos} {wi : TI} {g : TG} {tt : TT} {te : TE} {k : Nat}
    (hc : X.calm = true) (hN : X.N.Nodup) (hr : Room (k + 1) X.A) (TB : TabB X.base X.mg c P) (hcode : X.env.code = .ref c) (hgl : Gl X "all") (hm : X.mg "all" = none) (hi : PI X tg iter wi) (S : GSc X.N X.env.scope scope own)
    (hg : ∀ A s H C code fp pn, Room k A → PG (gctx X A s H (genEnv scope (cloFrom X.env.cells scope.names []) C code builtinsNs X.env) fp pn) tg g) (ht : ∀ A s H C code fp pn, Room k A → PTs (gctx X A s H (genEnv scope (cloFrom X.env.cells scope.names []) C code builtinsNs X.env) fp pn) ifs tt)
    (he : ∀ A s H C code fp pn, Room k A → PE (gctx X A s H (genEnv scope (cloFrom X.env.cells scope.names []) C code builtinsNs X.env) fp pn) elt te) (hs : ∀ x, genFold iter X.env x = pure x) :
    PE X (.Call (.Name "all" p) [.GeneratorExp elt [⟨tg, iter, ifs, 0⟩] scope gpos] [] pos) (tGen false P gpos wi g tt te (own.map (·.2))) := by
  refine ⟨fun pins s σ H Q I h => ?_⟩
  refine wpAny_Call_Name_kw (ld_blt I hgl hm (show bootBuiltins "all" = some (.builtin "all") by kernel_rfl) ?_)
  refine PyProof.Rows.callWith_builtin1 ?_ (by rfl) (by rfl)
  show wpAny _ _ (spliced ((false, eval (.GeneratorExp elt [⟨tg, iter, ifs, 0⟩] scope gpos) X.env) :: backTo pos (starEach [] X.env))) _ _ s
  refine Calls.spliced_cons (gen_core hc hN hr TB hcode I hi S hg ht he hs h fun a gi n gs s5 r => ?_)
  refine Calls.spliced_nil ?_
  refine call_function_tree F.kind_all F.plain_all F.entry_all (F.args_all1 _) ?_
  unfold Builtin.«all»
  refine wpAny_bind (m := oneArg "all" _) (wpAny_pure ?_)
  refine wpAny_bind (wpAny_pyIter_gen r.isgen ?_)
  exact wpAny_pure ⟨plainId_quiet F.plain_all_loop _, all_loop hr.hd (by have := hr.dp; omega) (fun b s' H' I' q => ⟨.bl b, H', I', rfl, q⟩) n gs s5 r⟩
end
end FS

-- text FsK
set_option Elab.async false
set_option linter.all false
set_option maxHeartbeats 1000000
/-! FsK: the list comprehension, sound. -/
namespace FS
open PySem PySem.Spec PyProof.Rows L2 LamX

section
variable {G : GD} {Y : GX} {cf : CF} {k : Nat} {C : SC} {cm : List (Option CI)} {o : List Fr} {X : Cx}
def ttLc (X : Cx) (scope : Scope) (ifs : List Expr) : TT := fun σ H Q => ∀ s0 H0 D cl fp, wTs (X.blk s0 H0 scope (compEnvC scope cl D X.env) fp) ifs σ H Q
def teLc (X : Cx) (scope : Scope) (e : Expr) : TE := fun σ H Q => ∀ s0 H0 D cl fp, wE (X.blk s0 H0 scope (compEnvC scope cl D X.env) fp) e σ H Q
theorem reps_snoc {ρ : List Addr} {H : Hp} {xs : List D} {ys : List V} {x : D} {y : V} (h : reps G cm ρ H xs ys) (r : rep G cm ρ H x y) : reps G cm ρ H (xs ++ [x]) (ys ++ [y]) := h.app (reps.one r)
theorem wipe_wipe {σ : L2.St} : ∀ (vs ws : List Nat), (∀ v ∈ vs, v ∈ ws) → wipe (wipe σ vs) ws = wipe σ ws
  | [], ws, _ => rfl
  | v :: vs, ws, h => by
    show wipe ((wipe σ vs).set v none) ws = wipe σ ws
    rw [wipe_set, if_pos (h v List.mem_cons_self)]
    exact wipe_wipe vs ws fun u m => h u (List.mem_cons_of_mem _ m)
/-- what is true at the turn i of a comprehension that fills D -/
def LcW (G : GD) (τ : List Addr) (cm : List (Option CI)) (F : D → MH → R (Option D)) (xs ys : List D) (h5 : MH) (ρ1 : List Addr) (H1 : Hp) (D : Addr) (i m : Nat) (H : Hp) : Prop :=
  m = xs.length - i ∧ i ≤ xs.length ∧ ∃ ρi mhi acc yd zs, Ext ρ1 H1 ρi H ∧ Gd (G.tm (D :: τ)) ρi H mhi ∧ H D = some (.lst acc) ∧ reps (G.tm (D :: τ)) cm ρi H yd acc ∧ mapW F (xs.drop i) mhi = .ok zs h5 ∧ yd ++ zs = ys ∧ acc.length ≤ i
theorem lc_h {τ : List Addr} {own : List Nat} {t : T} {it : Iw} {ifs : Cs} {e : E} {tg iter' e' : Expr} {ifs' : List Expr} {scope : Scope} (hk : scope.kind = .function) (hown : ∀ i ∈ tNs t, i ∈ own)
    (hi : SI G Y cf k C it tg iter') (hif : SIf G Y cf k (blkSC C scope) ifs ifs') (he : SE G Y cf k (blkSC C scope) e e') (cx : CtxOk (G.tm τ) Y C k cm o X) {ρ : List Addr} {H : Hp} {mh : MH} {σ : L2.St} {fr : Fr} (st : StR (G.tm τ) cm X o ρ H mh σ fr) {Q : VK}
    (h : RK (G.tm τ) Y X σ (rep (G.tm τ) cm) ρ H (evE Y.g cf o (.lc own t it ifs e) fr mh) Q) : tLc (wI X tg iter') (tgOf X.K t) (ttLc X scope ifs') (teLc X scope e') own σ H Q := by
  unfold evE at h
  have h : RK (G.tm τ) Y X σ (rep (G.tm τ) cm) ρ H ((evI Y.g cf o it fr mh).bind fun xs h1 => if Nat.ble xs.length line then ((mapW (lcF Y.g cf o own t ifs e fr) xs h1).bind fun ys h5 => .ok (.lst ys) h5) else .stk) Q := h
  refine hi τ X cm o cx ρ H mh σ fr st _ (h.seq fun xs mh1 ρ1 H1 J _ e1 g1 r1 h1 => ?_)
  obtain ⟨vs, rv, wk⟩ := r1
  intro D hD
  split at h1
  · rename_i hz
    cases hm : mapW (lcF Y.g cf o own t ifs e fr) xs mh1 with
    | exc c h5 => exact absurd hm (mapW_noexc lcF_noexc _ _ _ _)
    | stk =>
      rw [hm] at h1
      exact False.elim h1
    | ok ys h5 =>
      rw [hm] at h1
      have h1 : RK (G.tm τ) Y X σ (rep (G.tm τ) cm) ρ1 H1 (R.ok (.lst ys) h5) Q := h1
      have hlen : xs.length = vs.length := rv.length
      have hsz : xs.length ≤ sizeLine := le_line hz
      have st1 : StR (G.tm τ) cm X o ρ1 H1 mh1 σ fr := st.step e1 g1
      have Dρ : D ∉ ρ1 ∧ D ∉ τ := g1.fresh2 hD
      refine ⟨LcW G τ cm (lcF Y.g cf o own t ifs e fr) xs ys h5 ρ1 H1 D, ⟨xs.length, rfl, Nat.zero_le _, ρ1, mh1, [], [], ys, Ext.upd hD, g1.more hD [], upd_same, reps.nil, hm, rfl, Nat.le_refl _⟩, ?_⟩
      rintro i m Hi ⟨hm1, hi1, ρi, mhi, acc, yd, zs, ei, gi, hDi, ri, hrun, hyz, hacc⟩
      by_cases hend : i = xs.length
      · left
        refine ⟨wk.stop i ρi Hi ei (by omega), ?_⟩
        subst hend
        rw [List.drop_length] at hrun
        unfold mapW at hrun
        cases hrun
        rw [List.append_nil] at hyz
        subst hyz
        refine h1 ρi Hi _ ei (gi.less fun a m => List.mem_cons_of_mem _ m) ?_
        unfold rep
        refine ⟨D, acc, rfl, ⟨⟨(gi.tmp D List.mem_cons_self).1, Dρ.2⟩, hDi⟩, ri.mv (Mv.less fun a m => List.mem_cons_of_mem _ m) _ _⟩
      · right
        have hlt : i < xs.length := by omega
        refine ⟨wk.go i ρi Hi ei (by omega), fun H' => ∃ m', m' < m ∧ LcW G τ cm (lcF Y.g cf o own t ifs e fr) xs ys h5 ρ1 H1 D (i + 1) m' H', fun H' z => z, fun x H2 hy => ?_⟩
        obtain ⟨rfl, hx⟩ := wk.yld i ρi Hi x H2 ei (by omega) hy
        have hxs : xs[i]? = some xs[i] := List.getElem?_eq_getElem hlt
        obtain ⟨x', hx', rx⟩ := rv.get hxs
        rw [hx] at hx'
        cases hx'
        rw [List.drop_eq_getElem_cons hlt] at hrun
        obtain ⟨op, hq, zs', hf, hrest, hzs⟩ := mapW_cons hrun
        unfold lcF at hf
        split at hf
        · rename_i fr1 hasg
          obtain ⟨b, hb3, ht, hrest2⟩ := bind_ok hf
          have ht := noX_ok ht
          -- the frame of the block
          have rx2 : rep (G.tm (D :: τ)) (cm ++ [none]) ρi H2 xs[i] x := ((rx.mv (Mv.more (p := D) hD) _ _).mono (Deeper.app _ _) ei _ _)
          have fr2 : FrR (G.tm (D :: τ)) (cm ++ [none]) ρi H2 (wipe σ own) (wipeF fr own) := by
            have f0 := st1.fr.wipe own
            refine ⟨f0.len, fun j d hj => ?_⟩
            obtain ⟨v, q1, q2⟩ := f0.at_ j d hj
            exact ⟨v, q1, (q2.mv (Mv.more (p := D) hD) _ _).mono (Deeper.app _ _) ei _ _⟩
          have ob : OutB (G.tm (D :: τ)) (cm ++ [none]) X.base ρi H2 ([] :: o) := by
            have o1 : OutB (G.tm (D :: τ)) cm X.base ρi H2 o := fun d ci f q1 q2 q3 => (st1.out d ci f q1 q2 q3).mv (fun _ _ z => z) fun d v z => (z.mv (Mv.more (p := D) hD) _ _).mono (Deeper.refl _) ei _ _
            exact o1.blk cx.len
          have eK : X.K = (G.tm (D :: τ)).K := cx.K
          rw [eK]
          refine asg_ok (G := G.tm (D :: τ)) t _ x _ _ fr1 _ hasg rx2 fr2 fun σ2 f2 w2 => ⟨(w2 own hown).trans (wipe_wipe own own fun _ m => m), ?_⟩
          intro s0 H0 D0 cl fp
          have cx2 : CtxOk (G.tm (D :: τ)) Y (blkSC C scope) k (cm ++ [none]) ([] :: o) (X.blk s0 H0 scope (compEnvC scope cl D0 X.env) fp) := CtxOk.blk (G := G.tm (D :: τ)) ⟨cx.prog, cx.w, cx.K, cx.mg, cx.N, cx.nd, cx.sc, cx.kind, cx.calm, cx.fn, cx.room, cx.base, cx.code, cx.lamf, cx.nlam, cx.lamc, cx.own, cx.len⟩ hk s0 H0 cl D0 fp
          have st2 : StR (G.tm (D :: τ)) (cm ++ [none]) (X.blk s0 H0 scope (compEnvC scope cl D0 X.env) fp) ([] :: o) ρi H2 mhi σ2 fr1 := ⟨gi, f2, ob⟩
          refine sif_run hif cx2 st2 ?_
          rw [ht]
          intro ρ3 H3 b' e3 g3 rb
          have rb : b = b' := rb
          subst rb
          cases b with
          | false =>
            rw [if_neg Bool.false_ne_true]
            cases hrest2
            refine ⟨xs.length - (i + 1), by omega, rfl, by omega, ρ3, _, acc, yd, zs', ei.trans e3, g3, e3.keep D _ hDi (gi.tmp D List.mem_cons_self).1 (fun _ q => by cases q), ri.mono (Deeper.refl _) e3 _ _, hrest, by rw [← hyz, hzs], by omega⟩
          | true =>
            rw [if_pos rfl]
            obtain ⟨y, h4, hev, hfin⟩ := bind_ok hrest2
            have hev := noX_ok hev
            cases hfin
            intro s1 H01 D1 cl1 fp1
            have cx3 : CtxOk (G.tm (D :: τ)) Y (blkSC C scope) k (cm ++ [none]) ([] :: o) (X.blk s1 H01 scope (compEnvC scope cl1 D1 X.env) fp1) := CtxOk.blk (G := G.tm (D :: τ)) ⟨cx.prog, cx.w, cx.K, cx.mg, cx.N, cx.nd, cx.sc, cx.kind, cx.calm, cx.fn, cx.room, cx.base, cx.code, cx.lamf, cx.nlam, cx.lamc, cx.own, cx.len⟩ hk s1 H01 cl1 D1 fp1
            have st3 : StR (G.tm (D :: τ)) (cm ++ [none]) (X.blk s1 H01 scope (compEnvC scope cl1 D1 X.env) fp1) ([] :: o) ρ3 H3 hb3 σ2 fr1 := ⟨g3, f2.ext e3, ob.ext e3⟩
            refine he (D :: τ) _ _ _ cx3 ρ3 H3 hb3 σ2 fr1 st3 _ ?_
            rw [hev]
            intro ρ4 H4 yv e4 g4 ry
            have hD4 : H4 D = some (.lst acc) := e4.keep D _ (e3.keep D _ hDi (gi.tmp D List.mem_cons_self).1 (fun _ q => by cases q)) (g3.tmp D List.mem_cons_self).1 (fun _ q => by cases q)
            refine ⟨acc, hD4, by omega, xs.length - (i + 1), by omega, rfl, by omega, ρ4, _, acc ++ [yv], yd ++ [y], zs', ?_, g4.wr List.mem_cons_self _, upd_same, ?_, hrest, by rw [← hyz, hzs, List.append_assoc]; rfl, by rw [List.length_append]; show acc.length + 1 ≤ i + 1; omega⟩
            · have e5 : Ext ρ1 H1 ρ4 H4 := (ei.trans e3).trans e4
              refine ⟨e5.pre, fun a o ha na nt => ?_, fun a ps ha na => ?_, e5.new⟩
              · rw [upd_ne (ne_of_none ha hD)]
                exact e5.keep a o ha na nt
              · rw [upd_ne (ne_of_none ha hD)]
                exact e5.tbl a ps ha na
            · have r0 : reps (G.tm (D :: τ)) cm ρ4 H4 (yd ++ [y]) (acc ++ [yv]) := reps_snoc ((ri.mono (Deeper.refl _) e3 _ _).mono (Deeper.refl _) e4 _ _) ry.top
              exact r0.mv (Mv.wr List.mem_cons_self) _ _
        · cases hf
  · exact False.elim h1
end
end FS

-- text FsL
set_option Elab.async false
set_option linter.all false
set_option maxHeartbeats 1000000
/-! FsL: statements. -/
namespace FS
open PySem PySem.Spec PyProof.Rows L2 LamX

/-- the walked thing is no set's display -/
def nset : Expr → Bool
  | .Set .. => false
  | _ => true
theorem nset_eq {e : Expr} (h : nset e = true) (env : Env) (x : Value) : foldedSetIterable e env x = pure x := by
  cases e <;> first | rfl | (cases h)
section
variable {G : GD} {Y : GX} {cf : CF} {k : Nat} {C : SC} {cm : List (Option CI)} {o : List Fr} {X : Cx} {J : JC}
theorem blk_of {scope : Scope} {ownN : List (Str × Nat)} {τ : List Addr} (cx : CtxOk (G.tm τ) Y C k cm o X) (h : blkC C.N C.sc scope ownN = true) : BlkOk X.N X.env.scope scope ownN := by
  rw [cx.N, cx.sc]
  exact blkOk_by h
theorem se_lc {own : List Nat} {ownN : List (Str × Nat)} {t : T} {it : Iw} {ifs : Cs} {e : E} {tg iter' e' : Expr} {ifs' : List Expr} {scope : Scope} {pos : Pos} (hb : blkC C.N C.sc scope ownN = true) (ho : ownN.map (·.2) = own) (ht : chkT (blkSC C scope) t tg = true) (hown : ∀ i ∈ tNs t, i ∈ own)
    (hn : nset iter' = true) (hi : SI G Y cf k C it tg iter') (hif : SIf G Y cf k (blkSC C scope) ifs ifs') (he : SE G Y cf k (blkSC C scope) e e') : SE G Y cf k C (.lc own t it ifs e) (.ListComp e' [⟨tg, iter', ifs', 0⟩] scope pos) := fun τ X cm o cx ρ H mh σ fr st Q h => by
  have hk := (blkOk_by hb).kind
  refine of_pe (pe_lc (own := ownN) (g := tgOf X.K t) (tt := ttLc X scope ifs') (te := teLc X scope e') cx.calm cx.ndX pi_w (blk_of cx hb) (fun s0 H0 D cl fp => chkT_ok (CtxOk.blk (G := G.tm τ) cx hk s0 H0 cl D fp) t tg ht) (fun s0 H0 D cl fp => ⟨fun pins s σ H Q I z => z s0 H0 D cl fp pins s I⟩) (fun s0 H0 D cl fp => ⟨fun pins s σ H Q I z => z s0 H0 D cl fp pins s I⟩) (nset_eq hn _)) ?_
  rw [ho]
  exact lc_h hk hown hi hif he cx st h

/-! ### statements -/
def RSK (G : GD) (Y : GX) (X : Cx) (cm : List (Option CI)) (ρ : List Addr) (H : Hp) (r : RS) (D : Ends) : Prop :=
  match r with
  | .nx fr mh => ∀ ρ' H' σ', Ext ρ H ρ' H' → Gd G ρ' H' mh → FrR G cm ρ' H' σ' fr → D.nx σ' H'
  | .brk fr mh => ∀ ρ' H' σ', Ext ρ H ρ' H' → Gd G ρ' H' mh → FrR G cm ρ' H' σ' fr → D.bk σ' H'
  | .cnt fr mh => ∀ ρ' H' σ', Ext ρ H ρ' H' → Gd G ρ' H' mh → FrR G cm ρ' H' σ' fr → D.ct σ' H'
  | .ret d mh => ∀ ρ' H' v, Ext ρ H ρ' H' → Gd G ρ' H' mh → rep G cm ρ' H' d v → D.rt v H'
  | .exc c fr mh => ∃ W : WX, Takes X W ∧ ∀ ρ' H' σ' dd, Ext ρ H ρ' H' → Gd G ρ' H' mh → FrR G cm ρ' H' σ' fr → W (Y.cls c) dd σ' H'
  | .stk => False
structure StX (X : Cx) : Prop where
  stk : X.stack = X.env :: X.outer
  frame : X.env.frame = some X.env.locals
  passes : PassesOwn (model X.prog X.w) X.A X.env X.xe
variable {ρ ρ1 : List Addr} {H H1 : Hp} {mh : MH} {σ : L2.St} {fr : Fr} {D : Ends}
theorem RSK.step {r : RS} (h : RSK G Y X cm ρ H r D) (e : Ext ρ H ρ1 H1) : RSK G Y X cm ρ1 H1 r D := by
  cases r with
  | nx fr mh => exact fun ρ' H' σ' e2 => h ρ' H' σ' (e.trans e2)
  | brk fr mh => exact fun ρ' H' σ' e2 => h ρ' H' σ' (e.trans e2)
  | cnt fr mh => exact fun ρ' H' σ' e2 => h ρ' H' σ' (e.trans e2)
  | ret d mh => exact fun ρ' H' v e2 => h ρ' H' v (e.trans e2)
  | exc c fr mh =>
    obtain ⟨W, t, h⟩ := h
    exact ⟨W, t, fun ρ' H' σ' dd e2 => h ρ' H' σ' dd (e.trans e2)⟩
  | stk => exact h
theorem RSK.seq {α β : Type} {rl : List Addr → Hp → α → β → Prop} {r : R α} {f : α → MH → RS} {Q1 : β → Hp → Prop} (h : RSK G Y X cm ρ H (r.toS fr f) D) (hf : FrR G cm ρ H σ fr)
    (kk : ∀ d mh1 ρ1 H1 v, r = .ok d mh1 → Ext ρ H ρ1 H1 → Gd G ρ1 H1 mh1 → rl ρ1 H1 d v → RSK G Y X cm ρ1 H1 (f d mh1) D → Q1 v H1) : RK G Y X σ rl ρ H r Q1 := by
  cases r with
  | ok d mh1 => exact fun ρ' H' v e g r => kk d mh1 ρ' H' v rfl e g r (RSK.step h e)
  | exc c mh1 =>
    obtain ⟨W, t, h⟩ := h
    exact ⟨W, t, fun ρ' H' dd e g => h ρ' H' σ dd e g (hf.ext e)⟩
  | stk => exact h
def SSt (G : GD) (Y : GX) (cf : CF) (k : Nat) (C : SC) (s : S) (a : Stmt) : Prop := ∀ τ X cm o, CtxOk (G.tm τ) Y C k cm o X → StX X → ∀ ρ H mh σ fr, StR (G.tm τ) cm X o ρ H mh σ fr → ∀ D, RSK (G.tm τ) Y X cm ρ H (evS Y.g cf o s fr mh) D → wS X a D σ H
def SSs (G : GD) (Y : GX) (cf : CF) (k : Nat) (C : SC) (s : Ss) (a : List Stmt) : Prop := ∀ τ X cm o, CtxOk (G.tm τ) Y C k cm o X → StX X → ∀ ρ H mh σ fr, StR (G.tm τ) cm X o ρ H mh σ fr → ∀ D, RSK (G.tm τ) Y X cm ρ H (evSs Y.g cf o s fr mh) D → wSs X a D σ H
theorem StR.with {σ' : L2.St} {fr' : Fr} (s : StR G cm X o ρ H mh σ fr) (f : FrR G cm ρ H σ' fr') : StR G cm X o ρ H mh σ' fr' := ⟨s.gd, f, s.out⟩
variable {s : S} {r : Ss} {a : E} {a' : Expr} {sa : Stmt} {ra : List Stmt} {pos : Pos}
theorem ss_nil : SSs G Y cf k C .nil [] := fun τ X cm o cx sx ρ H mh σ fr st D h => by
  unfold evSs at h
  exact of_pss pss_nil (h ρ H σ (Ext.refl _ _) st.gd st.fr)
theorem ss_cons (h1 : SSt G Y cf k C s sa) (h2 : SSs G Y cf k C r ra) : SSs G Y cf k C (.cons s r) (sa :: ra) := fun τ X cm o cx sx ρ H mh σ fr st D h => by
  unfold evSs at h
  refine of_pss (pss_cons ps_w pss_w) ?_
  show wS X sa { D with nx := fun σ' H' => wSs X ra D σ' H' } σ H
  refine h1 τ X cm o cx sx ρ H mh σ fr st _ ?_
  revert h
  cases evS Y.g cf o s fr mh with
  | nx fr1 mh1 => exact fun h ρ' H' σ' e g f => h2 τ X cm o cx sx ρ' H' mh1 σ' fr1 ⟨g, f, st.out.ext e⟩ D (RSK.step h e)
  | brk fr1 mh1 => exact fun h => h
  | cnt fr1 mh1 => exact fun h => h
  | ret d mh1 => exact fun h => h
  | exc c fr1 mh1 => exact fun h => h
  | stk => exact fun h => h
/-- no comprehension -/
def ncomp : Expr → Bool
  | .ListComp .. => false
  | .SetComp .. => false
  | .DictComp .. => false
  | _ => true
theorem ncomp_sw {e : Expr} (h : ncomp e = true) (t : Option Expr) (l : Nat) (env : Env) : swapsWith e t l env = pure false := by
  cases e <;> first | rfl | (cases h)
theorem ss_doc {x : Str} {j : Nat} {p : Pos} : SSt G Y cf k C .doc (.Expr (.Constant (.str x) j p) pos) := fun τ X cm o cx sx ρ H mh σ fr st D h => by
  unfold evS at h
  exact of_ps ps_doc (h ρ H σ (Ext.refl _ _) st.gd st.fr)
theorem ss_pas : SSt G Y cf k C .pas (.Pass pos) := fun τ X cm o cx sx ρ H mh σ fr st D h => by
  unfold evS at h
  exact of_ps ps_pass (h ρ H σ (Ext.refl _ _) st.gd st.fr)
theorem ss_cnt : SSt G Y cf k C .cnt (.Continue pos) := fun τ X cm o cx sx ρ H mh σ fr st D h => by
  unfold evS at h
  exact of_ps ps_continue (h ρ H σ (Ext.refl _ _) st.gd st.fr)
theorem ss_brk : SSt G Y cf k C .brk (.Break pos) := fun τ X cm o cx sx ρ H mh σ fr st D h => by
  unfold evS at h
  exact of_ps ps_break (h ρ H σ (Ext.refl _ _) st.gd st.fr)
theorem ss_retn : SSt G Y cf k C .retn (.Return none pos) := fun τ X cm o cx sx ρ H mh σ fr st D h => by
  unfold evS at h
  exact of_ps ps_retN (h ρ H _ (Ext.refl _ _) st.gd (by unfold rep; rfl))
theorem ss_ret (ha : SE G Y cf k C a a') : SSt G Y cf k C (.ret a) (.Return (some a') pos) := fun τ X cm o cx sx ρ H mh σ fr st D h => by
  unfold evS at h
  refine of_ps (ps_ret pe_w) ?_
  refine ha τ X cm o cx ρ H mh σ fr st _ (h.seq st.fr fun d1 mh1 ρ1 H1 v1 _ e1 g1 r1 h1 => ?_)
  exact h1 ρ1 H1 v1 (Ext.refl _ _) g1 r1
theorem ss_exp (hn : ncomp a' = true) (ha : SE G Y cf k C a a') : SSt G Y cf k C (.exp a) (.Expr a' pos) := fun τ X cm o cx sx ρ H mh σ fr st D h => by
  unfold evS at h
  refine of_ps (ps_expr pe_w (ncomp_sw hn _ _ _)) ?_
  refine ha τ X cm o cx ρ H mh σ fr st _ (h.seq st.fr fun d1 mh1 ρ1 H1 v1 _ e1 g1 r1 h1 => ?_)
  exact h1 ρ1 H1 σ (Ext.refl _ _) g1 (st.fr.ext e1)
theorem ss_ife {c : Ct} {t u : Ss} {ta ua : List Stmt} (hc : ST G Y cf k C c a') (ht : SSs G Y cf k C t ta) (hu : SSs G Y cf k C u ua) : SSt G Y cf k C (.ife c t u) (.If a' ta ua pos) := fun τ X cm o cx sx ρ H mh σ fr st D h => by
  unfold evS at h
  refine of_ps (ps_if pt_w pss_w pss_w) ?_
  refine hc τ X cm o cx ρ H mh σ fr st _ (h.seq st.fr fun d1 mh1 ρ1 H1 v1 _ e1 g1 r1 h1 => ?_)
  have r1 : d1 = v1 := r1
  subst r1
  cases d1
  · rw [if_neg Bool.false_ne_true]
    exact hu τ X cm o cx sx ρ1 H1 mh1 σ fr (st.step e1 g1) D h1
  · rw [if_pos rfl]
    exact ht τ X cm o cx sx ρ1 H1 mh1 σ fr (st.step e1 g1) D h1
/-- the stores of target = value go from the left -/
def nsw : Expr → Expr → Bool
  | .Tuple ts _ _, .Tuple vs _ _ => !(ts.length == 2 || ts.length == 3) || vs.length != ts.length
  | .List _ _, _ => false
  | _, _ => true
theorem nsw_eq {t e : Expr} (h : nsw t e = true) (env : Env) : swappedStores [t] e env = pure none := by
  cases t <;> first | (cases h) | skip
  all_goals (cases e <;> first | rfl | skip)
  rename_i ts _ _ vs _ _
  have h' : (!(ts.length == 2 || ts.length == 3) || vs.length != ts.length) = true := h
  unfold swappedStores
  have h2 : (!(ts.length == 2 || ts.length == 3) || vs.length != ts.length || env.blockKind != .function) = true := by rw [h']; rfl
  simp only [h2, if_true]
theorem chkT_each {C : SC} {t : T} {e : Expr} (env : Env) (h : chkT C t e = true) : (assignEach [e] env).map (·.2) = [assign e env] := by
  rw [asgE_cons h]
  rfl
theorem ss_set {t : T} {tg : Expr} (ht : chkT C t tg = true) (hn : ncomp a' = true) (hs : nsw tg a' = true) (ha : SE G Y cf k C a a') : SSt G Y cf k C (.set t a) (.Assign [tg] a' pos) := fun τ X cm o cx sx ρ H mh σ fr st D h => by
  unfold evS at h
  refine of_ps (ps_asg pe_w (chkT_ok cx t tg ht) (ncomp_sw hn _ _ _) (nsw_eq hs _) (chkT_each _ ht)) ?_
  refine ha τ X cm o cx ρ H mh σ fr st _ (h.seq st.fr fun d1 mh1 ρ1 H1 v1 _ e1 g1 r1 h1 => ?_)
  split at h1
  · rename_i fr1 hq
    rw [cx.K]
    exact asg_ok (G := G.tm τ) t d1 v1 σ fr fr1 _ hq r1 (st.fr.ext e1) fun σ' f' _ => h1 ρ1 H1 σ' (Ext.refl _ _) g1 f'
  · exact False.elim h1
/-- name = [..] on one line -/
theorem ss_setLc {i : Nat} {own : List Nat} {ownN : List (Str × Nat)} {t : T} {it : Iw} {ifs : Cs} {e : E} {tg iter' e' : Expr} {ifs' : List Expr} {scope : Scope} {p py spos : Pos} {y : Str} (hb : blkC C.N C.sc scope ownN = true) (ho : ownN.map (·.2) = own) (ht : chkT (blkSC C scope) t tg = true) (hown : ∀ i ∈ tNs t, i ∈ own)
    (hn : nset iter' = true) (hi : SI G Y cf k C it tg iter') (hif : SIf G Y cf k (blkSC C scope) ifs ifs') (he : SE G Y cf k (blkSC C scope) e e') (hy : C.N[i]? = some y) (hyl : C.sc.names.lookup y = some .local) (hl : (py.line == p.line) = true) (hsc : (scope.names.any fun (n, k) => n == y && (k == .local || k == .cell)) = false) :
    SSt G Y cf k C (.set (.nm i) (.lc own t it ifs e)) (.Assign [.Name y py] (.ListComp e' [⟨tg, iter', ifs', 0⟩] scope p) spos) := fun τ X cm o cx sx ρ H mh σ fr st D h => by
  have hk := (blkOk_by hb).kind
  have hyX : X.env.scope.names.lookup y = some .local := by rw [cx.sc]; exact hyl
  refine of_ps (ps_setLc (own := ownN) (i := i) (g := tgOf X.K t) (tt := ttLc X scope ifs') (te := teLc X scope e') cx.calm cx.ndX (by rw [cx.N]; exact hy) hyX (sw_true (by rw [cx.sc]; exact cx.kind) hyX hl hsc) pi_w (blk_of cx hb) (fun s0 H0 D cl fp => chkT_ok (CtxOk.blk (G := G.tm τ) cx hk s0 H0 cl D fp) t tg ht) (fun s0 H0 D cl fp => ⟨fun pins s σ H Q I z => z s0 H0 D cl fp pins s I⟩) (fun s0 H0 D cl fp => ⟨fun pins s σ H Q I z => z s0 H0 D cl fp pins s I⟩) (nset_eq hn _)) ?_
  rw [ho]
  refine lc_h hk hown hi hif he cx st ?_
  unfold evS at h
  refine h.seq st.fr fun d1 mh1 ρ1 H1 v1 _ e1 g1 r1 h1 => ?_
  split at h1
  · rename_i fr1 hq
    exact asg_ok (G := G.tm τ) (.nm i) d1 v1 σ fr fr1 _ hq r1 (st.fr.ext e1) fun σ' f' _ => h1 ρ1 H1 σ' (Ext.refl _ _) g1 f'
  · exact False.elim h1
end
end FS

-- text FsL2
set_option Elab.async false
set_option linter.all false
set_option maxHeartbeats 1000000
/-! FsL2: generator expressions under any, all: sound. -/
namespace FS
open PySem PySem.Spec PyProof.Rows L2 LamX GxR

def genSC (C : SC) (scope : Scope) : SC := { N := C.N, sc := scope, fnc := fun _ => false, hasT := false, hasL := false, L := [], gn := 0 }
def genC (C : SC) (scope : Scope) (own : List (Str × Nat)) : Bool :=
  blkC C.N C.sc scope own && !scope.isCoroutine && (scope.names.all fun y => !decide (y.2 = .cell)) && decide (scope.names.lookup (".0" : Str) = some NameKind.local)
theorem genC_of {C : SC} {scope : Scope} {own : List (Str × Nat)} (h : genC C scope own = true) : GSc C.N C.sc scope own := by
  unfold genC at h
  simp only [Bool.and_eq_true, Bool.not_eq_true', decide_eq_true_eq, List.all_eq_true, decide_eq_false_iff_not] at h
  exact ⟨blkOk_by h.1.1.1, h.1.1.2, h.1.2, h.2⟩
/-- the walked thing is no display -/
def gfold : Expr → Bool
  | .List .. => false
  | .Set .. => false
  | _ => true
theorem gfold_eq {e : Expr} (h : gfold e = true) (env : Env) (x : Value) : genFold e env x = pure x := by
  cases e <;> first | rfl | (cases h)
def gW : Gq → Bool
  | .any => true
  | .all => false
def gN : Gq → Str
  | .any => "any"
  | .all => "all"
theorem among_snoc {p q : Pos} {c : Value} : ∀ (l : List Value), TriplesOk l → ¬ (p.line = q.line ∧ p.col = q.col) → ∀ cv, codeAmong p (l ++ [rawInt q.line, rawInt q.col, c]) = some cv → codeAmong p l = some cv := by
  intro l
  fun_induction TriplesOk l with
  | case1 =>
    intro _ hne cv h
    simp only [List.nil_append, codeAmong, rawInt] at h
    split at h
    · rename_i hc
      rw [Bool.and_eq_true, beq_iff_eq, beq_iff_eq] at hc
      exact absurd ⟨(Int.ofNat.inj hc.1).symm, (Int.ofNat.inj hc.2).symm⟩ hne
    · cases h
  | case2 a t b u x rest ih =>
    intro ht hne cv h
    simp only [List.cons_append, codeAmong] at h ⊢
    split at h
    · rename_i hc
      rw [if_pos hc]
      exact h
    · rename_i hc
      rw [if_neg hc]
      exact ih ht hne cv h
  | case3 l h1 h2 => exact fun h => h.elim
theorem posB_ne {L : List (Nat × Nat)} {p q : Pos} (hq : posB L q = false) (hp : posB L p = true) : ¬ (p.line = q.line ∧ p.col = q.col) := by
  intro ⟨h1, h2⟩
  unfold posB at hp hq
  rw [h1, h2, hq] at hp
  cases hp
/-- a turn of a generator expression -/
def anF (g : Pg) (cf : CF) (o : List Fr) (own : List Nat) (t : T) (ifs : Cs) (e : E) (fr : Fr) (x : D) (h2 : MH) : R (Option Bool) :=
  match asg t x (wipeF fr own) with
  | some fr1 => (evTs g cf ([] :: o) true ifs fr1 h2).noX.bind fun b h3 => (match b with
    | true => (evE g cf ([] :: o) e fr1 h3).noX.bind fun y h4 => (match y with
      | .bl c => .ok (some c) h4
      | _ => .stk)
    | false => .ok none h3)
  | none => .stk
theorem anF_noexc {g : Pg} {cf : CF} {o : List Fr} {own : List Nat} {t : T} {ifs : Cs} {e : E} {fr : Fr} (x : D) (h : MH) (c : Nat) (h' : MH) : anF g cf o own t ifs e fr x h ≠ .exc c h' := by
  intro q
  unfold anF at q
  split at q
  · rename_i fr1 _
    cases h1 : (evTs g cf ([] :: o) true ifs fr1 h).noX with
    | ok b h3 =>
      rw [h1] at q
      cases b with
      | true =>
        have q : (evE g cf ([] :: o) e fr1 h3).noX.bind (fun y h4 => (match y with
          | .bl c => R.ok (some c) h4
          | _ => .stk)) = .exc c h' := q
        cases h2 : (evE g cf ([] :: o) e fr1 h3).noX with
        | ok y h4 =>
          rw [h2] at q
          cases y <;> cases q
        | exc c' h4 => exact absurd h2 noX_exc
        | stk =>
          rw [h2] at q
          cases q
      | false => cases q
    | exc c' h3 => exact absurd h1 noX_exc
    | stk =>
      rw [h1] at q
      cases q
  · cases q
theorem anyW_noexc {w : Bool} {f : D → MH → R (Option Bool)} (hf : ∀ x h c h', f x h ≠ .exc c h') : ∀ (xs : List D) (h : MH) (c : Nat) (h' : MH), anyW w f xs h ≠ .exc c h'
  | [], h, c, h', e => by unfold anyW at e; cases e
  | x :: xs, h, c, h', e => by
    unfold anyW at e
    cases hx : f x h with
    | ok o h1 =>
      rw [hx] at e
      cases o with
      | none => exact anyW_noexc hf xs h1 c h' e
      | some b =>
        have e : (if b == w then R.ok w h1 else anyW w f xs h1) = .exc c h' := e
        split at e
        · cases e
        · exact anyW_noexc hf xs h1 c h' e
    | exc c2 h1 => exact absurd hx (hf _ _ _ _)
    | stk =>
      rw [hx] at e
      cases e
section
variable {G : GD} {Y : GX} {cf : CF} {k : Nat} {C : SC} {cm : List (Option CI)} {o : List Fr} {X : Cx} {J : JC}
theorem CtxOk.gen {scope : Scope} {A : Around} {code : Value} (cx : CtxOk G Y C k cm o X) (hk : scope.kind = .function) (hr : Room (2 * k) A) (s : Shared) (H : Hp) (cl : List (Str × Addr)) (D : Addr) (fp : List Addr) (pn : List (Addr × Obj)) :
    CtxOk G Y (genSC C scope) k (cm ++ [none]) ([] :: o) (gctx X A s H (genEnv scope cl D code builtinsNs X.env) fp pn) where
  prog := cx.prog
  w := cx.w
  K := cx.K
  mg := cx.mg
  N := cx.N
  nd := cx.nd
  sc := rfl
  kind := hk
  calm := cx.calm
  fn := fun x h => by cases h
  room := hr
  base := cx.base
  code := fun h => by cases h
  lamf := fun h => by cases h
  nlam := fun _ => by
    have e : ([] :: o).length = cm.length := by rw [cx.len]; rfl
    rw [e, List.getElem?_append_right (Nat.le_refl _), Nat.sub_self]
    rfl
  lamc := fun h => by cases h
  own := fun ci h => by
    have e : ([] :: o).length = cm.length := by rw [cx.len]; rfl
    rw [e, List.getElem?_append_right (Nat.le_refl _), Nat.sub_self] at h
    cases h
  len := by rw [List.length_append, cx.len]; rfl
def ttG (X : Cx) (k : Nat) (scope : Scope) (ifs : List Expr) : TT := fun σ H Q => ∀ A s0 H0 D cl code fp pn, Room k A → wTs (gctx X A s0 H0 (genEnv scope cl D code builtinsNs X.env) fp pn) ifs σ H Q
def teG (X : Cx) (k : Nat) (scope : Scope) (e : Expr) : TE := fun σ H Q => ∀ A s0 H0 D cl code fp pn, Room k A → wE (gctx X A s0 H0 (genEnv scope cl D code builtinsNs X.env) fp pn) e σ H Q
def GnW (G : GD) (w : Bool) (F : D → MH → R (Option Bool)) (xs : List D) (b : Bool) (h5 : MH) (ρ1 : List Addr) (H1 : Hp) (i m : Nat) (H : Hp) : Prop :=
  m = xs.length - i ∧ i ≤ xs.length ∧ ∃ ρi mhi, Ext ρ1 H1 ρi H ∧ Gd G ρi H mhi ∧ anyW w F (xs.drop i) mhi = .ok b h5
theorem gen_h {τ : List Addr} {q : Gq} {own : List Nat} {t : T} {it : Iw} {ifs : Cs} {e : E} {tg iter' e' : Expr} {ifs' : List Expr} {scope : Scope} {gpos : Pos} {P : Addr} (hk : scope.kind = .function) (hown : ∀ i ∈ tNs t, i ∈ own)
    (hi : SI G Y cf k C it tg iter') (hif : SIf G Y cf k (genSC C scope) ifs ifs') (he : SE G Y cf k (genSC C scope) e e') (cx : CtxOk (G.tm τ) Y C k cm o X) (hT : (G.tm τ).TQ P = some (X.env.qual ++ "<lambda>", posB C.L)) (hL : posB C.L gpos = false)
    {ρ : List Addr} {H : Hp} {mh : MH} {σ : L2.St} {fr : Fr} (st : StR (G.tm τ) cm X o ρ H mh σ fr) {Q : VK}
    (h : RK (G.tm τ) Y X σ (rep (G.tm τ) cm) ρ H (evE Y.g cf o (.gen q own t it ifs e) fr mh) Q) : tGen (gW q) P gpos (wI X tg iter') (tgOf X.K t) (ttG X (2 * k) scope ifs') (teG X (2 * k) scope e') own σ H Q := by
  unfold evE at h
  have h : RK (G.tm τ) Y X σ (rep (G.tm τ) cm) ρ H ((evI Y.g cf o it fr mh).bind fun xs h1 => (anyW (gW q) (anF Y.g cf o own t ifs e fr) xs h1).bind fun c h5 => .ok (.bl c) h5) Q := by
    cases q <;> exact h
  generalize gW q = w at h ⊢
  refine hi τ X cm o cx ρ H mh σ fr st _ (h.seq fun xs mh1 ρ1 H1 J _ e1 g1 r1 h1 => ?_)
  obtain ⟨vs, rv, wk⟩ := r1
  obtain ⟨hPρ, tr⟩ := g1.tab P _ _ hT
  obtain ⟨ps, hP, htr, ha⟩ := _root_.id tr
  refine ⟨ps, hP, htr, fun H2 ⟨more, eH, hmore⟩ => ?_⟩
  cases hm : anyW w (anF Y.g cf o own t ifs e fr) xs mh1 with
  | exc c h5 => exact absurd hm (anyW_noexc anF_noexc _ _ _ _)
  | stk =>
    rw [hm] at h1
    exact False.elim h1
  | ok b h5 =>
    rw [hm] at h1
    have h1 : RK (G.tm τ) Y X σ (rep (G.tm τ) cm) ρ1 H1 (R.ok (.bl b) h5) Q := h1
    have hlen : xs.length = vs.length := rv.length
    have st1 : StR (G.tm τ) cm X o ρ1 H1 mh1 σ fr := st.step e1 g1
    -- the table has grown
    have hk1 : ∀ b o, H1 b = some o → (∀ ps, o ≠ .tbl ps) → H2 b = some o := fun b o e nt => by
      rw [eH, upd_ne (fun z => by rw [z, hP] at e; exact nt ps (Option.some.inj e).symm)]
      exact e
    have atP : H2 P = some (.tbl (ps ++ more)) := by rw [eH, upd_same]
    obtain ⟨eg, gg⟩ := g1.grown hP hk1 atP (fun b qs hb e => by rw [eH, upd_ne hb]; exact e) (fun q L' e => by
      rw [hT] at e
      cases e
      rcases hmore with hmore | ⟨_, c, hmore⟩
      · subst hmore
        rw [show ps ++ #[] = ps by simp] at atP
        exact tr.kept hk1 fun ps' e => by
          rw [hP] at e
          cases e
          exact atP
      · subst hmore
        exact tr.snoc hP hk1 atP (.inr fun pos' cv hl hcv => among_snoc _ htr (posB_ne hL hl) cv hcv))
    refine ⟨GnW (G.tm τ) w (anF Y.g cf o own t ifs e fr) xs b h5 ρ1 H1, ⟨xs.length, rfl, Nat.zero_le _, ρ1, mh1, eg, gg, hm⟩, ?_⟩
    rintro i m Hi ⟨hm1, hi1, ρi, mhi, ei, gi, hrun⟩
    by_cases hend : i = xs.length
    · left
      refine ⟨wk.stop i ρi Hi ei (by omega), ?_⟩
      subst hend
      rw [List.drop_length] at hrun
      unfold anyW at hrun
      cases hrun
      refine h1 ρi Hi _ ei gi ?_
      unfold rep
      rfl
    · right
      have hlt : i < xs.length := by omega
      refine ⟨wk.go i ρi Hi ei (by omega), fun H' => ∃ m', m' < m ∧ GnW (G.tm τ) w (anF Y.g cf o own t ifs e fr) xs b h5 ρ1 H1 (i + 1) m' H', fun H' z => z, fun x H3 hy => ?_⟩
      obtain ⟨rfl, hx⟩ := wk.yld i ρi Hi x H3 ei (by omega) hy
      have hxs : xs[i]? = some xs[i] := List.getElem?_eq_getElem hlt
      obtain ⟨x', hx', rx⟩ := rv.get hxs
      rw [hx] at hx'
      cases hx'
      rw [List.drop_eq_getElem_cons hlt] at hrun
      unfold anyW at hrun
      obtain ⟨op, hq, hf, hrest⟩ := bind_ok hrun
      unfold anF at hf
      split at hf
      · rename_i fr1 hasg
        obtain ⟨b0, hb3, ht, hrest2⟩ := bind_ok hf
        have ht := noX_ok ht
        have rx2 : rep (G.tm τ) (cm ++ [none]) ρi H3 xs[i] x := rx.mono (Deeper.app _ _) ei _ _
        have fr2 : FrR (G.tm τ) (cm ++ [none]) ρi H3 (wipe σ own) (wipeF fr own) := by
          have f0 := st1.fr.wipe own
          refine ⟨f0.len, fun j d hj => ?_⟩
          obtain ⟨v, q1, q2⟩ := f0.at_ j d hj
          exact ⟨v, q1, q2.mono (Deeper.app _ _) ei _ _⟩
        have ob : OutB (G.tm τ) (cm ++ [none]) X.base ρi H3 ([] :: o) := (st1.out.ext ei).blk cx.len
        have eK : X.K = (G.tm τ).K := cx.K
        rw [eK]
        refine asg_ok (G := G.tm τ) t _ x _ _ fr1 _ hasg rx2 fr2 fun σ2 f2 w2 => ⟨(w2 own hown).trans (wipe_wipe own own fun _ m => m), ?_⟩
        intro A s0 H0 D0 cl code fp pn hrA
        have cx2 : CtxOk (G.tm τ) Y (genSC C scope) k (cm ++ [none]) ([] :: o) (gctx X A s0 H0 (genEnv scope cl D0 code builtinsNs X.env) fp pn) := cx.gen hk hrA s0 H0 cl D0 fp pn
        have st2 : StR (G.tm τ) (cm ++ [none]) (gctx X A s0 H0 (genEnv scope cl D0 code builtinsNs X.env) fp pn) ([] :: o) ρi H3 mhi σ2 fr1 := ⟨gi, f2, ob⟩
        refine sif_run hif cx2 st2 ?_
        rw [ht]
        intro ρ3 H4 b' e3 g3 rb
        have rb : b0 = b' := rb
        subst rb
        cases b0 with
        | false =>
          rw [if_neg Bool.false_ne_true]
          cases hrest2
          exact ⟨xs.length - (i + 1), by omega, rfl, by omega, ρ3, _, ei.trans e3, g3, hrest⟩
        | true =>
          rw [if_pos rfl]
          obtain ⟨y, h4, hev, hfin⟩ := bind_ok hrest2
          have hev := noX_ok hev
          intro A2 s1 H01 D1 cl1 code1 fp1 pn1 hrA2
          have cx3 : CtxOk (G.tm τ) Y (genSC C scope) k (cm ++ [none]) ([] :: o) (gctx X A2 s1 H01 (genEnv scope cl1 D1 code1 builtinsNs X.env) fp1 pn1) := cx.gen hk hrA2 s1 H01 cl1 D1 fp1 pn1
          have st3 : StR (G.tm τ) (cm ++ [none]) (gctx X A2 s1 H01 (genEnv scope cl1 D1 code1 builtinsNs X.env) fp1 pn1) ([] :: o) ρ3 H4 hb3 σ2 fr1 := ⟨g3, f2.ext e3, ob.ext e3⟩
          refine he τ _ _ _ cx3 ρ3 H4 hb3 σ2 fr1 st3 _ ?_
          rw [hev]
          intro ρ4 H5 yv e4 g4 ry
          obtain ⟨c, rfl⟩ : ∃ c, y = .bl c := by
            cases y <;> first | exact ⟨_, rfl⟩ | cases hfin
          have hfin : R.ok (some c) h4 = R.ok op hq := hfin
          cases hfin
          have ry := ry.top
          unfold rep at ry
          refine ⟨c, ry, ?_⟩
          have hrest : (if c == w then R.ok w _ else anyW w (anF Y.g cf o own t ifs e fr) (xs.drop (i + 1)) _) = .ok b h5 := hrest
          by_cases hcw : c = w
          · rw [if_pos hcw]
            rw [if_pos (by rw [hcw]; exact beq_self_eq_true w)] at hrest
            cases hrest
            refine h1 ρ4 H5 _ ((ei.trans e3).trans e4) g4 ?_
            unfold rep
            rfl
          · rw [if_neg hcw]
            rw [if_neg (by simpa using hcw)] at hrest
            exact ⟨xs.length - (i + 1), by omega, rfl, by omega, ρ4, _, (ei.trans e3).trans e4, g4, hrest⟩
      · cases hf
theorem se_gen (ok : GOk J G Y) {q : Gq} {own : List Nat} {ownN : List (Str × Nat)} {t : T} {it : Iw} {ifs : Cs} {e : E} {tg iter' e' : Expr} {ifs' : List Expr} {scope : Scope} {p pos gpos : Pos} {nm : Str} (h1 : C.hasT = true) (h2 : 0 < C.gn) (hn : nm = gN q) (hgl : C.sc.names.lookup nm = some .globalImplicit) (hb : J.bok nm = true) (hL : posB C.L gpos = false)
    (hS : genC C scope ownN = true) (ho : ownN.map (·.2) = own) (ht : chkT (genSC C scope) t tg = true) (hown : ∀ i ∈ tNs t, i ∈ own) (hf : gfold iter' = true) (hi : SI G Y cf k C it tg iter') (hif : SIf G Y cf k (genSC C scope) ifs ifs') (he : SE G Y cf k (genSC C scope) e e') :
    SE G Y cf k C (.gen q own t it ifs e) (.Call (.Name nm p) [.GeneratorExp e' [⟨tg, iter', ifs', 0⟩] scope gpos] [] pos) := fun τ X cm o cx ρ H mh σ fr st Q h => by
  have S := genC_of hS
  have hk := S.blk.kind
  obtain ⟨c, P, e1, e2, e3⟩ := cx.code h1
  have TB : GxR.TabB X.base X.mg c P := by
    rw [cx.mg]
    have z := tab_up e2 cx.base
    exact ⟨z.code, z.bm, z.gP⟩
  have S2 : GSc X.N X.env.scope scope ownN := by rw [cx.N, cx.sc]; exact S
  have hr : Room (2 * k + 1) X.A := cx.room.mono (by omega)
  have hg2 : Gl X nm := by
    show X.env.scope.names.lookup nm = _
    rw [cx.sc]
    exact hgl
  have hm : X.mg nm = none := by rw [cx.mg]; exact ok.bok nm hb
  have key := gen_h hk hown hi hif he cx e3 hL st h
  rw [← ho] at key
  subst hn
  cases q with
  | any =>
    exact of_pe (pe_genAny (own := ownN) (g := tgOf X.K t) (tt := ttG X (2 * k) scope ifs') (te := teG X (2 * k) scope e') cx.calm cx.ndX hr TB e1 hg2 hm pi_w S2 (fun A s0 H0 D code fp pn hrA => chkT_ok (cx.gen hk hrA s0 H0 _ D fp pn) t tg ht) (fun A s0 H0 D code fp pn hrA => ⟨fun pins s σ H Q I z => z A s0 H0 D _ code fp pn hrA pins s I⟩)
      (fun A s0 H0 D code fp pn hrA => ⟨fun pins s σ H Q I z => z A s0 H0 D _ code fp pn hrA pins s I⟩) (gfold_eq hf _)) key
  | all =>
    exact of_pe (pe_genAll (own := ownN) (g := tgOf X.K t) (tt := ttG X (2 * k) scope ifs') (te := teG X (2 * k) scope e') cx.calm cx.ndX hr TB e1 hg2 hm pi_w S2 (fun A s0 H0 D code fp pn hrA => chkT_ok (cx.gen hk hrA s0 H0 _ D fp pn) t tg ht) (fun A s0 H0 D code fp pn hrA => ⟨fun pins s σ H Q I z => z A s0 H0 D _ code fp pn hrA pins s I⟩)
      (fun A s0 H0 D code fp pn hrA => ⟨fun pins s σ H Q I z => z A s0 H0 D _ code fp pn hrA pins s I⟩) (gfold_eq hf _)) key
end
end FS

-- text FsM
set_option Elab.async false
set_option linter.all false
set_option maxHeartbeats 1000000
/-! FsM: statements, the rest. -/
namespace FS
open PySem PySem.Spec PyProof.Rows L2 LamX

theorem blockKind_fn {env : Env} (h : env.scope.kind = .function) : env.blockKind = .function := by
  unfold Env.blockKind
  rw [h]
  rfl
theorem par2_eq {env : Env} {x y : Str} {a b : Expr} {px py pt pt2 : Pos} {kt k2 : Nat} (hk : env.scope.kind = .function) (hx : env.scope.names.lookup x = some .local) (hy : env.scope.names.lookup y = some .local) (hl : (py.line == px.line) = true) (ha : pl a = true) (hb : pl b = true) (hne : x ≠ y)
    (hf : (foldedForSure 8 a && foldedForSure 8 b) = false) (hc : (constantsAlone 8 a && constantsAlone 8 b) = false) : swappedStores [.Tuple [.Name x px, .Name y py] kt pt] (.Tuple [a, b] k2 pt2) env = pure (some [x, y]) := by
  have kx : env.kindOf x = some .local := hx
  have ky : env.kindOf y = some .local := hy
  have hl' : py.line = px.line := by simpa using hl
  have hd : [x, y].eraseDups = [x, y] := by
    rw [List.eraseDups_cons]
    have : (y == x) = false := by
      cases q : y == x
      · rfl
      · exact absurd (eq_of_beq q).symm hne
    simp [this, List.eraseDups_cons]
  have hp : (Expr.Name x px).pos = px := rfl
  unfold swappedStores
  simp only [List.length_cons, List.length_nil, blockKind_fn hk, List.any_cons, List.any_nil, List.all_cons, List.all_nil, Bool.and_true, Bool.or_false, hf, hc, List.filterMap_cons, List.filterMap_nil, kx, ky, hl', List.head?_cons, Option.map_some, Option.getD_some, hp, BEq.rfl, Bool.and_self, if_true, hd]
  refine (if_neg (by decide)).trans ((if_neg fun h => ?_).trans ((if_neg (by decide)).trans ((if_neg Bool.false_ne_true).trans (if_neg Bool.false_ne_true))))
  rcases (Bool.or_eq_true _ _).mp h with h | h
  · cases a <;> first | (cases ha; done) | (cases h; done)
  · cases b <;> first | (cases hb; done) | (cases h; done)
theorem par3_eq {env : Env} {x y z : Str} {a b c : Expr} {px py pz pt pt2 : Pos} {kt k2 : Nat} (hk : env.scope.kind = .function) (hx : env.scope.names.lookup x = some .local) (hy : env.scope.names.lookup y = some .local) (hz : env.scope.names.lookup z = some .local) (hl : (py.line == px.line) = true) (hl2 : (pz.line == px.line) = true) (ha : pl a = true) (hb : pl b = true) (hcc : pl c = true) (hne : x ≠ y) (hne2 : x ≠ z) (hne3 : y ≠ z)
    (hf : (foldedForSure 8 a && (foldedForSure 8 b && foldedForSure 8 c)) = false) (hc : (constantsAlone 8 a && (constantsAlone 8 b && constantsAlone 8 c)) = false) : swappedStores [.Tuple [.Name x px, .Name y py, .Name z pz] kt pt] (.Tuple [a, b, c] k2 pt2) env = pure (some [x, y, z]) := by
  have kx : env.kindOf x = some .local := hx
  have ky : env.kindOf y = some .local := hy
  have kz : env.kindOf z = some .local := hz
  have hl' : py.line = px.line := by simpa using hl
  have hl2' : pz.line = px.line := by simpa using hl2
  have nb : ∀ {u v : Str}, u ≠ v → (v == u) = false := fun {u v} h => by
    cases q : v == u
    · rfl
    · exact absurd (eq_of_beq q).symm h
  have hd : [x, y, z].eraseDups = [x, y, z] := by
    rw [List.eraseDups_cons]
    simp [nb hne, nb hne2, nb hne3, List.eraseDups_cons]
  have hp : (Expr.Name x px).pos = px := rfl
  unfold swappedStores
  simp only [List.length_cons, List.length_nil, blockKind_fn hk, List.any_cons, List.any_nil, List.all_cons, List.all_nil, Bool.and_true, Bool.or_false, hf, hc, List.filterMap_cons, List.filterMap_nil, kx, ky, kz, hl', hl2', List.head?_cons, Option.map_some, Option.getD_some, hp, BEq.rfl, Bool.and_self, if_true, hd]
  refine (if_neg (by decide)).trans ((if_neg fun h => ?_).trans ((if_neg (by decide)).trans ((if_neg Bool.false_ne_true).trans (if_neg Bool.false_ne_true))))
  rcases (Bool.or_eq_true _ _).mp h with h | h
  · cases a <;> first | (cases ha; done) | (cases h; done)
  · rcases (Bool.or_eq_true _ _).mp h with h | h
    · cases b <;> first | (cases hb; done) | (cases h; done)
    · cases c <;> first | (cases hcc; done) | (cases h; done)

section
variable {G : GD} {Y : GX} {cf : CF} {k : Nat} {C : SC} {cm : List (Option CI)} {o : List Fr} {X : Cx} {J : JC}
variable {ρ ρ1 : List Addr} {H H1 : Hp} {mh : MH} {σ : L2.St} {fr : Fr} {D : Ends} {pos : Pos} {a : E} {a' : Expr}
def setAll : L2.St → List Nat → List V → L2.St
  | σ, t :: ts, y :: ys => setAll (σ.set t (some y)) ts ys
  | σ, _, _ => σ
theorem asgNs_ok : ∀ {ts : List Nat} {xs : List FS.D} {ys : List V} {σ : L2.St} {fr fr' : Fr}, asgNs ts xs fr = some fr' → reps G cm ρ H xs ys → FrR G cm ρ H σ fr → ys.length = ts.length ∧ FrR G cm ρ H (setAll σ ts ys) fr'
  | [], [], ys, σ, fr, fr', h, r, f => by
    unfold asgNs at h
    cases h
    unfold reps at r
    subst r
    exact ⟨rfl, f⟩
  | t :: ts, x :: xs, ys, σ, fr, fr', h, r, f => by
    unfold asgNs at h
    split at h
    · rename_i hl
      unfold reps at r
      obtain ⟨y, zs, rfl, r1, r2⟩ := r
      obtain ⟨h1, h2⟩ := asgNs_ok h r2 (f.put hl r1)
      exact ⟨by rw [List.length_cons, List.length_cons, h1], h2⟩
    · cases h
  | [], _ :: _, _, _, _, _, h, _, _ => by unfold asgNs at h; cases h
  | _ :: _, [], _, _, _, _, h, _, _ => by unfold asgNs at h; cases h
theorem ss_par2 {i j : Nat} {es : Es} {x y : Str} {b c : Expr} {px py pt pt2 : Pos} {kt k2 : Nat} (hi : C.N[i]? = some x) (hj : C.N[j]? = some y) (hx : C.sc.names.lookup x = some .local) (hy : C.sc.names.lookup y = some .local) (hl : (py.line == px.line) = true) (hb : pl b = true) (hc : pl c = true) (hne : x ≠ y)
    (hf : (foldedForSure 8 b && foldedForSure 8 c) = false) (hcn : (constantsAlone 8 b && constantsAlone 8 c) = false) (ha : SEs G Y cf k C es [b, c]) : SSt G Y cf k C (.par [i, j] es) (.Assign [.Tuple [.Name x px, .Name y py] kt pt] (.Tuple [b, c] k2 pt2) pos) := fun τ X cm o cx sx ρ H mh σ fr st D h => by
  unfold evS at h
  have hij : i ≠ j := fun e => hne (by
    rw [e, hj] at hi
    exact (Option.some.inj hi).symm)
  refine of_ps (ps_par (i := i) (j := j) cx.calm cx.ndX (by rw [cx.N]; exact hi) (by rw [cx.N]; exact hj) hij (by rw [cx.sc]; exact hx) (by rw [cx.sc]; exact hy) pa_w (par2_eq (by rw [cx.sc]; exact cx.kind) (by rw [cx.sc]; exact hx) (by rw [cx.sc]; exact hy) hl hb hc hne hf hcn)) ?_
  refine ha τ X cm o cx ρ H mh σ fr st _ (h.seq st.fr fun d1 mh1 ρ1 H1 v1 _ e1 g1 r1 h1 => ?_)
  split at h1
  · rename_i fr1 hq
    obtain ⟨l1, f1⟩ := asgNs_ok hq r1 (st.fr.ext e1)
    match v1, l1 with
    | [v, w], _ => exact ⟨v, w, rfl, h1 ρ1 H1 _ (Ext.refl _ _) g1 f1⟩
  · exact False.elim h1
theorem ss_par3 {i j l : Nat} {es : Es} {x y z : Str} {b c d : Expr} {px py pz pt pt2 : Pos} {kt k2 : Nat} (hi : C.N[i]? = some x) (hj : C.N[j]? = some y) (hlz : C.N[l]? = some z) (hx : C.sc.names.lookup x = some .local) (hy : C.sc.names.lookup y = some .local) (hz : C.sc.names.lookup z = some .local)
    (hl : (py.line == px.line) = true) (hl2 : (pz.line == px.line) = true) (hb : pl b = true) (hc : pl c = true) (hd : pl d = true) (hne : x ≠ y) (hne2 : x ≠ z) (hne3 : y ≠ z)
    (hf : (foldedForSure 8 b && (foldedForSure 8 c && foldedForSure 8 d)) = false) (hcn : (constantsAlone 8 b && (constantsAlone 8 c && constantsAlone 8 d)) = false) (ha : SEs G Y cf k C es [b, c, d]) : SSt G Y cf k C (.par [i, j, l] es) (.Assign [.Tuple [.Name x px, .Name y py, .Name z pz] kt pt] (.Tuple [b, c, d] k2 pt2) pos) := fun τ X cm o cx sx ρ H mh σ fr st D h => by
  unfold evS at h
  have ne : ∀ {i j : Nat} {x y : Str}, C.N[i]? = some x → C.N[j]? = some y → x ≠ y → i ≠ j := fun {i j x y} hi hj hne e => hne (by
    rw [e, hj] at hi
    exact (Option.some.inj hi).symm)
  refine of_ps (ps_par3 (i := i) (j := j) (l := l) cx.calm cx.ndX (by rw [cx.N]; exact hi) (by rw [cx.N]; exact hj) (by rw [cx.N]; exact hlz) (ne hi hj hne) (ne hi hlz hne2) (ne hj hlz hne3) (by rw [cx.sc]; exact hx) (by rw [cx.sc]; exact hy) (by rw [cx.sc]; exact hz) pa_w (par3_eq (by rw [cx.sc]; exact cx.kind) (by rw [cx.sc]; exact hx) (by rw [cx.sc]; exact hy) (by rw [cx.sc]; exact hz) hl hl2 hb hc hd hne hne2 hne3 hf hcn)) ?_
  refine ha τ X cm o cx ρ H mh σ fr st _ (h.seq st.fr fun d1 mh1 ρ1 H1 v1 _ e1 g1 r1 h1 => ?_)
  split at h1
  · rename_i fr1 hq
    obtain ⟨l1, f1⟩ := asgNs_ok hq r1 (st.fr.ext e1)
    match v1, l1 with
    | [u, v, w], _ => exact ⟨u, v, w, rfl, h1 ρ1 H1 _ (Ext.refl _ _) g1 f1⟩
  · exact False.elim h1
/-- o[i] = e -/
theorem ss_sub {b c : E} {b' c' : Expr} {p : Pos} (hn : ncomp a' = true) (ha : SE G Y cf k C a a') (hb : SE G Y cf k C b b') (hc : SE G Y cf k C c c') (hpl : pl c' = true) : SSt G Y cf k C (.sub a b c) (.Assign [.Subscript b' c' p] a' pos) := fun τ X cm o cx sx ρ H mh σ fr st D h => by
  unfold evS at h
  have hsub : ∀ v, assign (.Subscript b' c' p) X.env v = (do
      let ov ← holding [v] (eval b' X.env)
      let iv ← holding [v, ov] (eval c' X.env)
      standAt p
      holding [v, ov, iv] (setItem ov iv v)
      release [v, ov, iv] []) := by
    intro v
    cases c' <;> first | rfl | (cases hpl)
  refine of_ps (ps_asg pe_w (pg_sub pe_w pe_w set_list hsub) (show swapsWith a' (some (.Subscript b' c' p)) pos.line X.env = pure false from ncomp_sw hn _ _ _) (by cases a' <;> rfl)) ?_
  refine ha τ X cm o cx ρ H mh σ fr st _ (h.seq st.fr fun d1 mh1 ρ1 H1 v1 _ e1 g1 r1 h1 => ?_)
  refine hb τ X cm o cx ρ1 H1 mh1 σ fr (st.step e1 g1) _ (h1.seq (st.fr.ext e1) fun d2 mh2 ρ2 H2 v2 _ e2 g2 r2 h2 => ?_)
  refine hc τ X cm o cx ρ2 H2 mh2 σ fr ((st.step e1 g1).step e2 g2) _ (h2.seq ((st.fr.ext e1).ext e2) fun d3 mh3 ρ3 H3 v3 _ e3 g3 r3 h3 => ?_)
  split at h3
  · rename_i mh4 hq
    unfold setAt at hq
    split at hq
    · split at hq
      · rename_i xs hxs
        split at hq
        · rename_i q hix
          split at hq
          · rename_i hcl
            cases hq
            have r2' := r2.mono (Deeper.refl _) e3
            unfold rep at r2' r3
            obtain ⟨ad, rfl, had⟩ := r2'
            subst r3
            obtain ⟨ys, hys, rys⟩ := g3.chg _ ad _ had hxs
            refine ⟨ad, ys, _, q, rfl, rfl, hys, by rw [ixN_eq, ← rys.length]; exact hix, ?_⟩
            have r1' : rep (G.tm τ) [] ρ3 H3 d1 v1 := (((r1.mono (Deeper.refl _) e2).mono (Deeper.refl _) e3).bare _ _ hcl)
            exact h3 ρ3 _ σ (Ext.store (List.mem_of_getElem? had)) (g3.store had hxs hys (rys.set q r1')) ((((st.fr.ext e1).ext e2).ext e3).ext (Ext.store (List.mem_of_getElem? had)))
          · cases hq
        · cases hq
      · cases hq
    · cases hq
  · exact False.elim h3
theorem ss_whl {n : Nat} {c : Ct} {b : Ss} {ba : List Stmt} (hc : ST G Y cf k C c a') (hb : SSs G Y cf k C b ba) : SSt G Y cf k C (.whl n c b) (.While a' ba [] pos) := fun τ X cm o cx sx ρ H mh σ fr st D h => by
  unfold evS at h
  refine of_ps (ps_while sx.passes pt_w pss_w) ?_
  refine ⟨fun m σ1 H1 => ∃ ρ1 mh1 fr1, StR (G.tm τ) cm X o ρ1 H1 mh1 σ1 fr1 ∧ RSK (G.tm τ) Y X cm ρ1 H1 (whileM (fun fr1 h1 => evT Y.g cf o c fr1 h1) (fun fr1 h1 => evSs Y.g cf o b fr1 h1) m fr1 mh1) D, ⟨n, ρ, mh, fr, st, h⟩, ?_⟩
  rintro m σ1 H1 ⟨ρ1, mh1, fr1, st1, h1⟩
  cases m with
  | zero => exact False.elim h1
  | succ m =>
    unfold whileM at h1
    have h1 : RSK (G.tm τ) Y X cm ρ1 H1 ((evT Y.g cf o c fr1 mh1).toS fr1 fun t h1 => match t with
      | false => .nx fr1 h1
      | true => (match evSs Y.g cf o b fr1 h1 with
        | .nx fr2 h2 => whileM (fun fr1 h1 => evT Y.g cf o c fr1 h1) (fun fr1 h1 => evSs Y.g cf o b fr1 h1) m fr2 h2
        | .cnt fr2 h2 => whileM (fun fr1 h1 => evT Y.g cf o c fr1 h1) (fun fr1 h1 => evSs Y.g cf o b fr1 h1) m fr2 h2
        | .brk fr2 h2 => .nx fr2 h2
        | r => r)) D := by
      revert h1
      cases evT Y.g cf o c fr1 mh1 with
      | ok t h1 => cases t <;> exact fun h => h
      | exc c h1 => exact fun h => h
      | stk => exact fun h => h
    refine hc τ X cm o cx ρ1 H1 mh1 σ1 fr1 st1 _ (h1.seq st1.fr fun d2 mh2 ρ2 H2 v2 _ e2 g2 r2 h2 => ?_)
    have r2 : d2 = v2 := r2
    subst r2
    cases d2
    · rw [if_neg Bool.false_ne_true]
      exact h2 ρ2 H2 σ1 (Ext.refl _ _) g2 (st1.fr.ext e2)
    · rw [if_pos rfl]
      refine ⟨fun σ' H' => ∃ ρ1 mh1 fr1, StR (G.tm τ) cm X o ρ1 H' mh1 σ' fr1 ∧ RSK (G.tm τ) Y X cm ρ1 H' (whileM (fun fr1 h1 => evT Y.g cf o c fr1 h1) (fun fr1 h1 => evSs Y.g cf o b fr1 h1) m fr1 mh1) D, fun σ' H' z => ⟨m, Nat.lt_succ_self m, z⟩, ?_⟩
      have st2 := st1.step e2 g2
      refine hb τ X cm o cx sx ρ2 H2 mh2 σ1 fr1 st2 _ ?_
      dsimp only at h2
      revert h2
      cases evSs Y.g cf o b fr1 mh2 with
      | nx fr3 mh3 => exact fun h2 ρ' H' σ' e g f => ⟨ρ', mh3, fr3, ⟨g, f, st2.out.ext e⟩, RSK.step h2 e⟩
      | cnt fr3 mh3 => exact fun h2 ρ' H' σ' e g f => ⟨ρ', mh3, fr3, ⟨g, f, st2.out.ext e⟩, RSK.step h2 e⟩
      | brk fr3 mh3 => exact fun h2 => h2
      | ret d mh3 => exact fun h2 => h2
      | exc c fr3 mh3 => exact fun h2 => h2
      | stk => exact fun h2 => h2
theorem ss_for {t : T} {it : Iw} {b : Ss} {tg : Expr} {ba : List Stmt} (ht : chkT C t tg = true) (hn : nset a' = true) (hi : SI G Y cf k C it tg a') (hb : SSs G Y cf k C b ba) : SSt G Y cf k C (.for_ t it b) (.For tg a' ba [] pos) := fun τ X cm o cx sx ρ H mh σ fr st D h => by
  unfold evS at h
  refine of_ps (ps_for sx.passes cx.calm pi_w (chkT_ok cx t tg ht) pss_w (nset_eq hn _)) ?_
  refine hi τ X cm o cx ρ H mh σ fr st _ (h.seq st.fr fun xs mh1 ρ1 H1 Jt _ e1 g1 r1 h1 => ?_)
  obtain ⟨vs, rv, wk⟩ := r1
  have hlen : xs.length = vs.length := rv.length
  generalize hF : (fun (x : FS.D) (fr1 : Fr) (h2 : MH) => match asg t x fr1 with
    | some fr2 => evSs Y.g cf o b fr2 h2
    | none => .stk) = F at h1
  refine ⟨fun i m σ2 H2 => m = xs.length - i ∧ i ≤ xs.length ∧ ∃ ρ2 mh2 fr2, Ext ρ1 H1 ρ2 H2 ∧ StR (G.tm τ) cm X o ρ2 H2 mh2 σ2 fr2 ∧ RSK (G.tm τ) Y X cm ρ2 H2 (forM F (xs.drop i) fr2 mh2) D, ⟨xs.length, rfl, Nat.zero_le _, ρ1, mh1, fr, Ext.refl _ _, st.step e1 g1, h1⟩, ?_⟩
  rintro i m σ2 H2 ⟨hm, hi2, ρ2, mh2, fr2, e2, st2, h2⟩
  by_cases hend : i = xs.length
  · left
    refine ⟨wk.stop i ρ2 H2 e2 (by omega), ?_⟩
    subst hend
    rw [List.drop_length] at h2
    unfold forM at h2
    exact h2 ρ2 H2 σ2 (Ext.refl _ _) st2.gd st2.fr
  · right
    have hlt : i < xs.length := by omega
    refine ⟨wk.go i ρ2 H2 e2 (by omega), fun σ' H' => ∃ m', m' < m ∧ (m' = xs.length - (i + 1) ∧ i + 1 ≤ xs.length ∧ ∃ ρ2 mh2 fr2, Ext ρ1 H1 ρ2 H' ∧ StR (G.tm τ) cm X o ρ2 H' mh2 σ' fr2 ∧ RSK (G.tm τ) Y X cm ρ2 H' (forM F (xs.drop (i + 1)) fr2 mh2) D), fun σ' H' z => z, fun x H3 hy => ?_⟩
    obtain ⟨rfl, hx⟩ := wk.yld i ρ2 H2 x H3 e2 (by omega) hy
    have hxs : xs[i]? = some xs[i] := List.getElem?_eq_getElem hlt
    obtain ⟨x', hx', rx⟩ := rv.get hxs
    rw [hx] at hx'
    cases hx'
    rw [List.drop_eq_getElem_cons hlt] at h2
    unfold forM at h2
    have eF : F xs[i] fr2 mh2 = (match asg t xs[i] fr2 with
      | some fr3 => evSs Y.g cf o b fr3 mh2
      | none => .stk) := by rw [← hF]
    rw [eF] at h2
    rw [cx.K]
    cases hq : asg t xs[i] fr2 with
    | none =>
      rw [hq] at h2
      exact False.elim h2
    | some fr3 =>
      rw [hq] at h2
      dsimp only at h2
      refine asg_ok (G := G.tm τ) t _ x σ2 fr2 fr3 _ hq (rx.mono (Deeper.refl _) e2) st2.fr fun σ3 f3 _ => ?_
      have st3 : StR (G.tm τ) cm X o ρ2 H3 mh2 σ3 fr3 := st2.with f3
      refine hb τ X cm o cx sx ρ2 H3 mh2 σ3 fr3 st3 _ ?_
      revert h2
      cases evSs Y.g cf o b fr3 mh2 with
      | nx fr4 mh4 => exact fun h2 ρ' H' σ' e g f => ⟨_, by omega, rfl, by omega, ρ', mh4, fr4, e2.trans e, ⟨g, f, st3.out.ext e⟩, RSK.step h2 e⟩
      | cnt fr4 mh4 => exact fun h2 ρ' H' σ' e g f => ⟨_, by omega, rfl, by omega, ρ', mh4, fr4, e2.trans e, ⟨g, f, st3.out.ext e⟩, RSK.step h2 e⟩
      | brk fr4 mh4 => exact fun h2 => h2
      | ret d mh4 => exact fun h2 => h2
      | exc c fr4 mh4 => exact fun h2 => h2
      | stk => exact fun h2 => h2
/-! ### raise, try -/
theorem ss_rai (ok : GOk J G Y) {c : Nat} {x : Str} {m : Str} {jj : Nat} {p p2 p3 : Pos} (hx : J.clsn[c]? = some x) (hg : C.sc.names.lookup x = some .globalImplicit) (hd : (x == ("__debug__" : Str)) = false) : SSt G Y cf k C (.rai c) (.Raise (some (.Call (.Name x p) [.Constant (.str m) jj p2] [] p3)) none pos) := fun τ X cm o cx sx ρ H mh σ fr st D h => by
  unfold evS at h
  obtain ⟨W, tk, h⟩ := h
  obtain ⟨ad, q1, q2, q3, q4, q5, q6⟩ := ok.exc c x hx
  have hK : X.K = G.K := cx.K
  refine of_ps (ps_raise cx.calm tk (pmk_own F.excBase_ValueError (by rw [hK]; exact q3) (by rw [cx.mg]; exact q2) (by rw [hK]; exact q4) (raises_own (by rw [hK]; exact q5) (by rw [hK]; exact q6)) (gl_of cx hg) hd)) ?_
  rw [← q1]
  exact h ρ H σ none (Ext.refl _ _) st.gd st.fr
/-- a simple except suite -/
def chkHd : Hd → List Stmt → Bool
  | .ret (.str x), [.Return (some (.Constant (.str y) _ _)) _] => decide (y = SX.S x)
  | .ret .non, [.Return (some (.Constant .none _ _)) _] => true
  | .ret (.bl b), [.Return (some (.Constant (.bool c) _ _)) _] => b == c
  | .pas, [.Pass _] => true
  | _, _ => false
theorem chkHd_ok {hd : Hd} {su : List Stmt} (h : chkHd hd su = true) : ∃ b₀ rest, su = b₀ :: rest ∧ ∃ ts : TS, (∀ X' : Cx, PSs X' su ts) ∧ ∀ D σ H, (match hd with | .ret d => ∀ v, (∀ G cm ρ H, rep G cm ρ H d v) → D.rt v H | .pas => D.nx σ H) → ts D σ H := by
  unfold chkHd at h
  split at h
  · have e := of_decide_eq_true h
    subst e
    exact ⟨_, _, rfl, _, fun X' => pss_one (ps_ret pe_str), fun D σ H q => q _ fun G cm ρ H => by unfold rep; rfl⟩
  · exact ⟨_, _, rfl, _, fun X' => pss_one (ps_ret pe_non), fun D σ H q => q _ fun G cm ρ H => by unfold rep; rfl⟩
  · have e := eq_of_beq h
    subst e
    exact ⟨_, _, rfl, _, fun X' => pss_one (ps_ret pe_bl), fun D σ H q => q _ fun G cm ρ H => by unfold rep; rfl⟩
  · exact ⟨_, _, rfl, _, fun X' => pss_one ps_pass, fun D σ H q => q⟩
  · cases h
theorem CtxOk.tr (cx : CtxOk G Y C k cm o X) (pn : List (Addr × Obj)) (xe : Value → Shared → Prop) : CtxOk G Y C k cm o (X.tr pn xe) := ⟨cx.prog, cx.w, cx.K, cx.mg, cx.N, cx.nd, cx.sc, cx.kind, cx.calm, cx.fn, cx.room, cx.base, cx.code, cx.lamf, cx.nlam, cx.lamc, cx.own, cx.len⟩
theorem ss_tri (ok : GOk J G Y) {b : Ss} {c : Nat} {hd : Hd} {ba su : List Stmt} {x : Str} {p p2 : Pos} (hx : J.clsn[c]? = some x) (hg : C.sc.names.lookup x = some .globalImplicit) (hdb : (x == ("__debug__" : Str)) = false) (hh : chkHd hd su = true) (hb : SSs G Y cf k C b ba) :
    SSt G Y cf k C (.tri b [(c, hd)]) (.Try ba [.ExceptHandler (some (.Name x p)) none su p2] [] [] pos) := fun τ X cm o cx sx ρ H mh σ fr st D h => by
  unfold evS at h
  obtain ⟨b₀, rest, rfl, ts, hts, htd⟩ := chkHd_ok hh
  obtain ⟨ad, q1, q2, q3, q4, q5, q6⟩ := ok.exc c x hx
  have hnm : Names X x (Y.cls c) := ⟨gl_of cx hg, hdb, .inl (by rw [cx.mg, q1]; exact q2)⟩
  have go : ∀ Wout : WX, Takes X Wout → (∀ pn xe, Takes (X.tr pn xe) (wOnly X.K (Y.cls c) (fun _ _ _ => ts) Wout D) → PassesOwn (model X.prog X.w) X.A X.env xe → wSs (X.tr pn xe) ba D σ H) → wS X (.Try ba [.ExceptHandler (some (.Name x p)) none (b₀ :: rest) p2] [] [] pos) D σ H := fun Wout tk hbody => by
    refine of_ps (ps_try_only (tb := fun W D σ H => ∀ pn xe, Takes (X.tr pn xe) W → PassesOwn (model X.prog X.w) X.A X.env xe → wSs (X.tr pn xe) ba D σ H) sx.stk sx.frame hnm tk (fun W pn xe tk pa => ⟨fun pins s σ H D I z => z pn xe tk pa pins s I⟩) (fun a oe cls d pn _ _ => hts _)) ?_
    exact hbody
  revert h
  cases hr : evSs Y.g cf o b fr mh with
  | exc e fr1 mh1 =>
    intro h
    dsimp only at h
    split at h
    · rename_i hlt
      have hex : PySem.W.exmOne X.K (Y.cls e) (Y.cls c) = some (sub Y.g e c) := by
        have hK : X.K = G.K := cx.K
        rw [hK]
        exact ok.exm e c x hlt hx
      by_cases hs : sub Y.g e c = true
      · have e1 : hdOf Y.g e [(c, hd)] = some hd := by
          unfold hdOf
          exact if_pos hs
        rw [e1] at h
        refine go (fun _ _ _ _ => False) takes0 fun pn xe tk pa => ?_
        refine hb τ (X.tr pn xe) cm o (cx.tr pn xe) ⟨sx.stk, sx.frame, pa⟩ ρ H mh σ fr ⟨st.gd, st.fr, st.out⟩ D ?_
        rw [hr]
        refine ⟨_, tk, fun ρ' H' σ' dd ex g f => ⟨true, by rw [← hs]; exact hex, fun _ ad _ => htd D σ' H' ?_, (fun q => by cases q)⟩⟩
        cases hd with
        | ret d => exact fun v rv => h ρ' H' v ex g (rv _ _ _ _)
        | pas => exact h ρ' H' σ' ex g f
      · have e1 : hdOf Y.g e [(c, hd)] = none := by
          unfold hdOf
          exact if_neg hs
        rw [e1] at h
        obtain ⟨Wout, tko, h⟩ := h
        refine go Wout tko fun pn xe tk pa => ?_
        refine hb τ (X.tr pn xe) cm o (cx.tr pn xe) ⟨sx.stk, sx.frame, pa⟩ ρ H mh σ fr ⟨st.gd, st.fr, st.out⟩ D ?_
        rw [hr]
        have hs2 : sub Y.g e c = false := by
          cases q : sub Y.g e c
          · rfl
          · exact absurd q hs
        exact ⟨_, tk, fun ρ' H' σ' dd ex g f => ⟨false, by rw [← hs2]; exact hex, (fun q => by cases q), fun _ => h ρ' H' σ' dd ex g f⟩⟩
    · exact False.elim h
  | nx fr1 mh1 =>
    intro h
    refine go (fun _ _ _ _ => False) takes0 fun pn xe tk pa => hb τ (X.tr pn xe) cm o (cx.tr pn xe) ⟨sx.stk, sx.frame, pa⟩ ρ H mh σ fr ⟨st.gd, st.fr, st.out⟩ D ?_
    rw [hr]
    exact h
  | ret d mh1 =>
    intro h
    refine go (fun _ _ _ _ => False) takes0 fun pn xe tk pa => hb τ (X.tr pn xe) cm o (cx.tr pn xe) ⟨sx.stk, sx.frame, pa⟩ ρ H mh σ fr ⟨st.gd, st.fr, st.out⟩ D ?_
    rw [hr]
    exact h
  | brk fr1 mh1 =>
    intro h
    refine go (fun _ _ _ _ => False) takes0 fun pn xe tk pa => hb τ (X.tr pn xe) cm o (cx.tr pn xe) ⟨sx.stk, sx.frame, pa⟩ ρ H mh σ fr ⟨st.gd, st.fr, st.out⟩ D ?_
    rw [hr]
    exact h
  | cnt fr1 mh1 =>
    intro h
    refine go (fun _ _ _ _ => False) takes0 fun pn xe tk pa => hb τ (X.tr pn xe) cm o (cx.tr pn xe) ⟨sx.stk, sx.frame, pa⟩ ρ H mh σ fr ⟨st.gd, st.fr, st.out⟩ D ?_
    rw [hr]
    exact h
  | stk => exact fun h => False.elim h
end
end FS

-- text FsN
set_option Elab.async false
set_option linter.all false
set_option maxHeartbeats 1000000
/-! FsN: calls. -/
namespace FS
open PySem PySem.Spec PyProof.Rows L2 LamX

section
variable {X : Cx} {pins : List (Addr × Obj)} {σ : L2.St} {H : Hp} {s : Shared}
def keepA (X : Cx) (b : Addr) : Bool := (X.base.get? b).isSome || ((X.env.cells.map (·.1)).any fun x => decide (X.env.cells.lookup x = some b))
/-- the ground with the cells of the frame that runs -/
def upBase (X : Cx) (h : Heap) : Heap := PySem.W.hideAll h ((List.range h.objs.size).filter fun b => !keepA X b)
theorem upBase_get {h : Heap} {b : Addr} {o : Obj} (e : h.get? b = some o) (hk : keepA X b = true) : (upBase X h).get? b = some o := by
  unfold upBase
  refine PySem.W.hideAll_get _ e fun m => ?_
  have := (List.mem_filter.mp m).2
  rw [hk] at this
  cases this
theorem of_upBase {h : Heap} {b : Addr} {o : Obj} (e : (upBase X h).get? b = some o) : h.get? b = some o ∧ keepA X b = true := by
  have e1 : h.get? b = some o := PySem.W.of_hideAll _ e
  refine ⟨e1, ?_⟩
  cases hk : keepA X b with
  | true => rfl
  | false =>
    exfalso
    have m : b ∈ (List.range h.objs.size).filter fun b => !keepA X b := List.mem_filter.mpr ⟨List.mem_range.mpr (Heap.lt_size e1), by rw [hk]; rfl⟩
    have z : (upBase X h).get? b = none := PySem.W.hideAll_none _ m
    rw [z] at e
    cases e
theorem keepA_cell {x : Str} {c : Addr} (h : X.env.cells.lookup x = some c) : keepA X c = true := by
  unfold keepA
  rw [Bool.or_eq_true]
  right
  rw [List.any_eq_true]
  exact ⟨x, List.mem_map.mpr ⟨(x, c), PySem.mem_of_lookup h, rfl⟩, decide_eq_true h⟩
theorem keepA_base {b : Addr} {o : Obj} (h : X.base.get? b = some o) : keepA X b = true := by
  unfold keepA
  rw [h]
  rfl
theorem of_keepA {b : Addr} (h : keepA X b = true) : (∃ o, X.base.get? b = some o) ∨ ∃ x, X.env.cells.lookup x = some b := by
  unfold keepA at h
  rw [Bool.or_eq_true] at h
  rcases h with h | h
  · exact .inl (Option.isSome_iff_exists.mp h)
  · rw [List.any_eq_true] at h
    obtain ⟨x, _, e⟩ := h
    exact .inr ⟨x, of_decide_eq_true e⟩
theorem env0_up (I : Inv X pins σ H s) (hfn : ∀ x, X.fn x = true) : Env0 X.prog X.w X.K X.mg (upBase X s.heap) X.A X.stack s H := by
  have up : ∀ b o, X.base.get? b = some o → (upBase X s.heap).get? b = some o := fun b o e => upBase_get (I.bk b o e) (keepA_base e)
  have e0 := I.env0
  refine ⟨e0.frames, ⟨e0.mod.kin.keeps up, e0.mod.glob.keeps up, ?_, e0.mod.nolimit.keeps up⟩, fun b o e => ?_, ?_, ?_, e0.frf, e0.hok, e0.bare⟩
  · obtain ⟨mb, h1, h2⟩ := e0.mod.blt
    exact ⟨mb, h1.keeps up, h2⟩
  · obtain ⟨e1, hk⟩ := of_upBase e
    refine ⟨e1, ?_⟩
    rcases of_keepA hk with ⟨o', hb⟩ | ⟨x, hx⟩
    · exact (I.bs b o' hb).2
    · exact I.freeC x b hx
  · unfold upBase
    rw [PySem.W.hideAll_size]
    exact Nat.le_refl _
  · refine funFrames_none e0.funs fun L hL => ?_
    cases q : (upBase X s.heap).get? L with
    | none => rfl
    | some o =>
      exfalso
      obtain ⟨_, hk⟩ := of_upBase q
      rcases of_keepA hk with ⟨o', hb⟩ | ⟨x, hx⟩
      · have := (I.stack.mem hL).1
        rw [hb] at this
        cases this
      · rcases List.mem_cons.mp (I.stkSub L hL) with z | z
        · exact I.cne x L hx z
        · obtain ⟨_, o2, ho2, _⟩ := I.ok.funs.mem z
          exact Nat.lt_irrefl _ (Nat.lt_of_lt_of_le (Heap.lt_size ho2) (I.ok.cab x L (hfn x) hx))
end
section
variable {G : GD} {Y : GX} {cf : CF} {k : Nat} {C : SC} {cm : List (Option CI)} {o : List Fr} {X : Cx} {J : JC}
variable {ρ ρ1 : List Addr} {H H1 : Hp} {mh : MH} {σ : L2.St} {fr : Fr} {pins : List (Addr × Obj)} {s : Shared}
theorem frameAt_cons {o : List Fr} {fr f : Fr} {d : Nat} (h : frameAt (fr :: o) d = some f) : (d < o.length ∧ frameAt o d = some f) ∨ (d = o.length ∧ f = fr) := by
  unfold frameAt at h ⊢
  rw [List.length_cons] at h
  by_cases hd : d < o.length
  · left
    refine ⟨hd, ?_⟩
    rw [if_pos hd]
    rw [if_pos (by omega)] at h
    have e : o.length + 1 - 1 - d = (o.length - 1 - d) + 1 := by omega
    rw [e] at h
    exact h
  · right
    by_cases hd2 : d < o.length + 1
    · rw [if_pos hd2] at h
      have e : o.length + 1 - 1 - d = 0 := by omega
      rw [e] at h
      exact ⟨by omega, (Option.some.inj h).symm⟩
    · rw [if_neg hd2] at h
      cases h
/-- what a callee finds: the ground, its callers' frames -/
theorem callee_out (cx : CtxOk G Y C k cm o X) (st : StR G cm X o ρ H mh σ fr) (I : Inv X pins σ H s) (e : Option CI) : ∃ B : Heap, (∀ b o, X.base.get? b = some o → B.get? b = some o) ∧ Env0 X.prog X.w X.K X.mg B X.A X.stack s H ∧ OutB G (cm ++ [e]) B ρ H (fr :: o) := by
  have old : ∀ B : Heap, (∀ b o, X.base.get? b = some o → B.get? b = some o) → ∀ (d : Nat) (ci : CI) (f : Fr), (cm ++ [e])[d]? = some (some ci) → d < o.length → frameAt o d = some f → f ≠ [] → OutF G (cm ++ [e]) B ρ H ci f := fun B up d ci f h1 hd h2 h3 => by
    have hl := cx.len
    rw [List.getElem?_append_left (by omega)] at h1
    exact (st.out d ci f h1 h2 h3).mv up fun d v z => z.mono (Deeper.app _ _) (Ext.refl _ _)
  cases hL : C.hasL with
  | false =>
    refine ⟨X.base, fun _ _ h => h, I.env0, fun d ci f h1 h2 h3 => ?_⟩
    rcases frameAt_cons h2 with ⟨hd, h2⟩ | ⟨hd, rfl⟩
    · exact old X.base (fun _ _ h => h) d ci f h1 hd h2 h3
    · exfalso
      have hl := cx.len
      rw [hd, List.getElem?_append_left (by omega), cx.nlam hL] at h1
      cases h1
  | true =>
    have up : ∀ b o, X.base.get? b = some o → (upBase X s.heap).get? b = some o := fun b o e => upBase_get (I.bk b o e) (keepA_base e)
    refine ⟨upBase X s.heap, up, env0_up I (cx.lamf hL), fun d ci f h1 h2 h3 => ?_⟩
    rcases frameAt_cons h2 with ⟨hd, h2⟩ | ⟨hd, rfl⟩
    · exact old _ up d ci f h1 hd h2 h3
    · have hl := cx.len
      rw [hd, List.getElem?_append_left (by omega)] at h1
      obtain ⟨q1, q2, q3, q4⟩ := cx.own ci h1
      refine ⟨fun x y c p1 p2 => I.ok.inj x y c (by rw [← q1]; exact p1) (by rw [← q1]; exact p2), fun i x p1 p2 => ?_⟩
      rw [q3] at p2
      rw [q2] at p1
      have hk : X.env.kindOf x = some .cell := by
        show X.env.scope.names.lookup x = _
        rw [cx.sc]
        exact p2
      obtain ⟨c, hc⟩ := I.ok.has x (.inl hk)
      obtain ⟨w, ob, hob, hdw⟩ := I.cell x c hc
      refine ⟨c, ob, w, by rw [q1]; exact hc, upBase_get hob (keepA_cell hc), hdw, fun dd hdd => ?_⟩
      obtain ⟨v, e1, e2⟩ := st.fr.at_ i dd hdd
      obtain ⟨m, hn, hlk⟩ := I.loc
      obtain ⟨u, ru, lk⟩ := hlk i x v (by rw [cx.N]; exact p1) e1 (.inr (.inl (by rw [cx.sc]; exact p2)))
      refine ⟨u, v, ?_, ru, e2.mono (Deeper.app _ _) (Ext.refl _ _) _ _⟩
      rcases lk with ⟨k1, _⟩ | ⟨_, c2, hc2, ob2, hob2, hd2⟩
      · rw [hk] at k1
        cases k1
      · rw [hc] at hc2
        cases hc2
        rw [hob] at hob2
        cases hob2
        rw [hdw] at hd2
        cases hd2
        rfl
end
end FS

-- text FsO
set_option Elab.async false
set_option linter.all false
set_option maxHeartbeats 1000000
/-! FsO: the calls' contracts, by the depth. -/
namespace FS
open PySem PySem.Spec PyProof.Rows L2 LamX

section
variable {G : GD} {Y : GX} {k : Nat}
/-- what must be known of the i-th def -/
def FnG (G : GD) (Y : GX) (i : Nat) (F : Fn) : Prop :=
  ∃ (x qual : Str) (params : Arguments) (body : List Stmt) (scope : Scope) (dvs : List V) (kws : List (Str × V)) (fd : FuncData) (C : SC) (ps : List Str),
    FunD G.K x qual params body scope dvs kws (Y.fad i) fd ∧ FnScope C.N ps scope ∧ C.sc = scope ∧ F.ar = ps.length ∧ F.nl = C.N.length ∧ C.hasL = F.lamf ∧ C.gn = 1 ∧ ps.length ≤ C.N.length ∧
    (C.hasT = true → ∃ c P, fd.code = .ref c ∧ TabB Y.base G.mg c P ∧ G.TQ P = some (qual ++ ".<locals>." ++ "<lambda>", posB C.L)) ∧
    (∀ cf k, CallF G Y cf k → CallL G Y cf k → SSs G Y cf k C F.body body) ∧
    ∀ n, n ≤ ps.length → ps.length ≤ n + F.dfl.length → ∃ ds dv, Vals dv ds ∧ (∀ τ cm ρ H, reps (G.tm τ) cm ρ H (F.dfl.drop (n + F.dfl.length - F.ar)) dv) ∧ ∀ (s : Shared) (us : List Value), G.K.In s.heap → us.length = n → BindsTo s fd ⟨us, []⟩ (ps.zip (us ++ ds))
theorem get_none {fr : Fr} {i : Nat} (h : fr.length ≤ i) : get fr i = none := by
  unfold get
  rw [List.getElem?_eq_none h]
theorem start_fr {cm : List (Option CI)} {ρ : List Addr} {H : Hp} {N : List Str} {xs : List D} {vs : List V} {m : Nat} (r : reps G cm ρ H xs vs) (hm : xs.length + m = N.length) : FrR G cm ρ H (L2.start N vs) (xs.map some ++ List.replicate m none) := by
  have hl := r.length
  refine ⟨?_, fun i d h => ?_⟩
  · unfold L2.start
    rw [List.length_append, List.length_append, List.length_map, List.length_map, List.length_replicate, List.length_replicate]
    omega
  · unfold get at h
    by_cases hi : i < xs.length
    · rw [List.getElem?_append_left (by rw [List.length_map]; exact hi), List.getElem?_map] at h
      have hx : xs[i]? = some xs[i] := List.getElem?_eq_getElem hi
      rw [hx] at h
      have e : xs[i] = d := by simpa using h
      obtain ⟨v, h1, h2⟩ := r.get hx
      refine ⟨v, ?_, by rw [← e]; exact h2⟩
      unfold L2.start
      rw [List.getElem?_append_left (by rw [List.length_map]; omega), List.getElem?_map, h1]
      rfl
    · rw [List.getElem?_append_right (by rw [List.length_map]; omega)] at h
      cases hq : (List.replicate m (none : Option D))[i - (xs.map some).length]? with
      | none =>
        rw [hq] at h
        cases h
      | some z =>
        have e := List.eq_of_mem_replicate (List.mem_of_getElem? hq)
        subst e
        rw [hq] at h
        cases h
theorem callF_succ (hg : ∀ i F, Y.g.fns[i]? = some F → FnG G Y i F) (hF : CallF G Y (callK Y.g k) k) (hL : CallL G Y (callK Y.g k) k) : CallF G Y (callK Y.g (k + 1)) (k + 1) := by
  intro τ C X cm o cx ρ H mh σ fr st i xs vs us pins s Q I rx rv h
  unfold callK at h
  split at h
  rotate_left
  · exact False.elim h
  rename_i F hFi
  split at h
  rotate_left
  · exact False.elim h
  rename_i hlen
  obtain ⟨x, qual, params, body, scope, dvs, kws, fd, C', ps, FD, S, hsc, har, hnl, hlm, hgn, hpl, htab, hsound, hbind⟩ := hg i F hFi
  have hK : X.K = G.K := cx.K
  have hxv : xs.length = vs.length := rx.length
  have hvu : vs.length = us.length := rv.length
  obtain ⟨ds, dv, rd, rdd, hb⟩ := hbind xs.length (by omega) (by omega)
  -- the arguments, filled up
  have rall : reps (G.tm τ) cm ρ H (xs ++ F.dfl.drop (xs.length + F.dfl.length - F.ar)) (vs ++ dv) := rx.app (rdd τ cm ρ H)
  have rvall : Vals (vs ++ dv) (us ++ ds) := Vals.append rv rd
  have lall : (vs ++ dv).length = ps.length := by
    have h1 := (rdd τ cm ρ H).length
    rw [List.length_drop] at h1
    rw [List.length_append, ← h1]
    omega
  obtain ⟨oc, od, dV, kV, doc, pm, an, cdv, ct, osl, hfd, lk, hcd, _, _⟩ := FD.ex
  subst hfd
  -- the callee's level
  generalize hci : (if F.lamf = true then some (CI.mk (cellsFrom (s.heap.objs.size + 1) scope.names []) C'.N scope (qual ++ ".<locals>.")) else none : Option CI) = e
  obtain ⟨B, up, e0, ob⟩ := callee_out cx st I e
  generalize hfr : (xs ++ F.dfl.drop (xs.length + F.dfl.length - F.ar)).map some ++ List.replicate (F.nl - F.ar) none = fr0 at h
  generalize hres : evSs Y.g (callK Y.g k) (fr :: o) F.body fr0 mh = res at h
  let E : XK := fun cls dd H' => ∃ c fr' mh', res = .exc c fr' mh' ∧ cls = Y.cls c ∧ ∃ ρ', Ext ρ H ρ' H' ∧ Gd (G.tm τ) ρ' H' mh'
  have lkX : X.K.lookup (Y.fad i) = some ⟨oc, od, .func (PySem.W.fnOf x qual params body scope dV kV doc pm an cdv ct), osl⟩ := by rw [hK]; exact lk
  have rc : codeAny (model X.prog X.w) X.A (.call (.ref (Y.fad i)) ⟨us, []⟩) (CR (L2.CX X.prog X.w) X.stack X.prog X.w H s Q E) s := by
    refine run_ofS (N := C'.N) (ps := ps) (us := us ++ ds) (vs := vs ++ dv) lkX (by rw [hK]; exact hcd) S (cx.room.mono (j := 2 * k + 1 + 1) (by omega)) e0 (hb s us (by rw [← hK]; exact I.kIn) (by omega)) rvall lall fun hr => ?_
    refine ⟨_, pss_w, ?_⟩
    have cx' : CtxOk (G.tm τ) Y C' k (cm ++ [e]) (fr :: o) (cxOf (L2.CX X.prog X.w) X.prog X.w X.K X.mg B C'.N qual scope (Y.fad i) cdv X.A X.stack s H E) := by
      have hl := cx.len
      have etop : (cm ++ [e])[(fr :: o).length]? = some e := by
        rw [List.length_cons, ← hl, List.getElem?_append_right (Nat.le_refl _), Nat.sub_self]
        rfl
      refine ⟨cx.prog, cx.w, cx.K, cx.mg, rfl, S.nd, hsc.symm, by rw [hsc]; exact S.kind, rfl, fun _ _ => rfl, (by rw [hgn]; exact hr), fun b oo q => up _ _ (cx.base b oo q), fun ht => ?_, fun _ _ => rfl, fun hn => ?_, fun hy => ?_, fun ci hc => ?_, by rw [List.length_append, hl]; rfl⟩
      · obtain ⟨c, P, q1, q2, q3⟩ := htab ht
        exact ⟨c, P, q1, q2, q3⟩
      · rw [etop, ← hci, ← hlm, hn]
        rfl
      · refine ⟨CI.mk (cellsFrom (s.heap.objs.size + 1) scope.names []) C'.N scope (qual ++ ".<locals>."), ?_⟩
        rw [etop, ← hci, ← hlm, hy]
        rfl
      · rw [etop, ← hci] at hc
        cases hl2 : F.lamf with
        | false =>
          rw [hl2] at hc
          cases hc
        | true =>
          rw [hl2] at hc
          have hc := Option.some.inj (Option.some.inj hc)
          rw [← hc]
          exact ⟨rfl, rfl, hsc.symm, rfl⟩
    have sx' : StX (cxOf (L2.CX X.prog X.w) X.prog X.w X.K X.mg B C'.N qual scope (Y.fad i) cdv X.A X.stack s H E) := ⟨rfl, rfl, passes_of rfl⟩
    have st' : StR (G.tm τ) (cm ++ [e]) (cxOf (L2.CX X.prog X.w) X.prog X.w X.K X.mg B C'.N qual scope (Y.fad i) cdv X.A X.stack s H E) (fr :: o) ρ H mh (L2.start C'.N (vs ++ dv)) fr0 := by
      refine ⟨st.gd, ?_, ob⟩
      rw [← hfr]
      refine start_fr (rall.mono (Deeper.app _ _) (Ext.refl _ _) _ _) ?_
      rw [rall.length, lall, hnl, har]
      omega
    refine hsound _ k hF hL τ _ _ _ cx' sx' ρ H mh _ fr0 st' _ ?_
    rw [hres]
    -- a value goes back
    have back : ∀ {d : D} {ρ' : List Addr} {H' : Hp} {v : V}, (F.lamf && !noClo d) = false → rep (G.tm τ) (cm ++ [e]) ρ' H' d v → rep (G.tm τ) cm ρ' H' d v := fun {d ρ' H' v} hc r => by
      cases hl2 : F.lamf with
      | false =>
        rw [← hci, hl2] at r
        exact r.top
      | true =>
        rw [hl2, Bool.true_and] at hc
        have : noClo d = true := by
          cases q : noClo d with
          | true => rfl
          | false =>
            rw [q] at hc
            cases hc
        exact r.bare _ _ this
    cases res with
    | nx fr1 mh1 => exact fun ρ' H' σ' ex g f => h ρ' H' _ ex g (by unfold rep; rfl)
    | ret d mh1 =>
      have h : RK (G.tm τ) Y X σ (rep (G.tm τ) cm) ρ H (if (F.lamf && !noClo d) = true then R.stk else R.ok d mh1) Q := h
      cases hq : (F.lamf && !noClo d) with
      | true =>
        rw [hq] at h
        exact False.elim h
      | false =>
        rw [hq] at h
        exact fun ρ' H' v ex g r => h ρ' H' v ex g (back hq r)
    | brk fr1 mh1 => exact False.elim h
    | cnt fr1 mh1 => exact False.elim h
    | exc c fr1 mh1 => exact ⟨_, takes_of (X := cxOf (L2.CX X.prog X.w) X.prog X.w X.K X.mg B C'.N qual scope (Y.fad i) cdv X.A X.stack s H E) (E := E) rfl rfl rfl rfl, fun ρ' H' σ' dd ex g f => ⟨c, fr1, mh1, rfl, rfl, ρ', ex, g⟩⟩
    | stk => exact False.elim h
  refine wpAny_call (codeAny_mono rc fun r s' hq => ?_)
  cases r with
  | ok fl =>
    cases fl with
    | ret u => exact I.after hq
    | next => exact False.elim hq
    | brk => exact False.elim hq
    | cont => exact False.elim hq
  | error er =>
    have hq : L2.CX X.prog X.w X.stack H s E er s' := hq
    cases res with
    | exc c fr1 mh1 =>
      obtain ⟨W, tk, hW⟩ := h
      refine tk er s' (XE.of_call I (fun cls d H' hE => ?_) hq)
      obtain ⟨c2, fr2, mh2, e1, e2, ρ', ex, g⟩ := hE
      cases e1
      rw [e2]
      exact hW ρ' H' d ex g
    | _ =>
      exfalso
      obtain ⟨_, _, H', cls, d, _, _, _, _, _, _, _, hE⟩ := hq
      obtain ⟨c2, fr2, mh2, e1, _⟩ := hE
      cases e1

/-! ### lambdas -/
/-- what must be known of the l-th lambda -/
def LmG (G : GD) (Y : GX) (l : Nat) (L : Lam) : Prop :=
  ∀ (ci : CI) (params : Arguments) (body : Expr) (scope : Scope), G.lamC l ci params body scope → ∃ C : SC, noPar params = true ∧ lamSB ci.sc scope = true ∧ C.sc = scope ∧ C.hasT = false ∧ C.hasL = false ∧ C.gn = 0 ∧ (∀ x, C.fnc x = false) ∧ C.N.Nodup ∧ C.N.length = L.cap.length ∧
    (∀ (j : Nat) (x : Str), C.N[j]? = some x → ∃ i : Nat, L.cap[j]? = some i ∧ ci.N[i]? = some x) ∧ (∀ y ∈ scope.names, y.2 = .free → y.1 ∈ C.N) ∧ (∀ x ∈ C.N, ci.sc.names.lookup x = some .cell) ∧
    ∀ cf k, CallF G Y cf k → CallL G Y cf k → SE G Y cf k C L.body body
theorem cap_fr {cm : List (Option CI)} {ρ : List Addr} {H : Hp} {f : Fr} {P : Nat → D → V → Prop} (hP : ∀ i d v, P i d v → rep G cm ρ H d v) : ∀ (cap : List Nat), (∀ i ∈ cap, ∀ dd, get f i = some dd → ∃ v, P i dd v) → ∃ σ : L2.St, FrR G cm ρ H σ (cap.map (get f)) ∧ ∀ (j : Nat) (v : V), σ[j]? = some (some v) → ∃ i dd, cap[j]? = some i ∧ get f i = some dd ∧ P i dd v
  | [], _ => ⟨[], ⟨rfl, fun i d h => by unfold get at h; simp at h⟩, fun j v h => by simp at h⟩
  | c :: cap, h => by
    obtain ⟨σ, f1, f2⟩ := cap_fr hP cap fun i hi => h i (List.mem_cons_of_mem _ hi)
    have key : ∃ ov : Option V, (∀ dd, get f c = some dd → ∃ v, ov = some v ∧ P c dd v) ∧ ∀ v, ov = some v → ∃ dd, get f c = some dd ∧ P c dd v := by
      cases hq : get f c with
      | none => exact ⟨none, ⟨fun dd h => (by cases h), fun v h => (by cases h)⟩⟩
      | some dd =>
        obtain ⟨v, hv⟩ := h c List.mem_cons_self dd hq
        exact ⟨some v, ⟨fun dd' h => (by cases h; exact ⟨v, rfl, hv⟩), fun v' h => (by cases h; exact ⟨dd, rfl, hv⟩)⟩⟩
    obtain ⟨ov, k1, k2⟩ := key
    refine ⟨ov :: σ, ⟨by rw [List.map_cons, List.length_cons, List.length_cons, f1.len], fun i d hi => ?_⟩, fun j v hj => ?_⟩
    · cases i with
      | zero =>
        have hi : (match (some (get f c) : Option (Option D)) with | some (some d) => some d | _ => none) = some d := hi
        cases hq : get f c with
        | none =>
          rw [hq] at hi
          cases hi
        | some dd =>
          rw [hq] at hi
          have hi : dd = d := Option.some.inj hi
          subst hi
          obtain ⟨v, e1, e2⟩ := k1 dd hq
          exact ⟨v, by rw [e1]; rfl, hP _ _ _ e2⟩
      | succ i => exact f1.at_ i d hi
    · cases j with
      | zero =>
        have e : ov = some v := Option.some.inj hj
        obtain ⟨dd, q1, q2⟩ := k2 v e
        exact ⟨c, dd, rfl, q1, q2⟩
      | succ j => exact f2 j v hj
/-- the context of a lambda's body -/
def cxLam (X : Cx) (B : Heap) (N : List Str) (ci : CI) (s : Shared) (H : Hp) (E : XK) (scope : Scope) (f c' : Addr) : Cx :=
  lamCx { X with base := B, N := N, env := { X.env with cells := ci.cells, qual := ci.qual } } X.A X.stack s H E scope f c'
theorem cxLam_start {cm : List (Option CI)} {o : List Fr} {X : Cx} {ρ : List Addr} {H : Hp} {s : Shared} {B : Heap} {N : List Str} {ci : CI} {E : XK} {scope : Scope} {f c' : Addr} {h₁ : Heap} {tk : Nat} {σ : L2.St} {fr : Fr} (L : LamS ci.sc scope) (e0 : Env0 X.prog X.w X.K X.mg B X.A X.stack s H) (hd : X.A.handled = none)
    (hin : ∀ x y c, (x, NameKind.free) ∈ scope.names → ci.cells.lookup x = some c → ci.cells.lookup y = some c → x = y) (hfree : ∀ y ∈ scope.names, y.2 = .free → ∃ c ob w, ci.cells.lookup y.1 = some c ∧ B.get? c = some ob ∧ ob.data = .cell w)
    (hσ : ∀ (j : Nat) (x : Str) (v : V), N[j]? = some x → σ[j]? = some (some v) → ∃ c ob u, ci.cells.lookup x = some c ∧ B.get? c = some ob ∧ ob.data = .cell (some u) ∧ RelV v u) (hl : σ.length = N.length)
    (hns : h₁.Ns s.heap.objs.size fun y => ([] : List (Str × Value)).reverse.lookup y) (kp : ∀ b o, s.heap.get? b = some o → h₁.get? b = some o) :
    Inv (cxLam X B N ci s H E scope f c') [] σ H { s with heap := h₁, toks := tk } := by
  have cl : ∀ {y c}, (cloFrom ci.cells scope.names []).lookup y = some c → (y, NameKind.free) ∈ scope.names ∧ ci.cells.lookup y = some c := fun {y c} e => by
    rcases cloFrom_mem (PySem.mem_of_lookup e) with hm | ⟨h1, h2⟩
    · cases hm
    · obtain ⟨c1, _, _, hc, _⟩ := hfree _ h1 rfl
      have hc : ci.cells.lookup y = some c1 := hc
      refine ⟨h1, ?_⟩
      rw [h2, hc]
      rfl
  have look : ∀ {y}, scope.names.lookup y = some .free → ∃ c, (cloFrom ci.cells scope.names []).lookup y = some c := fun {y} hl => by
    have hy : (y, NameKind.free) ∈ scope.names := PySem.mem_of_lookup hl
    exact mem_lookup (cloFrom_has (cells := ci.cells) (acc := []) hy)
  have noA : ∀ b : Addr, b ∉ (cxLam X B N ci s H E scope f c').ex := fun b z => absurd (show b ∈ ([] : List Addr) from z) (by simp)
  have inB : ∀ {c ob}, B.get? c = some ob → h₁.get? c = some ob ∧ H c = none := fun {c ob} e => ⟨kp _ _ (e0.bs c ob e).1, (e0.bs c ob e).2⟩
  refine ⟨⟨e0.mod, L.kind, rfl, rfl, Nat.le_refl _, fun y z c e1 e2 => hin y z c (cl e1).1 (cl e1).2 (cl e2).2, fun y hy => ?_, fun y c z _ => ?_, fun _ => hd, Around.frames_deeper e0.frames, .inr ⟨rfl, rfl⟩, fun b z => absurd z (noA b), e0.bs, e0.bsz, fun b _ _ => noA b,
      fun b z => absurd z (noA b), e0.funs, e0.frf⟩,
    rfl, e0.bare, Un.kept kp, ⟨_, hns, fun i y v e1 e2 e3 => ?_⟩, fun y c e => ?_, e0.hok.fresh (Nat.le_refl _), fun y c e => ?_, fun q hq => absurd (show q ∈ ([] : List (Addr × Obj)) ++ [] from hq) (by simp), e0.hok.kept kp, hl⟩
  · have hy : scope.names.lookup y = some .cell ∨ scope.names.lookup y = some .free := hy
    rcases hy with hy | hy
    · exact absurd rfl (L.own _ (PySem.mem_of_lookup hy)).2
    · exact look hy
  · have z : false = true := z
    cases z
  · have e3 : Vis scope y := e3
    rcases e3 with k | k | k
    · exact absurd rfl (L.own _ (PySem.mem_of_lookup k)).1
    · exact absurd rfl (L.own _ (PySem.mem_of_lookup k)).2
    · obtain ⟨c, ob, u, q1, q2, q3, q4⟩ := hσ i y v e1 e2
      obtain ⟨c2, h2⟩ := look k
      have q5 := (cl h2).2
      rw [q1] at q5
      cases q5
      exact ⟨u, q4, .inr ⟨.inr k, c, h2, ob, (inB q2).1, q3⟩⟩
  · obtain ⟨h1, h2⟩ := cl e
    obtain ⟨c2, ob, w, q1, q2, q3⟩ := hfree _ h1 rfl
    have q1 : ci.cells.lookup y = some c2 := q1
    rw [h2] at q1
    cases q1
    exact ⟨w, ob, (inB q2).1, q3⟩
  · obtain ⟨h1, h2⟩ := cl e
    obtain ⟨c2, ob, w, q1, q2, q3⟩ := hfree _ h1 rfl
    have q1 : ci.cells.lookup y = some c2 := q1
    rw [h2] at q1
    cases q1
    exact (inB q2).2
theorem noPar_bind {q : Str} {params : Arguments} {body : Expr} {scope : Scope} {cl : List (Str × Addr)} {pm cv ctv : Value} (h : noPar params = true) : bindArgs (PySem.W.kla_fn "<lambda>" q params body scope cl pm cv ctv) ⟨[], []⟩ = pure [] := by
  unfold noPar at h
  split at h
  · rfl
  · cases h
theorem callL_succ (hg : ∀ l L, Y.g.lams[l]? = some L → LmG G Y l L) (hF : CallF G Y (callK Y.g k) k) (hL : CallL G Y (callK Y.g k) k) : CallL G Y (callK Y.g (k + 1)) (k + 1) := by
  intro τ C X cm o cx ρ H mh σ fr st l d v L f pins s Q I rv hLm hf hcap h a hva
  unfold callK at h
  rw [hLm] at h
  have h : RK (G.tm τ) Y X σ (rep (G.tm τ) cm) ρ H (evE Y.g (callK Y.g k) (fr :: o) L.body (L.cap.map (get f)) mh) Q := h
  subst hva
  unfold rep at rv
  obtain ⟨fa, c', ci, pm, ctv, params, body, scope, hfa, hcm, hlam, hf1, hc1⟩ := rv
  cases hfa
  obtain ⟨C', hnp, hls, hsc, hnT, hnL, hgn0, hnf, hnd, hlen, hcapN, hfrN, hcell, hsound⟩ := hg l L hLm ci params body scope hlam
  obtain ⟨B, up, e0, ob⟩ := callee_out cx st I none
  have LS : LamS ci.sc scope := lamS_by hls
  have hd : d < o.length := by
    unfold frameAt at hf
    split at hf
    · assumption
    · cases hf
  have hl := cx.len
  have hfa2 : frameAt (fr :: o) d = some f := by
    unfold frameAt at hf ⊢
    rw [if_pos hd] at hf
    rw [List.length_cons, if_pos (by omega)]
    have e : o.length + 1 - 1 - d = (o.length - 1 - d) + 1 := by omega
    rw [e]
    exact hf
  have hOut : f ≠ [] → OutF (G.tm τ) (cm ++ [none]) B ρ H ci f := fun hne => ob d ci f (by rw [List.getElem?_append_left (by omega)]; exact hcm) hfa2 hne
  have hne : ∀ i ∈ L.cap, f ≠ [] := fun i hi e => by
    have := List.all_eq_true.mp hcap i hi
    rw [e] at this
    exact absurd (Nat.le_of_ble_eq_true this) (Nat.not_succ_le_zero _)
  have hN : ∀ x ∈ C'.N, f ≠ [] := fun x hx => by
    have : 0 < L.cap.length := by
      rw [← hlen]
      exact List.length_pos_of_mem hx
    exact hne _ (List.getElem_mem this)
  have capx : ∀ i ∈ L.cap, ∃ x, ci.N[i]? = some x ∧ x ∈ C'.N := fun i hi => by
    obtain ⟨j, hj, e⟩ := List.getElem_of_mem hi
    have hj2 : j < C'.N.length := by omega
    obtain ⟨i2, q1, q2⟩ := hcapN j _ (List.getElem?_eq_getElem hj2)
    rw [List.getElem?_eq_getElem hj, e] at q1
    cases q1
    exact ⟨_, q2, List.getElem_mem hj2⟩
  obtain ⟨σL, fL, hσL⟩ := cap_fr (G := G.tm τ) (cm := cm ++ [none]) (ρ := ρ) (H := H) (f := f) (P := fun i dd v => rep (G.tm τ) (cm ++ [none]) ρ H dd v ∧ ∀ x, ci.N[i]? = some x → ∃ c ob u, ci.cells.lookup x = some c ∧ B.get? c = some ob ∧ ob.data = .cell (some u) ∧ RelV v u) (fun _ _ _ z => z.1) L.cap fun i hi dd hdd => by
    obtain ⟨x, q1, q2⟩ := capx i hi
    obtain ⟨c, obj, w, p1, p2, p3, p4⟩ := (hOut (hne i hi)).at_ i x q1 (hcell x q2)
    obtain ⟨u, v, r1, r2, r3⟩ := p4 dd hdd
    refine ⟨v, r3, fun x' hx' => ?_⟩
    rw [q1] at hx'
    cases hx'
    exact ⟨c, obj, u, p1, p2, by rw [p3, r1], r2⟩
  have of1 : s.heap.get? a = some (PySem.W.kla_obj "<lambda>" (ci.qual ++ "<lambda>") params body scope (cloFrom ci.cells scope.names []) pm c' ctv) := (I.hok a _ hf1.2).1
  obtain ⟨⟨oc, vs, t, hoc, hdc, hvc⟩, _, _⟩ := I.hok c' _ hc1.2
  generalize hres : evE Y.g (callK Y.g k) (fr :: o) L.body (L.cap.map (get f)) mh = res at h
  let E : XK := fun cls dd H' => ∃ c mh', res = .exc c mh' ∧ cls = Y.cls c ∧ ∃ ρ', Ext ρ H ρ' H' ∧ Gd (G.tm τ) ρ' H' mh'
  have rc : codeAny (model X.prog X.w) X.A (.call (.ref a) ⟨[], []⟩) (CR (L2.CX X.prog X.w) X.stack X.prog X.w H s Q E) s := by
    refine PySem.W.kla_callFunE cx.room.depth of1 rfl LS.co LS.gen rfl ⟨c', oc, vs, t, rfl, hoc, hdc, hvc⟩ ?_
    rw [noPar_bind hnp]
    refine wpAny_pure (wpAny_newFunctionEnv (fun y hy => (LS.own y hy).2) (fun y hy => absurd hy (by simp)) (fun h₁ hns hsb => ⟨I.nolimit.fresh _ hsb, ?_⟩) LS.kind)
    have kp : ∀ b o, s.heap.get? b = some o → h₁.get? b = some o := fun b o e => hsb.extBut b o (Nat.ne_of_lt (Heap.lt_size e)) (Heap.get?_push_of_some _ e)
    have J : Inv (cxLam X B C'.N ci s H E scope a c') [] σL H { s with heap := h₁, toks := s.toks + ([] : List (Str × Value)).length } := by
      refine cxLam_start (fr := fr) (cm := cm) (o := o) (ρ := ρ) LS e0 cx.room.hd (fun x y c hx q1 q2 => (hOut (hN x (hfrN _ hx rfl))).inj x y c q1 q2) (fun y hy hyf => ?_) (fun j x v hx hv => ?_) ?_ hns kp
      · have hm := hfrN y hy hyf
        obtain ⟨j, hj, e⟩ := List.getElem_of_mem hm
        obtain ⟨i2, q1, q2⟩ := hcapN j y.1 (by rw [List.getElem?_eq_getElem hj, e])
        obtain ⟨c, obj, w, p1, p2, p3, _⟩ := (hOut (hN _ hm)).at_ i2 y.1 q2 (hcell _ hm)
        exact ⟨c, obj, w, p1, p2, p3⟩
      · obtain ⟨i, dd, q1, q2, q3, q4⟩ := hσL j v hv
        obtain ⟨i2, q5, q6⟩ := hcapN j x hx
        rw [q1] at q5
        cases q5
        exact q4 x q6
      · rw [fL.len, List.length_map, hlen]
    have cx' : CtxOk (G.tm τ) Y C' k (cm ++ [none]) (fr :: o) (cxLam X B C'.N ci s H E scope a c') := by
      have etop : (cm ++ [none])[(fr :: o).length]? = some none := by
        rw [List.length_cons, ← hl, List.getElem?_append_right (Nat.le_refl _), Nat.sub_self]
        rfl
      refine ⟨cx.prog, cx.w, cx.K, cx.mg, rfl, hnd, hsc.symm, by rw [hsc]; exact LS.kind, rfl, fun x hx => ?_, (by rw [hgn0]; exact (cx.room.mono (j := 2 * k + 1) (by omega)).deeper _), fun b oo q => up _ _ (cx.base b oo q), fun ht => ?_, fun ht => ?_, fun _ => etop, fun ht => ?_, fun ci' hc => ?_, by rw [List.length_append, hl]; rfl⟩
      · rw [hnf x] at hx
        cases hx
      · rw [hnT] at ht
        cases ht
      · rw [hnL] at ht
        cases ht
      · rw [hnL] at ht
        cases ht
      · rw [etop] at hc
        cases hc
    have st' : StR (G.tm τ) (cm ++ [none]) (cxLam X B C'.N ci s H E scope a c') (fr :: o) ρ H mh σL (L.cap.map (get f)) := ⟨st.gd, fL, ob⟩
    have hbody : wE (cxLam X B C'.N ci s H E scope a c') body σL H Q := by
      refine hsound _ k hF hL τ _ _ _ cx' ρ H mh σL _ st' Q ?_
      rw [hres]
      cases res with
      | ok d mh1 => exact fun ρ' H' v ex g r => h ρ' H' v ex g r.top
      | exc c mh1 => exact ⟨_, takes_of (X := cxLam X B C'.N ci s H E scope a c') (E := E) rfl rfl rfl rfl, fun ρ' H' dd ex g => ⟨c, mh1, rfl, rfl, ρ', ex, g⟩⟩
      | stk => exact h
    refine PySem.W.kla_codeExpr (wpAny_mono (hbody [] _ J) (fun v s' hq => ?_) fun e s' hq => hq)
    obtain ⟨w', H', J', rv, q⟩ := hq
    exact ⟨w', H', J'.os, J'.bare, J'.base, J'.hok, rv, q⟩
  refine wpAny_call (codeAny_mono rc fun r s' hq => ?_)
  cases r with
  | ok fl =>
    cases fl with
    | ret u => exact I.after hq
    | next => exact False.elim hq
    | brk => exact False.elim hq
    | cont => exact False.elim hq
  | error er =>
    have hq : L2.CX X.prog X.w X.stack H s E er s' := hq
    cases res with
    | exc c mh1 =>
      obtain ⟨W, tk, hW⟩ := h
      refine tk er s' (XE.of_call I (fun cls d H' hE => ?_) hq)
      obtain ⟨c2, mh2, e1, e2, ρ', ex, g⟩ := hE
      cases e1
      rw [e2]
      exact hW ρ' H' d ex g
    | _ =>
      exfalso
      obtain ⟨_, _, H', cls, d, _, _, _, _, _, _, _, hE⟩ := hq
      obtain ⟨c2, mh2, e1, _⟩ := hE
      cases e1
/-- all calls, at any depth -/
theorem calls_ok (hf : ∀ i F, Y.g.fns[i]? = some F → FnG G Y i F) (hl : ∀ l L, Y.g.lams[l]? = some L → LmG G Y l L) : ∀ k, CallF G Y (callK Y.g k) k ∧ CallL G Y (callK Y.g k) k
  | 0 => ⟨fun τ C X cm o cx ρ H mh σ fr st i xs vs us pins s Q I rx rv h => False.elim h, fun τ C X cm o cx ρ H mh σ fr st l d v L f pins s Q I rv h1 h2 h3 h a ha => False.elim h⟩
  | k + 1 => by
    obtain ⟨h1, h2⟩ := calls_ok hf hl k
    exact ⟨callF_succ hf h1 h2, callL_succ hl h1 h2⟩
end
end FS

-- text FsP
set_option Elab.async false
set_option linter.all false
set_option maxHeartbeats 4000000
/-! FsP: a look that ties the inner language to the program's text; what it shows. -/
namespace FS
open PySem PySem.Spec PyProof.Rows L2 LamX

def glbB (C : SC) (x : Str) : Bool := decide (C.sc.names.lookup x = some .globalImplicit) && !(x == ("__debug__" : Str))
def visB (C : SC) (i : Nat) (x : Str) : Bool := decide (C.N[i]? = some x) && (decide (C.sc.names.lookup x = some .local) || decide (C.sc.names.lookup x = some .cell) || decide (C.sc.names.lookup x = some .free)) && !(x == ("__debug__" : Str)) && !(x == ("__classdict__" : Str))
def strB (x : List Nat) (y : Str) : Bool := decide (y.cps.toList = x)
def ownNs (C : SC) (own : List Nat) : List (Str × Nat) := own.map fun i => ((C.N[i]?).getD "", i)
def opOk (an : Bool) (op : BoolOp) : Bool := match an, op with
  | true, .And => true
  | false, .Or => true
  | _, _ => false
mutual
def chkE (J : JC) (C : SC) : E → Expr → Bool
  | .k d, x => (match d, x with
    | .non, .Constant .none _ _ => true
    | .bl b, .Constant (.bool c) _ _ => b == c
    | .int n, .Constant (.int m) _ _ => decide (n = m)
    | .str s, .Constant (.str y) _ _ => strB s y
    | _, _ => false)
  | .var i, x => (match x with
    | .Name x _ => visB C i x
    | _ => false)
  | .glb i, x => (match x with
    | .Name x _ => decide (J.gln[i]? = some x) && glbB C x
    | _ => false)
  | .bin op a b, x => (match x with
    | .BinOp a' op' b' _ => decide (op' = opB op) && chkE J C a a' && chkE J C b b'
    | _ => false)
  | .neg a, x => (match x with
    | .UnaryOp .USub a' _ => chkE J C a a'
    | _ => false)
  | .bnot a, x => (match x with
    | .UnaryOp .Not a' _ => chkE J C a a'
    | _ => false)
  | .cmp op a b, x => (match x with
    | .Compare a' [op'] [b'] _ => decide (op' = opC op) && !behindInMarks op' b' && chkE J C a a' && chkE J C b b'
    | _ => false)
  | .chn op op2 a b c, x => (match x with
    | .Compare a' [op', op2'] [b', c'] _ => decide (op' = opC op) && decide (op2' = opC op2) && !lastMarks [op', op2'] [b', c'] && chkE J C a a' && chkE J C b b' && chkE J C c c'
    | _ => false)
  | .bop an es, x => (match x with
    | .BoolOp op es' _ => opOk an op && chkB J C es es'
    | _ => false)
  | .ife c a b, x => (match x with
    | .IfExp c' a' b' _ => chkC J C c c' && chkE J C a a' && chkE J C b b'
    | _ => false)
  | .ix a b, x => (match x with
    | .Subscript a' b' _ => pl b' && chkE J C a a' && chkE J C b b'
    | _ => false)
  | .sl a lo hi, x => (match x with
    | .Subscript a' (.Slice lo' hi' none _) _ => chkE J C a a' && (match lo', lo.isNop with
      | none, true => true
      | some l, false => chkE J C lo l
      | _, _ => false) && (match hi', hi.isNop with
      | none, true => true
      | some l, false => chkE J C hi l
      | _, _ => false)
    | _ => false)
  | .nop, _ => false
  | .tup es, x => (match x with
    | .Tuple es' _ _ => chkEs J C es es'
    | _ => false)
  | .lst _ es, x => (match x with
    | .List es' _ => chkEs J C es es'
    | _ => false)
  | .call f es, x => (match x with
    | .Call (.Name x _) es' [] _ => decide (J.fnn[f]? = some x) && glbB C x && chkEs J C es es'
    | _ => false)
  | .bi b es, x => (match x with
    | .Call (.Name x _) es' [] _ => decide (x = nmBi b) && glbB C x && J.bok x && !es'.isEmpty && chkEs J C es es'
    | _ => false)
  | .me m a es, x => (match x with
    | .Call (.Attribute a' nm apos) es' [] cpos => decide (nm = nmMe m) && plO a' && (apos.endLine == cpos.line) && decide (es'.length < 29) && chkE J C a a' && chkEs J C es es'
    | _ => false)
  | .lam l, x => (match x with
    | .Lambda params body scope pos => C.hasT && C.hasL && posB C.L pos && noPar params && lamSB C.sc scope && J.lamB l C params body scope
    | _ => false)
  | .app i, x => (match x with
    | .Call (.Name x _) [] [] _ => visB C i x
    | _ => false)
  | .lc own t it ifs e, x => (match x with
    | .ListComp e' [⟨tg, iter', ifs', 0⟩] scope _ => blkC C.N C.sc scope (ownNs C own) && chkT (blkSC C scope) t tg && (tNs t).all own.contains && nset iter' && chkI J C it iter' && chkCf J (blkSC C scope) ifs ifs' && chkE J (blkSC C scope) e e'
    | _ => false)
  | .gen q own t it ifs e, x => (match x with
    | .Call (.Name nm _) [.GeneratorExp e' [⟨tg, iter', ifs', 0⟩] scope gpos] [] _ => C.hasT && Nat.blt 0 C.gn && decide (nm = gN q) && decide (C.sc.names.lookup nm = some .globalImplicit) && J.bok nm && !posB C.L gpos && genC C scope (ownNs C own) && chkT (genSC C scope) t tg && (tNs t).all own.contains && gfold iter' && chkI J C it iter' && chkCf J (genSC C scope) ifs ifs' && chkE J (genSC C scope) e e'
    | _ => false)
  | .fs es, x => (match x with
    | .JoinedStr (p1 :: p2 :: ps) _ => chkP J C es (p1 :: p2 :: ps)
    | _ => false)
def chkEs (J : JC) (C : SC) : Es → List Expr → Bool
  | .nil, [] => true
  | .cons e es, a :: as => pl a && chkE J C e a && chkEs J C es as
  | _, _ => false
/-- parts of a text -/
def chkP (J : JC) (C : SC) : Es → List Expr → Bool
  | .nil, [] => true
  | .cons e es, a :: as => (match a with
    | .FormattedValue a' (-1) none _ => chkE J C e a'
    | .Constant (.str y) _ _ => (match e with
      | .k (.str x) => strB x y
      | _ => false)
    | _ => false) && chkP J C es as
  | _, _ => false
def chkB (J : JC) (C : SC) : Es → List Expr → Bool
  | .cons e es, a :: as => chkE J C e a && (match es.isNil, as with
    | true, [] => true
    | false, _ :: _ => chkB J C es as
    | _, _ => false)
  | _, _ => false
def chkC (J : JC) (C : SC) : Ct → Expr → Bool
  | .v e, x => tst x && chkE J C e x
  | .nt c, x => (match x with
    | .UnaryOp .Not a' _ => chkC J C c a'
    | _ => false)
  | .bop an cs, x => (match x with
    | .BoolOp op es' _ => opOk an op && chkCs J C cs es'
    | _ => false)
  | .ife c a b, x => (match x with
    | .IfExp c' a' b' _ => chkC J C c c' && chkC J C a a' && chkC J C b b'
    | _ => false)
  | .cmp op a b, x => (match x with
    | .Compare a' [op'] [b'] _ => decide (op' = opC op) && !behindInMarks op' b' && chkE J C a a' && chkE J C b b'
    | _ => false)
  | .chn op op2 a b c, x => (match x with
    | .Compare a' [op', op2'] [b', c'] _ => decide (op' = opC op) && decide (op2' = opC op2) && !lastMarks [op', op2'] [b', c'] && chkE J C a a' && chkE J C b b' && chkE J C c c'
    | _ => false)
def chkCs (J : JC) (C : SC) : Cs → List Expr → Bool
  | .cons e es, a :: as => chkC J C e a && (match es, as with
    | .nil, [] => true
    | .cons .., _ :: _ => chkCs J C es as
    | _, _ => false)
  | _, _ => false
/-- the tests of a comprehension: none or one -/
def chkCf (J : JC) (C : SC) : Cs → List Expr → Bool
  | .nil, [] => true
  | .cons e .nil, [a] => chkC J C e a
  | _, _ => false
def chkI (J : JC) (C : SC) : Iw → Expr → Bool
  | .e a, x => chkE J C a x
  | .rng es, x => (match x with
    | .Call (.Name x _) es' [] _ => decide (x = ("range" : Str)) && glbB C x && J.bok x && (es'.length == 1 || es'.length == 2) && chkEs J C es es'
    | _ => false)
end

section
variable {G : GD} {Y : GX} {cf : CF} {k : Nat} {J : JC}
theorem glbB_of {C : SC} {x : Str} (h : glbB C x = true) : C.sc.names.lookup x = some .globalImplicit ∧ (x == ("__debug__" : Str)) = false := by
  unfold glbB at h
  rw [Bool.and_eq_true, decide_eq_true_eq, Bool.not_eq_true'] at h
  exact h
theorem visB_of {C : SC} {i : Nat} {x : Str} (h : visB C i x = true) : C.N[i]? = some x ∧ Vis C.sc x ∧ (x == ("__debug__" : Str)) = false ∧ (x == ("__classdict__" : Str)) = false := by
  unfold visB at h
  simp only [Bool.and_eq_true, Bool.or_eq_true, decide_eq_true_eq, Bool.not_eq_true'] at h
  obtain ⟨⟨⟨h1, h2⟩, h3⟩, h4⟩ := h
  refine ⟨h1, ?_, h3, h4⟩
  rcases h2 with (h2 | h2) | h2
  · exact .inl h2
  · exact .inr (.inl h2)
  · exact .inr (.inr h2)
theorem strB_of {x : List Nat} {y : Str} (h : strB x y = true) : y = SX.S x := by
  unfold strB at h
  have e := of_decide_eq_true h
  rw [← e]
theorem ownNs_snd (C : SC) (own : List Nat) : (ownNs C own).map (·.2) = own := by
  unfold ownNs
  rw [List.map_map]
  exact List.map_id own
theorem chkEs_pl {C : SC} : ∀ {es : Es} {as : List Expr}, chkEs J C es as = true → as.all pl = true ∧ es.len = as.length
  | .nil, [], _ => ⟨rfl, rfl⟩
  | .cons e es, a :: as, h => by
    unfold chkEs at h
    rw [Bool.and_eq_true, Bool.and_eq_true] at h
    obtain ⟨h1, h2⟩ := chkEs_pl h.2
    refine ⟨by rw [List.all_cons, h.1.1, h1]; rfl, ?_⟩
    show es.len + 1 = as.length + 1
    rw [h2]
  | .nil, _ :: _, h => by unfold chkEs at h; cases h
  | .cons _ _, [], h => by unfold chkEs at h; cases h
theorem se_nop_so {C : SC} {lo : E} {lo' : Option Expr} (h : (match lo', lo.isNop with
      | none, true => true
      | some l, false => chkE J C lo l
      | _, _ => false) = true) (hs : ∀ l, chkE J C lo l = true → SE G Y cf k C lo l) : SO G Y cf k C lo lo' := by
  split at h
  · rename_i hn
    cases lo <;> first | exact True.intro | cases hn
  · rename_i l hn
    have := hs l h
    cases lo <;> first | exact this | cases hn
  · cases h
theorem isNil_cons {es : Es} (h : es.isNil = false) : ∃ a r, es = .cons a r := by
  cases es with
  | nil => cases h
  | cons a r => exact ⟨a, r, rfl⟩
theorem isNil_nil {es : Es} (h : es.isNil = true) : es = .nil := by
  cases es with
  | nil => rfl
  | cons a r => cases h
mutual
theorem chkE_ok (ok : GOk J G Y) (hF : CallF G Y cf k) (hL : CallL G Y cf k) : ∀ (e : E) (C : SC) (a : Expr), chkE J C e a = true → SE G Y cf k C e a
  | .k d, C, a, h => by
    unfold chkE at h
    split at h
    · exact se_non
    · rw [eq_of_beq h]
      exact se_bl
    · rw [of_decide_eq_true h]
      exact se_int
    · exact se_str (strB_of h)
    · cases h
  | .var i, C, a, h => by
    unfold chkE at h
    split at h
    · obtain ⟨h1, h2, h3, h4⟩ := visB_of h
      exact se_var h1 h2 h3 h4
    · cases h
  | .glb i, C, a, h => by
    unfold chkE at h
    split at h
    · rw [Bool.and_eq_true, decide_eq_true_eq] at h
      obtain ⟨h1, h2⟩ := glbB_of h.2
      exact se_glb ok h.1 h1 h2
    · cases h
  | .bin op a b, C, x, h => by
    unfold chkE at h
    split at h
    · rw [Bool.and_eq_true, Bool.and_eq_true, decide_eq_true_eq] at h
      obtain ⟨⟨rfl, h1⟩, h2⟩ := h
      exact se_bin (chkE_ok ok hF hL a C _ h1) (chkE_ok ok hF hL b C _ h2)
    · cases h
  | .neg a, C, x, h => by
    unfold chkE at h
    split at h
    · exact se_neg (chkE_ok ok hF hL a C _ h)
    · cases h
  | .bnot a, C, x, h => by
    unfold chkE at h
    split at h
    · exact se_bnot (chkE_ok ok hF hL a C _ h)
    · cases h
  | .cmp op a b, C, x, h => by
    unfold chkE at h
    split at h
    · simp only [Bool.and_eq_true, decide_eq_true_eq, Bool.not_eq_true'] at h
      obtain ⟨⟨⟨rfl, h0⟩, h1⟩, h2⟩ := h
      exact se_cmp (chkE_ok ok hF hL a C _ h1) (chkE_ok ok hF hL b C _ h2) h0
    · cases h
  | .chn op op2 a b c, C, x, h => by
    unfold chkE at h
    split at h
    · simp only [Bool.and_eq_true, decide_eq_true_eq, Bool.not_eq_true'] at h
      obtain ⟨⟨⟨⟨⟨rfl, rfl⟩, h0⟩, h1⟩, h2⟩, h3⟩ := h
      exact se_chn (chkE_ok ok hF hL a C _ h1) (chkE_ok ok hF hL b C _ h2) (chkE_ok ok hF hL c C _ h3) h0
    · cases h
  | .bop an es, C, x, h => by
    unfold chkE at h
    split at h
    · rename_i op es' pos
      rw [Bool.and_eq_true] at h
      exact se_bop (chkB_ok ok hF hL es C es' an op pos h.1 h.2)
    · cases h
  | .ife c a b, C, x, h => by
    unfold chkE at h
    split at h
    · rw [Bool.and_eq_true, Bool.and_eq_true] at h
      exact se_ife (chkC_ok ok hF hL c C _ h.1.1) (chkE_ok ok hF hL a C _ h.1.2) (chkE_ok ok hF hL b C _ h.2)
    · cases h
  | .ix a b, C, x, h => by
    unfold chkE at h
    split at h
    · rw [Bool.and_eq_true, Bool.and_eq_true] at h
      exact se_ix (chkE_ok ok hF hL a C _ h.1.2) (chkE_ok ok hF hL b C _ h.2) h.1.1
    · cases h
  | .sl a lo hi, C, x, h => by
    unfold chkE at h
    split at h
    · rw [Bool.and_eq_true, Bool.and_eq_true] at h
      exact se_sl (chkE_ok ok hF hL a C _ h.1.1) (se_nop_so h.1.2 fun l hl => chkE_ok ok hF hL lo C l hl) (se_nop_so h.2 fun l hl => chkE_ok ok hF hL hi C l hl)
    · cases h
  | .nop, C, x, h => by unfold chkE at h; cases h
  | .tup es, C, x, h => by
    unfold chkE at h
    split at h
    · exact se_tup (chkEs_ok ok hF hL es C _ h)
    · cases h
  | .lst m es, C, x, h => by
    unfold chkE at h
    split at h
    · exact se_lst (chkEs_ok ok hF hL es C _ h)
    · cases h
  | .call f es, C, x, h => by
    unfold chkE at h
    split at h
    · rename_i nm p es' pos
      rw [Bool.and_eq_true, Bool.and_eq_true, decide_eq_true_eq] at h
      obtain ⟨⟨h1, h2⟩, h3⟩ := h
      obtain ⟨h4, h5⟩ := glbB_of h2
      obtain ⟨hp, hl⟩ := chkEs_pl h3
      have hs := chkEs_ok ok hF hL es C es' h3
      cases es' with
      | nil =>
        cases es with
        | nil => exact se_call0 ok hF h1 h4 h5
        | cons a r => cases hl
      | cons a' r' =>
        rw [List.all_cons, Bool.and_eq_true] at hp
        exact se_call ok hF h1 h4 h5 hp.1 hp.2 hs
    · cases h
  | .bi b es, C, x, h => by
    unfold chkE at h
    split at h
    · rename_i nm p es' pos
      simp only [Bool.and_eq_true, decide_eq_true_eq] at h
      obtain ⟨⟨⟨⟨rfl, h2⟩, h3⟩, h4⟩, h5⟩ := h
      obtain ⟨h6, _⟩ := glbB_of h2
      obtain ⟨hp, hl⟩ := chkEs_pl h5
      have hs := chkEs_ok ok hF hL es C es' h5
      cases es' with
      | nil => cases h4
      | cons a' r' =>
        rw [List.all_cons, Bool.and_eq_true] at hp
        exact se_bi ok h6 h3 hp.1 hp.2 hs
    · cases h
  | .me m a es, C, x, h => by
    unfold chkE at h
    split at h
    · rename_i a' nm apos es' cpos
      simp only [Bool.and_eq_true, decide_eq_true_eq] at h
      obtain ⟨⟨⟨⟨⟨rfl, h2⟩, h3⟩, h4⟩, h5⟩, h6⟩ := h
      obtain ⟨hp, hl⟩ := chkEs_pl h6
      have hs := chkEs_ok ok hF hL es C es' h6
      have ha := chkE_ok ok hF hL a C _ h5
      cases es' with
      | nil =>
        cases es with
        | nil => exact se_me0 h2 h3 ha
        | cons a r => cases hl
      | cons b' r' =>
        rw [List.all_cons, Bool.and_eq_true] at hp
        rw [List.length_cons] at h4
        exact se_me h2 h3 hp.1 hp.2 (by omega) ha hs
    · cases h
  | .lam l, C, x, h => by
    unfold chkE at h
    split at h
    · simp only [Bool.and_eq_true] at h
      obtain ⟨⟨⟨⟨⟨h1, h2⟩, h3⟩, h4⟩, h5⟩, h6⟩ := h
      exact se_lam ok h1 h2 h3 h4 h5 h6
    · cases h
  | .app i, C, x, h => by
    unfold chkE at h
    split at h
    · obtain ⟨h1, h2, h3, h4⟩ := visB_of h
      exact se_app hL h1 h2 h3 h4
    · cases h
  | .lc own t it ifs e, C, x, h => by
    unfold chkE at h
    split at h
    · simp only [Bool.and_eq_true] at h
      obtain ⟨⟨⟨⟨⟨⟨h1, h2⟩, h3⟩, h4⟩, h5⟩, h6⟩, h7⟩ := h
      refine se_lc h1 (ownNs_snd C own) h2 (fun i hi => ?_) h4 (chkI_ok ok hF hL it C _ _ h5) (chkCf_ok ok hF hL ifs _ _ h6) (chkE_ok ok hF hL e _ _ h7)
      have := List.all_eq_true.mp h3 i hi
      simpa using this
    · cases h
  | .gen q own t it ifs e, C, x, h => by
    unfold chkE at h
    split at h
    · simp only [Bool.and_eq_true, decide_eq_true_eq, Bool.not_eq_true'] at h
      obtain ⟨⟨⟨⟨⟨⟨⟨⟨⟨⟨⟨⟨h1, h2⟩, h3⟩, h4⟩, h5⟩, h6⟩, h7⟩, h8⟩, h9⟩, h10⟩, h11⟩, h12⟩, h13⟩ := h
      refine se_gen ok h1 (Nat.le_of_ble_eq_true h2) h3 h4 h5 h6 h7 (ownNs_snd C own) h8 (fun i hi => ?_) h10 (chkI_ok ok hF hL it C _ _ h11) (chkCf_ok ok hF hL ifs _ _ h12) (chkE_ok ok hF hL e _ _ h13)
      have := List.all_eq_true.mp h9 i hi
      simpa using this
    · cases h
  | .fs es, C, x, h => by
    unfold chkE at h
    split at h
    · exact se_fs (chkP_ok ok hF hL es C _ h)
    · cases h
theorem chkEs_ok (ok : GOk J G Y) (hF : CallF G Y cf k) (hL : CallL G Y cf k) : ∀ (e : Es) (C : SC) (a : List Expr), chkEs J C e a = true → SEs G Y cf k C e a
  | .nil, C, [], _ => ses_nil
  | .cons e es, C, a :: as, h => by
    unfold chkEs at h
    rw [Bool.and_eq_true, Bool.and_eq_true] at h
    exact ses_cons h.1.1 (chkE_ok ok hF hL e C a h.1.2) (chkEs_ok ok hF hL es C as h.2)
  | .nil, _, _ :: _, h => by unfold chkEs at h; cases h
  | .cons _ _, _, [], h => by unfold chkEs at h; cases h
theorem chkP_ok (ok : GOk J G Y) (hF : CallF G Y cf k) (hL : CallL G Y cf k) : ∀ (e : Es) (C : SC) (a : List Expr), chkP J C e a = true → SPs G Y cf k C e a
  | .nil, C, [], _ => .nil
  | .cons e es, C, a :: as, h => by
    unfold chkP at h
    rw [Bool.and_eq_true] at h
    refine .cons ?_ (chkP_ok ok hF hL es C as h.2)
    have h1 := h.1
    split at h1
    · exact sp_fmt (chkE_ok ok hF hL e C _ h1)
    · split at h1
      · exact sp_str (strB_of h1)
      · cases h1
    · cases h1
  | .nil, _, _ :: _, h => by unfold chkP at h; cases h
  | .cons _ _, _, [], h => by unfold chkP at h; cases h
theorem chkB_ok (ok : GOk J G Y) (hF : CallF G Y cf k) (hL : CallL G Y cf k) : ∀ (e : Es) (C : SC) (a : List Expr) (an : Bool) (op : BoolOp) (pos : Pos), opOk an op = true → chkB J C e a = true → SB G Y cf k C an e (.BoolOp op a pos)
  | .cons e es, C, a :: as, an, op, pos, ho, h => by
    unfold chkB at h
    rw [Bool.and_eq_true] at h
    have h1 := chkE_ok ok hF hL e C a h.1
    have h2 := h.2
    split at h2
    · rename_i hn
      rw [isNil_nil hn]
      exact sb_one h1
    · rename_i b bs hn
      have h3 := chkB_ok ok hF hL es C (b :: bs) an op pos ho h2
      unfold opOk at ho
      split at ho
      · exact sb_and hn h1 h3
      · exact sb_or hn h1 h3
      · cases ho
    · cases h2
  | .nil, _, _, _, _, _, _, h => by unfold chkB at h; cases h
  | .cons _ _, _, [], _, _, _, _, h => by unfold chkB at h; cases h
theorem chkC_ok (ok : GOk J G Y) (hF : CallF G Y cf k) (hL : CallL G Y cf k) : ∀ (e : Ct) (C : SC) (a : Expr), chkC J C e a = true → ST G Y cf k C e a
  | .v e, C, a, h => by
    unfold chkC at h
    rw [Bool.and_eq_true] at h
    exact st_v h.1 (chkE_ok ok hF hL e C a h.2)
  | .nt c, C, a, h => by
    unfold chkC at h
    split at h
    · exact st_nt (chkC_ok ok hF hL c C _ h)
    · cases h
  | .bop an cs, C, a, h => by
    unfold chkC at h
    split at h
    · rename_i op es' pos
      rw [Bool.and_eq_true] at h
      exact st_bop (chkCs_ok ok hF hL cs C es' an op pos h.1 h.2)
    · cases h
  | .ife c a b, C, x, h => by
    unfold chkC at h
    split at h
    · rw [Bool.and_eq_true, Bool.and_eq_true] at h
      exact st_ife (chkC_ok ok hF hL c C _ h.1.1) (chkC_ok ok hF hL a C _ h.1.2) (chkC_ok ok hF hL b C _ h.2)
    · cases h
  | .cmp op a b, C, x, h => by
    unfold chkC at h
    split at h
    · simp only [Bool.and_eq_true, decide_eq_true_eq, Bool.not_eq_true'] at h
      obtain ⟨⟨⟨rfl, h0⟩, h1⟩, h2⟩ := h
      exact st_cmp (chkE_ok ok hF hL a C _ h1) (chkE_ok ok hF hL b C _ h2) h0
    · cases h
  | .chn op op2 a b c, C, x, h => by
    unfold chkC at h
    split at h
    · simp only [Bool.and_eq_true, decide_eq_true_eq, Bool.not_eq_true'] at h
      obtain ⟨⟨⟨⟨⟨rfl, rfl⟩, h0⟩, h1⟩, h2⟩, h3⟩ := h
      exact st_chn (chkE_ok ok hF hL a C _ h1) (chkE_ok ok hF hL b C _ h2) (chkE_ok ok hF hL c C _ h3) h0
    · cases h
theorem chkCs_ok (ok : GOk J G Y) (hF : CallF G Y cf k) (hL : CallL G Y cf k) : ∀ (e : Cs) (C : SC) (a : List Expr) (an : Bool) (op : BoolOp) (pos : Pos), opOk an op = true → chkCs J C e a = true → SW G Y cf k C an e (.BoolOp op a pos)
  | .cons e es, C, a :: as, an, op, pos, ho, h => by
    unfold chkCs at h
    rw [Bool.and_eq_true] at h
    have h1 := chkC_ok ok hF hL e C a h.1
    have h2 := h.2
    split at h2
    · unfold opOk at ho
      split at ho
      · exact sw_and1 h1
      · exact sw_or1 h1
      · cases ho
    · rename_i b bs
      have h3 := chkCs_ok ok hF hL _ C _ an op pos ho h2
      unfold opOk at ho
      split at ho
      · exact sw_and h1 h3
      · exact sw_or h1 h3
      · cases ho
    · cases h2
  | .nil, _, _, _, _, _, _, h => by unfold chkCs at h; cases h
  | .cons _ _, _, [], _, _, _, _, h => by unfold chkCs at h; cases h
theorem chkCf_ok (ok : GOk J G Y) (hF : CallF G Y cf k) (hL : CallL G Y cf k) : ∀ (e : Cs) (C : SC) (a : List Expr), chkCf J C e a = true → SIf G Y cf k C e a
  | .nil, C, [], _ => .none
  | .cons e .nil, C, [a], h => by
    unfold chkCf at h
    exact .one (chkC_ok ok hF hL e C a h)
  | .nil, _, _ :: _, h => by unfold chkCf at h; cases h
  | .cons _ .nil, _, [], h => by unfold chkCf at h; cases h
  | .cons _ .nil, _, _ :: _ :: _, h => by unfold chkCf at h; cases h
  | .cons _ (.cons _ _), _, _, h => by unfold chkCf at h; cases h
theorem chkI_ok (ok : GOk J G Y) (hF : CallF G Y cf k) (hL : CallL G Y cf k) : ∀ (e : Iw) (C : SC) (a tg : Expr), chkI J C e a = true → SI G Y cf k C e tg a
  | .e e, C, a, tg, h => by
    unfold chkI at h
    exact si_e (chkE_ok ok hF hL e C a h)
  | .rng es, C, a, tg, h => by
    unfold chkI at h
    split at h
    · rename_i nm p es' pos
      simp only [Bool.and_eq_true, decide_eq_true_eq] at h
      obtain ⟨⟨⟨⟨rfl, h2⟩, h3⟩, h4⟩, h5⟩ := h
      obtain ⟨h6, _⟩ := glbB_of h2
      obtain ⟨hp, hl⟩ := chkEs_pl h5
      have hs := chkEs_ok ok hF hL es C es' h5
      match es', hp, hl, hs, h4 with
      | [a'], hp, hl, hs, _ =>
        rw [List.all_cons, Bool.and_eq_true] at hp
        exact si_rng1 ok h6 h3 hp.1 hl hs
      | [a', b'], hp, hl, hs, _ =>
        rw [List.all_cons, Bool.and_eq_true, List.all_cons, Bool.and_eq_true] at hp
        exact si_rng2 ok h6 h3 hp.1 hp.2.1 hl hs
    · cases h
end
end
end FS

-- text FsQ
set_option Elab.async false
set_option linter.all false
set_option maxHeartbeats 4000000
/-! FsQ: the look at statements, defs, lambdas; what it shows. -/
namespace FS
open PySem PySem.Spec PyProof.Rows L2 LamX

def locB (C : SC) (i : Nat) (x : Str) : Bool := decide (C.N[i]? = some x) && decide (C.sc.names.lookup x = some .local)
def nosw (scope : Scope) (y : Str) : Bool := !(scope.names.any fun (n, k) => n == y && (k == .local || k == .cell))
mutual
def chkS (J : JC) (C : SC) : S → Stmt → Bool
  | .set t e, x => (match x with
    | .Assign [tg] e' _ => if ncomp e' then chkT C t tg && nsw tg e' && chkE J C e e' else (match t, e, tg, e' with
      | .nm i, .lc own t2 it ifs e2, .Name y py, .ListComp e2' [⟨tg2, iter', ifs', 0⟩] scope p =>
        locB C i y && (py.line == p.line) && nosw scope y && blkC C.N C.sc scope (ownNs C own) && chkT (blkSC C scope) t2 tg2 && (tNs t2).all own.contains && nset iter' && chkI J C it iter' && chkCf J (blkSC C scope) ifs ifs' && chkE J (blkSC C scope) e2 e2'
      | _, _, _, _ => false)
    | _ => false)
  | .par ts es, x => (match ts, x with
    | [i, j], .Assign [.Tuple [.Name x px, .Name y py] _ _] (.Tuple [b, c] _ _) _ => locB C i x && locB C j y && (py.line == px.line) && decide (x ≠ y) && !(foldedForSure 8 b && foldedForSure 8 c) && !(constantsAlone 8 b && constantsAlone 8 c) && chkEs J C es [b, c]
    | [i, j, l], .Assign [.Tuple [.Name x px, .Name y py, .Name z pz] _ _] (.Tuple [b, c, d] _ _) _ => locB C i x && locB C j y && locB C l z && (py.line == px.line) && (pz.line == px.line) && decide (x ≠ y) && decide (x ≠ z) && decide (y ≠ z) &&
      !(foldedForSure 8 b && (foldedForSure 8 c && foldedForSure 8 d)) && !(constantsAlone 8 b && (constantsAlone 8 c && constantsAlone 8 d)) && chkEs J C es [b, c, d]
    | _, _ => false)
  | .sub e a i, x => (match x with
    | .Assign [.Subscript a' i' _] e' _ => ncomp e' && pl i' && chkE J C e e' && chkE J C a a' && chkE J C i i'
    | _ => false)
  | .ife c a b, x => (match x with
    | .If c' a' b' _ => chkC J C c c' && chkSs J C a a' && chkSs J C b b'
    | _ => false)
  | .for_ t it b, x => (match x with
    | .For tg it' b' [] _ => chkT C t tg && nset it' && chkI J C it it' && chkSs J C b b'
    | _ => false)
  | .whl _ c b, x => (match x with
    | .While c' b' [] _ => chkC J C c c' && chkSs J C b b'
    | _ => false)
  | .ret e, x => (match x with
    | .Return (some e') _ => chkE J C e e'
    | _ => false)
  | .retn, x => (match x with
    | .Return none _ => true
    | _ => false)
  | .rai c, x => (match x with
    | .Raise (some (.Call (.Name x _) [.Constant (.str _) _ _] [] _)) none _ => decide (J.clsn[c]? = some x) && glbB C x
    | _ => false)
  | .tri b hs, x => (match hs, x with
    | [(c, hd)], .Try b' [.ExceptHandler (some (.Name x _)) none su _] [] [] _ => decide (J.clsn[c]? = some x) && glbB C x && chkHd hd su && chkSs J C b b'
    | _, _ => false)
  | .exp e, x => (match x with
    | .Expr e' _ => ncomp e' && chkE J C e e'
    | _ => false)
  | .doc, x => (match x with
    | .Expr (.Constant (.str _) _ _) _ => true
    | _ => false)
  | .pas, x => (match x with
    | .Pass _ => true
    | _ => false)
  | .cnt, x => (match x with
    | .Continue _ => true
    | _ => false)
  | .brk, x => (match x with
    | .Break _ => true
    | _ => false)
def chkSs (J : JC) (C : SC) : Ss → List Stmt → Bool
  | .nil, [] => true
  | .cons s r, a :: as => chkS J C s a && chkSs J C r as
  | _, _ => false
end
section
variable {G : GD} {Y : GX} {cf : CF} {k : Nat} {J : JC}
theorem locB_of {C : SC} {i : Nat} {x : Str} (h : locB C i x = true) : C.N[i]? = some x ∧ C.sc.names.lookup x = some .local := by
  unfold locB at h
  rw [Bool.and_eq_true, decide_eq_true_eq, decide_eq_true_eq] at h
  exact h
theorem nosw_of {scope : Scope} {y : Str} (h : nosw scope y = true) : (scope.names.any fun (n, k) => n == y && (k == .local || k == .cell)) = false := by
  unfold nosw at h
  rw [Bool.not_eq_true'] at h
  exact h
mutual
theorem chkS_ok (ok : GOk J G Y) (hF : CallF G Y cf k) (hL : CallL G Y cf k) {C : SC} : ∀ (e : S) (a : Stmt), chkS J C e a = true → SSt G Y cf k C e a
  | .set t e, a, h => by
    unfold chkS at h
    split at h
    · split at h
      · rename_i hn
        rw [Bool.and_eq_true, Bool.and_eq_true] at h
        exact ss_set h.1.1 hn h.1.2 (chkE_ok ok hF hL e C _ h.2)
      · split at h
        · simp only [Bool.and_eq_true] at h
          obtain ⟨⟨⟨⟨⟨⟨⟨⟨⟨h1, h2⟩, h3⟩, h4⟩, h5⟩, h6⟩, h7⟩, h8⟩, h9⟩, h10⟩ := h
          obtain ⟨h11, h12⟩ := locB_of h1
          refine ss_setLc h4 (ownNs_snd C _) h5 (fun i hi => ?_) h7 (chkI_ok ok hF hL _ C _ _ h8) (chkCf_ok ok hF hL _ _ _ h9) (chkE_ok ok hF hL _ _ _ h10) h11 h12 h2 (nosw_of h3)
          have := List.all_eq_true.mp h6 i hi
          simpa using this
        · cases h
    · cases h
  | .par ts es, a, h => by
    unfold chkS at h
    split at h
    · simp only [Bool.and_eq_true, decide_eq_true_eq, Bool.not_eq_true'] at h
      obtain ⟨⟨⟨⟨⟨⟨h1, h2⟩, h3⟩, h4⟩, h5⟩, h6⟩, h7⟩ := h
      obtain ⟨a1, a2⟩ := locB_of h1
      obtain ⟨a3, a4⟩ := locB_of h2
      obtain ⟨hp, _⟩ := chkEs_pl h7
      rw [List.all_cons, Bool.and_eq_true, List.all_cons, Bool.and_eq_true] at hp
      exact ss_par2 a1 a3 a2 a4 h3 hp.1 hp.2.1 h4 h5 h6 (chkEs_ok ok hF hL es C _ h7)
    · simp only [Bool.and_eq_true, decide_eq_true_eq, Bool.not_eq_true'] at h
      obtain ⟨⟨⟨⟨⟨⟨⟨⟨⟨⟨h1, h2⟩, h3⟩, h4⟩, h5⟩, h6⟩, h7⟩, h8⟩, h9⟩, h10⟩, h11⟩ := h
      obtain ⟨a1, a2⟩ := locB_of h1
      obtain ⟨a3, a4⟩ := locB_of h2
      obtain ⟨a5, a6⟩ := locB_of h3
      obtain ⟨hp, _⟩ := chkEs_pl h11
      rw [List.all_cons, Bool.and_eq_true, List.all_cons, Bool.and_eq_true, List.all_cons, Bool.and_eq_true] at hp
      exact ss_par3 a1 a3 a5 a2 a4 a6 h4 h5 hp.1 hp.2.1 hp.2.2.1 h6 h7 h8 h9 h10 (chkEs_ok ok hF hL es C _ h11)
    · cases h
  | .sub e a i, x, h => by
    unfold chkS at h
    split at h
    · simp only [Bool.and_eq_true] at h
      obtain ⟨⟨⟨⟨h1, h2⟩, h3⟩, h4⟩, h5⟩ := h
      exact ss_sub h1 (chkE_ok ok hF hL e C _ h3) (chkE_ok ok hF hL a C _ h4) (chkE_ok ok hF hL i C _ h5) h2
    · cases h
  | .ife c a b, x, h => by
    unfold chkS at h
    split at h
    · rw [Bool.and_eq_true, Bool.and_eq_true] at h
      exact ss_ife (chkC_ok ok hF hL c C _ h.1.1) (chkSs_ok ok hF hL a _ h.1.2) (chkSs_ok ok hF hL b _ h.2)
    · cases h
  | .for_ t it b, x, h => by
    unfold chkS at h
    split at h
    · simp only [Bool.and_eq_true] at h
      obtain ⟨⟨⟨h1, h2⟩, h3⟩, h4⟩ := h
      exact ss_for h1 h2 (chkI_ok ok hF hL it C _ _ h3) (chkSs_ok ok hF hL b _ h4)
    · cases h
  | .whl n c b, x, h => by
    unfold chkS at h
    split at h
    · rw [Bool.and_eq_true] at h
      exact ss_whl (chkC_ok ok hF hL c C _ h.1) (chkSs_ok ok hF hL b _ h.2)
    · cases h
  | .ret e, x, h => by
    unfold chkS at h
    split at h
    · exact ss_ret (chkE_ok ok hF hL e C _ h)
    · cases h
  | .retn, x, h => by
    unfold chkS at h
    split at h
    · exact ss_retn
    · cases h
  | .rai c, x, h => by
    unfold chkS at h
    split at h
    · rw [Bool.and_eq_true, decide_eq_true_eq] at h
      obtain ⟨h1, h2⟩ := glbB_of h.2
      exact ss_rai ok h.1 h1 h2
    · cases h
  | .tri b hs, x, h => by
    unfold chkS at h
    split at h
    · simp only [Bool.and_eq_true, decide_eq_true_eq] at h
      obtain ⟨⟨⟨h1, h2⟩, h3⟩, h4⟩ := h
      obtain ⟨h5, h6⟩ := glbB_of h2
      exact ss_tri ok h1 h5 h6 h3 (chkSs_ok ok hF hL b _ h4)
    · cases h
  | .exp e, x, h => by
    unfold chkS at h
    split at h
    · rw [Bool.and_eq_true] at h
      exact ss_exp h.1 (chkE_ok ok hF hL e C _ h.2)
    · cases h
  | .doc, x, h => by
    unfold chkS at h
    split at h
    · exact ss_doc
    · cases h
  | .pas, x, h => by
    unfold chkS at h
    split at h
    · exact ss_pas
    · cases h
  | .cnt, x, h => by
    unfold chkS at h
    split at h
    · exact ss_cnt
    · cases h
  | .brk, x, h => by
    unfold chkS at h
    split at h
    · exact ss_brk
    · cases h
theorem chkSs_ok (ok : GOk J G Y) (hF : CallF G Y cf k) (hL : CallL G Y cf k) {C : SC} : ∀ (e : Ss) (a : List Stmt), chkSs J C e a = true → SSs G Y cf k C e a
  | .nil, [], _ => ss_nil
  | .cons s r, a :: as, h => by
    unfold chkSs at h
    rw [Bool.and_eq_true] at h
    exact ss_cons (chkS_ok ok hF hL s a h.1) (chkSs_ok ok hF hL r as h.2)
  | .nil, _ :: _, h => by unfold chkSs at h; cases h
  | .cons _ _, [], h => by unfold chkSs at h; cases h
end
end
/-! ### lambdas and defs -/
/-- a lambda's text: its names, in the order of what it takes -/
structure LT where
  N : List Str
def lamSC (lt : LT) (scope : Scope) : SC := { N := lt.N, sc := scope, fnc := fun _ => false, hasT := false, hasL := false, L := [], gn := 0 }
/-- the look at a lambda l of the maker's text C (names N, scope sc) -/
def lamChk (J : JC) (lts : List LT) (lams : List Lam) (l : Nat) (N : List Str) (sc : Scope) (params : Arguments) (body : Expr) (scope : Scope) : Bool :=
  match lts[l]?, lams[l]? with
  | some lt, some L => noPar params && lamSB sc scope && decide lt.N.Nodup && decide (lt.N.length = L.cap.length) && decide (L.cap.map (fun i => N[i]?) = lt.N.map some) && (scope.names.all fun y => !decide (y.2 = .free) || decide (y.1 ∈ lt.N)) && (lt.N.all fun x => decide (sc.names.lookup x = some .cell)) && chkE J (lamSC lt scope) L.body body
  | _, _ => false
theorem lmG_of {G : GD} {Y : GX} {J : JC} {lts : List LT} (ok : GOk J G Y) {l : Nat} {L : Lam} (hl : Y.g.lams[l]? = some L) (hG : ∀ ci params body scope, G.lamC l ci params body scope → lamChk J lts Y.g.lams l ci.N ci.sc params body scope = true) : LmG G Y l L := by
  intro ci params body scope hlam
  have h := hG ci params body scope hlam
  unfold lamChk at h
  split at h
  · rename_i lt L' h1 h2
    rw [hl] at h2
    cases h2
    simp only [Bool.and_eq_true, decide_eq_true_eq, List.all_eq_true, Bool.or_eq_true, Bool.not_eq_true', decide_eq_false_iff_not] at h
    obtain ⟨⟨⟨⟨⟨⟨⟨p1, p2⟩, p3⟩, p4⟩, p5⟩, p6⟩, p7⟩, p8⟩ := h
    refine ⟨lamSC lt scope, p1, p2, rfl, rfl, rfl, rfl, fun _ => rfl, p3, p4, fun j x hx => ?_, fun y hy hf => ?_, p7, fun cf k hF hL => chkE_ok ok hF hL _ _ _ p8⟩
    · have hx : lt.N[j]? = some x := hx
      have e := congrArg (fun z : List (Option Str) => z[j]?) p5
      have e : (L.cap.map (fun i => ci.N[i]?))[j]? = (lt.N.map some)[j]? := e
      rw [List.getElem?_map, List.getElem?_map, hx] at e
      cases hc : L.cap[j]? with
      | none =>
        rw [hc] at e
        cases e
      | some i =>
        rw [hc] at e
        exact ⟨i, rfl, Option.some.inj e⟩
    · rcases p6 y hy with z | z
      · exact absurd hf z
      · exact z
  · cases h
/-- a def's text -/
structure FT where
  N : List Str
  ps : List Str
  hasT : Bool
  L : List (Nat × Nat)
def fnSC (t : FT) (lamf : Bool) (scope : Scope) : SC := { N := t.N, sc := scope, fnc := fun _ => true, hasT := t.hasT, hasL := lamf, L := t.L, gn := 1 }
/-- the look at a def -/
def fnChk (J : JC) (t : FT) (F : Fn) (body : List Stmt) (scope : Scope) : Bool :=
  C8.scC t.N t.ps scope && decide (F.ar = t.ps.length) && decide (F.nl = t.N.length) && decide (t.ps.length ≤ t.N.length) && chkSs J (fnSC t F.lamf scope) F.body body
end FS

-- text FsS
set_option Elab.async false
set_option linter.all false
set_option maxHeartbeats 4000000
/-! FsS: a law's data; what the head shows of them; the law's def keeps its promise. -/
namespace FS
open PySem PySem.Spec PyProof.Rows L2 LamX

/-! ### plain parameters -/
def plainArgs (p : Arguments) (ps : List Str) : Bool := match p with
  | ⟨[], args, none, [], [], none, []⟩ => decide (args.map (·.arg) = ps) && decide ps.Nodup
  | _ => false
theorem zip_lookup {α : Type} : ∀ {ps : List Str} {us : List α}, us.length = ps.length → ∀ n ∈ ps, ∃ u, (ps.zip us).lookup n = some u
  | [], _, _, n, h => by cases h
  | p :: ps, [], hl, _, _ => by cases hl
  | p :: ps, u :: us, hl, n, h => by
    rw [List.zip_cons_cons, List.lookup_cons]
    cases hb : n == p with
    | true => exact ⟨u, rfl⟩
    | false =>
      rcases List.mem_cons.mp h with e | h
      · rw [e, beq_self_eq_true] at hb
        cases hb
      · exact zip_lookup (by simpa using hl) n h
theorem zip_filterMap {α : Type} : ∀ {ps : List Str} {us : List α}, us.length = ps.length → ps.Nodup → ps.filterMap (fun n => ((ps.zip us).lookup n).map (n, ·)) = ps.zip us
  | [], _, _, _ => rfl
  | p :: ps, [], hl, _ => by cases hl
  | p :: ps, u :: us, hl, hn => by
    have hn2 := List.nodup_cons.mp hn
    rw [List.zip_cons_cons, List.filterMap_cons, List.lookup_cons, beq_self_eq_true]
    have e : ps.filterMap (fun n => (((p, u) :: ps.zip us).lookup n).map (n, ·)) = ps.filterMap (fun n => ((ps.zip us).lookup n).map (n, ·)) := by
      have key : ∀ l : List Str, (∀ n ∈ l, n ≠ p) → l.filterMap (fun n => (((p, u) :: ps.zip us).lookup n).map (n, ·)) = l.filterMap (fun n => ((ps.zip us).lookup n).map (n, ·)) := by
        intro l
        induction l with
        | nil => exact fun _ => rfl
        | cons a l ih =>
          intro hl
          have : (a == p) = false := beq_eq_false_iff_ne.mpr (hl a List.mem_cons_self)
          rw [List.filterMap_cons, List.filterMap_cons, List.lookup_cons, this, ih fun n hn => hl n (List.mem_cons_of_mem _ hn)]
      exact key ps fun n hn3 e => hn2.1 (e ▸ hn3)
    show (p, u) :: ps.filterMap _ = _
    rw [e, zip_filterMap (by simpa using hl) hn2.2]
theorem bind_plain {x qual : Str} {params : Arguments} {body : List Stmt} {scope : Scope} {kV doc pm : Value} {an : Option Addr} {cdv ct : Value} {ps : List Str} {us : List Value} (hp : plainArgs params ps = true) (hl : us.length = ps.length) :
    bindArgs (PySem.W.fnOf x qual params body scope .none kV doc pm an cdv ct) ⟨us, []⟩ = pure (ps.zip us) := by
  unfold plainArgs at hp
  split at hp
  · rename_i args
    rw [Bool.and_eq_true, decide_eq_true_eq, decide_eq_true_eq] at hp
    obtain ⟨h1, h2⟩ := hp
    have hm : (ps.filter fun n => ((ps.zip us).lookup n).isNone) = [] := by
      rw [List.filter_eq_nil_iff]
      intro n hn
      obtain ⟨u, hu⟩ := zip_lookup hl n hn
      rw [hu]
      exact Bool.false_ne_true
    have hz := zip_filterMap hl h2
    have hs : (seqItems? Value.none : Sem _) = pure none := rfl
    unfold bindArgs
    simp only [PySem.W.fnOf, List.map_nil, List.nil_append, h1, List.forIn_nil, List.append_nil, Option.isNone_none, Bool.and_true, pure_bind, hs, Option.getD_none]
    rw [if_neg (by simp [hl])]
    have e0 : (#[] : Array Value).toList = [] := rfl
    simp only [e0, List.length_nil, Nat.zero_sub, List.drop_nil, Nat.sub_zero, List.take_length, hm, List.isEmpty_nil, Bool.not_true, Bool.false_eq_true, if_false, List.zip_nil_right, List.forIn_nil, pure_bind, hz]
  · cases hp

/-! ### constants -/
mutual
def relDB (K : PySem.W.Frag) : D → Value → Bool
  | .non, .none => true
  | .bl b, .bool c => b == c
  | .int i, .int j _ => decide (i = j)
  | .str x, .str y _ => decide (y.cps.toList = x)
  | .tup xs, .ref a => (match K.lookup a with
    | some ⟨.type c, _, .seq its _, _⟩ => decide (c = "tuple") && decide (its.size ≤ sizeLine) && relDsB K xs its.toList
    | _ => false)
  | _, _ => false
def relDsB (K : PySem.W.Frag) : List D → List Value → Bool
  | [], [] => true
  | x :: xs, u :: us => relDB K x u && relDsB K xs us
  | _, _ => false
end
mutual
theorem relDB_ok {G : GD} : ∀ (d : D) (u : Value), relDB G.K d u = true → ∃ v, RelV v u ∧ ∀ τ cm ρ H, rep (G.tm τ) cm ρ H d v
  | .non, u, h => by
    cases u with
    | none => exact ⟨.non, rfl, fun _ _ _ _ => by unfold rep; rfl⟩
    | _ => unfold relDB at h; cases h
  | .bl b, u, h => by
    cases u with
    | bool c =>
      have e : b = c := eq_of_beq (show (b == c) = true by unfold relDB at h; exact h)
      exact ⟨.bl c, rfl, fun _ _ _ _ => by unfold rep; rw [e]⟩
    | _ => unfold relDB at h; cases h
  | .int i, u, h => by
    cases u with
    | int j t =>
      have e : i = j := of_decide_eq_true (show decide (i = j) = true by unfold relDB at h; exact h)
      exact ⟨.int j, ⟨t, rfl⟩, fun _ _ _ _ => by unfold rep; rw [e]⟩
    | _ => unfold relDB at h; cases h
  | .str x, u, h => by
    cases u with
    | str y t =>
      have e : y.cps.toList = x := of_decide_eq_true (show decide (y.cps.toList = x) = true by unfold relDB at h; exact h)
      exact ⟨.str y, ⟨t, rfl⟩, fun _ _ _ _ => by unfold rep; rw [← e]⟩
    | _ => unfold relDB at h; cases h
  | .tup xs, u, h => by
    cases u with
    | ref a =>
      unfold relDB at h
      cases q : G.K.lookup a with
      | none =>
        rw [q] at h
        cases h
      | some o =>
        obtain ⟨oc, od, dt, osl⟩ := o
        rw [q] at h
        cases oc with
        | type c =>
          cases dt with
          | seq its n =>
            have h : (decide (c = "tuple") && decide (its.size ≤ sizeLine) && relDsB G.K xs its.toList) = true := h
            rw [Bool.and_eq_true, Bool.and_eq_true, decide_eq_true_eq, decide_eq_true_eq] at h
            obtain ⟨vs, r1, r2⟩ := relDsB_ok xs its.toList h.2
            refine ⟨.ref a, rfl, fun τ cm ρ H => ?_⟩
            unfold rep
            exact ⟨a, vs, rfl, .inr ⟨_, its, n, q, by rw [h.1.1], rfl, h.1.2, r1⟩, r2 τ cm ρ H⟩
          | _ => cases h
        | _ => cases dt <;> cases h
    | _ => unfold relDB at h; cases h
  | .lst _, u, h => by unfold relDB at h; cases u <;> cases h
  | .dic _, u, h => by unfold relDB at h; cases u <;> cases h
  | .frl _, u, h => by unfold relDB at h; cases u <;> cases h
  | .ref _, u, h => by unfold relDB at h; cases u <;> cases h
  | .clo _ _, u, h => by unfold relDB at h; cases u <;> cases h
theorem relDsB_ok {G : GD} : ∀ (xs : List D) (us : List Value), relDsB G.K xs us = true → ∃ vs, Vals vs us ∧ ∀ τ cm ρ H, reps (G.tm τ) cm ρ H xs vs
  | [], [], _ => ⟨[], .nil, fun _ _ _ _ => by unfold reps; rfl⟩
  | x :: xs, u :: us, h => by
    unfold relDsB at h
    rw [Bool.and_eq_true] at h
    obtain ⟨v, r1, r2⟩ := relDB_ok x u h.1
    obtain ⟨vs, r3, r4⟩ := relDsB_ok xs us h.2
    refine ⟨v :: vs, .cons r1 r3, fun τ cm ρ H => ?_⟩
    unfold reps
    exact ⟨v, vs, rfl, r2 τ cm ρ H, r4 τ cm ρ H⟩
  | [], _ :: _, h => by unfold relDsB at h; cases h
  | _ :: _, [], h => by unfold relDsB at h; cases h
end

/-! ### a law's data -/
structure LawD where
  g : Pg
  fts : List FT
  lts : List LT
  fnn : List Str
  clsn : List Str
  gln : List Str
  bls : List Str
  at_ : List Nat
  top : List Stmt
namespace LawD
def st (D : LawD) (i : Nat) : Stmt := D.top.getD (D.at_.getD i 0) (.Pass ⟨0, 0, 0, 0⟩)
def nm (D : LawD) (i : Nat) : Str := D.fnn.getD i ""
def cn (D : LawD) (i : Nat) : Str := D.clsn.getD i ""
def ftL (D : LawD) (i : Nat) : List (Nat × Nat) := match D.fts[i]? with
  | some t => t.L
  | none => []
def J0 (D : LawD) : JC := { gln := D.gln, fnn := D.fnn, clsn := D.clsn, bok := fun x => decide (x ∈ D.bls), lamB := fun _ _ _ _ _ => false }
def J (D : LawD) : JC := { gln := D.gln, fnn := D.fnn, clsn := D.clsn, bok := fun x => decide (x ∈ D.bls), lamB := fun l C params body scope => lamChk D.J0 D.lts D.g.lams l C.N C.sc params body scope }
def dd (D : LawD) (i : Nat) : He.DefD := ⟨(D.nm i, none), D.nm i, D.nm i, defArgs (D.st i), defBody (D.st i), defScope (D.st i), [], []⟩
def tis (D : LawD) : List Nat := (List.range D.fnn.length).filter fun i => match D.fts[i]? with
  | some t => t.hasT
  | none => false
def tf (D : LawD) : List He.Defn := D.tis.map fun i => (D.nm i, none)
def exms (D : LawD) : List He.Fa := (List.range D.clsn.length).flatMap fun c => (List.range D.clsn.length).map fun d => .exm (D.cn c) (D.cn d) (sub D.g c d)
def fa (D : LawD) : List He.Fa := D.fnn.map .glo ++ (D.clsn.map .glo ++ (D.clsn.map .exc ++ (D.exms ++ D.bls.map .free)))
def fn (D : LawD) : List He.DefD := (List.range D.fnn.length).map D.dd
def glbs (D : LawD) (K : PySem.W.Frag) : Bool := (D.gln.zip D.g.glb).all fun p => match PySem.W.nsIn K mainGlobals p.1 with
  | some (some u) => relDB K p.2 u
  | _ => false
def tabs (D : LawD) (K : PySem.W.Frag) : List Addr := D.tis.map fun i => (He.cT K (D.nm i, none)).2
def ex (D : LawD) (K : PySem.W.Frag) : Bool := D.glbs K && decide (D.tabs K).Nodup
def cs (D : LawD) (K : PySem.W.Frag) : List (Addr × Addr) := D.tf.map (He.cT K)
def tq (D : LawD) (K : PySem.W.Frag) : Addr → Option (Str × (Pos → Bool)) := fun P => (D.tis.map fun i => ((He.cT K (D.nm i, none)).2, (D.nm i ++ ".<locals>." ++ "<lambda>", posB (D.ftL i)))).lookup P
def gd (D : LawD) (P : Program) (w : World) (K : PySem.W.Frag) (mg : Str → Option Value) : GD :=
  { P := P, w := w, K := K, mg := mg, TQ := D.tq K, lamC := fun l ci params body scope => lamChk D.J0 D.lts D.g.lams l ci.N ci.sc params body scope = true, tmp := [] }
def gx (D : LawD) (K : PySem.W.Frag) (base : Heap) : GX := { g := D.g, base := base, cls := fun c => .ref (He.ga K (D.cn c)), fad := fun i => He.ga K (D.nm i) }
def chk1 (D : LawD) (i : Nat) : Bool := match D.g.fns[i]?, D.fts[i]? with
  | some F, some t => F.dfl.isEmpty && plainArgs (defArgs (D.st i)) t.ps && fnChk D.J t F (defBody (D.st i)) (defScope (D.st i))
  | _, _ => false
/-- the look at the whole -/
def chk (D : LawD) : Bool := decide (D.g.fns.length = D.fnn.length) && decide (D.g.ncl = D.clsn.length) && (List.range D.fnn.length).all D.chk1
section
variable {D : LawD} {P : Program} {w : World} {K : PySem.W.Frag} {mg : Str → Option Value} {h base : Heap}
theorem getD_of {α : Type} {l : List α} {i : Nat} {x d : α} (e : l[i]? = some x) : l.getD i d = x := by
  rw [List.getD_eq_getElem?_getD, e]
  rfl
theorem gok (X : K.In h) (N : h.Ns mainGlobals mg) (c : He.SaysD D.fa D.fn K) (hx : D.ex K = true) (hc : D.chk = true) (lamB : Nat → SC → Arguments → Expr → Scope → Bool)
    (hl : ∀ l C params body scope, lamB l C params body scope = true → lamChk D.J0 D.lts D.g.lams l C.N C.sc params body scope = true) :
    GOk { gln := D.gln, fnn := D.fnn, clsn := D.clsn, bok := fun x => decide (x ∈ D.bls), lamB := lamB } (D.gd P w K mg) (D.gx K base) where
  glb := fun i x d h1 h2 => by
    unfold ex at hx
    have hg := (He.ba hx).1
    unfold glbs at hg
    have h3 : (D.gln.zip D.g.glb)[i]? = some (x, d) := by
      rw [List.getElem?_zip_eq_some]
      exact ⟨h1, h2⟩
    have h4 := List.all_eq_true.mp hg (x, d) (List.mem_of_getElem? h3)
    cases q : PySem.W.nsIn K mainGlobals x with
    | none =>
      have h4 : (match PySem.W.nsIn K mainGlobals x with
        | some (some u) => relDB K d u
        | _ => false) = true := h4
      rw [q] at h4
      cases h4
    | some r =>
      have h4 : (match PySem.W.nsIn K mainGlobals x with
        | some (some u) => relDB K d u
        | _ => false) = true := h4
      rw [q] at h4
      cases r with
      | none => cases h4
      | some u =>
        obtain ⟨v, r1, r2⟩ := relDB_ok (G := D.gd P w K mg) d u h4
        exact ⟨u, v, PySem.W.mg_of X N q, r1, r2⟩
  bok := fun x h1 => He.free_ok X N (c.facts (f := .free x) (by
    unfold fa
    have : x ∈ D.bls := of_decide_eq_true h1
    simp only [List.mem_append, List.mem_map]
    exact .inr (.inr (.inr (.inr ⟨x, this, rfl⟩)))))
  lam := fun l C params body scope ci h1 h2 h3 => by
    show lamChk D.J0 D.lts D.g.lams l ci.N ci.sc params body scope = true
    rw [h2, h3]
    exact hl _ _ _ _ _ h1
  exc := fun i x h1 => by
    have e : D.cn i = x := getD_of h1
    have m := List.mem_of_getElem? h1
    have h2 := He.glo_ok X N (c.facts (f := .glo x) (by
      unfold fa
      simp only [List.mem_append, List.mem_map]
      exact .inr (.inl ⟨x, m, rfl⟩)))
    have h3 := He.exc_ok (c.facts (f := .exc x) (by
      unfold fa
      simp only [List.mem_append, List.mem_map]
      exact .inr (.inr (.inl ⟨x, m, rfl⟩))))
    exact ⟨He.ga K x, by show Value.ref (He.ga K (D.cn i)) = _; rw [e], h2, h3⟩
  exm := fun i d y h1 h2 => by
    have e : D.cn d = y := getD_of h2
    have hn : D.g.ncl = D.clsn.length := of_decide_eq_true (He.ba (He.ba hc).1).2
    have hi : i < D.clsn.length := by
      rw [← hn]
      exact h1
    obtain ⟨hd, _⟩ := List.getElem?_eq_some_iff.mp h2
    exact He.exm_ok (c.facts (f := .exm (D.cn i) (D.cn d) (sub D.g i d)) (by
      unfold fa exms
      simp only [List.mem_append, List.mem_map, List.mem_flatMap, List.mem_range]
      exact .inr (.inr (.inr (.inl ⟨i, hi, d, hd, rfl⟩)))))
  fns := fun i x h1 => by
    have e : D.nm i = x := getD_of h1
    have m := List.mem_of_getElem? h1
    obtain ⟨hi, _⟩ := List.getElem?_eq_some_iff.mp h1
    refine ⟨?_, ?_⟩
    · show mg x = some (.ref (He.ga K (D.nm i)))
      rw [e]
      exact He.glo_ok X N (c.facts (f := .glo x) (by
        unfold fa
        simp only [List.mem_append, List.mem_map]
        exact .inl ⟨x, m, rfl⟩))
    · obtain ⟨fd, FD⟩ := c.defs (d := D.dd i) (by
        unfold fn
        exact List.mem_map.mpr ⟨i, List.mem_range.mpr hi, rfl⟩)
      exact FD.kp
theorem lookup_nodup {β : Type} {f : Nat → Addr} {g : Nat → β} : ∀ {l : List Nat} {i : Nat}, (l.map f).Nodup → i ∈ l → (l.map fun j => (f j, g j)).lookup (f i) = some (g i)
  | j :: l, i, hn, hi => by
    have hn2 := List.nodup_cons.mp hn
    rw [List.map_cons, List.lookup_cons]
    rcases List.mem_cons.mp hi with e | hi
    · rw [e, beq_self_eq_true]
    · have : (f i == f j) = false := beq_eq_false_iff_ne.mpr fun e => hn2.1 (e ▸ List.mem_map_of_mem hi)
      rw [this]
      exact lookup_nodup hn2.2 hi
theorem fngX (X : K.In h) (N : h.Ns mainGlobals mg) (c : He.SaysD D.fa D.fn K) (hx : D.ex K = true) (hc : D.chk = true) (TB : ∀ p ∈ D.cs K, TabB base mg p.1 p.2) {i : Nat} {F : Fn} (hF : D.g.fns[i]? = some F) :
    ∃ (t : FT) (fd : FuncData), D.fts[i]? = some t ∧ FunD K (D.nm i) (D.nm i) (defArgs (D.st i)) (defBody (D.st i)) (defScope (D.st i)) [] [] (He.ga K (D.nm i)) fd ∧ FnScope t.N t.ps (defScope (D.st i)) ∧ F.ar = t.ps.length ∧ F.nl = t.N.length ∧ t.ps.length ≤ t.N.length ∧ F.dfl = [] ∧ plainArgs (defArgs (D.st i)) t.ps = true ∧
      (t.hasT = true → ∃ cc Pa, fd.code = .ref cc ∧ TabB base mg cc Pa ∧ D.tq K Pa = some (D.nm i ++ ".<locals>." ++ "<lambda>", posB t.L)) ∧
      ∀ cf k, CallF (D.gd P w K mg) (D.gx K base) cf k → CallL (D.gd P w K mg) (D.gx K base) cf k → SSs (D.gd P w K mg) (D.gx K base) cf k (fnSC t F.lamf (defScope (D.st i))) F.body (defBody (D.st i)) := by
  have ok := gok (P := P) (w := w) (base := base) X N c hx hc D.J.lamB (fun _ _ _ _ _ z => z)
  obtain ⟨hi, _⟩ := List.getElem?_eq_some_iff.mp hF
  have hlen : D.g.fns.length = D.fnn.length := of_decide_eq_true (He.ba (He.ba hc).1).1
  rw [hlen] at hi
  have h1 := List.all_eq_true.mp (He.ba hc).2 i (List.mem_range.mpr hi)
  unfold chk1 at h1
  rw [hF] at h1
  cases ht : D.fts[i]? with
  | none =>
    rw [ht] at h1
    cases h1
  | some t =>
    rw [ht] at h1
    have h1 : (F.dfl.isEmpty && plainArgs (defArgs (D.st i)) t.ps && fnChk D.J t F (defBody (D.st i)) (defScope (D.st i))) = true := h1
    obtain ⟨h2, h3⟩ := He.ba h1
    obtain ⟨h4, h5⟩ := He.ba h2
    have hdfl : F.dfl = [] := List.isEmpty_iff.mp h4
    unfold fnChk at h3
    simp only [Bool.and_eq_true, decide_eq_true_eq] at h3
    obtain ⟨⟨⟨⟨q1, q2⟩, q3⟩, q4⟩, q5⟩ := h3
    obtain ⟨fd, FD⟩ := c.defs (d := D.dd i) (by
      unfold fn
      exact List.mem_map.mpr ⟨i, List.mem_range.mpr hi, rfl⟩)
    have FD : FunD K (D.nm i) (D.nm i) (defArgs (D.st i)) (defBody (D.st i)) (defScope (D.st i)) [] [] (He.ga K (D.nm i)) fd := FD
    refine ⟨t, fd, rfl, FD, C8.fnScope_by q1, q2, q3, q4, hdfl, h5, fun hT => ?_, fun cf k hF hL => chkSs_ok ok hF hL _ _ q5⟩
    obtain ⟨oc, od, dV, kV, doc, pm, an, cdv, ct, osl, hfd, lk, hcd, _, _⟩ := FD.ex
    obtain ⟨cc, rfl⟩ := He.codeIn_ref hcd
    have lk2 : K.lookup (He.fAd K (D.nm i, none)) = some ⟨oc, od, .func fd, osl⟩ := lk
    have ec := He.codeOf_eq (c := cc) lk2 (by rw [hfd])
    have hi2 : i ∈ D.tis := by
      unfold tis
      refine List.mem_filter.mpr ⟨List.mem_range.mpr hi, ?_⟩
      rw [ht]
      exact hT
    refine ⟨cc, (He.cT K (D.nm i, none)).2, by rw [hfd], ?_, ?_⟩
    · have := TB (He.cT K (D.nm i, none)) (by
        unfold cs tf
        exact List.mem_map.mpr ⟨_, List.mem_map.mpr ⟨i, hi2, rfl⟩, rfl⟩)
      rw [show (He.cT K (D.nm i, none)).1 = cc from ec] at this
      exact this
    · unfold ex at hx
      have hn : (D.tabs K).Nodup := of_decide_eq_true (He.ba hx).2
      have e := lookup_nodup (f := fun i => (He.cT K (D.nm i, none)).2) (g := fun i => (D.nm i ++ ".<locals>." ++ "<lambda>", posB (D.ftL i))) hn hi2
      unfold tq
      rw [e]
      have : D.ftL i = t.L := by
        unfold ftL
        rw [ht]
      rw [this]
theorem fng (X : K.In h) (N : h.Ns mainGlobals mg) (c : He.SaysD D.fa D.fn K) (hx : D.ex K = true) (hc : D.chk = true) (TB : ∀ p ∈ D.cs K, TabB base mg p.1 p.2) {i : Nat} {F : Fn} (hF : D.g.fns[i]? = some F) : FnG (D.gd P w K mg) (D.gx K base) i F := by
  obtain ⟨t, fd, ht, FD, q1, q2, q3, q4, hdfl, h5, hT, hs⟩ := fngX (P := P) (w := w) (base := base) X N c hx hc TB hF
  refine ⟨D.nm i, D.nm i, defArgs (D.st i), defBody (D.st i), defScope (D.st i), [], [], fd, fnSC t F.lamf (defScope (D.st i)), t.ps, FD, q1, rfl, q2, q3, rfl, rfl, q4, hT, hs, fun n hn1 hn2 => ?_⟩
  rw [hdfl] at hn2 ⊢
  have hn : n = t.ps.length := by
    rw [List.length_nil] at hn2
    omega
  have B : Binds K fd t.ps [] := FD.bindsN fun kV doc pm an cdv ct us hl => bind_plain h5 hl
  refine ⟨[], [], .nil, fun τ cm ρ H => ?_, fun s us KX hl => ?_⟩
  · rw [List.drop_nil]
    unfold reps
    rfl
  · exact B s us KX (by rw [List.append_nil, hl, hn])
theorem lmg (X : K.In h) (N : h.Ns mainGlobals mg) (c : He.SaysD D.fa D.fn K) (hx : D.ex K = true) (hc : D.chk = true) {l : Nat} {L : Lam} (hl : D.g.lams[l]? = some L) : LmG (D.gd P w K mg) (D.gx K base) l L :=
  lmG_of (J := D.J0) (gok (P := P) (w := w) (base := base) X N c hx hc D.J0.lamB (fun _ _ _ _ _ z => by cases z)) hl fun _ _ _ _ z => z
/-- the law's promise: from a list of whole numbers to True -/
def sp (D : LawD) (K : PySem.W.Frag) (Ok : List Int → Prop) : Sp := fun vs H Q _ => ∃ (a : Addr) (ns : List Int), vs = [.ref a] ∧ Ok ns ∧ (∀ p ∈ D.cs K, H p.2 = some (.tbl #[])) ∧ SqL K H a (ns.map V.int) ∧ ∀ H', Q (.bl true) H'
theorem reps_ints2 {G : GD} {cm : List (Option CI)} {ρ : List Addr} {H : Hp} : ∀ ns : List Int, reps G cm ρ H (ns.map fun n => FS.D.int n) (ns.map V.int)
  | [] => by unfold reps; rfl
  | n :: ns => by
    rw [List.map_cons, List.map_cons]
    unfold reps
    exact ⟨.int n, ns.map V.int, rfl, by unfold rep; rfl, reps_ints2 ns⟩
theorem tq_mem {Pa : Addr} {q : Str} {L : Pos → Bool} (e : D.tq K Pa = some (q, L)) : ∃ p ∈ D.cs K, p.2 = Pa := by
  unfold tq at e
  have key : ∀ l : List Nat, (l.map fun i => ((He.cT K (D.nm i, none)).2, (D.nm i ++ ".<locals>." ++ "<lambda>", posB (D.ftL i)))).lookup Pa = some (q, L) → ∃ i ∈ l, (He.cT K (D.nm i, none)).2 = Pa := by
    intro l
    induction l with
    | nil => exact fun h => by cases h
    | cons i l ih =>
      intro h
      rw [List.map_cons, List.lookup_cons] at h
      cases hb : Pa == (He.cT K (D.nm i, none)).2 with
      | true => exact ⟨i, List.mem_cons_self, (beq_iff_eq.mp hb).symm⟩
      | false =>
        rw [hb] at h
        obtain ⟨j, hj, e⟩ := ih h
        exact ⟨j, List.mem_cons_of_mem _ hj, e⟩
  obtain ⟨i, hi, e⟩ := key _ e
  refine ⟨He.cT K (D.nm i, none), ?_, e⟩
  unfold cs tf
  exact List.mem_map.mpr ⟨_, List.mem_map.mpr ⟨i, hi, rfl⟩, rfl⟩
theorem fd_same {x qual : Str} {params : Arguments} {body : List Stmt} {scope : Scope} {f : Addr} {fd fd' : FuncData} (a : FunD K x qual params body scope [] [] f fd) (b : FunD K x qual params body scope [] [] f fd') : fd = fd' := by
  obtain ⟨oc, od, dV, kV, doc, pm, an, cdv, ct, osl, _, lk, _⟩ := a.ex
  obtain ⟨oc', od', dV', kV', doc', pm', an', cdv', ct', osl', _, lk', _⟩ := b.ex
  rw [lk] at lk'
  injection lk' with e
  injection e with _ _ e _
  injection e
theorem law_ok (X : K.In h) (N : h.Ns mainGlobals mg) (c : He.SaysD D.fa D.fn K) (hx : D.ex K = true) (hc : D.chk = true) (TB : ∀ p ∈ D.cs K, TabB base mg p.1 p.2) {i : Nat} {F : Fn} {x : Str} {fd : FuncData} {Ok : List Int → Prop} {k : Nat}
    (hF : D.g.fns[i]? = some F) (hps : ∀ t, D.fts[i]? = some t → t.ps = [x]) (FD : FunD K (D.nm i) (D.nm i) (defArgs (D.st i)) (defBody (D.st i)) (defScope (D.st i)) [] [] (He.ga K (D.nm i)) fd)
    (hlaw : ∀ ns, Ok ns → ∀ d : FS.D, d = .lst (ns.map fun n => FS.D.int n) ∨ d = .frl (ns.map fun n => FS.D.int n) → ∃ mh, callK D.g (k + 1) (.fn i) [] [d] [] = .ok (.bl true) mh) :
    FnOk P w K mg base (L2.CX P w) (2 * k + 2) (He.ga K (D.nm i)) fd [x] (D.sp K Ok) := by
  obtain ⟨cF, cL⟩ := calls_ok (G := D.gd P w K mg) (Y := D.gx K base) (fun i F hF => fng X N c hx hc TB hF) (fun l L hl => lmg X N c hx hc hl) k
  obtain ⟨t, fd', ht, FD', S, har, hnl, hpl, hdfl, h5, htab, hsound⟩ := fngX (P := P) (w := w) (base := base) X N c hx hc TB hF
  have ef := fd_same FD' FD
  subst ef
  have eps := hps t ht
  obtain ⟨oc, od, dV, kV, doc, pm, an, cdv, ct, osl, hfd, lk, hcd, _, _⟩ := FD'.ex
  subst hfd
  refine ⟨fun vs H Q E ⟨a, ns, e, _⟩ => by rw [e]; rfl, fun A outer s H args us vs Q E hr e0 hb rv ⟨a, ns, e, hns, hT, hS, hQ⟩ => ?_⟩
  subst e
  -- the argument
  obtain ⟨d, hd, rd⟩ : ∃ d : FS.D, (d = .lst (ns.map fun n => FS.D.int n) ∨ d = .frl (ns.map fun n => FS.D.int n)) ∧ rep ((D.gd P w K mg).tm []) [] [] H d (.ref a) := by
    rcases hS with (hS | ⟨o, hS⟩) | hS
    · refine ⟨_, .inl rfl, ?_⟩
      unfold rep
      exact ⟨a, ns.map V.int, rfl, ⟨⟨by simp, by simp⟩, hS⟩, reps_ints2 ns⟩
    · refine ⟨_, .inr rfl, ?_⟩
      unfold rep
      exact ⟨a, ns.map V.int, rfl, .inl ⟨o, ⟨by simp, by simp⟩, hS⟩, reps_ints2 ns⟩
    · refine ⟨_, .inr rfl, ?_⟩
      unfold rep
      exact ⟨a, ns.map V.int, rfl, .inr hS, reps_ints2 ns⟩
  obtain ⟨mh, hrun⟩ := hlaw ns hns d hd
  unfold callK at hrun
  rw [hF] at hrun
  have hrun : (if [d].length ≤ F.ar ∧ F.ar ≤ [d].length + F.dfl.length then (match evSs D.g (callK D.g k) [] F.body (([d] ++ F.dfl.drop ([d].length + F.dfl.length - F.ar)).map some ++ List.replicate (F.nl - F.ar) none) [] with
      | .ret d h1 => if F.lamf && !noClo d then R.stk else .ok d h1
      | .nx _ h1 => .ok .non h1
      | .exc c _ h1 => .exc c h1
      | _ => .stk) else .stk) = .ok (.bl true) mh := hrun
  split at hrun
  rotate_left
  · cases hrun
  generalize hfr : ([d] ++ F.dfl.drop ([d].length + F.dfl.length - F.ar)).map some ++ List.replicate (F.nl - F.ar) none = fr0 at hrun
  have hres : ∃ mh', evSs D.g (callK D.g k) [] F.body fr0 [] = .ret (.bl true) mh' := by
    cases hr : evSs D.g (callK D.g k) [] F.body fr0 [] with
    | ret d2 h1 =>
      rw [hr] at hrun
      have hrun : (if F.lamf && !noClo d2 then R.stk else .ok d2 h1) = .ok (.bl true) mh := hrun
      split at hrun
      · cases hrun
      · cases hrun
        exact ⟨_, rfl⟩
    | nx _ _ =>
      rw [hr] at hrun
      cases hrun
    | exc _ _ _ =>
      rw [hr] at hrun
      cases hrun
    | brk _ _ =>
      rw [hr] at hrun
      cases hrun
    | cnt _ _ =>
      rw [hr] at hrun
      cases hrun
    | stk =>
      rw [hr] at hrun
      cases hrun
  obtain ⟨mh', hres⟩ := hres
  generalize hci : (if F.lamf = true then some (CI.mk (cellsFrom (s.heap.objs.size + 1) (defScope (D.st i)).names []) t.N (defScope (D.st i)) (D.nm i ++ ".<locals>.")) else none : Option CI) = e
  rw [← eps] at hb
  refine run_ofS (N := t.N) (ps := t.ps) (us := us) (vs := [.ref a]) (k := 2 * k + 1) lk hcd S hr e0 hb rv (by rw [eps]; rfl) fun hr => ?_
  refine ⟨_, pss_w, ?_⟩
  have cx' : CtxOk ((D.gd P w K mg).tm []) (D.gx K base) (fnSC t F.lamf (defScope (D.st i))) k [e] [] (cxOf (L2.CX P w) P w K mg base t.N (D.nm i) (defScope (D.st i)) (He.ga K (D.nm i)) cdv A outer s H E) := by
    refine ⟨rfl, rfl, rfl, rfl, rfl, S.nd, rfl, S.kind, rfl, fun _ _ => rfl, hr, fun b oo q => q, fun ht => ?_, fun _ _ => rfl, fun hn => ?_, fun hy => ?_, fun ci hc => ?_, rfl⟩
    · obtain ⟨c, P, q1, q2, q3⟩ := htab ht
      exact ⟨c, P, q1, q2, q3⟩
    · have hn : F.lamf = false := hn
      show some e = some none
      rw [← hci, hn]
      rfl
    · have hy : F.lamf = true := hy
      refine ⟨CI.mk (cellsFrom (s.heap.objs.size + 1) (defScope (D.st i)).names []) t.N (defScope (D.st i)) (D.nm i ++ ".<locals>."), ?_⟩
      show some e = _
      rw [← hci, hy]
      rfl
    · have hc : some e = some (some ci) := hc
      rw [← hci] at hc
      cases hl2 : F.lamf with
      | false =>
        rw [hl2] at hc
        cases hc
      | true =>
        rw [hl2] at hc
        have hc := Option.some.inj (Option.some.inj hc)
        rw [← hc]
        exact ⟨rfl, rfl, rfl, rfl⟩
  have sx' : StX (cxOf (L2.CX P w) P w K mg base t.N (D.nm i) (defScope (D.st i)) (He.ga K (D.nm i)) cdv A outer s H E) := ⟨rfl, rfl, passes_of rfl⟩
  have gd0 : Gd ((D.gd P w K mg).tm []) [] H [] := by
    refine ⟨rfl, List.nodup_nil, fun n a o h => (by cases h), fun Pa q L e => ⟨by simp, ?_⟩, fun a h => (by cases h)⟩
    obtain ⟨p, hp, e2⟩ := tq_mem e
    refine ⟨#[], by rw [← e2]; exact hT p hp, ?_, fun pos cv _ hcv => ?_⟩
    · unfold TriplesOk
      trivial
    · cases hcv
  have st' : StR ((D.gd P w K mg).tm []) [e] (cxOf (L2.CX P w) P w K mg base t.N (D.nm i) (defScope (D.st i)) (He.ga K (D.nm i)) cdv A outer s H E) [] [] H [] (L2.start t.N [.ref a]) fr0 := by
    refine ⟨gd0, ?_, fun d ci f _ h2 _ => ?_⟩
    · rw [← hfr, hdfl, List.drop_nil, List.append_nil]
      refine start_fr (reps.one (rd.mono (Deeper.app [] [e]) (Ext.refl _ _) _ _)) ?_
      rw [hnl, har, eps]
      show 1 + (t.N.length - 1) = t.N.length
      rw [eps] at hpl
      have : 1 ≤ t.N.length := hpl
      omega
    · unfold frameAt at h2
      split at h2
      · rename_i h3
        cases h3
      · cases h2
  refine hsound _ k cF cL [] _ _ _ cx' sx' [] H [] _ fr0 st' _ ?_
  show RSK _ _ _ _ _ _ (evSs D.g (callK D.g k) [] F.body fr0 []) _
  rw [hres]
  intro ρ' H' v ex g r
  unfold rep at r
  subst r
  exact hQ H'
theorem law_at {l : PySem.W.OpenLaw} {fa : Addr} {x : Str} {i k n : Nat} {F : Fn} {Ok : List Int → Prop} (X : K.In h) (N : h.Ns mainGlobals mg) (c : He.SaysX D.fa D.fn [] D.tf D.ex w h K) (hc : D.chk = true) (hmg : mg (D.nm i) = some (.ref fa)) (hF : D.g.fns[i]? = some F) (hps : ∀ t, D.fts[i]? = some t → t.ps = [x])
    (hok : ∀ ns : List Int, ns.length ≤ n → (∀ z ∈ ns, Builtin.Int.intBits z ≤ 1048576) → Ok ns)
    (hlaw : ∀ ns, Ok ns → ∀ d : FS.D, d = .lst (ns.map fun n => FS.D.int n) ∨ d = .frl (ns.map fun n => FS.D.int n) → ∃ mh, callK D.g (k + 1) (.fn i) [] [d] [] = .ok (.bl true) mh) :
    LawAtS l w K (L2.CX l.prog w) (2 * k + 2) n x mg fa h := by
  have cd : He.SaysD D.fa D.fn K := c.t.d
  have hx : D.ex K = true := c.more
  obtain ⟨hi, _⟩ := List.getElem?_eq_some_iff.mp hF
  have hlen : D.g.fns.length = D.fnn.length := of_decide_eq_true (He.ba (He.ba hc).1).1
  rw [hlen] at hi
  obtain ⟨fd, FD⟩ := cd.defs (d := D.dd i) (by
    unfold fn
    exact List.mem_map.mpr ⟨i, List.mem_range.mpr hi, rfl⟩)
  have FD : FunD K (D.nm i) (D.nm i) (defArgs (D.st i)) (defBody (D.st i)) (defScope (D.st i)) [] [] (He.ga K (D.nm i)) fd := FD
  have hga : mg (D.nm i) = some (.ref (He.ga K (D.nm i))) := He.glo_ok X N (cd.facts (f := .glo (D.nm i)) (by
    unfold LawD.fa
    simp only [List.mem_append, List.mem_map]
    refine .inl ⟨D.nm i, ?_, rfl⟩
    unfold nm
    rw [List.getD_eq_getElem?_getD, List.getElem?_eq_getElem hi]
    exact List.getElem_mem hi))
  rw [hmg] at hga
  have e : fa = He.ga K (D.nm i) := by
    injection hga with e
    injection e
  subst e
  have inTf : ∀ p ∈ D.cs K, ∃ q ∈ D.tf, p = He.cT K q := fun p hp => by
    unfold cs at hp
    obtain ⟨q, hq, e⟩ := List.mem_map.mp hp
    exact ⟨q, hq, e.symm⟩
  have hpl : ∀ t, D.fts[i]? = some t → plainArgs (defArgs (D.st i)) t.ps = true := fun t ht => by
    have h1 := List.all_eq_true.mp (He.ba hc).2 i (List.mem_range.mpr hi)
    unfold chk1 at h1
    rw [hF, ht] at h1
    have h1 : (F.dfl.isEmpty && plainArgs (defArgs (D.st i)) t.ps && fnChk D.J t F (defBody (D.st i)) (defScope (D.st i))) = true := h1
    exact (He.ba (He.ba h1).1).2
  have ht : ∃ t, D.fts[i]? = some t := by
    have h1 := List.all_eq_true.mp (He.ba hc).2 i (List.mem_range.mpr hi)
    unfold chk1 at h1
    rw [hF] at h1
    cases q : D.fts[i]? with
    | none =>
      rw [q] at h1
      cases h1
    | some t => exact ⟨t, rfl⟩
  obtain ⟨t, ht⟩ := ht
  refine ⟨fd, D.cs K, D.sp K Ok, fun p hp => ?_, fun p hp => ?_, fun p hp => ?_, fun s u => ?_, fun H a ns h1 h2 h3 h4 => ⟨a, ns, rfl, hok ns h1 h2, h3, h4, fun _ => rfl⟩, fun base KB NB TB => law_ok X N cd hx hc TB hF hps FD hlaw⟩
  · obtain ⟨q, hq, e⟩ := inTf p hp
    rw [e]
    exact c.empty q hq
  · obtain ⟨q, hq, e⟩ := inTf p hp
    rw [e]
    exact c.out q hq
  · obtain ⟨q, hq, e⟩ := inTf p hp
    rw [e]
    exact PySem.W.codeHd_of_K X (c.hd q hq)
  · have b := FD.bindsA (ps := t.ps) (fun kV doc pm an cdv ct us hl => bind_plain (hpl t ht) hl)
    have := b s [u] (by rw [hps t ht]; rfl)
    rw [hps t ht] at this
    exact this
end
end LawD
end FS

-- text FsT
set_option Elab.async false
set_option linter.all false
set_option maxHeartbeats 4000000
/-! FsT: the same evaluator, made of small functions (quicker in the kernel). -/
namespace FS
namespace C
abbrev XE : Type := CF → List Fr → Fr → MH → R D
abbrev XEs : Type := CF → List Fr → Fr → MH → R (List D)
abbrev XB : Type := CF → List Fr → Fr → MH → R Bool
abbrev XJ : Type := CF → List Fr → List Nat → Fr → MH → R (List Nat)
abbrev XS : Type := CF → List Fr → Fr → MH → RS
def k (d : D) : XE := fun _ _ _ h => .ok d h
def var (i : Nat) : XE := fun _ _ fr h => .opt h (get fr i)
def glb (g : Pg) (i : Nat) : XE := fun _ _ _ h => .opt h g.glb[i]?
def bin (op : Bop) (a b : XE) : XE := fun cf o fr h => (a cf o fr h).bind fun x h1 => (b cf o fr h1).bind fun y h2 => binV op x y h2
def neg (a : XE) : XE := fun cf o fr h => (a cf o fr h).bind fun x h1 => match x with
  | .int i => .ok (.int (-i)) h1
  | _ => .stk
def cmp (op : Cop) (a b : XE) : XE := fun cf o fr h => (a cf o fr h).bind fun x h1 => (b cf o fr h1).bind fun y h2 => match cmpV op x y h2 with
  | some c => .ok (.bl c) h2
  | none => .stk
def chn (op op2 : Cop) (a b c : XE) : XE := fun cf o fr h => (a cf o fr h).bind fun x h1 => (b cf o fr h1).bind fun y h2 => match cmpV op x y h2 with
  | some true => (c cf o fr h2).bind fun z h3 => (match cmpV op2 y z h3 with
    | some c => .ok (.bl c) h3
    | none => .stk)
  | some false => .ok (.bl false) h2
  | none => .stk
def bop (es : XB) : XE := fun cf o fr h => (es cf o fr h).bind fun b h1 => .ok (.bl b) h1
def bnot (a : XE) : XE := fun cf o fr h => (a cf o fr h).bind fun x h1 => match x with
  | .bl b => .ok (.bl (!b)) h1
  | _ => .stk
def ife (c : XB) (a b : XE) : XE := fun cf o fr h => (c cf o fr h).bind fun t h1 => match t with
  | true => a cf o fr h1
  | false => b cf o fr h1
def ix (a b : XE) : XE := fun cf o fr h => (a cf o fr h).bind fun x h1 => (b cf o fr h1).bind fun y h2 => .opt h2 (ixV x y h2)
def sl (a : XE) (n1 : Bool) (lo : XE) (n2 : Bool) (hi : XE) : XE := fun cf o fr h => (a cf o fr h).bind fun x h1 => (lo cf o fr h1).bind fun l h2 => match opE n1 l with
  | some l => (hi cf o fr h2).bind fun u h3 => (match opE n2 u with
    | some u => .opt h3 (slV x l u h3)
    | none => .stk)
  | none => .stk
def nop : XE := fun _ _ _ h => .ok .non h
def tup (es : XEs) : XE := fun cf o fr h => (es cf o fr h).bind fun xs h1 => if Nat.ble xs.length line then .ok (.tup xs) h1 else .stk
def lst (m : Bool) (es : XEs) : XE := fun cf o fr h => (es cf o fr h).bind fun xs h1 => if Nat.ble xs.length line then (match m with
  | false => .ok (.lst xs) h1
  | true => if noClos xs then .ok (.ref h1.length) (h1 ++ [.lst xs]) else .stk) else .stk
def call (f : Nat) (es : XEs) : XE := fun cf o fr h => (es cf o fr h).bind fun xs h1 => cf (.fn f) (fr :: o) xs h1
def bi (b : Bi) (es : XEs) : XE := fun cf o fr h => (es cf o fr h).bind fun xs h1 => biV b xs h1
def me (m : Me) (e : XE) (es : XEs) : XE := fun cf o fr h => (e cf o fr h).bind fun x h1 => match x with
  | .str s => (es cf o fr h1).bind fun xs h2 => meV m (.str s) xs h2
  | _ => .stk
def lam (l : Nat) : XE := fun _ o _ h => .ok (.clo l o.length) h
def app (g : Pg) (i : Nat) : XE := fun cf o fr h => match get fr i with
  | some (.clo l d) => (match g.lams[l]?, frameAt o d with
    | some L, some f => if L.cap.all (fun i => Nat.blt i f.length) then cf (.lam l (L.cap.map (get f))) (fr :: o) [] h else .stk
    | _, _ => .stk)
  | _ => .stk
def lc (own : List Nat) (t : T) (it : XEs) (ifs : XB) (e : XE) : XE := fun cf o fr h => (it cf o fr h).bind fun xs h1 => if Nat.ble xs.length line then ((mapW (fun x h2 => match asg t x (wipeF fr own) with
  | some fr1 => (ifs cf ([] :: o) fr1 h2).noX.bind fun b h3 => (match b with
    | true => (e cf ([] :: o) fr1 h3).noX.bind fun y h4 => .ok (some y) h4
    | false => .ok none h3)
  | none => .stk) xs h1).bind fun ys h5 => .ok (.lst ys) h5) else .stk
def gen (q : Gq) (own : List Nat) (t : T) (it : XEs) (ifs : XB) (e : XE) : XE := fun cf o fr h => (it cf o fr h).bind fun xs h1 => (anyW (match q with | .any => true | .all => false) (fun x h2 => match asg t x (wipeF fr own) with
  | some fr1 => (ifs cf ([] :: o) fr1 h2).noX.bind fun b h3 => (match b with
    | true => (e cf ([] :: o) fr1 h3).noX.bind fun y h4 => (match y with
      | .bl c => .ok (some c) h4
      | _ => .stk)
    | false => .ok none h3)
  | none => .stk) xs h1).bind fun c h5 => .ok (.bl c) h5
def fs (es : XJ) : XE := fun cf o fr h => (es cf o [] fr h).bind fun l h1 => .ok (.str l) h1
def jnil : XJ := fun _ _ acc _ h => .ok acc h
def jcons (e : XE) (es : XJ) : XJ := fun cf o acc fr h => (e cf o fr h).bind fun x h1 => match txtV x with
  | some t => if Nat.ble (acc.length + t.length) line then es cf o (acc ++ t) fr h1 else .stk
  | none => .stk
def nil : XEs := fun _ _ _ h => .ok [] h
def cons (e : XE) (es : XEs) : XEs := fun cf o fr h => (e cf o fr h).bind fun x h1 => (es cf o fr h1).bind fun xs h2 => .ok (x :: xs) h2
/-- the last of a chain of values -/
def blast (e : XE) : XB := fun cf o fr h => (e cf o fr h).bind fun x h1 => match x with
  | .bl b => .ok b h1
  | _ => .stk
def bcons (an : Bool) (e : XE) (es : XB) : XB := fun cf o fr h => (e cf o fr h).bind fun x h1 => match x with
  | .bl b => if b == an then es cf o fr h1 else .ok b h1
  | _ => .stk
def tv (e : XE) : XB := fun cf o fr h => (e cf o fr h).bind fun x h1 => .opt h1 (truV h1 x)
def tnt (a : XB) : XB := fun cf o fr h => (a cf o fr h).bind fun b h1 => .ok (!b) h1
def tife (c a b : XB) : XB := fun cf o fr h => (c cf o fr h).bind fun t h1 => match t with
  | true => a cf o fr h1
  | false => b cf o fr h1
def tcmp (op : Cop) (a b : XE) : XB := fun cf o fr h => (a cf o fr h).bind fun x h1 => (b cf o fr h1).bind fun y h2 => .opt h2 (cmpV op x y h2)
def tchn (op op2 : Cop) (a b c : XE) : XB := fun cf o fr h => (a cf o fr h).bind fun x h1 => (b cf o fr h1).bind fun y h2 => match cmpV op x y h2 with
  | some true => (c cf o fr h2).bind fun z h3 => .opt h3 (cmpV op2 y z h3)
  | some false => .ok false h2
  | none => .stk
def tnil (an : Bool) : XB := fun _ _ _ h => .ok an h
def tcons (an : Bool) (c cs : XB) : XB := fun cf o fr h => (c cf o fr h).bind fun b h1 => if b == an then cs cf o fr h1 else .ok b h1
def ie (a : XE) : XEs := fun cf o fr h => (a cf o fr h).bind fun x h1 => .opt h1 (itemsOf h1 x)
def rng (es : XEs) : XEs := fun cf o fr h => (es cf o fr h).bind fun xs h1 => .opt h1 (rngV xs)
/-! statements -/
def set (t : T) (e : XE) : XS := fun cf o fr h => (e cf o fr h).toS fr fun d h1 => match asg t d fr with
  | some fr1 => .nx fr1 h1
  | none => .stk
def par (ts : List Nat) (es : XEs) : XS := fun cf o fr h => (es cf o fr h).toS fr fun ds h1 => match asgNs ts ds fr with
  | some fr1 => .nx fr1 h1
  | none => .stk
def sub (e a i : XE) : XS := fun cf o fr h => (e cf o fr h).toS fr fun d h1 => (a cf o fr h1).toS fr fun x h2 => (i cf o fr h2).toS fr fun j h3 => match setAt h3 x j d with
  | some h4 => .nx fr h4
  | none => .stk
def sife (c : XB) (a b : XS) : XS := fun cf o fr h => (c cf o fr h).toS fr fun t h1 => match t with
  | true => a cf o fr h1
  | false => b cf o fr h1
def for_ (t : T) (it : XEs) (b : XS) : XS := fun cf o fr h => (it cf o fr h).toS fr fun xs h1 => forM (fun x fr1 h2 => match asg t x fr1 with
  | some fr2 => b cf o fr2 h2
  | none => .stk) xs fr h1
def whl (n : Nat) (c : XB) (b : XS) : XS := fun cf o fr h => whileM (fun fr1 h1 => c cf o fr1 h1) (fun fr1 h1 => b cf o fr1 h1) n fr h
def ret (e : XE) : XS := fun cf o fr h => (e cf o fr h).toS fr fun d h1 => .ret d h1
def retn : XS := fun _ _ _ h => .ret .non h
def rai (c : Nat) : XS := fun _ _ fr h => .exc c fr h
def tri (g : Pg) (b : XS) (hs : List (Nat × Hd)) : XS := fun cf o fr h => match b cf o fr h with
  | .exc c fr1 h1 => if c < g.ncl then (match hdOf g c hs with
    | some (.ret d) => .ret d h1
    | some .pas => .nx fr1 h1
    | none => .exc c fr1 h1) else .stk
  | r => r
def exp (e : XE) : XS := fun cf o fr h => (e cf o fr h).toS fr fun _ h1 => .nx fr h1
def pas : XS := fun _ _ fr h => .nx fr h
def cnt : XS := fun _ _ fr h => .cnt fr h
def brk : XS := fun _ _ fr h => .brk fr h
def snil : XS := fun _ _ fr h => .nx fr h
def scons (s r : XS) : XS := fun cf o fr h => match s cf o fr h with
  | .nx fr1 h1 => r cf o fr1 h1
  | x => x
end C
/-- the same program, made of small functions -/
structure CT where
  g : Pg
  fc : List C.XS
  lc : List C.XE
structure CT.Ok (T : CT) : Prop where
  fn : ∀ (i : Nat) (F : Fn), T.g.fns[i]? = some F → ∃ c, T.fc[i]? = some c ∧ ∀ cf o fr h, evSs T.g cf o F.body fr h = c cf o fr h
  lm : ∀ (l : Nat) (L : Lam), T.g.lams[l]? = some L → ∃ c, T.lc[l]? = some c ∧ ∀ cf o fr h, evE T.g cf o L.body fr h = c cf o fr h
def callC (T : CT) : Nat → CF
  | 0, _, _, _, _ => .stk
  | k + 1, .fn i, o, xs, h => (match T.g.fns[i]?, T.fc[i]? with
    | some F, some c => if xs.length ≤ F.ar ∧ F.ar ≤ xs.length + F.dfl.length then (match c (callC T k) o ((xs ++ F.dfl.drop (xs.length + F.dfl.length - F.ar)).map some ++ List.replicate (F.nl - F.ar) none) h with
      | .ret d h1 => if F.lamf && !noClo d then .stk else .ok d h1
      | .nx _ h1 => .ok .non h1
      | .exc c _ h1 => .exc c h1
      | _ => .stk) else .stk
    | _, _ => .stk)
  | k + 1, .lam l fr, o, _, h => (match T.lc[l]? with
    | some c => c (callC T k) o fr h
    | none => .stk)
theorem callC_eq {T : CT} (ok : T.Ok) (hl : T.lc.length = T.g.lams.length) : ∀ k, callK T.g k = callC T k
  | 0 => rfl
  | k + 1 => by
    have ih := callC_eq ok hl k
    funext c o xs h
    cases c with
    | fn i =>
      unfold callK callC
      cases hF : T.g.fns[i]? with
      | none => rfl
      | some F =>
        obtain ⟨c, hc, e⟩ := ok.fn i F hF
        rw [hc]
        simp only [e, ih] <;> rfl
    | lam l fr =>
      unfold callK callC
      cases hF : T.g.lams[l]? with
      | none =>
        have : T.lc[l]? = none := by
          rw [List.getElem?_eq_none_iff] at hF ⊢
          omega
        rw [this]
      | some L =>
        obtain ⟨c, hc, e⟩ := ok.lm l L hF
        rw [hc]
        simp only [e, ih]
end FS

-- text FsV
set_option Elab.async false
set_option linter.all false
set_option maxHeartbeats 4000000
/-! FsV: what a function gives that changes nothing hangs neither on the heap nor on the frames around it. -/
namespace FS
def LR {α : Type} (h' : MH) (r r' : R α) : Prop := match r with
  | .ok a h => h = [] ∧ r' = .ok a h'
  | .exc c h => h = [] ∧ r' = .exc c h'
  | .stk => True
def LS (h' : MH) (r r' : RS) : Prop := match r with
  | .nx fr h => h = [] ∧ r' = .nx fr h'
  | .brk fr h => h = [] ∧ r' = .brk fr h'
  | .cnt fr h => h = [] ∧ r' = .cnt fr h'
  | .ret d h => h = [] ∧ r' = .ret d h'
  | .exc c fr h => h = [] ∧ r' = .exc c fr h'
  | .stk => True
section
variable {h' : MH} {α β : Type}
theorem LR.ok {a : α} : LR h' (.ok a []) (.ok a h') := ⟨rfl, rfl⟩
theorem LR.bind {r r' : R α} {f f' : α → MH → R β} (a : LR h' r r') (b : ∀ x, LR h' (f x []) (f' x h')) : LR h' (r.bind f) (r'.bind f') := by
  cases r with
  | ok x h =>
    obtain ⟨rfl, rfl⟩ := a
    exact b x
  | exc c h =>
    obtain ⟨rfl, rfl⟩ := a
    exact ⟨rfl, rfl⟩
  | stk => trivial
theorem LR.noX {r r' : R α} (a : LR h' r r') : LR h' r.noX r'.noX := by
  cases r with
  | ok x h =>
    obtain ⟨rfl, rfl⟩ := a
    exact ⟨rfl, rfl⟩
  | exc c h => trivial
  | stk => trivial
theorem LR.opt {x y : Option α} (e : ∀ a, x = some a → y = some a) : LR h' (R.opt [] x) (R.opt h' y) := by
  cases x with
  | none => trivial
  | some a =>
    rw [e a rfl]
    exact ⟨rfl, rfl⟩
theorem LR.toS {r r' : R α} {fr : Fr} {f f' : α → MH → RS} (a : LR h' r r') (b : ∀ x, LS h' (f x []) (f' x h')) : LS h' (r.toS fr f) (r'.toS fr f') := by
  cases r with
  | ok x h =>
    obtain ⟨rfl, rfl⟩ := a
    exact b x
  | exc c h =>
    obtain ⟨rfl, rfl⟩ := a
    exact ⟨rfl, rfl⟩
  | stk => trivial
theorem lstOf_up {d : D} {xs : List D} (e : lstOf [] d = some xs) : lstOf h' d = some xs := by
  cases d <;> first | exact e | (unfold lstOf at e; simp at e)
theorem seqOf_up {d : D} {xs : List D} (e : seqOf [] d = some xs) : seqOf h' d = some xs := by
  cases d with
  | tup ys => exact e
  | ref n => exact lstOf_up (h' := h') (d := .ref n) e
  | _ => exact e
theorem itemsOf_up {d : D} {xs : List D} (e : itemsOf [] d = some xs) : itemsOf h' d = some xs := by
  cases d <;> exact e
theorem truV_up {d : D} {b : Bool} (e : truV [] d = some b) : truV h' d = some b := by
  cases d <;> exact e
theorem binV_up (op : Bop) (x y : D) : LR h' (binV op x y []) (binV op x y h') := by
  unfold binV
  split <;> (try split) <;> first | exact LR.ok | trivial
theorem inOpt_up {x y : D} {b : Bool} (e : inOpt [] x y = some b) : inOpt h' x y = some b := by
  unfold inOpt at e ⊢
  cases y with
  | str s => exact e
  | _ =>
    simp only at e ⊢
    split at e
    · rename_i ys hs
      rw [seqOf_up hs]
      exact e
    · cases e
theorem cmpV_up {op : Cop} {x y : D} {b : Bool} (e : cmpV op x y [] = some b) : cmpV op x y h' = some b := by
  cases op with
  | isin => exact inOpt_up e
  | notin =>
    unfold cmpV at e ⊢
    simp only at e ⊢
    cases q : inOpt [] x y with
    | none =>
      rw [q] at e
      cases e
    | some c =>
      rw [q] at e
      rw [inOpt_up q]
      exact e
  | _ => exact e
theorem ixV_up {x y z : D} (e : ixV x y [] = some z) : ixV x y h' = some z := by
  unfold ixV at e ⊢
  cases y with
  | int i =>
    simp only at e ⊢
    cases x with
    | str s => exact e
    | _ =>
      simp only at e ⊢
      split at e
      · rename_i xs hs
        rw [seqOf_up hs]
        exact e
      · cases e
  | _ => cases e
theorem slV_up {x z : D} {lo hi : Option Int} (e : slV x lo hi [] = some z) : slV x lo hi h' = some z := by
  unfold slV at e ⊢
  cases x with
  | str s => exact e
  | frl xs => exact e
  | _ =>
    simp only at e ⊢
    split at e
    · rename_i xs hs
      rw [lstOf_up hs]
      exact e
    · cases e
theorem biV_up (b : Bi) (as : List D) : LR h' (biV b as []) (biV b as h') := by
  unfold biV
  split <;> (try split) <;> first
    | exact LR.ok
    | trivial
    | (rename_i hs; first | (rw [seqOf_up hs]; exact LR.ok) | (rw [lstOf_up hs]; exact LR.ok))
theorem meV_up (m : Me) (o : D) (as : List D) : LR h' (meV m o as []) (meV m o as h') := by
  unfold meV
  split
  case h_5 x d =>
    cases hs : seqOf [] d with
    | none => trivial
    | some ys =>
      rw [seqOf_up hs]
      simp only
      split
      · split
        · exact LR.ok
        · trivial
      · trivial
  all_goals first
    | trivial
    | (split <;> first
        | exact LR.ok
        | trivial
        | (split <;> exact LR.ok))
theorem mapW_up {f f' : D → MH → R (Option D)} (a : ∀ x, LR h' (f x []) (f' x h')) : ∀ xs, LR h' (mapW f xs []) (mapW f' xs h')
  | [] => LR.ok
  | x :: xs => by
    unfold mapW
    exact (a x).bind fun o => (mapW_up a xs).bind fun ys => LR.ok
theorem anyW_up {w : Bool} {f f' : D → MH → R (Option Bool)} (a : ∀ x, LR h' (f x []) (f' x h')) : ∀ xs, LR h' (anyW w f xs []) (anyW w f' xs h')
  | [] => LR.ok
  | x :: xs => by
    unfold anyW
    refine (a x).bind fun o => ?_
    cases o with
    | none => exact anyW_up a xs
    | some b =>
      by_cases hb : (b == w) = true
      · simp only [hb, if_true]
        exact LR.ok
      · simp only [hb, if_false]
        exact anyW_up a xs
theorem forM_up {f f' : D → Fr → MH → RS} (a : ∀ x fr, LS h' (f x fr []) (f' x fr h')) : ∀ xs fr, LS h' (forM f xs fr []) (forM f' xs fr h')
  | [], fr => ⟨rfl, rfl⟩
  | x :: xs, fr => by
    unfold forM
    have q := a x fr
    cases hr : f x fr [] with
    | stk => trivial
    | nx fr1 h1 =>
      rw [hr] at q
      obtain ⟨rfl, e⟩ := q
      rw [e]
      exact forM_up a xs fr1
    | cnt fr1 h1 =>
      rw [hr] at q
      obtain ⟨rfl, e⟩ := q
      rw [e]
      exact forM_up a xs fr1
    | brk fr1 h1 =>
      rw [hr] at q
      obtain ⟨rfl, e⟩ := q
      rw [e]
      exact ⟨rfl, rfl⟩
    | ret d h1 =>
      rw [hr] at q
      obtain ⟨rfl, e⟩ := q
      rw [e]
      exact ⟨rfl, rfl⟩
    | exc c fr1 h1 =>
      rw [hr] at q
      obtain ⟨rfl, e⟩ := q
      rw [e]
      exact ⟨rfl, rfl⟩
theorem whileM_up {c c' : Fr → MH → R Bool} {f f' : Fr → MH → RS} (a : ∀ fr, LR h' (c fr []) (c' fr h')) (b : ∀ fr, LS h' (f fr []) (f' fr h')) : ∀ n fr, LS h' (whileM c f n fr []) (whileM c' f' n fr h')
  | 0, fr => trivial
  | n + 1, fr => by
    unfold whileM
    have q := a fr
    cases hr : c fr [] with
    | stk => trivial
    | exc x h1 =>
      rw [hr] at q
      obtain ⟨rfl, e⟩ := q
      rw [e]
      exact ⟨rfl, rfl⟩
    | ok t h1 =>
      rw [hr] at q
      obtain ⟨rfl, e⟩ := q
      rw [e]
      cases t with
      | false => exact ⟨rfl, rfl⟩
      | true =>
        have q2 := b fr
        show LS h' (match f fr [] with
          | .nx fr1 h2 => whileM c f n fr1 h2
          | .cnt fr1 h2 => whileM c f n fr1 h2
          | .brk fr1 h2 => .nx fr1 h2
          | r => r) (match f' fr h' with
          | .nx fr1 h2 => whileM c' f' n fr1 h2
          | .cnt fr1 h2 => whileM c' f' n fr1 h2
          | .brk fr1 h2 => .nx fr1 h2
          | r => r)
        cases hr2 : f fr [] with
        | stk => trivial
        | nx fr1 h1 =>
          rw [hr2] at q2
          obtain ⟨rfl, e⟩ := q2
          rw [e]
          exact whileM_up a b n fr1
        | cnt fr1 h1 =>
          rw [hr2] at q2
          obtain ⟨rfl, e⟩ := q2
          rw [e]
          exact whileM_up a b n fr1
        | brk fr1 h1 =>
          rw [hr2] at q2
          obtain ⟨rfl, e⟩ := q2
          rw [e]
          exact ⟨rfl, rfl⟩
        | ret d h1 =>
          rw [hr2] at q2
          obtain ⟨rfl, e⟩ := q2
          rw [e]
          exact ⟨rfl, rfl⟩
        | exc c fr1 h1 =>
          rw [hr2] at q2
          obtain ⟨rfl, e⟩ := q2
          rw [e]
          exact ⟨rfl, rfl⟩
end

/-! ### which texts change nothing -/
mutual
def pE (P : Nat → Bool) : E → Bool
  | .k _ | .var _ | .glb _ | .nop => true
  | .bin _ a b | .cmp _ a b | .ix a b => pE P a && pE P b
  | .neg a | .bnot a => pE P a
  | .chn _ _ a b c => pE P a && pE P b && pE P c
  | .bop _ es | .tup es | .bi _ es | .fs es => pEs P es
  | .ife c a b => pC P c && pE P a && pE P b
  | .sl a lo hi => pE P a && pE P lo && pE P hi
  | .lst m es => !m && pEs P es
  | .call f es => P f && pEs P es
  | .me _ a es => pE P a && pEs P es
  | .lam _ | .app _ => false
  | .lc _ _ it ifs e | .gen _ _ _ it ifs e => pI P it && pCs P ifs && pE P e
def pEs (P : Nat → Bool) : Es → Bool
  | .nil => true
  | .cons e es => pE P e && pEs P es
def pC (P : Nat → Bool) : Ct → Bool
  | .v e => pE P e
  | .nt a => pC P a
  | .bop _ cs => pCs P cs
  | .ife c a b => pC P c && pC P a && pC P b
  | .cmp _ a b => pE P a && pE P b
  | .chn _ _ a b c => pE P a && pE P b && pE P c
def pCs (P : Nat → Bool) : Cs → Bool
  | .nil => true
  | .cons c cs => pC P c && pCs P cs
def pI (P : Nat → Bool) : Iw → Bool
  | .e a => pE P a
  | .rng es => pEs P es
end
mutual
def pS (P : Nat → Bool) : S → Bool
  | .set _ e | .ret e | .exp e => pE P e
  | .par _ es => pEs P es
  | .sub _ _ _ => false
  | .ife c a b => pC P c && pSs P a && pSs P b
  | .for_ _ it b => pI P it && pSs P b
  | .whl _ c b => pC P c && pSs P b
  | .tri b _ => pSs P b
  | .retn | .rai _ | .doc | .pas | .cnt | .brk => true
def pSs (P : Nat → Bool) : Ss → Bool
  | .nil => true
  | .cons s r => pS P s && pSs P r
end
section
variable {g : Pg} {cf cf' : CF} {P : Nat → Bool} {h' : MH}
mutual
theorem evE_up (hc : ∀ f os os' xs, P f = true → LR h' (cf (.fn f) os xs []) (cf' (.fn f) os' xs h')) : ∀ (e : E), pE P e = true → ∀ o o' fr, LR h' (evE g cf o e fr []) (evE g cf' o' e fr h')
  | .k d, _, o, o', fr => by unfold evE; exact LR.ok
  | .var i, _, o, o', fr => by unfold evE; exact LR.opt fun _ z => z
  | .glb i, _, o, o', fr => by unfold evE; exact LR.opt fun _ z => z
  | .bin op a b, p, o, o', fr => by
    unfold pE at p
    rw [Bool.and_eq_true] at p
    unfold evE
    exact (evE_up hc a p.1 o o' fr).bind fun x => (evE_up hc b p.2 o o' fr).bind fun y => binV_up op x y
  | .neg a, p, o, o', fr => by
    unfold pE at p
    unfold evE
    refine (evE_up hc a p o o' fr).bind fun x => ?_
    cases x <;> first | exact LR.ok | trivial
  | .bnot a, p, o, o', fr => by
    unfold pE at p
    unfold evE
    refine (evE_up hc a p o o' fr).bind fun x => ?_
    cases x <;> first | exact LR.ok | trivial
  | .cmp op a b, p, o, o', fr => by
    unfold pE at p
    rw [Bool.and_eq_true] at p
    unfold evE
    refine (evE_up hc a p.1 o o' fr).bind fun x => (evE_up hc b p.2 o o' fr).bind fun y => ?_
    cases q : cmpV op x y [] with
    | none => trivial
    | some c =>
      rw [cmpV_up q]
      exact LR.ok
  | .chn op op2 a b c, p, o, o', fr => by
    unfold pE at p
    rw [Bool.and_eq_true, Bool.and_eq_true] at p
    unfold evE
    refine (evE_up hc a p.1.1 o o' fr).bind fun x => (evE_up hc b p.1.2 o o' fr).bind fun y => ?_
    cases q : cmpV op x y [] with
    | none => trivial
    | some t =>
      rw [cmpV_up q]
      cases t with
      | false => exact LR.ok
      | true =>
        refine (evE_up hc c p.2 o o' fr).bind fun z => ?_
        cases q2 : cmpV op2 y z [] with
        | none => trivial
        | some c =>
          rw [cmpV_up q2]
          exact LR.ok
  | .bop an es, p, o, o', fr => by
    unfold pE at p
    unfold evE
    exact (evB_up hc an es p o o' fr).bind fun b => LR.ok
  | .ife c a b, p, o, o', fr => by
    unfold pE at p
    rw [Bool.and_eq_true, Bool.and_eq_true] at p
    unfold evE
    refine (evT_up hc c p.1.1 o o' fr).bind fun t => ?_
    cases t with
    | true => exact evE_up hc a p.1.2 o o' fr
    | false => exact evE_up hc b p.2 o o' fr
  | .ix a b, p, o, o', fr => by
    unfold pE at p
    rw [Bool.and_eq_true] at p
    unfold evE
    exact (evE_up hc a p.1 o o' fr).bind fun x => (evE_up hc b p.2 o o' fr).bind fun y => LR.opt fun _ z => ixV_up z
  | .sl a lo hi, p, o, o', fr => by
    unfold pE at p
    rw [Bool.and_eq_true, Bool.and_eq_true] at p
    unfold evE
    refine (evE_up hc a p.1.1 o o' fr).bind fun x => (evE_up hc lo p.1.2 o o' fr).bind fun l => ?_
    cases opE lo.isNop l with
    | none => trivial
    | some l2 =>
      refine (evE_up hc hi p.2 o o' fr).bind fun u => ?_
      cases opE hi.isNop u with
      | none => trivial
      | some u2 => exact LR.opt fun _ z => slV_up z
  | .nop, _, o, o', fr => by unfold evE; exact LR.ok
  | .tup es, p, o, o', fr => by
    unfold pE at p
    unfold evE
    refine (evEs_up hc es p o o' fr).bind fun xs => ?_
    split
    · exact LR.ok
    · trivial
  | .lst m es, p, o, o', fr => by
    unfold pE at p
    rw [Bool.and_eq_true, Bool.not_eq_true'] at p
    unfold evE
    rw [p.1]
    refine (evEs_up hc es p.2 o o' fr).bind fun xs => ?_
    split
    · exact LR.ok
    · trivial
  | .call f es, p, o, o', fr => by
    unfold pE at p
    rw [Bool.and_eq_true] at p
    unfold evE
    exact (evEs_up hc es p.2 o o' fr).bind fun xs => hc f _ _ xs p.1
  | .bi b es, p, o, o', fr => by
    unfold pE at p
    unfold evE
    exact (evEs_up hc es p o o' fr).bind fun xs => biV_up b xs
  | .me m a es, p, o, o', fr => by
    unfold pE at p
    rw [Bool.and_eq_true] at p
    unfold evE
    refine (evE_up hc a p.1 o o' fr).bind fun x => ?_
    cases x <;> first | trivial | exact (evEs_up hc es p.2 o o' fr).bind fun xs => meV_up m _ xs
  | .lam l, p, _, _, _ => by unfold pE at p; cases p
  | .app i, p, _, _, _ => by unfold pE at p; cases p
  | .lc own t it ifs e, p, o, o', fr => by
    unfold pE at p
    rw [Bool.and_eq_true, Bool.and_eq_true] at p
    unfold evE
    refine (evI_up hc it p.1.1 o o' fr).bind fun xs => ?_
    split
    · refine (mapW_up (fun x => ?_) xs).bind fun ys => LR.ok
      cases asg t x (wipeF fr own) with
      | none => trivial
      | some fr1 =>
        refine (evTs_up hc true ifs p.1.2 _ _ fr1).noX.bind fun b => ?_
        cases b with
        | true => exact (evE_up hc e p.2 _ _ fr1).noX.bind fun y => LR.ok
        | false => exact LR.ok
    · trivial
  | .gen q own t it ifs e, p, o, o', fr => by
    unfold pE at p
    rw [Bool.and_eq_true, Bool.and_eq_true] at p
    unfold evE
    refine (evI_up hc it p.1.1 o o' fr).bind fun xs => ?_
    refine (anyW_up (fun x => ?_) xs).bind fun ys => LR.ok
    cases asg t x (wipeF fr own) with
    | none => trivial
    | some fr1 =>
      refine (evTs_up hc true ifs p.1.2 _ _ fr1).noX.bind fun b => ?_
      cases b with
      | true =>
        refine (evE_up hc e p.2 _ _ fr1).noX.bind fun y => ?_
        cases y <;> first | exact LR.ok | trivial
      | false => exact LR.ok
  | .fs es, p, o, o', fr => by
    unfold pE at p
    unfold evE
    exact (evJ_up hc [] es p o o' fr).bind fun l => LR.ok
theorem evJ_up (hc : ∀ f os os' xs, P f = true → LR h' (cf (.fn f) os xs []) (cf' (.fn f) os' xs h')) : ∀ (acc : List Nat) (es : Es), pEs P es = true → ∀ o o' fr, LR h' (evJ g cf o acc es fr []) (evJ g cf' o' acc es fr h')
  | acc, .nil, _, o, o', fr => by unfold evJ; exact LR.ok
  | acc, .cons e es, p, o, o', fr => by
    unfold pEs at p
    rw [Bool.and_eq_true] at p
    unfold evJ
    refine (evE_up hc e p.1 o o' fr).bind fun x => ?_
    cases txtV x with
    | none => trivial
    | some t =>
      simp only
      split
      · exact evJ_up hc _ es p.2 o o' fr
      · trivial
theorem evEs_up (hc : ∀ f os os' xs, P f = true → LR h' (cf (.fn f) os xs []) (cf' (.fn f) os' xs h')) : ∀ (es : Es), pEs P es = true → ∀ o o' fr, LR h' (evEs g cf o es fr []) (evEs g cf' o' es fr h')
  | .nil, _, o, o', fr => by unfold evEs; exact LR.ok
  | .cons e es, p, o, o', fr => by
    unfold pEs at p
    rw [Bool.and_eq_true] at p
    unfold evEs
    exact (evE_up hc e p.1 o o' fr).bind fun x => (evEs_up hc es p.2 o o' fr).bind fun xs => LR.ok
theorem evB_up (hc : ∀ f os os' xs, P f = true → LR h' (cf (.fn f) os xs []) (cf' (.fn f) os' xs h')) : ∀ (an : Bool) (es : Es), pEs P es = true → ∀ o o' fr, LR h' (evB g cf o an es fr []) (evB g cf' o' an es fr h')
  | an, .nil, _, o, o', fr => by unfold evB; trivial
  | an, .cons e es, p, o, o', fr => by
    unfold pEs at p
    rw [Bool.and_eq_true] at p
    unfold evB
    refine (evE_up hc e p.1 o o' fr).bind fun x => ?_
    cases x with
    | bl b =>
      simp only
      split
      · exact LR.ok
      · split
        · exact evB_up hc an es p.2 o o' fr
        · exact LR.ok
    | _ => trivial
theorem evT_up (hc : ∀ f os os' xs, P f = true → LR h' (cf (.fn f) os xs []) (cf' (.fn f) os' xs h')) : ∀ (c : Ct), pC P c = true → ∀ o o' fr, LR h' (evT g cf o c fr []) (evT g cf' o' c fr h')
  | .v e, p, o, o', fr => by
    unfold pC at p
    unfold evT
    exact (evE_up hc e p o o' fr).bind fun x => LR.opt fun _ z => truV_up z
  | .nt a, p, o, o', fr => by
    unfold pC at p
    unfold evT
    exact (evT_up hc a p o o' fr).bind fun b => LR.ok
  | .bop an cs, p, o, o', fr => by
    unfold pC at p
    unfold evT
    exact evTs_up hc an cs p o o' fr
  | .ife c a b, p, o, o', fr => by
    unfold pC at p
    rw [Bool.and_eq_true, Bool.and_eq_true] at p
    unfold evT
    refine (evT_up hc c p.1.1 o o' fr).bind fun t => ?_
    cases t with
    | true => exact evT_up hc a p.1.2 o o' fr
    | false => exact evT_up hc b p.2 o o' fr
  | .cmp op a b, p, o, o', fr => by
    unfold pC at p
    rw [Bool.and_eq_true] at p
    unfold evT
    exact (evE_up hc a p.1 o o' fr).bind fun x => (evE_up hc b p.2 o o' fr).bind fun y => LR.opt fun _ z => cmpV_up z
  | .chn op op2 a b c, p, o, o', fr => by
    unfold pC at p
    rw [Bool.and_eq_true, Bool.and_eq_true] at p
    unfold evT
    refine (evE_up hc a p.1.1 o o' fr).bind fun x => (evE_up hc b p.1.2 o o' fr).bind fun y => ?_
    cases q : cmpV op x y [] with
    | none => trivial
    | some t =>
      rw [cmpV_up q]
      cases t with
      | false => exact LR.ok
      | true => exact (evE_up hc c p.2 o o' fr).bind fun z => LR.opt fun _ z => cmpV_up z
theorem evTs_up (hc : ∀ f os os' xs, P f = true → LR h' (cf (.fn f) os xs []) (cf' (.fn f) os' xs h')) : ∀ (an : Bool) (cs : Cs), pCs P cs = true → ∀ o o' fr, LR h' (evTs g cf o an cs fr []) (evTs g cf' o' an cs fr h')
  | an, .nil, _, o, o', fr => by unfold evTs; exact LR.ok
  | an, .cons c cs, p, o, o', fr => by
    unfold pCs at p
    rw [Bool.and_eq_true] at p
    unfold evTs
    refine (evT_up hc c p.1 o o' fr).bind fun b => ?_
    split
    · exact evTs_up hc an cs p.2 o o' fr
    · exact LR.ok
theorem evI_up (hc : ∀ f os os' xs, P f = true → LR h' (cf (.fn f) os xs []) (cf' (.fn f) os' xs h')) : ∀ (it : Iw), pI P it = true → ∀ o o' fr, LR h' (evI g cf o it fr []) (evI g cf' o' it fr h')
  | .e a, p, o, o', fr => by
    unfold pI at p
    unfold evI
    exact (evE_up hc a p o o' fr).bind fun x => LR.opt fun _ z => itemsOf_up z
  | .rng es, p, o, o', fr => by
    unfold pI at p
    unfold evI
    exact (evEs_up hc es p o o' fr).bind fun xs => LR.opt fun _ z => z
end
mutual
theorem evS_up (hc : ∀ f os os' xs, P f = true → LR h' (cf (.fn f) os xs []) (cf' (.fn f) os' xs h')) : ∀ (s : S), pS P s = true → ∀ o o' fr, LS h' (evS g cf o s fr []) (evS g cf' o' s fr h')
  | .set t e, p, o, o', fr => by
    unfold pS at p
    unfold evS
    refine (evE_up hc e p o o' fr).toS fun d => ?_
    cases asg t d fr with
    | none => trivial
    | some fr1 => exact ⟨rfl, rfl⟩
  | .par ts es, p, o, o', fr => by
    unfold pS at p
    unfold evS
    refine (evEs_up hc es p o o' fr).toS fun ds => ?_
    cases asgNs ts ds fr with
    | none => trivial
    | some fr1 => exact ⟨rfl, rfl⟩
  | .sub _ _ _, p, _, _, _ => by unfold pS at p; cases p
  | .ife c a b, p, o, o', fr => by
    unfold pS at p
    rw [Bool.and_eq_true, Bool.and_eq_true] at p
    unfold evS
    refine (evT_up hc c p.1.1 o o' fr).toS fun t => ?_
    cases t with
    | true => exact evSs_up hc a p.1.2 o o' fr
    | false => exact evSs_up hc b p.2 o o' fr
  | .for_ t it b, p, o, o', fr => by
    unfold pS at p
    rw [Bool.and_eq_true] at p
    unfold evS
    refine (evI_up hc it p.1 o o' fr).toS fun xs => forM_up (fun x fr1 => ?_) xs fr
    cases asg t x fr1 with
    | none => trivial
    | some fr2 => exact evSs_up hc b p.2 o o' fr2
  | .whl n c b, p, o, o', fr => by
    unfold pS at p
    rw [Bool.and_eq_true] at p
    unfold evS
    exact whileM_up (fun fr1 => evT_up hc c p.1 o o' fr1) (fun fr1 => evSs_up hc b p.2 o o' fr1) n fr
  | .ret e, p, o, o', fr => by
    unfold pS at p
    unfold evS
    exact (evE_up hc e p o o' fr).toS fun d => ⟨rfl, rfl⟩
  | .retn, _, o, o', fr => by unfold evS; exact ⟨rfl, rfl⟩
  | .rai c, _, o, o', fr => by unfold evS; exact ⟨rfl, rfl⟩
  | .tri b hs, p, o, o', fr => by
    unfold pS at p
    unfold evS
    have q := evSs_up hc b p o o' fr
    cases hr : evSs g cf o b fr [] with
    | stk => trivial
    | exc c fr1 h1 =>
      rw [hr] at q
      obtain ⟨rfl, e⟩ := q
      rw [e]
      simp only
      split
      · cases hdOf g c hs with
        | none => exact ⟨rfl, rfl⟩
        | some hd => cases hd <;> exact ⟨rfl, rfl⟩
      · trivial
    | nx fr1 h1 =>
      rw [hr] at q
      obtain ⟨rfl, e⟩ := q
      rw [e]
      exact ⟨rfl, rfl⟩
    | cnt fr1 h1 =>
      rw [hr] at q
      obtain ⟨rfl, e⟩ := q
      rw [e]
      exact ⟨rfl, rfl⟩
    | brk fr1 h1 =>
      rw [hr] at q
      obtain ⟨rfl, e⟩ := q
      rw [e]
      exact ⟨rfl, rfl⟩
    | ret d h1 =>
      rw [hr] at q
      obtain ⟨rfl, e⟩ := q
      rw [e]
      exact ⟨rfl, rfl⟩
  | .exp e, p, o, o', fr => by
    unfold pS at p
    unfold evS
    exact (evE_up hc e p o o' fr).toS fun d => ⟨rfl, rfl⟩
  | .doc, _, o, o', fr => by unfold evS; exact ⟨rfl, rfl⟩
  | .pas, _, o, o', fr => by unfold evS; exact ⟨rfl, rfl⟩
  | .cnt, _, o, o', fr => by unfold evS; exact ⟨rfl, rfl⟩
  | .brk, _, o, o', fr => by unfold evS; exact ⟨rfl, rfl⟩
theorem evSs_up (hc : ∀ f os os' xs, P f = true → LR h' (cf (.fn f) os xs []) (cf' (.fn f) os' xs h')) : ∀ (s : Ss), pSs P s = true → ∀ o o' fr, LS h' (evSs g cf o s fr []) (evSs g cf' o' s fr h')
  | .nil, _, o, o', fr => by unfold evSs; exact ⟨rfl, rfl⟩
  | .cons s r, p, o, o', fr => by
    unfold pSs at p
    rw [Bool.and_eq_true] at p
    unfold evSs
    have q := evS_up hc s p.1 o o' fr
    cases hr : evS g cf o s fr [] with
    | stk => trivial
    | nx fr1 h1 =>
      rw [hr] at q
      obtain ⟨rfl, e⟩ := q
      rw [e]
      exact evSs_up hc r p.2 o o' fr1
    | exc c fr1 h1 =>
      rw [hr] at q
      obtain ⟨rfl, e⟩ := q
      rw [e]
      exact ⟨rfl, rfl⟩
    | cnt fr1 h1 =>
      rw [hr] at q
      obtain ⟨rfl, e⟩ := q
      rw [e]
      exact ⟨rfl, rfl⟩
    | brk fr1 h1 =>
      rw [hr] at q
      obtain ⟨rfl, e⟩ := q
      rw [e]
      exact ⟨rfl, rfl⟩
    | ret d h1 =>
      rw [hr] at q
      obtain ⟨rfl, e⟩ := q
      rw [e]
      exact ⟨rfl, rfl⟩
end
end
/-- these defs change nothing, and call only such -/
def pureB (g : Pg) (l : List Nat) : Bool := l.all fun i => match g.fns[i]? with
  | some F => pSs (fun j => l.contains j) F.body
  | none => false
theorem callK_up {g : Pg} {l : List Nat} (hp : pureB g l = true) {h' : MH} : ∀ (k j : Nat) (f : Nat) os os' xs, l.contains f = true → LR h' (callK g k (.fn f) os xs []) (callK g (k + j) (.fn f) os' xs h')
  | 0, j, f, os, os', xs, _ => trivial
  | k + 1, j, f, os, os', xs, hf => by
    have e : k + 1 + j = (k + j) + 1 := by omega
    rw [e]
    unfold callK
    have h1 := List.all_eq_true.mp hp f (by simpa using hf)
    cases hF : g.fns[f]? with
    | none => trivial
    | some F =>
      rw [hF] at h1
      simp only
      split
      · have q := evSs_up (g := g) (cf := callK g k) (cf' := callK g (k + j)) (P := fun j => l.contains j) (h' := h') (fun f os os' xs hf => callK_up hp k j f os os' xs hf) F.body h1 os os' ((xs ++ F.dfl.drop (xs.length + F.dfl.length - F.ar)).map some ++ List.replicate (F.nl - F.ar) none)
        cases hr : evSs g (callK g k) os F.body ((xs ++ F.dfl.drop (xs.length + F.dfl.length - F.ar)).map some ++ List.replicate (F.nl - F.ar) none) [] with
        | stk => trivial
        | nx fr1 h1 =>
          rw [hr] at q
          obtain ⟨rfl, e⟩ := q
          rw [e]
          exact ⟨rfl, rfl⟩
        | exc c fr1 h1 =>
          rw [hr] at q
          obtain ⟨rfl, e⟩ := q
          rw [e]
          exact ⟨rfl, rfl⟩
        | cnt fr1 h1 => trivial
        | brk fr1 h1 => trivial
        | ret d h1 =>
          rw [hr] at q
          obtain ⟨rfl, e⟩ := q
          rw [e]
          simp only
          split
          · trivial
          · exact ⟨rfl, rfl⟩
      · trivial
theorem callK_lift {g : Pg} {l : List Nat} (hp : pureB g l = true) {h' h0 : MH} {k k' f : Nat} {os os' : List Fr} {xs : List D} {d : D} (hf : l.contains f = true) (hk : k ≤ k') (e : callK g k (.fn f) os xs [] = .ok d h0) : callK g k' (.fn f) os' xs h' = .ok d h' := by
  obtain ⟨j, rfl⟩ := Nat.exists_eq_add_of_le hk
  have q := callK_up hp (h' := h') k j f os os' xs hf
  rw [e] at q
  exact q.2
theorem callK_liftX {g : Pg} {l : List Nat} (hp : pureB g l = true) {h' h0 : MH} {k k' f c : Nat} {os os' : List Fr} {xs : List D} (hf : l.contains f = true) (hk : k ≤ k') (e : callK g k (.fn f) os xs [] = .exc c h0) : callK g k' (.fn f) os' xs h' = .exc c h' := by
  obtain ⟨j, rfl⟩ := Nat.exists_eq_add_of_le hk
  have q := callK_up hp (h' := h') k j f os os' xs hf
  rw [e] at q
  exact q.2
end FS

-- text FsW
set_option Elab.async false
set_option linter.all false
set_option maxHeartbeats 1000000
/-! FsW: texts cut at one sign. -/
namespace FS
/-- no sign c stands in x -/
def noC (c : Nat) (x : List Nat) : Bool := x.all fun a => !Nat.beq a c
theorem pre1 (c a : Nat) (r : List Nat) : TL.pre [c] (a :: r) = Nat.beq a c := by
  show ([a] == [c]) = _
  cases h : Nat.beq a c with
  | true =>
    rw [Nat.eq_of_beq_eq_true h]
    exact beq_self_eq_true _
  | false =>
    rw [beq_eq_false_iff_ne]
    intro e
    injection e with e
    rw [e, Nat.beq_refl] at h
    cases h
theorem spl_none {c : Nat} : ∀ {x acc : List Nat}, noC c x = true → TL.spl [c] 0 acc x = [acc ++ x]
  | [], acc, _ => by rw [TL.spl_nil, List.append_nil]
  | a :: x, acc, h => by
    unfold noC at h
    rw [List.all_cons, Bool.and_eq_true, Bool.not_eq_true'] at h
    rw [TL.spl_miss (by rw [pre1]; exact h.1), spl_none (x := x) h.2, List.append_assoc]
    rfl
theorem spl_one {c : Nat} {y : List Nat} : ∀ {x acc : List Nat}, noC c x = true → TL.spl [c] 0 acc (x ++ c :: y) = (acc ++ x) :: TL.spl [c] 0 [] y
  | [], acc, _ => by
    rw [List.nil_append, TL.spl_hit (by rw [pre1]; exact Nat.beq_refl c), List.append_nil]
    rfl
  | a :: x, acc, h => by
    unfold noC at h
    rw [List.all_cons, Bool.and_eq_true, Bool.not_eq_true'] at h
    rw [List.cons_append, TL.spl_miss (by rw [pre1]; exact h.1), spl_one (x := x) h.2, List.append_assoc]
    rfl
theorem spl_three {c : Nat} {x y z : List Nat} (hx : noC c x = true) (hy : noC c y = true) (hz : noC c z = true) : TL.spl [c] 0 [] (x ++ c :: (y ++ c :: z)) = [x, y, z] := by
  rw [spl_one hx, spl_one hy, spl_none hz]
  rfl
end FS

-- text K01H
set_option Elab.async false
set_option linter.all false
set_option maxRecDepth 100000
set_option maxHeartbeats 0
namespace K01
open PySem FS
def f_read_answer : Fn := { ar := 2, nl := 5, dfl := [], lamf := false, body :=
  (.cons (.ife (.bop false (.cons (.cmp .notin (.var 0) (.glb 0)) (.cons (.cmp .gt (.bi .len (.cons (.var 1) .nil)) (.glb 1)) .nil))) (.cons (.rai 1)
  .nil) .nil)
  (.cons (.set (.nm 2) (.me .strip (.var 1) (.cons (.k (.str [32])) .nil)))
  (.cons (.ife (.cmp .eq (.var 2) (.k (.str []))) (.cons (.ret (.k (.str [])))
  .nil) .nil)
  (.cons (.ife (.cmp .eq (.var 0) (.k (.str [116, 101, 120, 116]))) (.cons (.ife (.cmp .isin (.k (.str [10])) (.var 2)) (.cons (.rai 1)
  .nil) .nil)
  (.cons (.ret (.me .join (.k (.str [32])) (.cons (.lc [3] (.nm 3) (.e (.me .split (.var 2) (.cons (.k (.str [32])) .nil))) (.cons (.cmp .ne (.var 3) (.k (.str []))) .nil) (.var 3)) .nil)))
  .nil)) .nil)
  (.cons (.ife (.cmp .eq (.var 0) (.k (.str [108, 105, 110, 101, 115]))) (.cons (.ret (.me .join (.k (.str [10])) (.cons (.lc [4] (.nm 4) (.e (.me .split (.var 2) (.cons (.k (.str [10])) .nil))) .nil (.me .rstrip (.var 4) (.cons (.k (.str [32])) .nil))) .nil)))
  .nil) .nil)
  (.cons (.ret (.call 1 (.cons (.var 0) (.cons (.var 2) .nil))))
  .nil)))))) }
def f_read_special : Fn := { ar := 2, nl := 8, dfl := [], lamf := false, body :=
  (.cons (.ife (.cmp .eq (.var 0) (.k (.str [119, 104, 111, 108, 101]))) (.cons (.ret (.bi .str (.cons (.call 4 (.cons (.var 1) .nil)) .nil)))
  .nil) .nil)
  (.cons (.ife (.cmp .eq (.var 0) (.k (.str [110, 117, 109, 98, 101, 114]))) (.cons (.ret (.call 6 (.cons (.call 5 (.cons (.var 1) .nil)) .nil)))
  .nil) .nil)
  (.cons (.ife (.cmp .eq (.var 0) (.k (.str [100, 97, 116, 101]))) (.cons (.set (.tup [(.nm 2), (.nm 3), (.nm 4)]) (.call 8 (.cons (.var 1) .nil)))
  (.cons (.ret (.fs (.cons (.var 2) (.cons (.k (.str [45])) (.cons (.call 3 (.cons (.var 3) .nil)) (.cons (.k (.str [45])) (.cons (.call 3 (.cons (.var 4) .nil)) .nil)))))))
  .nil)) .nil)
  (.cons (.ife (.cmp .eq (.var 0) (.k (.str [116, 105, 109, 101]))) (.cons (.set (.tup [(.nm 5), (.nm 6)]) (.call 10 (.cons (.var 1) .nil)))
  (.cons (.ret (.fs (.cons (.call 3 (.cons (.var 5) .nil)) (.cons (.k (.str [58])) (.cons (.call 3 (.cons (.var 6) .nil)) .nil)))))
  .nil)) .nil)
  (.cons (.ife (.cmp .eq (.var 0) (.k (.str [109, 97, 105, 108]))) (.cons (.ret (.call 11 (.cons (.var 1) .nil)))
  .nil) .nil)
  (.cons (.ife (.cmp .eq (.var 0) (.k (.str [108, 105, 110, 107]))) (.cons (.ret (.call 13 (.cons (.var 1) .nil)))
  .nil) .nil)
  (.cons (.ife (.cmp .eq (.var 0) (.k (.str [112, 104, 111, 110, 101]))) (.cons (.ret (.call 14 (.cons (.var 1) .nil)))
  .nil) .nil)
  (.cons (.set (.nm 7) (.me .lower (.var 1) .nil))
  (.cons (.ife (.cmp .notin (.var 7) (.bin .add (.glb 2) (.glb 3))) (.cons (.rai 1)
  .nil) .nil)
  (.cons (.ret (.ife (.cmp .isin (.var 7) (.glb 2)) (.k (.str [121, 101, 115])) (.k (.str [110, 111]))))
  .nil)))))))))) }
def f_is_figures : Fn := { ar := 2, nl := 3, dfl := [], lamf := false, body :=
  (.cons (.ret (.bop true (.cons (.chn .le .le (.k (.int 1)) (.bi .len (.cons (.var 0) .nil)) (.var 1)) (.cons (.gen .all [2] (.nm 2) (.e (.var 0)) .nil (.cmp .isin (.var 2) (.glb 4))) .nil))))
  .nil) }
def f_two_figures : Fn := { ar := 1, nl := 1, dfl := [], lamf := false, body :=
  (.cons (.ret (.ife (.cmp .gt (.var 0) (.k (.int 9))) (.bi .str (.cons (.var 0) .nil)) (.bin .add (.k (.str [48])) (.bi .str (.cons (.var 0) .nil)))))
  .nil) }
def f_whole_of : Fn := { ar := 1, nl := 6, dfl := [], lamf := false, body :=
  (.cons (.set (.nm 1) (.ife (.cmp .isin (.sl (.var 0) .nop (.k (.int 1))) (.tup (.cons (.k (.str [45])) (.cons (.k (.str [43])) .nil)))) (.sl (.var 0) (.k (.int 1)) .nop) (.var 0)))
  (.cons (.set (.nm 2) (.me .split (.var 1) (.cons (.k (.str [44])) .nil)))
  (.cons (.set (.nm 3) (.bop true (.cons (.gen .all [4] (.nm 4) (.e (.sl (.var 2) (.k (.int 1)) .nop)) .nil (.cmp .eq (.bi .len (.cons (.var 4) .nil)) (.k (.int 3)))) (.cons (.bop false (.cons (.cmp .eq (.bi .len (.cons (.var 2) .nil)) (.k (.int 1))) (.cons (.chn .le .le (.k (.int 1)) (.bi .len (.cons (.ix (.var 2) (.k (.int 0))) .nil)) (.k (.int 3))) .nil))) .nil))))
  (.cons (.set (.nm 5) (.me .join (.k (.str [])) (.cons (.var 2) .nil)))
  (.cons (.ife (.bop false (.cons (.nt (.v (.var 3))) (.cons (.nt (.v (.call 2 (.cons (.var 5) (.cons (.k (.int 9)) .nil))))) .nil))) (.cons (.rai 1)
  .nil) .nil)
  (.cons (.ret (.ife (.cmp .eq (.sl (.var 0) .nop (.k (.int 1))) (.k (.str [45]))) (.bin .sub (.k (.int 0)) (.bi .int (.cons (.var 5) .nil))) (.bi .int (.cons (.var 5) .nil))))
  .nil)))))) }
def f_number_of : Fn := { ar := 1, nl := 6, dfl := [], lamf := false, body :=
  (.cons (.set (.tup [(.nm 1), (.nm 2), (.nm 3)]) (.me .part (.var 0) (.cons (.k (.str [46])) .nil)))
  (.cons (.ife (.bop true (.cons (.cmp .ne (.var 2) (.k (.str []))) (.cons (.nt (.v (.call 2 (.cons (.var 3) (.cons (.k (.int 3)) .nil))))) .nil))) (.cons (.rai 1)
  .nil) .nil)
  (.cons (.set (.nm 4) (.call 4 (.cons (.var 1) .nil)))
  (.cons (.set (.nm 5) (.bi .int (.cons (.sl (.bin .add (.var 3) (.k (.str [48, 48, 48]))) .nop (.k (.int 3))) .nil)))
  (.cons (.ret (.ife (.cmp .eq (.sl (.var 1) .nop (.k (.int 1))) (.k (.str [45]))) (.bin .sub (.bin .mul (.k (.int 1000)) (.var 4)) (.var 5)) (.bin .add (.bin .mul (.k (.int 1000)) (.var 4)) (.var 5))))
  .nil))))) }
def f_number_text : Fn := { ar := 1, nl := 3, dfl := [], lamf := false, body :=
  (.cons (.set (.nm 1) (.bi .max2 (.cons (.var 0) (.cons (.bin .sub (.k (.int 0)) (.var 0)) .nil))))
  (.cons (.set (.nm 2) (.me .rstrip (.sl (.bin .add (.k (.str [48, 48, 48])) (.bi .str (.cons (.bin .mod (.var 1) (.k (.int 1000))) .nil))) (.bin .sub (.k (.int 0)) (.k (.int 3))) .nop) (.cons (.k (.str [48])) .nil)))
  (.cons (.ret (.bin .add (.bin .add (.ife (.cmp .lt (.var 0) (.k (.int 0))) (.k (.str [45])) (.k (.str []))) (.bi .str (.cons (.bin .fdiv (.var 1) (.k (.int 1000))) .nil))) (.ife (.cmp .ne (.var 2) (.k (.str []))) (.bin .add (.k (.str [46])) (.var 2)) (.k (.str [])))))
  .nil))) }
def f_days_in : Fn := { ar := 2, nl := 3, dfl := [], lamf := false, body :=
  (.cons (.set (.nm 2) (.bop true (.cons (.cmp .eq (.bin .mod (.var 0) (.k (.int 4))) (.k (.int 0))) (.cons (.bop false (.cons (.cmp .ne (.bin .mod (.var 0) (.k (.int 100))) (.k (.int 0))) (.cons (.cmp .eq (.bin .mod (.var 0) (.k (.int 400))) (.k (.int 0))) .nil))) .nil))))
  (.cons (.ret (.ife (.cmp .eq (.var 1) (.k (.int 2))) (.ife (.v (.var 2)) (.k (.int 29)) (.k (.int 28))) (.ife (.cmp .isin (.var 1) (.tup (.cons (.k (.int 4)) (.cons (.k (.int 6)) (.cons (.k (.int 9)) (.cons (.k (.int 11)) .nil)))))) (.k (.int 30)) (.k (.int 31)))))
  .nil)) }
def f_date_of : Fn := { ar := 1, nl := 7, dfl := [], lamf := false, body :=
  (.cons (.for_ (.tup [(.nm 1), (.nm 2)]) (.e (.tup (.cons (.tup (.cons (.k (.str [45])) (.cons (.tup (.cons (.k (.int 0)) (.cons (.k (.int 1)) (.cons (.k (.int 2)) .nil)))) .nil))) (.cons (.tup (.cons (.k (.str [46])) (.cons (.tup (.cons (.k (.int 2)) (.cons (.k (.int 1)) (.cons (.k (.int 0)) .nil)))) .nil))) (.cons (.tup (.cons (.k (.str [47])) (.cons (.tup (.cons (.k (.int 2)) (.cons (.k (.int 0)) (.cons (.k (.int 1)) .nil)))) .nil))) .nil))))) (.cons (.set (.nm 3) (.me .split (.var 0) (.cons (.var 1) .nil)))
  (.cons (.ife (.cmp .eq (.bi .len (.cons (.var 3) .nil)) (.k (.int 3))) (.cons (.par [4, 5, 6] (.cons (.ix (.var 3) (.ix (.var 2) (.k (.int 0)))) (.cons (.ix (.var 3) (.ix (.var 2) (.k (.int 1)))) (.cons (.ix (.var 3) (.ix (.var 2) (.k (.int 2)))) .nil))))
  (.cons (.ife (.bop false (.cons (.cmp .ne (.bi .len (.cons (.var 4) .nil)) (.k (.int 4))) (.cons (.nt (.v (.call 2 (.cons (.var 4) (.cons (.k (.int 4)) .nil))))) (.cons (.nt (.v (.call 2 (.cons (.bin .add (.var 5) (.var 6)) (.cons (.k (.int 4)) .nil))))) (.cons (.cmp .isin (.k (.str [])) (.tup (.cons (.var 5) (.cons (.var 6) .nil)))) .nil))))) (.cons (.rai 1)
  .nil) .nil)
  (.cons (.ret (.call 9 (.cons (.bi .int (.cons (.var 4) .nil)) (.cons (.bi .int (.cons (.var 5) .nil)) (.cons (.bi .int (.cons (.var 6) .nil)) (.cons (.bi .len (.cons (.var 5) .nil)) (.cons (.bi .len (.cons (.var 6) .nil)) .nil)))))))
  .nil))) .nil)
  .nil)))
  (.cons (.rai 1)
  .nil)) }
def f_real_day : Fn := { ar := 5, nl := 5, dfl := [], lamf := false, body :=
  (.cons (.ife (.bop false (.cons (.cmp .gt (.bi .max2 (.cons (.var 3) (.cons (.var 4) .nil))) (.k (.int 2))) (.cons (.nt (.chn .le .le (.k (.int 1900)) (.var 0) (.k (.int 2999)))) (.cons (.nt (.chn .le .le (.k (.int 1)) (.var 1) (.k (.int 12)))) .nil)))) (.cons (.rai 1)
  .nil) .nil)
  (.cons (.ife (.nt (.chn .le .le (.k (.int 1)) (.var 2) (.call 7 (.cons (.var 0) (.cons (.var 1) .nil))))) (.cons (.rai 1)
  .nil) .nil)
  (.cons (.ret (.tup (.cons (.var 0) (.cons (.var 1) (.cons (.var 2) .nil)))))
  .nil))) }
def f_time_of : Fn := { ar := 1, nl := 10, dfl := [], lamf := false, body :=
  (.cons (.set (.nm 1) (.me .lower (.var 0) .nil))
  (.cons (.set (.nm 2) (.ife (.cmp .isin (.sl (.var 1) (.neg (.k (.int 2))) .nop) (.tup (.cons (.k (.str [97, 109])) (.cons (.k (.str [112, 109])) .nil)))) (.sl (.var 1) (.neg (.k (.int 2))) .nop) (.k (.str []))))
  (.cons (.set (.nm 3) (.ife (.cmp .ne (.var 2) (.k (.str []))) (.me .strip (.sl (.var 1) .nop (.neg (.k (.int 2)))) (.cons (.k (.str [32])) .nil)) (.var 1)))
  (.cons (.set (.tup [(.nm 4), (.nm 5), (.nm 6)]) (.me .part (.var 3) (.cons (.k (.str [58])) .nil)))
  (.cons (.set (.nm 7) (.ife (.cmp .ne (.var 5) (.k (.str []))) (.bop true (.cons (.cmp .eq (.bi .len (.cons (.var 6) .nil)) (.k (.int 2))) (.cons (.call 2 (.cons (.var 6) (.cons (.k (.int 2)) .nil))) .nil))) (.cmp .ne (.var 2) (.k (.str [])))))
  (.cons (.ife (.bop false (.cons (.nt (.v (.call 2 (.cons (.var 4) (.cons (.k (.int 2)) .nil))))) (.cons (.nt (.v (.var 7))) .nil))) (.cons (.rai 1)
  .nil) .nil)
  (.cons (.par [8, 9] (.cons (.bi .int (.cons (.var 4) .nil)) (.cons (.ife (.cmp .ne (.var 5) (.k (.str []))) (.bi .int (.cons (.var 6) .nil)) (.k (.int 0))) .nil)))
  (.cons (.ife (.bop false (.cons (.cmp .gt (.var 9) (.k (.int 59))) (.cons (.bop true (.cons (.cmp .ne (.var 2) (.k (.str []))) (.cons (.nt (.chn .le .le (.k (.int 1)) (.var 8) (.k (.int 12)))) .nil))) (.cons (.bop true (.cons (.cmp .eq (.var 2) (.k (.str []))) (.cons (.cmp .gt (.var 8) (.k (.int 23))) .nil))) .nil)))) (.cons (.rai 1)
  .nil) .nil)
  (.cons (.ret (.tup (.cons (.ife (.cmp .ne (.var 2) (.k (.str []))) (.bin .add (.bin .mod (.var 8) (.k (.int 12))) (.ife (.cmp .eq (.var 2) (.k (.str [112, 109]))) (.k (.int 12)) (.k (.int 0)))) (.var 8)) (.cons (.var 9) .nil))))
  .nil))))))))) }
def f_mail_of : Fn := { ar := 1, nl := 9, dfl := [], lamf := false, body :=
  (.cons (.set (.tup [(.nm 1), (.nm 2), (.nm 3)]) (.me .part (.var 0) (.cons (.k (.str [64])) .nil)))
  (.cons (.set (.nm 4) (.me .lower (.var 3) .nil))
  (.cons (.set (.nm 5) (.me .split (.var 4) (.cons (.k (.str [46])) .nil)))
  (.cons (.ife (.bop false (.cons (.cmp .eq (.var 1) (.k (.str []))) (.cons (.nt (.v (.call 12 (.cons (.var 1) (.cons (.k (.str [46, 95, 43, 45])) .nil))))) (.cons (.cmp .eq (.ix (.var 1) (.k (.int 0))) (.k (.str [46]))) (.cons (.cmp .eq (.ix (.var 1) (.neg (.k (.int 1)))) (.k (.str [46]))) (.cons (.cmp .isin (.k (.str [46, 46])) (.var 1)) .nil)))))) (.cons (.rai 1)
  .nil) .nil)
  (.cons (.set (.nm 6) (.gen .any [7] (.nm 7) (.e (.var 5)) .nil (.bop false (.cons (.cmp .ne (.me .strip (.var 7) (.cons (.k (.str [45])) .nil)) (.var 7)) (.cons (.cmp .eq (.var 7) (.k (.str []))) (.cons (.bnot (.call 12 (.cons (.var 7) (.cons (.k (.str [45])) .nil)))) .nil))))))
  (.cons (.ife (.bop false (.cons (.cmp .lt (.bi .len (.cons (.var 5) .nil)) (.k (.int 2))) (.cons (.v (.var 6)) .nil))) (.cons (.rai 1)
  .nil) .nil)
  (.cons (.ife (.bop false (.cons (.cmp .lt (.bi .len (.cons (.ix (.var 5) (.neg (.k (.int 1)))) .nil)) (.k (.int 2))) (.cons (.v (.gen .any [8] (.nm 8) (.e (.ix (.var 5) (.neg (.k (.int 1))))) .nil (.cmp .isin (.var 8) (.bin .add (.glb 4) (.k (.str [45])))))) .nil))) (.cons (.rai 1)
  .nil) .nil)
  (.cons (.ret (.bin .add (.bin .add (.var 1) (.k (.str [64]))) (.var 4)))
  .nil)))))))) }
def f_is_of : Fn := { ar := 2, nl := 4, dfl := [], lamf := false, body :=
  (.cons (.set (.nm 2) (.bin .add (.bin .add (.k (.str [97, 98, 99, 100, 101, 102, 103, 104, 105, 106, 107, 108, 109, 110, 111, 112, 113, 114, 115, 116, 117, 118, 119, 120, 121, 122])) (.glb 4)) (.var 1)))
  (.cons (.ret (.gen .all [3] (.nm 3) (.e (.me .lower (.var 0) .nil)) .nil (.cmp .isin (.var 3) (.var 2))))
  .nil)) }
def f_link_of : Fn := { ar := 1, nl := 7, dfl := [], lamf := false, body :=
  (.cons (.set (.tup [(.nm 1), (.nm 2), (.nm 3)]) (.me .part (.var 0) (.cons (.k (.str [58, 47, 47])) .nil)))
  (.cons (.set (.tup [(.nm 1), (.nm 3)]) (.ife (.cmp .ne (.var 2) (.k (.str []))) (.tup (.cons (.me .lower (.var 1) .nil) (.cons (.var 3) .nil))) (.tup (.cons (.k (.str [104, 116, 116, 112, 115])) (.cons (.var 0) .nil)))))
  (.cons (.set (.tup [(.nm 4), (.nm 5), (.nm 6)]) (.me .part (.var 3) (.cons (.k (.str [47])) .nil)))
  (.cons (.ife (.bop false (.cons (.cmp .notin (.var 1) (.tup (.cons (.k (.str [104, 116, 116, 112])) (.cons (.k (.str [104, 116, 116, 112, 115])) .nil)))) (.cons (.cmp .isin (.k (.str [32])) (.var 0)) .nil))) (.cons (.rai 1)
  .nil) .nil)
  (.cons (.ret (.bin .add (.bin .add (.bin .add (.bin .add (.var 1) (.k (.str [58, 47, 47]))) (.sl (.call 11 (.cons (.bin .add (.k (.str [97, 64])) (.var 4)) .nil)) (.k (.int 2)) .nop)) (.k (.str [47]))) (.var 6)))
  .nil))))) }
def f_phone_of : Fn := { ar := 1, nl := 5, dfl := [], lamf := false, body :=
  (.cons (.set (.nm 1) (.me .join (.k (.str [])) (.cons (.lc [2] (.nm 2) (.e (.var 0)) (.cons (.cmp .notin (.var 2) (.k (.str [32, 45, 40, 41]))) .nil) (.var 2)) .nil)))
  (.cons (.set (.nm 3) (.bop false (.cons (.cmp .eq (.sl (.var 1) .nop (.k (.int 1))) (.k (.str [43]))) (.cons (.cmp .eq (.sl (.var 1) .nop (.k (.int 2))) (.k (.str [48, 48]))) .nil))))
  (.cons (.set (.nm 4) (.ife (.cmp .eq (.sl (.var 1) .nop (.k (.int 1))) (.k (.str [43]))) (.sl (.var 1) (.k (.int 1)) .nop) (.ife (.cmp .eq (.sl (.var 1) .nop (.k (.int 2))) (.k (.str [48, 48]))) (.sl (.var 1) (.k (.int 2)) .nop) (.var 1))))
  (.cons (.ife (.bop false (.cons (.nt (.v (.call 2 (.cons (.var 4) (.cons (.k (.int 15)) .nil))))) (.cons (.cmp .lt (.bi .len (.cons (.var 4) .nil)) (.k (.int 7))) .nil))) (.cons (.rai 1)
  .nil) .nil)
  (.cons (.ret (.ife (.v (.var 3)) (.bin .add (.k (.str [43])) (.var 4)) (.var 4)))
  .nil))))) }
def f_order_of : Fn := { ar := 2, nl := 2, dfl := [], lamf := false, body :=
  (.cons (.ife (.cmp .eq (.call 0 (.cons (.var 0) (.cons (.var 1) .nil))) (.k (.str []))) (.cons (.ret (.tup (.cons (.k (.int 0)) (.cons (.k (.int 0)) (.cons (.k (.str [])) .nil)))))
  .nil) .nil)
  (.cons (.ife (.cmp .isin (.var 0) (.tup (.cons (.k (.str [119, 104, 111, 108, 101])) (.cons (.k (.str [110, 117, 109, 98, 101, 114])) .nil)))) (.cons (.ret (.tup (.cons (.k (.int 1)) (.cons (.call 5 (.cons (.var 1) .nil)) (.cons (.k (.str [])) .nil)))))
  .nil) .nil)
  (.cons (.ret (.tup (.cons (.k (.int 1)) (.cons (.k (.int 0)) (.cons (.var 1) .nil)))))
  .nil))) }
def f_is_same : Fn := { ar := 3, nl := 3, dfl := [], lamf := false, body :=
  (.cons (.ret (.cmp .eq (.me .lower (.call 0 (.cons (.var 0) (.cons (.var 1) .nil))) .nil) (.me .lower (.call 0 (.cons (.var 0) (.cons (.var 2) .nil))) .nil)))
  .nil) }
def f__law_dice : Fn := { ar := 1, nl := 1, dfl := [], lamf := false, body :=
  (.cons (.ife (.chn .lt .lt (.bin .sub (.k (.int 0)) (.k (.int 10))) (.var 0) (.k (.int 10))) (.cons (.ret (.lst true (.cons (.bi .abs (.cons (.var 0) .nil)) (.cons (.k (.int 0)) (.cons (.k (.int 2)) .nil)))))
  .nil) .nil)
  (.cons (.ret (.lst true (.cons (.var 0) (.cons (.bin .add (.k (.int 1)) (.bin .mod (.bi .int (.cons (.var 0) .nil)) (.k (.int 1009)))) (.cons (.bi .int (.cons (.cmp .ge (.var 0) (.bin .pow (.k (.int 10)) (.k (.int 18)))) .nil)) .nil)))))
  .nil)) }
def f__law_roll : Fn := { ar := 2, nl := 3, dfl := [], lamf := false, body :=
  (.cons (.ife (.bop false (.cons (.cmp .eq (.ix (.var 0) (.k (.int 2))) (.k (.int 2))) (.cons (.bop true (.cons (.cmp .eq (.ix (.var 0) (.k (.int 2))) (.k (.int 1))) (.cons (.cmp .gt (.ix (.var 0) (.k (.int 0))) (.k (.int 0))) .nil))) .nil))) (.cons (.set (.nm 2) (.bin .mod (.bi .int (.cons (.ix (.var 0) (.k (.int 0))) .nil)) (.var 1)))
  (.cons (.sub (.bin .fdiv (.ix (.var 0) (.k (.int 0))) (.var 1)) (.var 0) (.k (.int 0)))
  (.cons (.ret (.var 2))
  .nil))) .nil)
  (.cons (.sub (.k (.int 0)) (.var 0) (.k (.int 2)))
  (.cons (.ife (.cmp .gt (.var 1) (.k (.int 100000000))) (.cons (.ret (.bin .mod (.bi .int (.cons (.bin .add (.bin .mul (.call 18 (.cons (.var 0) (.cons (.bin .add (.bin .fdiv (.var 1) (.k (.int 100000000))) (.k (.int 1))) .nil))) (.k (.int 100000000))) (.call 18 (.cons (.var 0) (.cons (.k (.int 100000000)) .nil)))) .nil)) (.var 1)))
  .nil) .nil)
  (.cons (.sub (.bin .mod (.bi .int (.cons (.bin .add (.bin .add (.bin .mul (.ix (.var 0) (.k (.int 0))) (.k (.int 48271))) (.bin .mul (.ix (.var 0) (.k (.int 1))) (.k (.int 69621)))) (.k (.int 11))) .nil)) (.k (.int 2147483647))) (.var 0) (.k (.int 0)))
  (.cons (.sub (.bin .add (.ix (.var 0) (.k (.int 1))) (.k (.int 1))) (.var 0) (.k (.int 1)))
  (.cons (.ret (.bin .mod (.bi .int (.cons (.bin .fdiv (.ix (.var 0) (.k (.int 0))) (.k (.int 7))) .nil)) (.var 1)))
  .nil)))))) }
def f__law_rounds : Fn := { ar := 2, nl := 4, dfl := [], lamf := false, body :=
  (.cons (.set (.nm 2) (.sl (.var 0) .nop (.var 1)))
  (.cons (.ife (.cmp .eq (.var 2) (.lst false .nil)) (.cons (.set (.nm 2) (.lst false (.cons (.k (.int 0)) .nil)))
  .nil) .nil)
  (.cons (.ret (.lc [3] (.nm 3) (.e (.var 2)) .nil (.call 17 (.cons (.var 3) .nil))))
  .nil))) }
def f__law_told : Fn := { ar := 1, nl := 1, dfl := [], lamf := false, body :=
  (.cons (.tri (.cons (.ret (.app 0))
  .nil) [(1, (.ret (.str [75, 105, 110, 100, 69, 114, 114, 111, 114])))])
  .nil) }
def f__law_whole : Fn := { ar := 1, nl := 7, dfl := [], lamf := false, body :=
  (.cons (.set (.nm 1) (.ife (.cmp .isin (.sl (.var 0) .nop (.k (.int 1))) (.lst false (.cons (.k (.str [45])) (.cons (.k (.str [43])) .nil)))) (.sl (.var 0) (.k (.int 1)) .nop) (.var 0)))
  (.cons (.set (.nm 2) (.me .split (.var 1) (.cons (.k (.str [44])) .nil)))
  (.cons (.set (.nm 3) (.me .join (.k (.str [])) (.cons (.var 2) .nil)))
  (.cons (.set (.nm 4) (.bop true (.cons (.cmp .eq (.lc [5] (.nm 5) (.e (.sl (.var 2) (.k (.int 1)) .nop)) (.cons (.cmp .ne (.bi .len (.cons (.var 5) .nil)) (.k (.int 3))) .nil) (.var 5)) (.lst false .nil)) (.cons (.bop false (.cons (.cmp .eq (.bi .len (.cons (.var 2) .nil)) (.k (.int 1))) (.cons (.chn .lt .lt (.k (.int 0)) (.bi .len (.cons (.ix (.var 2) (.k (.int 0))) .nil)) (.k (.int 4))) .nil))) (.cons (.chn .lt .lt (.k (.int 0)) (.bi .len (.cons (.var 3) .nil)) (.k (.int 10))) (.cons (.cmp .eq (.lc [6] (.nm 6) (.e (.var 3)) (.cons (.cmp .notin (.var 6) (.k (.str [48, 49, 50, 51, 52, 53, 54, 55, 56, 57]))) .nil) (.var 6)) (.lst false .nil)) .nil))))))
  (.cons (.ret (.ife (.v (.var 4)) (.ife (.cmp .eq (.sl (.var 0) .nop (.k (.int 1))) (.k (.str [45]))) (.neg (.bi .int (.cons (.var 3) .nil))) (.bi .int (.cons (.var 3) .nil))) (.k .non)))
  .nil))))) }
def f__law_number : Fn := { ar := 1, nl := 7, dfl := [], lamf := false, body :=
  (.cons (.set (.tup [(.nm 1), (.nm 2), (.nm 3)]) (.me .part (.var 0) (.cons (.k (.str [46])) .nil)))
  (.cons (.set (.nm 4) (.call 21 (.cons (.var 1) .nil)))
  (.cons (.set (.nm 5) (.bop true (.cons (.cmp .notn (.var 4) (.k .non)) (.cons (.bop false (.cons (.cmp .eq (.var 2) (.k (.str []))) (.cons (.bop true (.cons (.chn .lt .lt (.k (.int 0)) (.bi .len (.cons (.var 3) .nil)) (.k (.int 4))) (.cons (.cmp .eq (.lc [6] (.nm 6) (.e (.var 3)) (.cons (.cmp .notin (.var 6) (.k (.str [48, 49, 50, 51, 52, 53, 54, 55, 56, 57]))) .nil) (.var 6)) (.lst false .nil)) .nil))) .nil))) .nil))))
  (.cons (.ret (.ife (.nt (.v (.var 5))) (.k .non) (.bin .add (.bin .mul (.k (.int 1000)) (.var 4)) (.bin .mul (.bi .int (.cons (.sl (.bin .add (.var 3) (.k (.str [48, 48, 48]))) .nop (.k (.int 3))) .nil)) (.ife (.cmp .eq (.ix (.var 0) (.k (.int 0))) (.k (.str [45]))) (.neg (.k (.int 1))) (.k (.int 1)))))))
  .nil)))) }
def f__law_shown : Fn := { ar := 1, nl := 3, dfl := [], lamf := false, body :=
  (.cons (.set (.nm 1) (.bi .abs (.cons (.var 0) .nil)))
  (.cons (.set (.nm 2) (.me .rstrip (.sl (.bin .add (.k (.str [48, 48])) (.bi .str (.cons (.bin .mod (.var 1) (.k (.int 1000))) .nil))) (.neg (.k (.int 3))) .nop) (.cons (.k (.str [48])) .nil)))
  (.cons (.ret (.bin .add (.bin .add (.bin .add (.bin .mul (.k (.str [45])) (.bi .int (.cons (.cmp .lt (.var 0) (.k (.int 0))) .nil))) (.bi .str (.cons (.bin .fdiv (.var 1) (.k (.int 1000))) .nil))) (.bin .mul (.k (.str [46])) (.bi .int (.cons (.cmp .ne (.var 2) (.k (.str []))) .nil)))) (.var 2)))
  .nil))) }
def f__law_date : Fn := { ar := 1, nl := 12, dfl := [], lamf := false, body :=
  (.cons (.set (.tup [(.nm 1), (.nm 2), (.nm 3), (.nm 4)]) (.tup (.cons (.ix (.lst false (.cons (.k (.int 1999)) (.cons (.k (.int 2000)) (.cons (.k (.int 2024)) (.cons (.k (.int 2026)) (.cons (.k (.int 1899)) .nil)))))) (.call 18 (.cons (.var 0) (.cons (.k (.int 5)) .nil)))) (.cons (.call 18 (.cons (.var 0) (.cons (.k (.int 14)) .nil))) (.cons (.call 18 (.cons (.var 0) (.cons (.k (.int 33)) .nil))) (.cons (.call 18 (.cons (.var 0) (.cons (.k (.int 3)) .nil))) .nil))))))
  (.cons (.set (.nm 5) (.cmp .eq (.call 18 (.cons (.var 0) (.cons (.k (.int 2)) .nil))) (.k (.int 0))))
  (.cons (.set (.nm 6) (.lc [7] (.nm 7) (.e (.lst false (.cons (.var 2) (.cons (.var 3) .nil)))) .nil (.ife (.v (.var 5)) (.sl (.bin .add (.k (.str [48])) (.bi .str (.cons (.var 7) .nil))) (.neg (.k (.int 2))) .nop) (.bi .str (.cons (.var 7) .nil)))))
  (.cons (.set (.nm 8) (.ix (.lst false (.cons (.bin .add (.bin .add (.bin .add (.bin .add (.bi .str (.cons (.var 1) .nil)) (.k (.str [45]))) (.ix (.var 6) (.k (.int 0)))) (.k (.str [45]))) (.ix (.var 6) (.k (.int 1)))) (.cons (.bin .add (.bin .add (.bin .add (.bin .add (.ix (.var 6) (.k (.int 1))) (.k (.str [46]))) (.ix (.var 6) (.k (.int 0)))) (.k (.str [46]))) (.bi .str (.cons (.var 1) .nil))) (.cons (.bin .add (.bin .add (.bin .add (.bin .add (.ix (.var 6) (.k (.int 0))) (.k (.str [47]))) (.ix (.var 6) (.k (.int 1)))) (.k (.str [47]))) (.bi .str (.cons (.var 1) .nil))) .nil)))) (.var 4)))
  (.cons (.set (.nm 9) (.bop true (.cons (.cmp .eq (.bin .mod (.var 1) (.k (.int 4))) (.k (.int 0))) (.cons (.bop false (.cons (.cmp .ne (.bin .mod (.var 1) (.k (.int 100))) (.k (.int 0))) (.cons (.cmp .eq (.bin .mod (.var 1) (.k (.int 400))) (.k (.int 0))) .nil))) .nil))))
  (.cons (.set (.nm 10) (.lst false (.cons (.k (.int 0)) (.cons (.k (.int 31)) (.cons (.bin .add (.k (.int 28)) (.bi .int (.cons (.var 9) .nil))) (.cons (.k (.int 31)) (.cons (.k (.int 30)) (.cons (.k (.int 31)) (.cons (.k (.int 30)) (.cons (.k (.int 31)) (.cons (.k (.int 31)) (.cons (.k (.int 30)) (.cons (.k (.int 31)) (.cons (.k (.int 30)) (.cons (.k (.int 31)) (.cons (.k (.int 0)) .nil))))))))))))))))
  (.cons (.set (.nm 11) (.bop true (.cons (.cmp .ge (.var 1) (.k (.int 1900))) (.cons (.chn .le .le (.k (.int 1)) (.var 3) (.ix (.var 10) (.var 2))) .nil))))
  (.cons (.ret (.tup (.cons (.var 8) (.cons (.ife (.v (.var 11)) (.bin .add (.bin .add (.bin .add (.bin .add (.bi .str (.cons (.var 1) .nil)) (.k (.str [45]))) (.sl (.bin .add (.k (.str [48])) (.bi .str (.cons (.var 2) .nil))) (.neg (.k (.int 2))) .nop)) (.k (.str [45]))) (.sl (.bin .add (.k (.str [48])) (.bi .str (.cons (.var 3) .nil))) (.neg (.k (.int 2))) .nop)) (.k .non)) .nil))))
  .nil)))))))) }
def f__law_time : Fn := { ar := 1, nl := 8, dfl := [], lamf := false, body :=
  (.cons (.par [1, 2, 3] (.cons (.call 18 (.cons (.var 0) (.cons (.k (.int 26)) .nil))) (.cons (.call 18 (.cons (.var 0) (.cons (.k (.int 62)) .nil))) (.cons (.ix (.lst false (.cons (.k (.str [])) (.cons (.k (.str [97, 109])) (.cons (.k (.str [80, 77])) (.cons (.k (.str [32, 112, 109])) .nil))))) (.call 18 (.cons (.var 0) (.cons (.k (.int 4)) .nil)))) .nil))))
  (.cons (.set (.nm 4) (.bop true (.cons (.cmp .ne (.var 3) (.k (.str []))) (.cons (.cmp .eq (.call 18 (.cons (.var 0) (.cons (.k (.int 3)) .nil))) (.k (.int 0))) .nil))))
  (.cons (.set (.nm 5) (.bin .add (.bin .add (.bi .str (.cons (.var 1) .nil)) (.ife (.v (.var 4)) (.k (.str [])) (.bin .add (.k (.str [58])) (.sl (.bin .add (.k (.str [48])) (.bi .str (.cons (.var 2) .nil))) (.neg (.k (.int 2))) .nop)))) (.var 3)))
  (.cons (.set (.nm 2) (.ife (.v (.var 4)) (.k (.int 0)) (.var 2)))
  (.cons (.ife (.cmp .eq (.var 3) (.k (.str []))) (.cons (.par [6, 7] (.cons (.bop true (.cons (.cmp .lt (.var 1) (.k (.int 24))) (.cons (.cmp .lt (.var 2) (.k (.int 60))) .nil))) (.cons (.var 1) .nil)))
  .nil) (.cons (.par [6, 7] (.cons (.bop true (.cons (.chn .le .le (.k (.int 1)) (.var 1) (.k (.int 12))) (.cons (.cmp .lt (.var 2) (.k (.int 60))) .nil))) (.cons (.bin .add (.bin .mod (.var 1) (.k (.int 12))) (.ife (.cmp .eq (.me .strip (.me .lower (.var 3) .nil) (.cons (.k (.str [32])) .nil)) (.k (.str [112, 109]))) (.k (.int 12)) (.k (.int 0)))) .nil)))
  .nil))
  (.cons (.ret (.tup (.cons (.var 5) (.cons (.ife (.v (.var 6)) (.bin .add (.bin .add (.sl (.bin .add (.k (.str [48])) (.bi .str (.cons (.var 7) .nil))) (.neg (.k (.int 2))) .nop) (.k (.str [58]))) (.sl (.bin .add (.k (.str [48])) (.bi .str (.cons (.var 2) .nil))) (.neg (.k (.int 2))) .nop)) (.k .non)) .nil))))
  .nil)))))) }
def f__law_place : Fn := { ar := 1, nl := 5, dfl := [], lamf := false, body :=
  (.cons (.set (.nm 1) (.me .split (.me .lower (.var 0) .nil) (.cons (.k (.str [46])) .nil)))
  (.cons (.set (.nm 2) (.lc [3] (.nm 3) (.e (.var 1)) (.cons (.bop false (.cons (.cmp .eq (.var 3) (.k (.str []))) (.cons (.cmp .eq (.ix (.var 3) (.k (.int 0))) (.k (.str [45]))) (.cons (.cmp .eq (.ix (.var 3) (.neg (.k (.int 1)))) (.k (.str [45]))) (.cons (.cmp .ne (.lc [4] (.nm 4) (.e (.var 3)) (.cons (.cmp .notin (.var 4) (.k (.str [97, 98, 99, 100, 101, 102, 103, 104, 105, 106, 107, 108, 109, 110, 111, 112, 113, 114, 115, 116, 117, 118, 119, 120, 121, 122, 48, 49, 50, 51, 52, 53, 54, 55, 56, 57, 45]))) .nil) (.var 4)) (.lst false .nil)) .nil))))) .nil) (.var 3)))
  (.cons (.ife (.nt (.bop true (.cons (.cmp .gt (.bi .len (.cons (.var 1) .nil)) (.k (.int 1))) (.cons (.cmp .eq (.var 2) (.lst false .nil)) (.cons (.cmp .gt (.bi .len (.cons (.ix (.var 1) (.neg (.k (.int 1)))) .nil)) (.k (.int 1))) .nil))))) (.cons (.ret (.k (.bl false)))
  .nil) .nil)
  (.cons (.ret (.cmp .eq (.lc [4] (.nm 4) (.e (.ix (.var 1) (.neg (.k (.int 1))))) (.cons (.cmp .isin (.var 4) (.k (.str [48, 49, 50, 51, 52, 53, 54, 55, 56, 57, 45]))) .nil) (.var 4)) (.lst false .nil)))
  .nil)))) }
def f__law_mail : Fn := { ar := 1, nl := 7, dfl := [], lamf := false, body :=
  (.cons (.set (.tup [(.nm 1), (.nm 2), (.nm 3)]) (.me .part (.var 0) (.cons (.k (.str [64])) .nil)))
  (.cons (.set (.nm 4) (.k (.str [97, 98, 99, 100, 101, 102, 103, 104, 105, 106, 107, 108, 109, 110, 111, 112, 113, 114, 115, 116, 117, 118, 119, 120, 121, 122, 48, 49, 50, 51, 52, 53, 54, 55, 56, 57, 46, 95, 43, 45])))
  (.cons (.set (.nm 5) (.bop true (.cons (.cmp .ne (.var 1) (.k (.str []))) (.cons (.cmp .eq (.lc [6] (.nm 6) (.e (.me .lower (.var 1) .nil)) (.cons (.cmp .notin (.var 6) (.var 4)) .nil) (.var 6)) (.lst false .nil)) (.cons (.cmp .ne (.ix (.var 1) (.k (.int 0))) (.k (.str [46]))) (.cons (.cmp .ne (.ix (.var 1) (.neg (.k (.int 1)))) (.k (.str [46]))) (.cons (.cmp .notin (.k (.str [46, 46])) (.var 1)) .nil)))))))
  (.cons (.ret (.ife (.bop true (.cons (.cmp .ne (.var 2) (.k (.str []))) (.cons (.v (.var 5)) (.cons (.v (.call 26 (.cons (.var 3) .nil))) .nil)))) (.bin .add (.bin .add (.var 1) (.k (.str [64]))) (.me .lower (.var 3) .nil)) (.k .non)))
  .nil)))) }
def f__law_link : Fn := { ar := 1, nl := 7, dfl := [], lamf := false, body :=
  (.cons (.set (.tup [(.nm 1), (.nm 2), (.nm 3)]) (.me .part (.var 0) (.cons (.k (.str [58, 47, 47])) .nil)))
  (.cons (.set (.tup [(.nm 1), (.nm 3)]) (.ife (.cmp .ne (.var 2) (.k (.str []))) (.tup (.cons (.me .lower (.var 1) .nil) (.cons (.var 3) .nil))) (.tup (.cons (.k (.str [104, 116, 116, 112, 115])) (.cons (.var 0) .nil)))))
  (.cons (.set (.tup [(.nm 4), (.nm 5), (.nm 6)]) (.me .part (.var 3) (.cons (.k (.str [47])) .nil)))
  (.cons (.ret (.ife (.bop true (.cons (.cmp .isin (.var 1) (.lst false (.cons (.k (.str [104, 116, 116, 112])) (.cons (.k (.str [104, 116, 116, 112, 115])) .nil)))) (.cons (.cmp .notin (.k (.str [32])) (.var 0)) (.cons (.v (.call 26 (.cons (.var 4) .nil))) .nil)))) (.bin .add (.bin .add (.bin .add (.bin .add (.var 1) (.k (.str [58, 47, 47]))) (.me .lower (.var 4) .nil)) (.k (.str [47]))) (.var 6)) (.k .non)))
  .nil)))) }
def f__law_phone : Fn := { ar := 1, nl := 5, dfl := [], lamf := false, body :=
  (.cons (.set (.nm 1) (.me .join (.k (.str [])) (.cons (.lc [2] (.nm 2) (.e (.var 0)) (.cons (.cmp .notin (.var 2) (.k (.str [32, 45, 40, 41]))) .nil) (.var 2)) .nil)))
  (.cons (.set (.nm 3) (.bop false (.cons (.cmp .eq (.sl (.var 1) .nop (.k (.int 1))) (.k (.str [43]))) (.cons (.cmp .eq (.sl (.var 1) .nop (.k (.int 2))) (.k (.str [48, 48]))) .nil))))
  (.cons (.set (.nm 4) (.ife (.cmp .eq (.sl (.var 1) .nop (.k (.int 1))) (.k (.str [43]))) (.sl (.var 1) (.k (.int 1)) .nop) (.ife (.cmp .eq (.sl (.var 1) .nop (.k (.int 2))) (.k (.str [48, 48]))) (.sl (.var 1) (.k (.int 2)) .nop) (.var 1))))
  (.cons (.ret (.ife (.bop true (.cons (.chn .le .le (.k (.int 7)) (.bi .len (.cons (.var 4) .nil)) (.k (.int 15))) (.cons (.cmp .eq (.lc [2] (.nm 2) (.e (.var 4)) (.cons (.cmp .notin (.var 2) (.k (.str [48, 49, 50, 51, 52, 53, 54, 55, 56, 57]))) .nil) (.var 2)) (.lst false .nil)) .nil))) (.bin .add (.bin .mul (.k (.str [43])) (.bi .int (.cons (.var 3) .nil))) (.var 4)) (.k .non)))
  .nil)))) }
def f__law_plain : Fn := { ar := 0, nl := 7, dfl := [], lamf := true, body :=
  (.cons (.set (.nm 0) (.lst false (.cons (.lam 3) (.cons (.lam 2) (.cons (.lam 1) (.cons (.lam 0) .nil))))))
  (.cons (.set (.nm 0) (.bin .add (.var 0) (.lst false (.cons (.lam 8) (.cons (.lam 7) (.cons (.lam 6) (.cons (.lam 5) (.cons (.lam 4) .nil))))))))
  (.cons (.set (.nm 0) (.bin .add (.var 0) (.lst false (.cons (.lam 14) (.cons (.lam 13) (.cons (.lam 12) (.cons (.lam 11) (.cons (.lam 10) (.cons (.lam 9) .nil)))))))))
  (.cons (.set (.nm 0) (.bin .add (.var 0) (.lst false (.cons (.lam 18) (.cons (.lam 17) (.cons (.lam 16) (.cons (.lam 15) .nil)))))))
  (.cons (.set (.nm 0) (.bin .add (.var 0) (.lst false (.cons (.lam 19) .nil))))
  (.cons (.ife (.cmp .ne (.lc [1] (.nm 1) (.e (.var 0)) (.cons (.cmp .ne (.call 20 (.cons (.var 1) .nil)) (.k (.str [75, 105, 110, 100, 69, 114, 114, 111, 114]))) .nil) (.k (.int 1))) (.lst false .nil)) (.cons (.ret (.k (.bl false)))
  .nil) .nil)
  (.cons (.ife (.cmp .ne (.tup (.cons (.bi .len (.cons (.glb 0) .nil)) (.cons (.glb 1) (.cons (.glb 2) (.cons (.glb 3) (.cons (.glb 4) .nil)))))) (.tup (.cons (.k (.int 10)) (.cons (.k (.int 400)) (.cons (.tup (.cons (.k (.str [121, 101, 115])) (.cons (.k (.str [121])) (.cons (.k (.str [116, 114, 117, 101])) (.cons (.k (.str [49])) (.cons (.k (.str [111, 110])) .nil)))))) (.cons (.tup (.cons (.k (.str [110, 111])) (.cons (.k (.str [110])) (.cons (.k (.str [102, 97, 108, 115, 101])) (.cons (.k (.str [48])) (.cons (.k (.str [111, 102, 102])) .nil)))))) (.cons (.k (.str [48, 49, 50, 51, 52, 53, 54, 55, 56, 57])) .nil))))))) (.cons (.ret (.k (.bl false)))
  .nil) .nil)
  (.cons (.set (.nm 2) (.lst false (.cons (.tup (.cons (.k (.str [116, 101, 120, 116])) (.cons (.k (.str [32, 97, 32, 32, 98, 32])) .nil))) (.cons (.tup (.cons (.k (.str [119, 104, 111, 108, 101])) (.cons (.k (.str [43, 49, 44, 50, 51, 52])) .nil))) (.cons (.tup (.cons (.k (.str [110, 117, 109, 98, 101, 114])) (.cons (.k (.str [45, 48, 49, 46, 53, 48])) .nil))) (.cons (.tup (.cons (.k (.str [100, 97, 116, 101])) (.cons (.k (.str [49, 49, 47, 49, 57, 47, 50, 48, 50, 54])) .nil))) (.cons (.tup (.cons (.k (.str [100, 97, 116, 101])) (.cons (.k (.str [57, 46, 49, 46, 50, 48, 50, 54])) .nil))) (.cons (.tup (.cons (.k (.str [116, 105, 109, 101])) (.cons (.k (.str [55, 58, 48, 53, 32, 112, 109])) .nil))) .nil))))))))
  (.cons (.set (.nm 2) (.bin .add (.var 2) (.lst false (.cons (.tup (.cons (.k (.str [116, 105, 109, 101])) (.cons (.k (.str [49, 50, 32, 97, 109])) .nil))) (.cons (.tup (.cons (.k (.str [109, 97, 105, 108])) (.cons (.k (.str [65, 110, 110, 46, 66, 64, 88, 46, 79, 114, 103])) .nil))) (.cons (.tup (.cons (.k (.str [108, 105, 110, 107])) (.cons (.k (.str [88, 46, 111, 114, 103])) .nil))) (.cons (.tup (.cons (.k (.str [121, 101, 115])) (.cons (.k (.str [79, 78])) .nil))) (.cons (.tup (.cons (.k (.str [112, 104, 111, 110, 101])) (.cons (.k (.str [48, 48, 32, 52, 49, 32, 40, 55, 57, 41, 32, 49, 50, 51, 45, 52, 53, 45, 54, 55])) .nil))) .nil))))))))
  (.cons (.set (.nm 3) (.lst false (.cons (.lc [4, 5] (.tup [(.nm 4), (.nm 5)]) (.e (.var 2)) .nil (.call 0 (.cons (.var 4) (.cons (.var 5) .nil)))) (.cons (.call 5 (.cons (.k (.str [45, 49, 46, 53])) .nil)) (.cons (.call 15 (.cons (.k (.str [119, 104, 111, 108, 101])) (.cons (.k (.str [55])) .nil))) (.cons (.call 15 (.cons (.k (.str [116, 101, 120, 116])) (.cons (.k (.str [])) .nil))) .nil))))))
  (.cons (.set (.nm 3) (.bin .add (.var 3) (.lst false (.cons (.call 16 (.cons (.k (.str [116, 101, 120, 116])) (.cons (.k (.str [65, 32, 98])) (.cons (.k (.str [97, 32, 32, 66])) .nil)))) (.cons (.call 6 (.cons (.neg (.k (.int 1500))) .nil)) (.cons (.call 7 (.cons (.k (.int 2024)) (.cons (.k (.int 2)) .nil))) (.cons (.call 3 (.cons (.k (.int 5)) .nil)) (.cons (.call 2 (.cons (.k (.str [])) (.cons (.k (.int 3)) .nil))) (.cons (.call 12 (.cons (.k (.str [65, 45])) (.cons (.k (.str [45])) .nil))) .nil)))))))))
  (.cons (.set (.nm 3) (.bin .add (.var 3) (.lst false (.cons (.call 1 (.cons (.k (.str [116, 105, 109, 101])) (.cons (.k (.str [49, 50, 32, 112, 109])) .nil))) .nil))))
  (.cons (.set (.nm 6) (.lst false (.cons (.lst false (.cons (.k (.str [97, 32, 98])) (.cons (.k (.str [49, 50, 51, 52])) (.cons (.k (.str [45, 49, 46, 53])) (.cons (.k (.str [50, 48, 50, 54, 45, 49, 49, 45, 49, 57])) (.cons (.k (.str [50, 48, 50, 54, 45, 48, 49, 45, 48, 57])) (.cons (.k (.str [49, 57, 58, 48, 53])) (.cons (.k (.str [48, 48, 58, 48, 48])) (.cons (.k (.str [65, 110, 110, 46, 66, 64, 120, 46, 111, 114, 103])) (.cons (.k (.str [104, 116, 116, 112, 115, 58, 47, 47, 120, 46, 111, 114, 103, 47])) (.cons (.k (.str [121, 101, 115])) (.cons (.k (.str [43, 52, 49, 55, 57, 49, 50, 51, 52, 53, 54, 55])) .nil)))))))))))) (.cons (.neg (.k (.int 1500))) .nil))))
  (.cons (.set (.nm 6) (.bin .add (.var 6) (.lst false (.cons (.tup (.cons (.k (.int 1)) (.cons (.k (.int 7000)) (.cons (.k (.str [])) .nil)))) (.cons (.tup (.cons (.k (.int 0)) (.cons (.k (.int 0)) (.cons (.k (.str [])) .nil)))) (.cons (.k (.bl true)) (.cons (.k (.str [45, 49, 46, 53])) (.cons (.k (.int 29)) (.cons (.k (.str [48, 53])) (.cons (.k (.bl false)) (.cons (.k (.bl true)) (.cons (.k (.str [49, 50, 58, 48, 48])) .nil))))))))))))
  (.cons (.ret (.cmp .eq (.var 3) (.var 6)))
  .nil))))))))))))))) }
def f_law : Fn := { ar := 1, nl := 25, dfl := [], lamf := true, body :=
  (.cons (.for_ (.nm 1) (.e (.call 19 (.cons (.var 0) (.cons (.k (.int 1)) .nil)))) (.cons (.par [2, 3] (.cons (.lst false (.cons (.k (.str [48])) (.cons (.k (.str [48, 48, 55])) (.cons (.k (.str [49, 44, 50, 51, 52])) (.cons (.k (.str [49, 50, 44, 51, 52])) (.cons (.k (.str [49, 50, 51, 52, 53, 54, 55, 56, 57, 48])) (.cons (.k (.str [120])) (.cons (.k (.str [])) (.cons (.k (.str [57, 57, 57, 44, 57, 57, 57, 44, 57, 57, 57])) .nil))))))))) (.cons (.lst false (.cons (.k (.str [])) (.cons (.k (.str [46, 53])) (.cons (.k (.str [46, 49, 50, 53])) (.cons (.k (.str [46])) (.cons (.k (.str [46, 49, 50, 51, 52])) (.cons (.k (.str [46, 120])) .nil))))))) .nil)))
  (.cons (.set (.nm 4) (.bin .add (.bin .add (.ix (.lst false (.cons (.k (.str [])) (.cons (.k (.str [45])) (.cons (.k (.str [43])) .nil)))) (.call 18 (.cons (.var 1) (.cons (.k (.int 3)) .nil)))) (.ix (.var 2) (.call 18 (.cons (.var 1) (.cons (.k (.int 8)) .nil))))) (.ix (.var 3) (.call 18 (.cons (.var 1) (.cons (.k (.int 6)) .nil))))))
  (.cons (.set (.nm 5) (.lst false (.cons (.tup (.cons (.k (.str [110, 117, 109, 98, 101, 114])) (.cons (.var 4) (.cons (.ife (.cmp .isn (.call 22 (.cons (.var 4) .nil)) (.k .non)) (.k .non) (.call 23 (.cons (.call 22 (.cons (.var 4) .nil)) .nil))) .nil)))) (.cons (.tup (.cons (.k (.str [119, 104, 111, 108, 101])) (.cons (.var 4) (.cons (.ife (.cmp .isn (.call 21 (.cons (.var 4) .nil)) (.k .non)) (.k .non) (.bi .str (.cons (.call 21 (.cons (.var 4) .nil)) .nil))) .nil)))) .nil))))
  (.cons (.par [6, 7] (.cons (.call 24 (.cons (.var 1) .nil)) (.cons (.call 25 (.cons (.var 1) .nil)) .nil)))
  (.cons (.par [8, 9] (.cons (.lst false (.cons (.k (.str [65, 110, 110])) (.cons (.k (.str [97, 46, 98, 43, 99])) (.cons (.k (.str [46, 97])) (.cons (.k (.str [97, 46, 46, 98])) (.cons (.k (.str [97, 32, 98])) (.cons (.k (.str [])) .nil))))))) (.cons (.lst false (.cons (.k (.str [88, 46, 79, 114, 103])) (.cons (.k (.str [97, 45, 98, 46, 99, 111, 46, 117, 107])) (.cons (.k (.str [120])) (.cons (.k (.str [97, 46, 98])) (.cons (.k (.str [45, 97, 46, 111, 114, 103])) (.cons (.k (.str [97, 46, 111, 49, 103])) (.cons (.k (.str [])) .nil)))))))) .nil)))
  (.cons (.set (.nm 10) (.bin .add (.bin .add (.ix (.var 8) (.call 18 (.cons (.var 1) (.cons (.k (.int 6)) .nil)))) (.ix (.lst false (.cons (.k (.str [64])) (.cons (.k (.str [64, 64])) (.cons (.k (.str [])) .nil)))) (.bin .fdiv (.call 18 (.cons (.var 1) (.cons (.k (.int 7)) .nil))) (.k (.int 3))))) (.ix (.var 9) (.call 18 (.cons (.var 1) (.cons (.k (.int 7)) .nil))))))
  (.cons (.set (.nm 11) (.bin .add (.bin .add (.ix (.lst false (.cons (.k (.str [])) (.cons (.k (.str [72, 84, 84, 80, 58, 47, 47])) (.cons (.k (.str [104, 116, 116, 112, 115, 58, 47, 47])) (.cons (.k (.str [102, 116, 112, 58, 47, 47])) .nil))))) (.call 18 (.cons (.var 1) (.cons (.k (.int 4)) .nil)))) (.ix (.lst false (.cons (.k (.str [88, 46, 79, 114, 103])) (.cons (.k (.str [97, 46, 98, 99])) (.cons (.k (.str [120])) .nil)))) (.call 18 (.cons (.var 1) (.cons (.k (.int 3)) .nil))))) (.ix (.lst false (.cons (.k (.str [])) (.cons (.k (.str [47])) (.cons (.k (.str [47, 65, 32, 98])) (.cons (.k (.str [47, 67, 63, 120, 61, 49])) .nil))))) (.call 18 (.cons (.var 1) (.cons (.k (.int 4)) .nil))))))
  (.cons (.set (.nm 12) (.bin .add (.ix (.lst false (.cons (.k (.str [43])) (.cons (.k (.str [48, 48])) (.cons (.k (.str [])) (.cons (.k (.str [48])) .nil))))) (.call 18 (.cons (.var 1) (.cons (.k (.int 4)) .nil)))) (.ix (.lst false (.cons (.k (.str [52, 49, 32, 40, 55, 57, 41, 32, 49, 50, 51, 45, 52, 53, 45, 54, 55])) (.cons (.k (.str [49, 50, 51, 52, 53])) (.cons (.k (.str [49, 50, 51, 52, 53, 54, 55])) (.cons (.k (.str [49, 50, 51, 52, 53, 54, 55, 56, 57, 48, 49, 50, 51, 52, 53, 54, 55])) (.cons (.k (.str [49, 50, 97, 52, 53, 54, 55])) .nil)))))) (.call 18 (.cons (.var 1) (.cons (.k (.int 5)) .nil))))))
  (.cons (.set (.nm 13) (.ix (.lst false (.cons (.k (.str [89, 101, 115])) (.cons (.k (.str [121])) (.cons (.k (.str [79, 78])) (.cons (.k (.str [48])) (.cons (.k (.str [102, 97, 108, 115, 101])) (.cons (.k (.str [109, 97, 121, 98, 101])) (.cons (.k (.str [78])) .nil)))))))) (.call 18 (.cons (.var 1) (.cons (.k (.int 7)) .nil)))))
  (.cons (.set (.nm 14) (.cmp .isin (.me .lower (.var 13) .nil) (.lst false (.cons (.k (.str [121, 101, 115])) (.cons (.k (.str [121])) (.cons (.k (.str [116, 114, 117, 101])) (.cons (.k (.str [49])) (.cons (.k (.str [111, 110])) .nil))))))))
  (.cons (.set (.nm 5) (.bin .add (.var 5) (.lst false (.cons (.bin .add (.tup (.cons (.k (.str [100, 97, 116, 101])) .nil)) (.var 6)) (.cons (.bin .add (.tup (.cons (.k (.str [116, 105, 109, 101])) .nil)) (.var 7)) (.cons (.tup (.cons (.k (.str [109, 97, 105, 108])) (.cons (.var 10) (.cons (.call 27 (.cons (.var 10) .nil)) .nil)))) (.cons (.tup (.cons (.k (.str [108, 105, 110, 107])) (.cons (.var 11) (.cons (.call 28 (.cons (.var 11) .nil)) .nil)))) (.cons (.tup (.cons (.k (.str [112, 104, 111, 110, 101])) (.cons (.var 12) (.cons (.call 29 (.cons (.var 12) .nil)) .nil)))) (.cons (.tup (.cons (.k (.str [121, 101, 115])) (.cons (.var 13) (.cons (.ife (.cmp .eq (.var 13) (.k (.str [109, 97, 121, 98, 101]))) (.k .non) (.ife (.v (.var 14)) (.k (.str [121, 101, 115])) (.k (.str [110, 111])))) .nil)))) .nil)))))))))
  (.cons (.set (.nm 15) (.me .join (.k (.str [])) (.cons (.lc [16] (.nm 16) (.rng (.cons (.call 18 (.cons (.var 1) (.cons (.k (.int 9)) .nil))) .nil)) .nil (.ix (.lst false (.cons (.k (.str [97])) (.cons (.k (.str [32])) (.cons (.k (.str [32, 32])) (.cons (.k (.str [66, 45])) (.cons (.k (.str [10])) (.cons (.k (.str [122, 32])) .nil))))))) (.call 18 (.cons (.var 1) (.cons (.k (.int 6)) .nil))))) .nil)))
  (.cons (.set (.nm 17) (.me .strip (.var 15) (.cons (.k (.str [32])) .nil)))
  (.cons (.set (.nm 5) (.bin .add (.var 5) (.lst false (.cons (.tup (.cons (.k (.str [116, 101, 120, 116])) (.cons (.var 15) (.cons (.ife (.cmp .isin (.k (.str [10])) (.var 17)) (.k .non) (.me .join (.k (.str [32])) (.cons (.lc [18] (.nm 18) (.e (.me .split (.var 17) (.cons (.k (.str [32])) .nil))) (.cons (.cmp .ne (.var 18) (.k (.str []))) .nil) (.var 18)) .nil))) .nil)))) (.cons (.tup (.cons (.k (.str [108, 105, 110, 101, 115])) (.cons (.var 15) (.cons (.me .join (.k (.str [10])) (.cons (.lc [18] (.nm 18) (.e (.me .split (.var 17) (.cons (.k (.str [10])) .nil))) .nil (.me .rstrip (.var 18) (.cons (.k (.str [32])) .nil))) .nil)) .nil)))) .nil)))))
  (.cons (.for_ (.tup [(.nm 19), (.nm 20), (.nm 21)]) (.e (.var 5)) (.cons (.set (.nm 22) (.bin .add (.bin .add (.bin .mul (.k (.str [32])) (.call 18 (.cons (.var 1) (.cons (.k (.int 3)) .nil)))) (.var 20)) (.bin .mul (.k (.str [32])) (.call 18 (.cons (.var 1) (.cons (.k (.int 3)) .nil))))))
  (.cons (.set (.nm 21) (.ife (.cmp .eq (.me .strip (.var 20) (.cons (.k (.str [32])) .nil)) (.k (.str []))) (.k (.str [])) (.var 21)))
  (.cons (.set (.nm 23) (.call 20 (.cons (.lam 20) .nil)))
  (.cons (.ife (.bop false (.cons (.cmp .ne (.var 23) (.ife (.cmp .notn (.var 21) (.k .non)) (.var 21) (.k (.str [75, 105, 110, 100, 69, 114, 114, 111, 114])))) (.cons (.bop true (.cons (.cmp .notn (.var 21) (.k .non)) (.cons (.cmp .ne (.call 0 (.cons (.var 19) (.cons (.var 21) .nil))) (.var 21)) .nil))) .nil))) (.cons (.ret (.k (.bl false)))
  .nil) .nil)
  (.cons (.ife (.cmp .notin (.var 21) (.lst false (.cons (.k .non) (.cons (.k (.str [])) .nil)))) (.cons (.set (.nm 24) (.ife (.cmp .isin (.var 19) (.lst false (.cons (.k (.str [119, 104, 111, 108, 101])) (.cons (.k (.str [110, 117, 109, 98, 101, 114])) .nil)))) (.tup (.cons (.k (.int 1)) (.cons (.call 22 (.cons (.var 21) .nil)) (.cons (.k (.str [])) .nil)))) (.tup (.cons (.k (.int 1)) (.cons (.k (.int 0)) (.cons (.var 21) .nil))))))
  (.cons (.ife (.bop false (.cons (.cmp .ne (.call 15 (.cons (.var 19) (.cons (.var 21) .nil))) (.var 24)) (.cons (.nt (.v (.call 16 (.cons (.var 19) (.cons (.var 20) (.cons (.var 21) .nil)))))) (.cons (.v (.call 16 (.cons (.var 19) (.cons (.var 20) (.cons (.k (.str [])) .nil))))) .nil)))) (.cons (.ret (.k (.bl false)))
  .nil) .nil)
  .nil)) .nil)
  .nil))))))
  .nil))))))))))))))))
  (.cons (.ret (.call 30 .nil))
  .nil)) }
def l_0 : Lam := { cap := [], body := (.call 4 (.cons (.k (.str [49, 44, 50])) .nil)) }
def l_1 : Lam := { cap := [], body := (.call 4 (.cons (.k (.str [])) .nil)) }
def l_2 : Lam := { cap := [], body := (.call 0 (.cons (.k (.str [116, 101, 120, 116])) (.cons (.bin .mul (.k (.str [97])) (.k (.int 401))) .nil))) }
def l_3 : Lam := { cap := [], body := (.call 0 (.cons (.k (.str [111, 100, 100])) (.cons (.k (.str [97])) .nil))) }
def l_4 : Lam := { cap := [], body := (.call 8 (.cons (.k (.str [50, 48, 50, 54, 45, 48, 48, 49, 45, 49])) .nil)) }
def l_5 : Lam := { cap := [], body := (.call 8 (.cons (.k (.str [50, 48, 50, 54, 45, 48, 50, 45, 50, 57])) .nil)) }
def l_6 : Lam := { cap := [], body := (.call 8 (.cons (.k (.str [50, 54, 45, 49, 45, 49])) .nil)) }
def l_7 : Lam := { cap := [], body := (.call 8 (.cons (.k (.str [50, 48, 50, 54, 45, 49])) .nil)) }
def l_8 : Lam := { cap := [], body := (.call 5 (.cons (.k (.str [49, 46])) .nil)) }
def l_9 : Lam := { cap := [], body := (.call 11 (.cons (.k (.str [97, 64, 98])) .nil)) }
def l_10 : Lam := { cap := [], body := (.call 11 (.cons (.k (.str [97])) .nil)) }
def l_11 : Lam := { cap := [], body := (.call 10 (.cons (.k (.str [55, 58, 53])) .nil)) }
def l_12 : Lam := { cap := [], body := (.call 10 (.cons (.k (.str [55])) .nil)) }
def l_13 : Lam := { cap := [], body := (.call 10 (.cons (.k (.str [49, 51, 32, 112, 109])) .nil)) }
def l_14 : Lam := { cap := [], body := (.call 10 (.cons (.k (.str [50, 52, 58, 48, 48])) .nil)) }
def l_15 : Lam := { cap := [], body := (.call 15 (.cons (.k (.str [119, 104, 111, 108, 101])) (.cons (.k (.str [120])) .nil))) }
def l_16 : Lam := { cap := [], body := (.call 9 (.cons (.k (.int 1899)) (.cons (.k (.int 1)) (.cons (.k (.int 1)) (.cons (.k (.int 1)) (.cons (.k (.int 1)) .nil)))))) }
def l_17 : Lam := { cap := [], body := (.call 14 (.cons (.k (.str [49, 50, 51, 52, 53, 54])) .nil)) }
def l_18 : Lam := { cap := [], body := (.call 13 (.cons (.k (.str [97, 32, 98, 46, 99, 100])) .nil)) }
def l_19 : Lam := { cap := [], body := (.call 16 (.cons (.k (.str [100, 97, 116, 101])) (.cons (.k (.str [120])) (.cons (.k (.str [])) .nil)))) }
def l_20 : Lam := { cap := [19, 22], body := (.call 0 (.cons (.var 0) (.cons (.var 1) .nil))) }
def pg : Pg := { fns := [f_read_answer, f_read_special, f_is_figures, f_two_figures, f_whole_of, f_number_of, f_number_text, f_days_in, f_date_of, f_real_day, f_time_of, f_mail_of, f_is_of, f_link_of, f_phone_of, f_order_of, f_is_same, f__law_dice, f__law_roll, f__law_rounds, f__law_told, f__law_whole, f__law_number, f__law_shown, f__law_date, f__law_time, f__law_place, f__law_mail, f__law_link, f__law_phone, f__law_plain, f_law], lams := [l_0, l_1, l_2, l_3, l_4, l_5, l_6, l_7, l_8, l_9, l_10, l_11, l_12, l_13, l_14, l_15, l_16, l_17, l_18, l_19, l_20], sup := [(1, 0)], ncl := 2, glb := [(.tup [(.str [116, 101, 120, 116]), (.str [108, 105, 110, 101, 115]), (.str [119, 104, 111, 108, 101]), (.str [110, 117, 109, 98, 101, 114]), (.str [100, 97, 116, 101]), (.str [116, 105, 109, 101]), (.str [109, 97, 105, 108]), (.str [108, 105, 110, 107]), (.str [121, 101, 115]), (.str [112, 104, 111, 110, 101])]), (.int 400), (.tup [(.str [121, 101, 115]), (.str [121]), (.str [116, 114, 117, 101]), (.str [49]), (.str [111, 110])]), (.tup [(.str [110, 111]), (.str [110]), (.str [102, 97, 108, 115, 101]), (.str [48]), (.str [111, 102, 102])]), (.str [48, 49, 50, 51, 52, 53, 54, 55, 56, 57])] }
def fts : List FT := [{ N := ["kind", "text", "body", "word", "line"], ps := ["kind", "text"], hasT := false, L := [] },
  { N := ["kind", "body", "year", "month", "day", "hour", "minute", "low"], ps := ["kind", "body"], hasT := false, L := [] },
  { N := ["text", "most", "sign"], ps := ["text", "most"], hasT := true, L := [] },
  { N := ["number"], ps := ["number"], hasT := false, L := [] },
  { N := ["text", "body", "parts", "is_right", "part", "figures"], ps := ["text"], hasT := true, L := [] },
  { N := ["text", "head", "dot", "tail", "whole", "part"], ps := ["text"], hasT := false, L := [] },
  { N := ["thousandths", "size", "tail"], ps := ["thousandths"], hasT := false, L := [] },
  { N := ["year", "month", "is_leap"], ps := ["year", "month"], hasT := false, L := [] },
  { N := ["text", "mark", "order", "parts", "year", "month", "day"], ps := ["text"], hasT := false, L := [] },
  { N := ["year", "month", "day", "months", "days"], ps := ["year", "month", "day", "months", "days"], hasT := false, L := [] },
  { N := ["text", "low", "half", "body", "head", "colon", "tail", "is_tail", "hour", "minute"], ps := ["text"], hasT := false, L := [] },
  { N := ["text", "name", "mark", "place", "low", "words", "is_bad", "word", "sign"], ps := ["text"], hasT := true, L := [] },
  { N := ["text", "more", "signs", "sign"], ps := ["text", "more"], hasT := true, L := [] },
  { N := ["text", "way", "mark", "rest", "place", "slash", "tail"], ps := ["text"], hasT := false, L := [] },
  { N := ["text", "body", "sign", "is_far", "figures"], ps := ["text"], hasT := false, L := [] },
  { N := ["kind", "answer"], ps := ["kind", "answer"], hasT := false, L := [] },
  { N := ["kind", "one", "other"], ps := ["kind", "one", "other"], hasT := false, L := [] },
  { N := ["cell"], ps := ["cell"], hasT := false, L := [] },
  { N := ["dice", "many", "found"], ps := ["dice", "many"], hasT := false, L := [] },
  { N := ["script", "most", "cells", "cell"], ps := ["script", "most"], hasT := false, L := [] },
  { N := ["what"], ps := ["what"], hasT := false, L := [] },
  { N := ["text", "body", "parts", "figures", "good", "part", "sign"], ps := ["text"], hasT := false, L := [] },
  { N := ["text", "head", "dot", "tail", "whole", "good", "sign"], ps := ["text"], hasT := false, L := [] },
  { N := ["number", "size", "tail"], ps := ["number"], hasT := false, L := [] },
  { N := ["dice", "year", "month", "day", "way", "pad", "parts", "one", "text", "leap", "sizes", "good"], ps := ["dice"], hasT := false, L := [] },
  { N := ["dice", "hour", "minute", "half", "bare", "text", "good", "real"], ps := ["dice"], hasT := false, L := [] },
  { N := ["text", "words", "bad", "word", "sign"], ps := ["text"], hasT := false, L := [] },
  { N := ["text", "name", "mark", "place", "signs", "good", "sign"], ps := ["text"], hasT := false, L := [] },
  { N := ["text", "way", "mark", "rest", "place", "slash", "tail"], ps := ["text"], hasT := false, L := [] },
  { N := ["text", "body", "sign", "far", "figures"], ps := ["text"], hasT := false, L := [] },
  { N := ["bad", "f", "rows", "told", "kind", "text", "due"], ps := [], hasT := true, L := [(222, 0), (221, 0), (220, 0), (219, 0), (228, 0), (227, 0), (226, 0), (225, 0), (224, 0), (235, 0), (234, 0), (233, 0), (232, 0), (231, 0), (230, 0), (240, 0), (239, 0), (238, 0), (237, 0), (242, 0)] },
  { N := ["script", "dice", "heads", "tails", "number", "rows", "date", "time", "names", "places", "mail", "link", "phone", "word", "flat", "text", "k", "body", "one", "kind", "given", "due", "wide", "told", "key"], ps := ["script"], hasT := true, L := [(274, 29)] }]
def lts : List LT := [{ N := [] }, { N := [] }, { N := [] }, { N := [] }, { N := [] }, { N := [] }, { N := [] }, { N := [] }, { N := [] }, { N := [] }, { N := [] }, { N := [] }, { N := [] }, { N := [] }, { N := [] }, { N := [] }, { N := [] }, { N := [] }, { N := [] }, { N := [] }, { N := ["kind", "wide"] }]
def fnn : List Str := ["read_answer", "read_special", "is_figures", "two_figures", "whole_of", "number_of", "number_text", "days_in", "date_of", "real_day", "time_of", "mail_of", "is_of", "link_of", "phone_of", "order_of", "is_same", "_law_dice", "_law_roll", "_law_rounds", "_law_told", "_law_whole", "_law_number", "_law_shown", "_law_date", "_law_time", "_law_place", "_law_mail", "_law_link", "_law_phone", "_law_plain", "law"]
def clsn : List Str := ["FormFault", "KindError"]
def gln : List Str := ["KINDS", "MOST_TEXT", "YES", "NO", "FIGURES"]
def bls : List Str := ["abs", "all", "any", "int", "len", "max", "range", "str"]
def at_ : List Nat := [9, 10, 11, 12, 13, 14, 15, 16, 17, 18, 19, 20, 21, 22, 23, 24, 25, 27, 28, 29, 30, 31, 32, 33, 34, 35, 36, 37, 38, 39, 40, 41]
def oth0 : List Str := ["FormFault", "KindError", "read_answer", "read_special", "is_figures", "two_figures", "whole_of", "number_of", "number_text", "days_in", "date_of", "real_day", "time_of", "mail_of", "is_of", "link_of", "phone_of", "order_of", "is_same", "_law_dice", "_law_roll", "_law_rounds", "_law_told", "_law_whole", "_law_number", "_law_shown", "_law_date", "_law_time", "_law_place", "_law_mail"]
def oth1 : List Str := ["_law_link", "_law_phone", "_law_plain", "KINDS", "MOST_TEXT", "YES", "NO", "FIGURES", "__name__"]
def others : List Str := oth0 ++ oth1
end K01
namespace K01
open PySem PySem.Spec PyProof.Rows L2 FS
def lawD : LawD := { g := pg, fts := fts, lts := lts, fnn := fnn, clsn := clsn, gln := gln, bls := bls, at_ := at_, top := PySem.Challenge.pw_formstack_k01_kinds_of_answers.main.body }
theorem chk : lawD.chk = true := by decide +kernel
abbrev R : PySem.W.OpenRow := PySem.W.OpenLaw.row PySem.Challenge.rw_formstack_k01_kinds_of_answers
abbrev hk : PySem.W.Hook := He.hookX 4 lawD.fa lawD.fn [] lawD.tf lawD.ex
def ob (s : PySem.W.SharedT) : He.AlX := He.obsX 4 lawD.fa lawD.fn [] lawD.tf lawD.ex (HandSHeadRun.getT s)
theorem ob_eq (s : PySem.W.SharedT) : ob s = hk.obs s.abs := He.obsX_eq (HandSHeadRun.getT_eq s)
end K01

-- text K01C
set_option Elab.async false
set_option linter.all false
set_option maxRecDepth 100000
set_option maxHeartbeats 0
namespace K01
open PySem FS
def c_read_answer : C.XS :=
  (C.scons (C.sife (C.tcons false (C.tcmp .notin (C.var 0) (C.glb pg 0)) (C.tcons false (C.tcmp .gt (C.bi .len (C.cons (C.var 1) C.nil)) (C.glb pg 1)) (C.tnil false))) (C.scons (C.rai 1)
  C.snil) C.snil)
  (C.scons (C.set (.nm 2) (C.me .strip (C.var 1) (C.cons (C.k (.str [32])) C.nil)))
  (C.scons (C.sife (C.tcmp .eq (C.var 2) (C.k (.str []))) (C.scons (C.ret (C.k (.str [])))
  C.snil) C.snil)
  (C.scons (C.sife (C.tcmp .eq (C.var 0) (C.k (.str [116, 101, 120, 116]))) (C.scons (C.sife (C.tcmp .isin (C.k (.str [10])) (C.var 2)) (C.scons (C.rai 1)
  C.snil) C.snil)
  (C.scons (C.ret (C.me .join (C.k (.str [32])) (C.cons (C.lc [3] (.nm 3) (C.ie (C.me .split (C.var 2) (C.cons (C.k (.str [32])) C.nil))) (C.tcons true (C.tcmp .ne (C.var 3) (C.k (.str []))) (C.tnil true)) (C.var 3)) C.nil)))
  C.snil)) C.snil)
  (C.scons (C.sife (C.tcmp .eq (C.var 0) (C.k (.str [108, 105, 110, 101, 115]))) (C.scons (C.ret (C.me .join (C.k (.str [10])) (C.cons (C.lc [4] (.nm 4) (C.ie (C.me .split (C.var 2) (C.cons (C.k (.str [10])) C.nil))) (C.tnil true) (C.me .rstrip (C.var 4) (C.cons (C.k (.str [32])) C.nil))) C.nil)))
  C.snil) C.snil)
  (C.scons (C.ret (C.call 1 (C.cons (C.var 0) (C.cons (C.var 2) C.nil))))
  C.snil))))))
def c_read_special : C.XS :=
  (C.scons (C.sife (C.tcmp .eq (C.var 0) (C.k (.str [119, 104, 111, 108, 101]))) (C.scons (C.ret (C.bi .str (C.cons (C.call 4 (C.cons (C.var 1) C.nil)) C.nil)))
  C.snil) C.snil)
  (C.scons (C.sife (C.tcmp .eq (C.var 0) (C.k (.str [110, 117, 109, 98, 101, 114]))) (C.scons (C.ret (C.call 6 (C.cons (C.call 5 (C.cons (C.var 1) C.nil)) C.nil)))
  C.snil) C.snil)
  (C.scons (C.sife (C.tcmp .eq (C.var 0) (C.k (.str [100, 97, 116, 101]))) (C.scons (C.set (.tup [(.nm 2), (.nm 3), (.nm 4)]) (C.call 8 (C.cons (C.var 1) C.nil)))
  (C.scons (C.ret (C.fs (C.jcons (C.var 2) (C.jcons (C.k (.str [45])) (C.jcons (C.call 3 (C.cons (C.var 3) C.nil)) (C.jcons (C.k (.str [45])) (C.jcons (C.call 3 (C.cons (C.var 4) C.nil)) C.jnil)))))))
  C.snil)) C.snil)
  (C.scons (C.sife (C.tcmp .eq (C.var 0) (C.k (.str [116, 105, 109, 101]))) (C.scons (C.set (.tup [(.nm 5), (.nm 6)]) (C.call 10 (C.cons (C.var 1) C.nil)))
  (C.scons (C.ret (C.fs (C.jcons (C.call 3 (C.cons (C.var 5) C.nil)) (C.jcons (C.k (.str [58])) (C.jcons (C.call 3 (C.cons (C.var 6) C.nil)) C.jnil)))))
  C.snil)) C.snil)
  (C.scons (C.sife (C.tcmp .eq (C.var 0) (C.k (.str [109, 97, 105, 108]))) (C.scons (C.ret (C.call 11 (C.cons (C.var 1) C.nil)))
  C.snil) C.snil)
  (C.scons (C.sife (C.tcmp .eq (C.var 0) (C.k (.str [108, 105, 110, 107]))) (C.scons (C.ret (C.call 13 (C.cons (C.var 1) C.nil)))
  C.snil) C.snil)
  (C.scons (C.sife (C.tcmp .eq (C.var 0) (C.k (.str [112, 104, 111, 110, 101]))) (C.scons (C.ret (C.call 14 (C.cons (C.var 1) C.nil)))
  C.snil) C.snil)
  (C.scons (C.set (.nm 7) (C.me .lower (C.var 1) C.nil))
  (C.scons (C.sife (C.tcmp .notin (C.var 7) (C.bin .add (C.glb pg 2) (C.glb pg 3))) (C.scons (C.rai 1)
  C.snil) C.snil)
  (C.scons (C.ret (C.ife (C.tcmp .isin (C.var 7) (C.glb pg 2)) (C.k (.str [121, 101, 115])) (C.k (.str [110, 111]))))
  C.snil))))))))))
def c_is_figures : C.XS :=
  (C.scons (C.ret (C.bop (C.bcons true (C.chn .le .le (C.k (.int 1)) (C.bi .len (C.cons (C.var 0) C.nil)) (C.var 1)) (C.blast (C.gen .all [2] (.nm 2) (C.ie (C.var 0)) (C.tnil true) (C.cmp .isin (C.var 2) (C.glb pg 4)))))))
  C.snil)
def c_two_figures : C.XS :=
  (C.scons (C.ret (C.ife (C.tcmp .gt (C.var 0) (C.k (.int 9))) (C.bi .str (C.cons (C.var 0) C.nil)) (C.bin .add (C.k (.str [48])) (C.bi .str (C.cons (C.var 0) C.nil)))))
  C.snil)
def c_whole_of : C.XS :=
  (C.scons (C.set (.nm 1) (C.ife (C.tcmp .isin (C.sl (C.var 0) true C.nop false (C.k (.int 1))) (C.tup (C.cons (C.k (.str [45])) (C.cons (C.k (.str [43])) C.nil)))) (C.sl (C.var 0) false (C.k (.int 1)) true C.nop) (C.var 0)))
  (C.scons (C.set (.nm 2) (C.me .split (C.var 1) (C.cons (C.k (.str [44])) C.nil)))
  (C.scons (C.set (.nm 3) (C.bop (C.bcons true (C.gen .all [4] (.nm 4) (C.ie (C.sl (C.var 2) false (C.k (.int 1)) true C.nop)) (C.tnil true) (C.cmp .eq (C.bi .len (C.cons (C.var 4) C.nil)) (C.k (.int 3)))) (C.blast (C.bop (C.bcons false (C.cmp .eq (C.bi .len (C.cons (C.var 2) C.nil)) (C.k (.int 1))) (C.blast (C.chn .le .le (C.k (.int 1)) (C.bi .len (C.cons (C.ix (C.var 2) (C.k (.int 0))) C.nil)) (C.k (.int 3))))))))))
  (C.scons (C.set (.nm 5) (C.me .join (C.k (.str [])) (C.cons (C.var 2) C.nil)))
  (C.scons (C.sife (C.tcons false (C.tnt (C.tv (C.var 3))) (C.tcons false (C.tnt (C.tv (C.call 2 (C.cons (C.var 5) (C.cons (C.k (.int 9)) C.nil))))) (C.tnil false))) (C.scons (C.rai 1)
  C.snil) C.snil)
  (C.scons (C.ret (C.ife (C.tcmp .eq (C.sl (C.var 0) true C.nop false (C.k (.int 1))) (C.k (.str [45]))) (C.bin .sub (C.k (.int 0)) (C.bi .int (C.cons (C.var 5) C.nil))) (C.bi .int (C.cons (C.var 5) C.nil))))
  C.snil))))))
def c_number_of : C.XS :=
  (C.scons (C.set (.tup [(.nm 1), (.nm 2), (.nm 3)]) (C.me .part (C.var 0) (C.cons (C.k (.str [46])) C.nil)))
  (C.scons (C.sife (C.tcons true (C.tcmp .ne (C.var 2) (C.k (.str []))) (C.tcons true (C.tnt (C.tv (C.call 2 (C.cons (C.var 3) (C.cons (C.k (.int 3)) C.nil))))) (C.tnil true))) (C.scons (C.rai 1)
  C.snil) C.snil)
  (C.scons (C.set (.nm 4) (C.call 4 (C.cons (C.var 1) C.nil)))
  (C.scons (C.set (.nm 5) (C.bi .int (C.cons (C.sl (C.bin .add (C.var 3) (C.k (.str [48, 48, 48]))) true C.nop false (C.k (.int 3))) C.nil)))
  (C.scons (C.ret (C.ife (C.tcmp .eq (C.sl (C.var 1) true C.nop false (C.k (.int 1))) (C.k (.str [45]))) (C.bin .sub (C.bin .mul (C.k (.int 1000)) (C.var 4)) (C.var 5)) (C.bin .add (C.bin .mul (C.k (.int 1000)) (C.var 4)) (C.var 5))))
  C.snil)))))
def c_number_text : C.XS :=
  (C.scons (C.set (.nm 1) (C.bi .max2 (C.cons (C.var 0) (C.cons (C.bin .sub (C.k (.int 0)) (C.var 0)) C.nil))))
  (C.scons (C.set (.nm 2) (C.me .rstrip (C.sl (C.bin .add (C.k (.str [48, 48, 48])) (C.bi .str (C.cons (C.bin .mod (C.var 1) (C.k (.int 1000))) C.nil))) false (C.bin .sub (C.k (.int 0)) (C.k (.int 3))) true C.nop) (C.cons (C.k (.str [48])) C.nil)))
  (C.scons (C.ret (C.bin .add (C.bin .add (C.ife (C.tcmp .lt (C.var 0) (C.k (.int 0))) (C.k (.str [45])) (C.k (.str []))) (C.bi .str (C.cons (C.bin .fdiv (C.var 1) (C.k (.int 1000))) C.nil))) (C.ife (C.tcmp .ne (C.var 2) (C.k (.str []))) (C.bin .add (C.k (.str [46])) (C.var 2)) (C.k (.str [])))))
  C.snil)))
def c_days_in : C.XS :=
  (C.scons (C.set (.nm 2) (C.bop (C.bcons true (C.cmp .eq (C.bin .mod (C.var 0) (C.k (.int 4))) (C.k (.int 0))) (C.blast (C.bop (C.bcons false (C.cmp .ne (C.bin .mod (C.var 0) (C.k (.int 100))) (C.k (.int 0))) (C.blast (C.cmp .eq (C.bin .mod (C.var 0) (C.k (.int 400))) (C.k (.int 0))))))))))
  (C.scons (C.ret (C.ife (C.tcmp .eq (C.var 1) (C.k (.int 2))) (C.ife (C.tv (C.var 2)) (C.k (.int 29)) (C.k (.int 28))) (C.ife (C.tcmp .isin (C.var 1) (C.tup (C.cons (C.k (.int 4)) (C.cons (C.k (.int 6)) (C.cons (C.k (.int 9)) (C.cons (C.k (.int 11)) C.nil)))))) (C.k (.int 30)) (C.k (.int 31)))))
  C.snil))
def c_date_of : C.XS :=
  (C.scons (C.for_ (.tup [(.nm 1), (.nm 2)]) (C.ie (C.tup (C.cons (C.tup (C.cons (C.k (.str [45])) (C.cons (C.tup (C.cons (C.k (.int 0)) (C.cons (C.k (.int 1)) (C.cons (C.k (.int 2)) C.nil)))) C.nil))) (C.cons (C.tup (C.cons (C.k (.str [46])) (C.cons (C.tup (C.cons (C.k (.int 2)) (C.cons (C.k (.int 1)) (C.cons (C.k (.int 0)) C.nil)))) C.nil))) (C.cons (C.tup (C.cons (C.k (.str [47])) (C.cons (C.tup (C.cons (C.k (.int 2)) (C.cons (C.k (.int 0)) (C.cons (C.k (.int 1)) C.nil)))) C.nil))) C.nil))))) (C.scons (C.set (.nm 3) (C.me .split (C.var 0) (C.cons (C.var 1) C.nil)))
  (C.scons (C.sife (C.tcmp .eq (C.bi .len (C.cons (C.var 3) C.nil)) (C.k (.int 3))) (C.scons (C.par [4, 5, 6] (C.cons (C.ix (C.var 3) (C.ix (C.var 2) (C.k (.int 0)))) (C.cons (C.ix (C.var 3) (C.ix (C.var 2) (C.k (.int 1)))) (C.cons (C.ix (C.var 3) (C.ix (C.var 2) (C.k (.int 2)))) C.nil))))
  (C.scons (C.sife (C.tcons false (C.tcmp .ne (C.bi .len (C.cons (C.var 4) C.nil)) (C.k (.int 4))) (C.tcons false (C.tnt (C.tv (C.call 2 (C.cons (C.var 4) (C.cons (C.k (.int 4)) C.nil))))) (C.tcons false (C.tnt (C.tv (C.call 2 (C.cons (C.bin .add (C.var 5) (C.var 6)) (C.cons (C.k (.int 4)) C.nil))))) (C.tcons false (C.tcmp .isin (C.k (.str [])) (C.tup (C.cons (C.var 5) (C.cons (C.var 6) C.nil)))) (C.tnil false))))) (C.scons (C.rai 1)
  C.snil) C.snil)
  (C.scons (C.ret (C.call 9 (C.cons (C.bi .int (C.cons (C.var 4) C.nil)) (C.cons (C.bi .int (C.cons (C.var 5) C.nil)) (C.cons (C.bi .int (C.cons (C.var 6) C.nil)) (C.cons (C.bi .len (C.cons (C.var 5) C.nil)) (C.cons (C.bi .len (C.cons (C.var 6) C.nil)) C.nil)))))))
  C.snil))) C.snil)
  C.snil)))
  (C.scons (C.rai 1)
  C.snil))
def c_real_day : C.XS :=
  (C.scons (C.sife (C.tcons false (C.tcmp .gt (C.bi .max2 (C.cons (C.var 3) (C.cons (C.var 4) C.nil))) (C.k (.int 2))) (C.tcons false (C.tnt (C.tchn .le .le (C.k (.int 1900)) (C.var 0) (C.k (.int 2999)))) (C.tcons false (C.tnt (C.tchn .le .le (C.k (.int 1)) (C.var 1) (C.k (.int 12)))) (C.tnil false)))) (C.scons (C.rai 1)
  C.snil) C.snil)
  (C.scons (C.sife (C.tnt (C.tchn .le .le (C.k (.int 1)) (C.var 2) (C.call 7 (C.cons (C.var 0) (C.cons (C.var 1) C.nil))))) (C.scons (C.rai 1)
  C.snil) C.snil)
  (C.scons (C.ret (C.tup (C.cons (C.var 0) (C.cons (C.var 1) (C.cons (C.var 2) C.nil)))))
  C.snil)))
def c_time_of : C.XS :=
  (C.scons (C.set (.nm 1) (C.me .lower (C.var 0) C.nil))
  (C.scons (C.set (.nm 2) (C.ife (C.tcmp .isin (C.sl (C.var 1) false (C.neg (C.k (.int 2))) true C.nop) (C.tup (C.cons (C.k (.str [97, 109])) (C.cons (C.k (.str [112, 109])) C.nil)))) (C.sl (C.var 1) false (C.neg (C.k (.int 2))) true C.nop) (C.k (.str []))))
  (C.scons (C.set (.nm 3) (C.ife (C.tcmp .ne (C.var 2) (C.k (.str []))) (C.me .strip (C.sl (C.var 1) true C.nop false (C.neg (C.k (.int 2)))) (C.cons (C.k (.str [32])) C.nil)) (C.var 1)))
  (C.scons (C.set (.tup [(.nm 4), (.nm 5), (.nm 6)]) (C.me .part (C.var 3) (C.cons (C.k (.str [58])) C.nil)))
  (C.scons (C.set (.nm 7) (C.ife (C.tcmp .ne (C.var 5) (C.k (.str []))) (C.bop (C.bcons true (C.cmp .eq (C.bi .len (C.cons (C.var 6) C.nil)) (C.k (.int 2))) (C.blast (C.call 2 (C.cons (C.var 6) (C.cons (C.k (.int 2)) C.nil)))))) (C.cmp .ne (C.var 2) (C.k (.str [])))))
  (C.scons (C.sife (C.tcons false (C.tnt (C.tv (C.call 2 (C.cons (C.var 4) (C.cons (C.k (.int 2)) C.nil))))) (C.tcons false (C.tnt (C.tv (C.var 7))) (C.tnil false))) (C.scons (C.rai 1)
  C.snil) C.snil)
  (C.scons (C.par [8, 9] (C.cons (C.bi .int (C.cons (C.var 4) C.nil)) (C.cons (C.ife (C.tcmp .ne (C.var 5) (C.k (.str []))) (C.bi .int (C.cons (C.var 6) C.nil)) (C.k (.int 0))) C.nil)))
  (C.scons (C.sife (C.tcons false (C.tcmp .gt (C.var 9) (C.k (.int 59))) (C.tcons false (C.tcons true (C.tcmp .ne (C.var 2) (C.k (.str []))) (C.tcons true (C.tnt (C.tchn .le .le (C.k (.int 1)) (C.var 8) (C.k (.int 12)))) (C.tnil true))) (C.tcons false (C.tcons true (C.tcmp .eq (C.var 2) (C.k (.str []))) (C.tcons true (C.tcmp .gt (C.var 8) (C.k (.int 23))) (C.tnil true))) (C.tnil false)))) (C.scons (C.rai 1)
  C.snil) C.snil)
  (C.scons (C.ret (C.tup (C.cons (C.ife (C.tcmp .ne (C.var 2) (C.k (.str []))) (C.bin .add (C.bin .mod (C.var 8) (C.k (.int 12))) (C.ife (C.tcmp .eq (C.var 2) (C.k (.str [112, 109]))) (C.k (.int 12)) (C.k (.int 0)))) (C.var 8)) (C.cons (C.var 9) C.nil))))
  C.snil)))))))))
def c_mail_of : C.XS :=
  (C.scons (C.set (.tup [(.nm 1), (.nm 2), (.nm 3)]) (C.me .part (C.var 0) (C.cons (C.k (.str [64])) C.nil)))
  (C.scons (C.set (.nm 4) (C.me .lower (C.var 3) C.nil))
  (C.scons (C.set (.nm 5) (C.me .split (C.var 4) (C.cons (C.k (.str [46])) C.nil)))
  (C.scons (C.sife (C.tcons false (C.tcmp .eq (C.var 1) (C.k (.str []))) (C.tcons false (C.tnt (C.tv (C.call 12 (C.cons (C.var 1) (C.cons (C.k (.str [46, 95, 43, 45])) C.nil))))) (C.tcons false (C.tcmp .eq (C.ix (C.var 1) (C.k (.int 0))) (C.k (.str [46]))) (C.tcons false (C.tcmp .eq (C.ix (C.var 1) (C.neg (C.k (.int 1)))) (C.k (.str [46]))) (C.tcons false (C.tcmp .isin (C.k (.str [46, 46])) (C.var 1)) (C.tnil false)))))) (C.scons (C.rai 1)
  C.snil) C.snil)
  (C.scons (C.set (.nm 6) (C.gen .any [7] (.nm 7) (C.ie (C.var 5)) (C.tnil true) (C.bop (C.bcons false (C.cmp .ne (C.me .strip (C.var 7) (C.cons (C.k (.str [45])) C.nil)) (C.var 7)) (C.bcons false (C.cmp .eq (C.var 7) (C.k (.str []))) (C.blast (C.bnot (C.call 12 (C.cons (C.var 7) (C.cons (C.k (.str [45])) C.nil))))))))))
  (C.scons (C.sife (C.tcons false (C.tcmp .lt (C.bi .len (C.cons (C.var 5) C.nil)) (C.k (.int 2))) (C.tcons false (C.tv (C.var 6)) (C.tnil false))) (C.scons (C.rai 1)
  C.snil) C.snil)
  (C.scons (C.sife (C.tcons false (C.tcmp .lt (C.bi .len (C.cons (C.ix (C.var 5) (C.neg (C.k (.int 1)))) C.nil)) (C.k (.int 2))) (C.tcons false (C.tv (C.gen .any [8] (.nm 8) (C.ie (C.ix (C.var 5) (C.neg (C.k (.int 1))))) (C.tnil true) (C.cmp .isin (C.var 8) (C.bin .add (C.glb pg 4) (C.k (.str [45])))))) (C.tnil false))) (C.scons (C.rai 1)
  C.snil) C.snil)
  (C.scons (C.ret (C.bin .add (C.bin .add (C.var 1) (C.k (.str [64]))) (C.var 4)))
  C.snil))))))))
def c_is_of : C.XS :=
  (C.scons (C.set (.nm 2) (C.bin .add (C.bin .add (C.k (.str [97, 98, 99, 100, 101, 102, 103, 104, 105, 106, 107, 108, 109, 110, 111, 112, 113, 114, 115, 116, 117, 118, 119, 120, 121, 122])) (C.glb pg 4)) (C.var 1)))
  (C.scons (C.ret (C.gen .all [3] (.nm 3) (C.ie (C.me .lower (C.var 0) C.nil)) (C.tnil true) (C.cmp .isin (C.var 3) (C.var 2))))
  C.snil))
def c_link_of : C.XS :=
  (C.scons (C.set (.tup [(.nm 1), (.nm 2), (.nm 3)]) (C.me .part (C.var 0) (C.cons (C.k (.str [58, 47, 47])) C.nil)))
  (C.scons (C.set (.tup [(.nm 1), (.nm 3)]) (C.ife (C.tcmp .ne (C.var 2) (C.k (.str []))) (C.tup (C.cons (C.me .lower (C.var 1) C.nil) (C.cons (C.var 3) C.nil))) (C.tup (C.cons (C.k (.str [104, 116, 116, 112, 115])) (C.cons (C.var 0) C.nil)))))
  (C.scons (C.set (.tup [(.nm 4), (.nm 5), (.nm 6)]) (C.me .part (C.var 3) (C.cons (C.k (.str [47])) C.nil)))
  (C.scons (C.sife (C.tcons false (C.tcmp .notin (C.var 1) (C.tup (C.cons (C.k (.str [104, 116, 116, 112])) (C.cons (C.k (.str [104, 116, 116, 112, 115])) C.nil)))) (C.tcons false (C.tcmp .isin (C.k (.str [32])) (C.var 0)) (C.tnil false))) (C.scons (C.rai 1)
  C.snil) C.snil)
  (C.scons (C.ret (C.bin .add (C.bin .add (C.bin .add (C.bin .add (C.var 1) (C.k (.str [58, 47, 47]))) (C.sl (C.call 11 (C.cons (C.bin .add (C.k (.str [97, 64])) (C.var 4)) C.nil)) false (C.k (.int 2)) true C.nop)) (C.k (.str [47]))) (C.var 6)))
  C.snil)))))
def c_phone_of : C.XS :=
  (C.scons (C.set (.nm 1) (C.me .join (C.k (.str [])) (C.cons (C.lc [2] (.nm 2) (C.ie (C.var 0)) (C.tcons true (C.tcmp .notin (C.var 2) (C.k (.str [32, 45, 40, 41]))) (C.tnil true)) (C.var 2)) C.nil)))
  (C.scons (C.set (.nm 3) (C.bop (C.bcons false (C.cmp .eq (C.sl (C.var 1) true C.nop false (C.k (.int 1))) (C.k (.str [43]))) (C.blast (C.cmp .eq (C.sl (C.var 1) true C.nop false (C.k (.int 2))) (C.k (.str [48, 48])))))))
  (C.scons (C.set (.nm 4) (C.ife (C.tcmp .eq (C.sl (C.var 1) true C.nop false (C.k (.int 1))) (C.k (.str [43]))) (C.sl (C.var 1) false (C.k (.int 1)) true C.nop) (C.ife (C.tcmp .eq (C.sl (C.var 1) true C.nop false (C.k (.int 2))) (C.k (.str [48, 48]))) (C.sl (C.var 1) false (C.k (.int 2)) true C.nop) (C.var 1))))
  (C.scons (C.sife (C.tcons false (C.tnt (C.tv (C.call 2 (C.cons (C.var 4) (C.cons (C.k (.int 15)) C.nil))))) (C.tcons false (C.tcmp .lt (C.bi .len (C.cons (C.var 4) C.nil)) (C.k (.int 7))) (C.tnil false))) (C.scons (C.rai 1)
  C.snil) C.snil)
  (C.scons (C.ret (C.ife (C.tv (C.var 3)) (C.bin .add (C.k (.str [43])) (C.var 4)) (C.var 4)))
  C.snil)))))
def c_order_of : C.XS :=
  (C.scons (C.sife (C.tcmp .eq (C.call 0 (C.cons (C.var 0) (C.cons (C.var 1) C.nil))) (C.k (.str []))) (C.scons (C.ret (C.tup (C.cons (C.k (.int 0)) (C.cons (C.k (.int 0)) (C.cons (C.k (.str [])) C.nil)))))
  C.snil) C.snil)
  (C.scons (C.sife (C.tcmp .isin (C.var 0) (C.tup (C.cons (C.k (.str [119, 104, 111, 108, 101])) (C.cons (C.k (.str [110, 117, 109, 98, 101, 114])) C.nil)))) (C.scons (C.ret (C.tup (C.cons (C.k (.int 1)) (C.cons (C.call 5 (C.cons (C.var 1) C.nil)) (C.cons (C.k (.str [])) C.nil)))))
  C.snil) C.snil)
  (C.scons (C.ret (C.tup (C.cons (C.k (.int 1)) (C.cons (C.k (.int 0)) (C.cons (C.var 1) C.nil)))))
  C.snil)))
def c_is_same : C.XS :=
  (C.scons (C.ret (C.cmp .eq (C.me .lower (C.call 0 (C.cons (C.var 0) (C.cons (C.var 1) C.nil))) C.nil) (C.me .lower (C.call 0 (C.cons (C.var 0) (C.cons (C.var 2) C.nil))) C.nil)))
  C.snil)
def c__law_dice : C.XS :=
  (C.scons (C.sife (C.tchn .lt .lt (C.bin .sub (C.k (.int 0)) (C.k (.int 10))) (C.var 0) (C.k (.int 10))) (C.scons (C.ret (C.lst true (C.cons (C.bi .abs (C.cons (C.var 0) C.nil)) (C.cons (C.k (.int 0)) (C.cons (C.k (.int 2)) C.nil)))))
  C.snil) C.snil)
  (C.scons (C.ret (C.lst true (C.cons (C.var 0) (C.cons (C.bin .add (C.k (.int 1)) (C.bin .mod (C.bi .int (C.cons (C.var 0) C.nil)) (C.k (.int 1009)))) (C.cons (C.bi .int (C.cons (C.cmp .ge (C.var 0) (C.bin .pow (C.k (.int 10)) (C.k (.int 18)))) C.nil)) C.nil)))))
  C.snil))
def c__law_roll : C.XS :=
  (C.scons (C.sife (C.tcons false (C.tcmp .eq (C.ix (C.var 0) (C.k (.int 2))) (C.k (.int 2))) (C.tcons false (C.tcons true (C.tcmp .eq (C.ix (C.var 0) (C.k (.int 2))) (C.k (.int 1))) (C.tcons true (C.tcmp .gt (C.ix (C.var 0) (C.k (.int 0))) (C.k (.int 0))) (C.tnil true))) (C.tnil false))) (C.scons (C.set (.nm 2) (C.bin .mod (C.bi .int (C.cons (C.ix (C.var 0) (C.k (.int 0))) C.nil)) (C.var 1)))
  (C.scons (C.sub (C.bin .fdiv (C.ix (C.var 0) (C.k (.int 0))) (C.var 1)) (C.var 0) (C.k (.int 0)))
  (C.scons (C.ret (C.var 2))
  C.snil))) C.snil)
  (C.scons (C.sub (C.k (.int 0)) (C.var 0) (C.k (.int 2)))
  (C.scons (C.sife (C.tcmp .gt (C.var 1) (C.k (.int 100000000))) (C.scons (C.ret (C.bin .mod (C.bi .int (C.cons (C.bin .add (C.bin .mul (C.call 18 (C.cons (C.var 0) (C.cons (C.bin .add (C.bin .fdiv (C.var 1) (C.k (.int 100000000))) (C.k (.int 1))) C.nil))) (C.k (.int 100000000))) (C.call 18 (C.cons (C.var 0) (C.cons (C.k (.int 100000000)) C.nil)))) C.nil)) (C.var 1)))
  C.snil) C.snil)
  (C.scons (C.sub (C.bin .mod (C.bi .int (C.cons (C.bin .add (C.bin .add (C.bin .mul (C.ix (C.var 0) (C.k (.int 0))) (C.k (.int 48271))) (C.bin .mul (C.ix (C.var 0) (C.k (.int 1))) (C.k (.int 69621)))) (C.k (.int 11))) C.nil)) (C.k (.int 2147483647))) (C.var 0) (C.k (.int 0)))
  (C.scons (C.sub (C.bin .add (C.ix (C.var 0) (C.k (.int 1))) (C.k (.int 1))) (C.var 0) (C.k (.int 1)))
  (C.scons (C.ret (C.bin .mod (C.bi .int (C.cons (C.bin .fdiv (C.ix (C.var 0) (C.k (.int 0))) (C.k (.int 7))) C.nil)) (C.var 1)))
  C.snil))))))
def c__law_rounds : C.XS :=
  (C.scons (C.set (.nm 2) (C.sl (C.var 0) true C.nop false (C.var 1)))
  (C.scons (C.sife (C.tcmp .eq (C.var 2) (C.lst false C.nil)) (C.scons (C.set (.nm 2) (C.lst false (C.cons (C.k (.int 0)) C.nil)))
  C.snil) C.snil)
  (C.scons (C.ret (C.lc [3] (.nm 3) (C.ie (C.var 2)) (C.tnil true) (C.call 17 (C.cons (C.var 3) C.nil))))
  C.snil)))
def c__law_told : C.XS :=
  (C.scons (C.tri pg (C.scons (C.ret (C.app pg 0))
  C.snil) [(1, (.ret (.str [75, 105, 110, 100, 69, 114, 114, 111, 114])))])
  C.snil)
def c__law_whole : C.XS :=
  (C.scons (C.set (.nm 1) (C.ife (C.tcmp .isin (C.sl (C.var 0) true C.nop false (C.k (.int 1))) (C.lst false (C.cons (C.k (.str [45])) (C.cons (C.k (.str [43])) C.nil)))) (C.sl (C.var 0) false (C.k (.int 1)) true C.nop) (C.var 0)))
  (C.scons (C.set (.nm 2) (C.me .split (C.var 1) (C.cons (C.k (.str [44])) C.nil)))
  (C.scons (C.set (.nm 3) (C.me .join (C.k (.str [])) (C.cons (C.var 2) C.nil)))
  (C.scons (C.set (.nm 4) (C.bop (C.bcons true (C.cmp .eq (C.lc [5] (.nm 5) (C.ie (C.sl (C.var 2) false (C.k (.int 1)) true C.nop)) (C.tcons true (C.tcmp .ne (C.bi .len (C.cons (C.var 5) C.nil)) (C.k (.int 3))) (C.tnil true)) (C.var 5)) (C.lst false C.nil)) (C.bcons true (C.bop (C.bcons false (C.cmp .eq (C.bi .len (C.cons (C.var 2) C.nil)) (C.k (.int 1))) (C.blast (C.chn .lt .lt (C.k (.int 0)) (C.bi .len (C.cons (C.ix (C.var 2) (C.k (.int 0))) C.nil)) (C.k (.int 4)))))) (C.bcons true (C.chn .lt .lt (C.k (.int 0)) (C.bi .len (C.cons (C.var 3) C.nil)) (C.k (.int 10))) (C.blast (C.cmp .eq (C.lc [6] (.nm 6) (C.ie (C.var 3)) (C.tcons true (C.tcmp .notin (C.var 6) (C.k (.str [48, 49, 50, 51, 52, 53, 54, 55, 56, 57]))) (C.tnil true)) (C.var 6)) (C.lst false C.nil))))))))
  (C.scons (C.ret (C.ife (C.tv (C.var 4)) (C.ife (C.tcmp .eq (C.sl (C.var 0) true C.nop false (C.k (.int 1))) (C.k (.str [45]))) (C.neg (C.bi .int (C.cons (C.var 3) C.nil))) (C.bi .int (C.cons (C.var 3) C.nil))) (C.k .non)))
  C.snil)))))
def c__law_number : C.XS :=
  (C.scons (C.set (.tup [(.nm 1), (.nm 2), (.nm 3)]) (C.me .part (C.var 0) (C.cons (C.k (.str [46])) C.nil)))
  (C.scons (C.set (.nm 4) (C.call 21 (C.cons (C.var 1) C.nil)))
  (C.scons (C.set (.nm 5) (C.bop (C.bcons true (C.cmp .notn (C.var 4) (C.k .non)) (C.blast (C.bop (C.bcons false (C.cmp .eq (C.var 2) (C.k (.str []))) (C.blast (C.bop (C.bcons true (C.chn .lt .lt (C.k (.int 0)) (C.bi .len (C.cons (C.var 3) C.nil)) (C.k (.int 4))) (C.blast (C.cmp .eq (C.lc [6] (.nm 6) (C.ie (C.var 3)) (C.tcons true (C.tcmp .notin (C.var 6) (C.k (.str [48, 49, 50, 51, 52, 53, 54, 55, 56, 57]))) (C.tnil true)) (C.var 6)) (C.lst false C.nil))))))))))))
  (C.scons (C.ret (C.ife (C.tnt (C.tv (C.var 5))) (C.k .non) (C.bin .add (C.bin .mul (C.k (.int 1000)) (C.var 4)) (C.bin .mul (C.bi .int (C.cons (C.sl (C.bin .add (C.var 3) (C.k (.str [48, 48, 48]))) true C.nop false (C.k (.int 3))) C.nil)) (C.ife (C.tcmp .eq (C.ix (C.var 0) (C.k (.int 0))) (C.k (.str [45]))) (C.neg (C.k (.int 1))) (C.k (.int 1)))))))
  C.snil))))
def c__law_shown : C.XS :=
  (C.scons (C.set (.nm 1) (C.bi .abs (C.cons (C.var 0) C.nil)))
  (C.scons (C.set (.nm 2) (C.me .rstrip (C.sl (C.bin .add (C.k (.str [48, 48])) (C.bi .str (C.cons (C.bin .mod (C.var 1) (C.k (.int 1000))) C.nil))) false (C.neg (C.k (.int 3))) true C.nop) (C.cons (C.k (.str [48])) C.nil)))
  (C.scons (C.ret (C.bin .add (C.bin .add (C.bin .add (C.bin .mul (C.k (.str [45])) (C.bi .int (C.cons (C.cmp .lt (C.var 0) (C.k (.int 0))) C.nil))) (C.bi .str (C.cons (C.bin .fdiv (C.var 1) (C.k (.int 1000))) C.nil))) (C.bin .mul (C.k (.str [46])) (C.bi .int (C.cons (C.cmp .ne (C.var 2) (C.k (.str []))) C.nil)))) (C.var 2)))
  C.snil)))
def c__law_date : C.XS :=
  (C.scons (C.set (.tup [(.nm 1), (.nm 2), (.nm 3), (.nm 4)]) (C.tup (C.cons (C.ix (C.lst false (C.cons (C.k (.int 1999)) (C.cons (C.k (.int 2000)) (C.cons (C.k (.int 2024)) (C.cons (C.k (.int 2026)) (C.cons (C.k (.int 1899)) C.nil)))))) (C.call 18 (C.cons (C.var 0) (C.cons (C.k (.int 5)) C.nil)))) (C.cons (C.call 18 (C.cons (C.var 0) (C.cons (C.k (.int 14)) C.nil))) (C.cons (C.call 18 (C.cons (C.var 0) (C.cons (C.k (.int 33)) C.nil))) (C.cons (C.call 18 (C.cons (C.var 0) (C.cons (C.k (.int 3)) C.nil))) C.nil))))))
  (C.scons (C.set (.nm 5) (C.cmp .eq (C.call 18 (C.cons (C.var 0) (C.cons (C.k (.int 2)) C.nil))) (C.k (.int 0))))
  (C.scons (C.set (.nm 6) (C.lc [7] (.nm 7) (C.ie (C.lst false (C.cons (C.var 2) (C.cons (C.var 3) C.nil)))) (C.tnil true) (C.ife (C.tv (C.var 5)) (C.sl (C.bin .add (C.k (.str [48])) (C.bi .str (C.cons (C.var 7) C.nil))) false (C.neg (C.k (.int 2))) true C.nop) (C.bi .str (C.cons (C.var 7) C.nil)))))
  (C.scons (C.set (.nm 8) (C.ix (C.lst false (C.cons (C.bin .add (C.bin .add (C.bin .add (C.bin .add (C.bi .str (C.cons (C.var 1) C.nil)) (C.k (.str [45]))) (C.ix (C.var 6) (C.k (.int 0)))) (C.k (.str [45]))) (C.ix (C.var 6) (C.k (.int 1)))) (C.cons (C.bin .add (C.bin .add (C.bin .add (C.bin .add (C.ix (C.var 6) (C.k (.int 1))) (C.k (.str [46]))) (C.ix (C.var 6) (C.k (.int 0)))) (C.k (.str [46]))) (C.bi .str (C.cons (C.var 1) C.nil))) (C.cons (C.bin .add (C.bin .add (C.bin .add (C.bin .add (C.ix (C.var 6) (C.k (.int 0))) (C.k (.str [47]))) (C.ix (C.var 6) (C.k (.int 1)))) (C.k (.str [47]))) (C.bi .str (C.cons (C.var 1) C.nil))) C.nil)))) (C.var 4)))
  (C.scons (C.set (.nm 9) (C.bop (C.bcons true (C.cmp .eq (C.bin .mod (C.var 1) (C.k (.int 4))) (C.k (.int 0))) (C.blast (C.bop (C.bcons false (C.cmp .ne (C.bin .mod (C.var 1) (C.k (.int 100))) (C.k (.int 0))) (C.blast (C.cmp .eq (C.bin .mod (C.var 1) (C.k (.int 400))) (C.k (.int 0))))))))))
  (C.scons (C.set (.nm 10) (C.lst false (C.cons (C.k (.int 0)) (C.cons (C.k (.int 31)) (C.cons (C.bin .add (C.k (.int 28)) (C.bi .int (C.cons (C.var 9) C.nil))) (C.cons (C.k (.int 31)) (C.cons (C.k (.int 30)) (C.cons (C.k (.int 31)) (C.cons (C.k (.int 30)) (C.cons (C.k (.int 31)) (C.cons (C.k (.int 31)) (C.cons (C.k (.int 30)) (C.cons (C.k (.int 31)) (C.cons (C.k (.int 30)) (C.cons (C.k (.int 31)) (C.cons (C.k (.int 0)) C.nil))))))))))))))))
  (C.scons (C.set (.nm 11) (C.bop (C.bcons true (C.cmp .ge (C.var 1) (C.k (.int 1900))) (C.blast (C.chn .le .le (C.k (.int 1)) (C.var 3) (C.ix (C.var 10) (C.var 2)))))))
  (C.scons (C.ret (C.tup (C.cons (C.var 8) (C.cons (C.ife (C.tv (C.var 11)) (C.bin .add (C.bin .add (C.bin .add (C.bin .add (C.bi .str (C.cons (C.var 1) C.nil)) (C.k (.str [45]))) (C.sl (C.bin .add (C.k (.str [48])) (C.bi .str (C.cons (C.var 2) C.nil))) false (C.neg (C.k (.int 2))) true C.nop)) (C.k (.str [45]))) (C.sl (C.bin .add (C.k (.str [48])) (C.bi .str (C.cons (C.var 3) C.nil))) false (C.neg (C.k (.int 2))) true C.nop)) (C.k .non)) C.nil))))
  C.snil))))))))
def c__law_time : C.XS :=
  (C.scons (C.par [1, 2, 3] (C.cons (C.call 18 (C.cons (C.var 0) (C.cons (C.k (.int 26)) C.nil))) (C.cons (C.call 18 (C.cons (C.var 0) (C.cons (C.k (.int 62)) C.nil))) (C.cons (C.ix (C.lst false (C.cons (C.k (.str [])) (C.cons (C.k (.str [97, 109])) (C.cons (C.k (.str [80, 77])) (C.cons (C.k (.str [32, 112, 109])) C.nil))))) (C.call 18 (C.cons (C.var 0) (C.cons (C.k (.int 4)) C.nil)))) C.nil))))
  (C.scons (C.set (.nm 4) (C.bop (C.bcons true (C.cmp .ne (C.var 3) (C.k (.str []))) (C.blast (C.cmp .eq (C.call 18 (C.cons (C.var 0) (C.cons (C.k (.int 3)) C.nil))) (C.k (.int 0)))))))
  (C.scons (C.set (.nm 5) (C.bin .add (C.bin .add (C.bi .str (C.cons (C.var 1) C.nil)) (C.ife (C.tv (C.var 4)) (C.k (.str [])) (C.bin .add (C.k (.str [58])) (C.sl (C.bin .add (C.k (.str [48])) (C.bi .str (C.cons (C.var 2) C.nil))) false (C.neg (C.k (.int 2))) true C.nop)))) (C.var 3)))
  (C.scons (C.set (.nm 2) (C.ife (C.tv (C.var 4)) (C.k (.int 0)) (C.var 2)))
  (C.scons (C.sife (C.tcmp .eq (C.var 3) (C.k (.str []))) (C.scons (C.par [6, 7] (C.cons (C.bop (C.bcons true (C.cmp .lt (C.var 1) (C.k (.int 24))) (C.blast (C.cmp .lt (C.var 2) (C.k (.int 60)))))) (C.cons (C.var 1) C.nil)))
  C.snil) (C.scons (C.par [6, 7] (C.cons (C.bop (C.bcons true (C.chn .le .le (C.k (.int 1)) (C.var 1) (C.k (.int 12))) (C.blast (C.cmp .lt (C.var 2) (C.k (.int 60)))))) (C.cons (C.bin .add (C.bin .mod (C.var 1) (C.k (.int 12))) (C.ife (C.tcmp .eq (C.me .strip (C.me .lower (C.var 3) C.nil) (C.cons (C.k (.str [32])) C.nil)) (C.k (.str [112, 109]))) (C.k (.int 12)) (C.k (.int 0)))) C.nil)))
  C.snil))
  (C.scons (C.ret (C.tup (C.cons (C.var 5) (C.cons (C.ife (C.tv (C.var 6)) (C.bin .add (C.bin .add (C.sl (C.bin .add (C.k (.str [48])) (C.bi .str (C.cons (C.var 7) C.nil))) false (C.neg (C.k (.int 2))) true C.nop) (C.k (.str [58]))) (C.sl (C.bin .add (C.k (.str [48])) (C.bi .str (C.cons (C.var 2) C.nil))) false (C.neg (C.k (.int 2))) true C.nop)) (C.k .non)) C.nil))))
  C.snil))))))
def c__law_place : C.XS :=
  (C.scons (C.set (.nm 1) (C.me .split (C.me .lower (C.var 0) C.nil) (C.cons (C.k (.str [46])) C.nil)))
  (C.scons (C.set (.nm 2) (C.lc [3] (.nm 3) (C.ie (C.var 1)) (C.tcons true (C.tcons false (C.tcmp .eq (C.var 3) (C.k (.str []))) (C.tcons false (C.tcmp .eq (C.ix (C.var 3) (C.k (.int 0))) (C.k (.str [45]))) (C.tcons false (C.tcmp .eq (C.ix (C.var 3) (C.neg (C.k (.int 1)))) (C.k (.str [45]))) (C.tcons false (C.tcmp .ne (C.lc [4] (.nm 4) (C.ie (C.var 3)) (C.tcons true (C.tcmp .notin (C.var 4) (C.k (.str [97, 98, 99, 100, 101, 102, 103, 104, 105, 106, 107, 108, 109, 110, 111, 112, 113, 114, 115, 116, 117, 118, 119, 120, 121, 122, 48, 49, 50, 51, 52, 53, 54, 55, 56, 57, 45]))) (C.tnil true)) (C.var 4)) (C.lst false C.nil)) (C.tnil false))))) (C.tnil true)) (C.var 3)))
  (C.scons (C.sife (C.tnt (C.tcons true (C.tcmp .gt (C.bi .len (C.cons (C.var 1) C.nil)) (C.k (.int 1))) (C.tcons true (C.tcmp .eq (C.var 2) (C.lst false C.nil)) (C.tcons true (C.tcmp .gt (C.bi .len (C.cons (C.ix (C.var 1) (C.neg (C.k (.int 1)))) C.nil)) (C.k (.int 1))) (C.tnil true))))) (C.scons (C.ret (C.k (.bl false)))
  C.snil) C.snil)
  (C.scons (C.ret (C.cmp .eq (C.lc [4] (.nm 4) (C.ie (C.ix (C.var 1) (C.neg (C.k (.int 1))))) (C.tcons true (C.tcmp .isin (C.var 4) (C.k (.str [48, 49, 50, 51, 52, 53, 54, 55, 56, 57, 45]))) (C.tnil true)) (C.var 4)) (C.lst false C.nil)))
  C.snil))))
def c__law_mail : C.XS :=
  (C.scons (C.set (.tup [(.nm 1), (.nm 2), (.nm 3)]) (C.me .part (C.var 0) (C.cons (C.k (.str [64])) C.nil)))
  (C.scons (C.set (.nm 4) (C.k (.str [97, 98, 99, 100, 101, 102, 103, 104, 105, 106, 107, 108, 109, 110, 111, 112, 113, 114, 115, 116, 117, 118, 119, 120, 121, 122, 48, 49, 50, 51, 52, 53, 54, 55, 56, 57, 46, 95, 43, 45])))
  (C.scons (C.set (.nm 5) (C.bop (C.bcons true (C.cmp .ne (C.var 1) (C.k (.str []))) (C.bcons true (C.cmp .eq (C.lc [6] (.nm 6) (C.ie (C.me .lower (C.var 1) C.nil)) (C.tcons true (C.tcmp .notin (C.var 6) (C.var 4)) (C.tnil true)) (C.var 6)) (C.lst false C.nil)) (C.bcons true (C.cmp .ne (C.ix (C.var 1) (C.k (.int 0))) (C.k (.str [46]))) (C.bcons true (C.cmp .ne (C.ix (C.var 1) (C.neg (C.k (.int 1)))) (C.k (.str [46]))) (C.blast (C.cmp .notin (C.k (.str [46, 46])) (C.var 1)))))))))
  (C.scons (C.ret (C.ife (C.tcons true (C.tcmp .ne (C.var 2) (C.k (.str []))) (C.tcons true (C.tv (C.var 5)) (C.tcons true (C.tv (C.call 26 (C.cons (C.var 3) C.nil))) (C.tnil true)))) (C.bin .add (C.bin .add (C.var 1) (C.k (.str [64]))) (C.me .lower (C.var 3) C.nil)) (C.k .non)))
  C.snil))))
def c__law_link : C.XS :=
  (C.scons (C.set (.tup [(.nm 1), (.nm 2), (.nm 3)]) (C.me .part (C.var 0) (C.cons (C.k (.str [58, 47, 47])) C.nil)))
  (C.scons (C.set (.tup [(.nm 1), (.nm 3)]) (C.ife (C.tcmp .ne (C.var 2) (C.k (.str []))) (C.tup (C.cons (C.me .lower (C.var 1) C.nil) (C.cons (C.var 3) C.nil))) (C.tup (C.cons (C.k (.str [104, 116, 116, 112, 115])) (C.cons (C.var 0) C.nil)))))
  (C.scons (C.set (.tup [(.nm 4), (.nm 5), (.nm 6)]) (C.me .part (C.var 3) (C.cons (C.k (.str [47])) C.nil)))
  (C.scons (C.ret (C.ife (C.tcons true (C.tcmp .isin (C.var 1) (C.lst false (C.cons (C.k (.str [104, 116, 116, 112])) (C.cons (C.k (.str [104, 116, 116, 112, 115])) C.nil)))) (C.tcons true (C.tcmp .notin (C.k (.str [32])) (C.var 0)) (C.tcons true (C.tv (C.call 26 (C.cons (C.var 4) C.nil))) (C.tnil true)))) (C.bin .add (C.bin .add (C.bin .add (C.bin .add (C.var 1) (C.k (.str [58, 47, 47]))) (C.me .lower (C.var 4) C.nil)) (C.k (.str [47]))) (C.var 6)) (C.k .non)))
  C.snil))))
def c__law_phone : C.XS :=
  (C.scons (C.set (.nm 1) (C.me .join (C.k (.str [])) (C.cons (C.lc [2] (.nm 2) (C.ie (C.var 0)) (C.tcons true (C.tcmp .notin (C.var 2) (C.k (.str [32, 45, 40, 41]))) (C.tnil true)) (C.var 2)) C.nil)))
  (C.scons (C.set (.nm 3) (C.bop (C.bcons false (C.cmp .eq (C.sl (C.var 1) true C.nop false (C.k (.int 1))) (C.k (.str [43]))) (C.blast (C.cmp .eq (C.sl (C.var 1) true C.nop false (C.k (.int 2))) (C.k (.str [48, 48])))))))
  (C.scons (C.set (.nm 4) (C.ife (C.tcmp .eq (C.sl (C.var 1) true C.nop false (C.k (.int 1))) (C.k (.str [43]))) (C.sl (C.var 1) false (C.k (.int 1)) true C.nop) (C.ife (C.tcmp .eq (C.sl (C.var 1) true C.nop false (C.k (.int 2))) (C.k (.str [48, 48]))) (C.sl (C.var 1) false (C.k (.int 2)) true C.nop) (C.var 1))))
  (C.scons (C.ret (C.ife (C.tcons true (C.tchn .le .le (C.k (.int 7)) (C.bi .len (C.cons (C.var 4) C.nil)) (C.k (.int 15))) (C.tcons true (C.tcmp .eq (C.lc [2] (.nm 2) (C.ie (C.var 4)) (C.tcons true (C.tcmp .notin (C.var 2) (C.k (.str [48, 49, 50, 51, 52, 53, 54, 55, 56, 57]))) (C.tnil true)) (C.var 2)) (C.lst false C.nil)) (C.tnil true))) (C.bin .add (C.bin .mul (C.k (.str [43])) (C.bi .int (C.cons (C.var 3) C.nil))) (C.var 4)) (C.k .non)))
  C.snil))))
def c__law_plain : C.XS :=
  (C.scons (C.set (.nm 0) (C.lst false (C.cons (C.lam 3) (C.cons (C.lam 2) (C.cons (C.lam 1) (C.cons (C.lam 0) C.nil))))))
  (C.scons (C.set (.nm 0) (C.bin .add (C.var 0) (C.lst false (C.cons (C.lam 8) (C.cons (C.lam 7) (C.cons (C.lam 6) (C.cons (C.lam 5) (C.cons (C.lam 4) C.nil))))))))
  (C.scons (C.set (.nm 0) (C.bin .add (C.var 0) (C.lst false (C.cons (C.lam 14) (C.cons (C.lam 13) (C.cons (C.lam 12) (C.cons (C.lam 11) (C.cons (C.lam 10) (C.cons (C.lam 9) C.nil)))))))))
  (C.scons (C.set (.nm 0) (C.bin .add (C.var 0) (C.lst false (C.cons (C.lam 18) (C.cons (C.lam 17) (C.cons (C.lam 16) (C.cons (C.lam 15) C.nil)))))))
  (C.scons (C.set (.nm 0) (C.bin .add (C.var 0) (C.lst false (C.cons (C.lam 19) C.nil))))
  (C.scons (C.sife (C.tcmp .ne (C.lc [1] (.nm 1) (C.ie (C.var 0)) (C.tcons true (C.tcmp .ne (C.call 20 (C.cons (C.var 1) C.nil)) (C.k (.str [75, 105, 110, 100, 69, 114, 114, 111, 114]))) (C.tnil true)) (C.k (.int 1))) (C.lst false C.nil)) (C.scons (C.ret (C.k (.bl false)))
  C.snil) C.snil)
  (C.scons (C.sife (C.tcmp .ne (C.tup (C.cons (C.bi .len (C.cons (C.glb pg 0) C.nil)) (C.cons (C.glb pg 1) (C.cons (C.glb pg 2) (C.cons (C.glb pg 3) (C.cons (C.glb pg 4) C.nil)))))) (C.tup (C.cons (C.k (.int 10)) (C.cons (C.k (.int 400)) (C.cons (C.tup (C.cons (C.k (.str [121, 101, 115])) (C.cons (C.k (.str [121])) (C.cons (C.k (.str [116, 114, 117, 101])) (C.cons (C.k (.str [49])) (C.cons (C.k (.str [111, 110])) C.nil)))))) (C.cons (C.tup (C.cons (C.k (.str [110, 111])) (C.cons (C.k (.str [110])) (C.cons (C.k (.str [102, 97, 108, 115, 101])) (C.cons (C.k (.str [48])) (C.cons (C.k (.str [111, 102, 102])) C.nil)))))) (C.cons (C.k (.str [48, 49, 50, 51, 52, 53, 54, 55, 56, 57])) C.nil))))))) (C.scons (C.ret (C.k (.bl false)))
  C.snil) C.snil)
  (C.scons (C.set (.nm 2) (C.lst false (C.cons (C.tup (C.cons (C.k (.str [116, 101, 120, 116])) (C.cons (C.k (.str [32, 97, 32, 32, 98, 32])) C.nil))) (C.cons (C.tup (C.cons (C.k (.str [119, 104, 111, 108, 101])) (C.cons (C.k (.str [43, 49, 44, 50, 51, 52])) C.nil))) (C.cons (C.tup (C.cons (C.k (.str [110, 117, 109, 98, 101, 114])) (C.cons (C.k (.str [45, 48, 49, 46, 53, 48])) C.nil))) (C.cons (C.tup (C.cons (C.k (.str [100, 97, 116, 101])) (C.cons (C.k (.str [49, 49, 47, 49, 57, 47, 50, 48, 50, 54])) C.nil))) (C.cons (C.tup (C.cons (C.k (.str [100, 97, 116, 101])) (C.cons (C.k (.str [57, 46, 49, 46, 50, 48, 50, 54])) C.nil))) (C.cons (C.tup (C.cons (C.k (.str [116, 105, 109, 101])) (C.cons (C.k (.str [55, 58, 48, 53, 32, 112, 109])) C.nil))) C.nil))))))))
  (C.scons (C.set (.nm 2) (C.bin .add (C.var 2) (C.lst false (C.cons (C.tup (C.cons (C.k (.str [116, 105, 109, 101])) (C.cons (C.k (.str [49, 50, 32, 97, 109])) C.nil))) (C.cons (C.tup (C.cons (C.k (.str [109, 97, 105, 108])) (C.cons (C.k (.str [65, 110, 110, 46, 66, 64, 88, 46, 79, 114, 103])) C.nil))) (C.cons (C.tup (C.cons (C.k (.str [108, 105, 110, 107])) (C.cons (C.k (.str [88, 46, 111, 114, 103])) C.nil))) (C.cons (C.tup (C.cons (C.k (.str [121, 101, 115])) (C.cons (C.k (.str [79, 78])) C.nil))) (C.cons (C.tup (C.cons (C.k (.str [112, 104, 111, 110, 101])) (C.cons (C.k (.str [48, 48, 32, 52, 49, 32, 40, 55, 57, 41, 32, 49, 50, 51, 45, 52, 53, 45, 54, 55])) C.nil))) C.nil))))))))
  (C.scons (C.set (.nm 3) (C.lst false (C.cons (C.lc [4, 5] (.tup [(.nm 4), (.nm 5)]) (C.ie (C.var 2)) (C.tnil true) (C.call 0 (C.cons (C.var 4) (C.cons (C.var 5) C.nil)))) (C.cons (C.call 5 (C.cons (C.k (.str [45, 49, 46, 53])) C.nil)) (C.cons (C.call 15 (C.cons (C.k (.str [119, 104, 111, 108, 101])) (C.cons (C.k (.str [55])) C.nil))) (C.cons (C.call 15 (C.cons (C.k (.str [116, 101, 120, 116])) (C.cons (C.k (.str [])) C.nil))) C.nil))))))
  (C.scons (C.set (.nm 3) (C.bin .add (C.var 3) (C.lst false (C.cons (C.call 16 (C.cons (C.k (.str [116, 101, 120, 116])) (C.cons (C.k (.str [65, 32, 98])) (C.cons (C.k (.str [97, 32, 32, 66])) C.nil)))) (C.cons (C.call 6 (C.cons (C.neg (C.k (.int 1500))) C.nil)) (C.cons (C.call 7 (C.cons (C.k (.int 2024)) (C.cons (C.k (.int 2)) C.nil))) (C.cons (C.call 3 (C.cons (C.k (.int 5)) C.nil)) (C.cons (C.call 2 (C.cons (C.k (.str [])) (C.cons (C.k (.int 3)) C.nil))) (C.cons (C.call 12 (C.cons (C.k (.str [65, 45])) (C.cons (C.k (.str [45])) C.nil))) C.nil)))))))))
  (C.scons (C.set (.nm 3) (C.bin .add (C.var 3) (C.lst false (C.cons (C.call 1 (C.cons (C.k (.str [116, 105, 109, 101])) (C.cons (C.k (.str [49, 50, 32, 112, 109])) C.nil))) C.nil))))
  (C.scons (C.set (.nm 6) (C.lst false (C.cons (C.lst false (C.cons (C.k (.str [97, 32, 98])) (C.cons (C.k (.str [49, 50, 51, 52])) (C.cons (C.k (.str [45, 49, 46, 53])) (C.cons (C.k (.str [50, 48, 50, 54, 45, 49, 49, 45, 49, 57])) (C.cons (C.k (.str [50, 48, 50, 54, 45, 48, 49, 45, 48, 57])) (C.cons (C.k (.str [49, 57, 58, 48, 53])) (C.cons (C.k (.str [48, 48, 58, 48, 48])) (C.cons (C.k (.str [65, 110, 110, 46, 66, 64, 120, 46, 111, 114, 103])) (C.cons (C.k (.str [104, 116, 116, 112, 115, 58, 47, 47, 120, 46, 111, 114, 103, 47])) (C.cons (C.k (.str [121, 101, 115])) (C.cons (C.k (.str [43, 52, 49, 55, 57, 49, 50, 51, 52, 53, 54, 55])) C.nil)))))))))))) (C.cons (C.neg (C.k (.int 1500))) C.nil))))
  (C.scons (C.set (.nm 6) (C.bin .add (C.var 6) (C.lst false (C.cons (C.tup (C.cons (C.k (.int 1)) (C.cons (C.k (.int 7000)) (C.cons (C.k (.str [])) C.nil)))) (C.cons (C.tup (C.cons (C.k (.int 0)) (C.cons (C.k (.int 0)) (C.cons (C.k (.str [])) C.nil)))) (C.cons (C.k (.bl true)) (C.cons (C.k (.str [45, 49, 46, 53])) (C.cons (C.k (.int 29)) (C.cons (C.k (.str [48, 53])) (C.cons (C.k (.bl false)) (C.cons (C.k (.bl true)) (C.cons (C.k (.str [49, 50, 58, 48, 48])) C.nil))))))))))))
  (C.scons (C.ret (C.cmp .eq (C.var 3) (C.var 6)))
  C.snil)))))))))))))))
def c_law : C.XS :=
  (C.scons (C.for_ (.nm 1) (C.ie (C.call 19 (C.cons (C.var 0) (C.cons (C.k (.int 1)) C.nil)))) (C.scons (C.par [2, 3] (C.cons (C.lst false (C.cons (C.k (.str [48])) (C.cons (C.k (.str [48, 48, 55])) (C.cons (C.k (.str [49, 44, 50, 51, 52])) (C.cons (C.k (.str [49, 50, 44, 51, 52])) (C.cons (C.k (.str [49, 50, 51, 52, 53, 54, 55, 56, 57, 48])) (C.cons (C.k (.str [120])) (C.cons (C.k (.str [])) (C.cons (C.k (.str [57, 57, 57, 44, 57, 57, 57, 44, 57, 57, 57])) C.nil))))))))) (C.cons (C.lst false (C.cons (C.k (.str [])) (C.cons (C.k (.str [46, 53])) (C.cons (C.k (.str [46, 49, 50, 53])) (C.cons (C.k (.str [46])) (C.cons (C.k (.str [46, 49, 50, 51, 52])) (C.cons (C.k (.str [46, 120])) C.nil))))))) C.nil)))
  (C.scons (C.set (.nm 4) (C.bin .add (C.bin .add (C.ix (C.lst false (C.cons (C.k (.str [])) (C.cons (C.k (.str [45])) (C.cons (C.k (.str [43])) C.nil)))) (C.call 18 (C.cons (C.var 1) (C.cons (C.k (.int 3)) C.nil)))) (C.ix (C.var 2) (C.call 18 (C.cons (C.var 1) (C.cons (C.k (.int 8)) C.nil))))) (C.ix (C.var 3) (C.call 18 (C.cons (C.var 1) (C.cons (C.k (.int 6)) C.nil))))))
  (C.scons (C.set (.nm 5) (C.lst false (C.cons (C.tup (C.cons (C.k (.str [110, 117, 109, 98, 101, 114])) (C.cons (C.var 4) (C.cons (C.ife (C.tcmp .isn (C.call 22 (C.cons (C.var 4) C.nil)) (C.k .non)) (C.k .non) (C.call 23 (C.cons (C.call 22 (C.cons (C.var 4) C.nil)) C.nil))) C.nil)))) (C.cons (C.tup (C.cons (C.k (.str [119, 104, 111, 108, 101])) (C.cons (C.var 4) (C.cons (C.ife (C.tcmp .isn (C.call 21 (C.cons (C.var 4) C.nil)) (C.k .non)) (C.k .non) (C.bi .str (C.cons (C.call 21 (C.cons (C.var 4) C.nil)) C.nil))) C.nil)))) C.nil))))
  (C.scons (C.par [6, 7] (C.cons (C.call 24 (C.cons (C.var 1) C.nil)) (C.cons (C.call 25 (C.cons (C.var 1) C.nil)) C.nil)))
  (C.scons (C.par [8, 9] (C.cons (C.lst false (C.cons (C.k (.str [65, 110, 110])) (C.cons (C.k (.str [97, 46, 98, 43, 99])) (C.cons (C.k (.str [46, 97])) (C.cons (C.k (.str [97, 46, 46, 98])) (C.cons (C.k (.str [97, 32, 98])) (C.cons (C.k (.str [])) C.nil))))))) (C.cons (C.lst false (C.cons (C.k (.str [88, 46, 79, 114, 103])) (C.cons (C.k (.str [97, 45, 98, 46, 99, 111, 46, 117, 107])) (C.cons (C.k (.str [120])) (C.cons (C.k (.str [97, 46, 98])) (C.cons (C.k (.str [45, 97, 46, 111, 114, 103])) (C.cons (C.k (.str [97, 46, 111, 49, 103])) (C.cons (C.k (.str [])) C.nil)))))))) C.nil)))
  (C.scons (C.set (.nm 10) (C.bin .add (C.bin .add (C.ix (C.var 8) (C.call 18 (C.cons (C.var 1) (C.cons (C.k (.int 6)) C.nil)))) (C.ix (C.lst false (C.cons (C.k (.str [64])) (C.cons (C.k (.str [64, 64])) (C.cons (C.k (.str [])) C.nil)))) (C.bin .fdiv (C.call 18 (C.cons (C.var 1) (C.cons (C.k (.int 7)) C.nil))) (C.k (.int 3))))) (C.ix (C.var 9) (C.call 18 (C.cons (C.var 1) (C.cons (C.k (.int 7)) C.nil))))))
  (C.scons (C.set (.nm 11) (C.bin .add (C.bin .add (C.ix (C.lst false (C.cons (C.k (.str [])) (C.cons (C.k (.str [72, 84, 84, 80, 58, 47, 47])) (C.cons (C.k (.str [104, 116, 116, 112, 115, 58, 47, 47])) (C.cons (C.k (.str [102, 116, 112, 58, 47, 47])) C.nil))))) (C.call 18 (C.cons (C.var 1) (C.cons (C.k (.int 4)) C.nil)))) (C.ix (C.lst false (C.cons (C.k (.str [88, 46, 79, 114, 103])) (C.cons (C.k (.str [97, 46, 98, 99])) (C.cons (C.k (.str [120])) C.nil)))) (C.call 18 (C.cons (C.var 1) (C.cons (C.k (.int 3)) C.nil))))) (C.ix (C.lst false (C.cons (C.k (.str [])) (C.cons (C.k (.str [47])) (C.cons (C.k (.str [47, 65, 32, 98])) (C.cons (C.k (.str [47, 67, 63, 120, 61, 49])) C.nil))))) (C.call 18 (C.cons (C.var 1) (C.cons (C.k (.int 4)) C.nil))))))
  (C.scons (C.set (.nm 12) (C.bin .add (C.ix (C.lst false (C.cons (C.k (.str [43])) (C.cons (C.k (.str [48, 48])) (C.cons (C.k (.str [])) (C.cons (C.k (.str [48])) C.nil))))) (C.call 18 (C.cons (C.var 1) (C.cons (C.k (.int 4)) C.nil)))) (C.ix (C.lst false (C.cons (C.k (.str [52, 49, 32, 40, 55, 57, 41, 32, 49, 50, 51, 45, 52, 53, 45, 54, 55])) (C.cons (C.k (.str [49, 50, 51, 52, 53])) (C.cons (C.k (.str [49, 50, 51, 52, 53, 54, 55])) (C.cons (C.k (.str [49, 50, 51, 52, 53, 54, 55, 56, 57, 48, 49, 50, 51, 52, 53, 54, 55])) (C.cons (C.k (.str [49, 50, 97, 52, 53, 54, 55])) C.nil)))))) (C.call 18 (C.cons (C.var 1) (C.cons (C.k (.int 5)) C.nil))))))
  (C.scons (C.set (.nm 13) (C.ix (C.lst false (C.cons (C.k (.str [89, 101, 115])) (C.cons (C.k (.str [121])) (C.cons (C.k (.str [79, 78])) (C.cons (C.k (.str [48])) (C.cons (C.k (.str [102, 97, 108, 115, 101])) (C.cons (C.k (.str [109, 97, 121, 98, 101])) (C.cons (C.k (.str [78])) C.nil)))))))) (C.call 18 (C.cons (C.var 1) (C.cons (C.k (.int 7)) C.nil)))))
  (C.scons (C.set (.nm 14) (C.cmp .isin (C.me .lower (C.var 13) C.nil) (C.lst false (C.cons (C.k (.str [121, 101, 115])) (C.cons (C.k (.str [121])) (C.cons (C.k (.str [116, 114, 117, 101])) (C.cons (C.k (.str [49])) (C.cons (C.k (.str [111, 110])) C.nil))))))))
  (C.scons (C.set (.nm 5) (C.bin .add (C.var 5) (C.lst false (C.cons (C.bin .add (C.tup (C.cons (C.k (.str [100, 97, 116, 101])) C.nil)) (C.var 6)) (C.cons (C.bin .add (C.tup (C.cons (C.k (.str [116, 105, 109, 101])) C.nil)) (C.var 7)) (C.cons (C.tup (C.cons (C.k (.str [109, 97, 105, 108])) (C.cons (C.var 10) (C.cons (C.call 27 (C.cons (C.var 10) C.nil)) C.nil)))) (C.cons (C.tup (C.cons (C.k (.str [108, 105, 110, 107])) (C.cons (C.var 11) (C.cons (C.call 28 (C.cons (C.var 11) C.nil)) C.nil)))) (C.cons (C.tup (C.cons (C.k (.str [112, 104, 111, 110, 101])) (C.cons (C.var 12) (C.cons (C.call 29 (C.cons (C.var 12) C.nil)) C.nil)))) (C.cons (C.tup (C.cons (C.k (.str [121, 101, 115])) (C.cons (C.var 13) (C.cons (C.ife (C.tcmp .eq (C.var 13) (C.k (.str [109, 97, 121, 98, 101]))) (C.k .non) (C.ife (C.tv (C.var 14)) (C.k (.str [121, 101, 115])) (C.k (.str [110, 111])))) C.nil)))) C.nil)))))))))
  (C.scons (C.set (.nm 15) (C.me .join (C.k (.str [])) (C.cons (C.lc [16] (.nm 16) (C.rng (C.cons (C.call 18 (C.cons (C.var 1) (C.cons (C.k (.int 9)) C.nil))) C.nil)) (C.tnil true) (C.ix (C.lst false (C.cons (C.k (.str [97])) (C.cons (C.k (.str [32])) (C.cons (C.k (.str [32, 32])) (C.cons (C.k (.str [66, 45])) (C.cons (C.k (.str [10])) (C.cons (C.k (.str [122, 32])) C.nil))))))) (C.call 18 (C.cons (C.var 1) (C.cons (C.k (.int 6)) C.nil))))) C.nil)))
  (C.scons (C.set (.nm 17) (C.me .strip (C.var 15) (C.cons (C.k (.str [32])) C.nil)))
  (C.scons (C.set (.nm 5) (C.bin .add (C.var 5) (C.lst false (C.cons (C.tup (C.cons (C.k (.str [116, 101, 120, 116])) (C.cons (C.var 15) (C.cons (C.ife (C.tcmp .isin (C.k (.str [10])) (C.var 17)) (C.k .non) (C.me .join (C.k (.str [32])) (C.cons (C.lc [18] (.nm 18) (C.ie (C.me .split (C.var 17) (C.cons (C.k (.str [32])) C.nil))) (C.tcons true (C.tcmp .ne (C.var 18) (C.k (.str []))) (C.tnil true)) (C.var 18)) C.nil))) C.nil)))) (C.cons (C.tup (C.cons (C.k (.str [108, 105, 110, 101, 115])) (C.cons (C.var 15) (C.cons (C.me .join (C.k (.str [10])) (C.cons (C.lc [18] (.nm 18) (C.ie (C.me .split (C.var 17) (C.cons (C.k (.str [10])) C.nil))) (C.tnil true) (C.me .rstrip (C.var 18) (C.cons (C.k (.str [32])) C.nil))) C.nil)) C.nil)))) C.nil)))))
  (C.scons (C.for_ (.tup [(.nm 19), (.nm 20), (.nm 21)]) (C.ie (C.var 5)) (C.scons (C.set (.nm 22) (C.bin .add (C.bin .add (C.bin .mul (C.k (.str [32])) (C.call 18 (C.cons (C.var 1) (C.cons (C.k (.int 3)) C.nil)))) (C.var 20)) (C.bin .mul (C.k (.str [32])) (C.call 18 (C.cons (C.var 1) (C.cons (C.k (.int 3)) C.nil))))))
  (C.scons (C.set (.nm 21) (C.ife (C.tcmp .eq (C.me .strip (C.var 20) (C.cons (C.k (.str [32])) C.nil)) (C.k (.str []))) (C.k (.str [])) (C.var 21)))
  (C.scons (C.set (.nm 23) (C.call 20 (C.cons (C.lam 20) C.nil)))
  (C.scons (C.sife (C.tcons false (C.tcmp .ne (C.var 23) (C.ife (C.tcmp .notn (C.var 21) (C.k .non)) (C.var 21) (C.k (.str [75, 105, 110, 100, 69, 114, 114, 111, 114])))) (C.tcons false (C.tcons true (C.tcmp .notn (C.var 21) (C.k .non)) (C.tcons true (C.tcmp .ne (C.call 0 (C.cons (C.var 19) (C.cons (C.var 21) C.nil))) (C.var 21)) (C.tnil true))) (C.tnil false))) (C.scons (C.ret (C.k (.bl false)))
  C.snil) C.snil)
  (C.scons (C.sife (C.tcmp .notin (C.var 21) (C.lst false (C.cons (C.k .non) (C.cons (C.k (.str [])) C.nil)))) (C.scons (C.set (.nm 24) (C.ife (C.tcmp .isin (C.var 19) (C.lst false (C.cons (C.k (.str [119, 104, 111, 108, 101])) (C.cons (C.k (.str [110, 117, 109, 98, 101, 114])) C.nil)))) (C.tup (C.cons (C.k (.int 1)) (C.cons (C.call 22 (C.cons (C.var 21) C.nil)) (C.cons (C.k (.str [])) C.nil)))) (C.tup (C.cons (C.k (.int 1)) (C.cons (C.k (.int 0)) (C.cons (C.var 21) C.nil))))))
  (C.scons (C.sife (C.tcons false (C.tcmp .ne (C.call 15 (C.cons (C.var 19) (C.cons (C.var 21) C.nil))) (C.var 24)) (C.tcons false (C.tnt (C.tv (C.call 16 (C.cons (C.var 19) (C.cons (C.var 20) (C.cons (C.var 21) C.nil)))))) (C.tcons false (C.tv (C.call 16 (C.cons (C.var 19) (C.cons (C.var 20) (C.cons (C.k (.str [])) C.nil))))) (C.tnil false)))) (C.scons (C.ret (C.k (.bl false)))
  C.snil) C.snil)
  C.snil)) C.snil)
  C.snil))))))
  C.snil))))))))))))))))
  (C.scons (C.ret (C.call 30 C.nil))
  C.snil))
def k_0 : C.XE := (C.call 4 (C.cons (C.k (.str [49, 44, 50])) C.nil))
def k_1 : C.XE := (C.call 4 (C.cons (C.k (.str [])) C.nil))
def k_2 : C.XE := (C.call 0 (C.cons (C.k (.str [116, 101, 120, 116])) (C.cons (C.bin .mul (C.k (.str [97])) (C.k (.int 401))) C.nil)))
def k_3 : C.XE := (C.call 0 (C.cons (C.k (.str [111, 100, 100])) (C.cons (C.k (.str [97])) C.nil)))
def k_4 : C.XE := (C.call 8 (C.cons (C.k (.str [50, 48, 50, 54, 45, 48, 48, 49, 45, 49])) C.nil))
def k_5 : C.XE := (C.call 8 (C.cons (C.k (.str [50, 48, 50, 54, 45, 48, 50, 45, 50, 57])) C.nil))
def k_6 : C.XE := (C.call 8 (C.cons (C.k (.str [50, 54, 45, 49, 45, 49])) C.nil))
def k_7 : C.XE := (C.call 8 (C.cons (C.k (.str [50, 48, 50, 54, 45, 49])) C.nil))
def k_8 : C.XE := (C.call 5 (C.cons (C.k (.str [49, 46])) C.nil))
def k_9 : C.XE := (C.call 11 (C.cons (C.k (.str [97, 64, 98])) C.nil))
def k_10 : C.XE := (C.call 11 (C.cons (C.k (.str [97])) C.nil))
def k_11 : C.XE := (C.call 10 (C.cons (C.k (.str [55, 58, 53])) C.nil))
def k_12 : C.XE := (C.call 10 (C.cons (C.k (.str [55])) C.nil))
def k_13 : C.XE := (C.call 10 (C.cons (C.k (.str [49, 51, 32, 112, 109])) C.nil))
def k_14 : C.XE := (C.call 10 (C.cons (C.k (.str [50, 52, 58, 48, 48])) C.nil))
def k_15 : C.XE := (C.call 15 (C.cons (C.k (.str [119, 104, 111, 108, 101])) (C.cons (C.k (.str [120])) C.nil)))
def k_16 : C.XE := (C.call 9 (C.cons (C.k (.int 1899)) (C.cons (C.k (.int 1)) (C.cons (C.k (.int 1)) (C.cons (C.k (.int 1)) (C.cons (C.k (.int 1)) C.nil))))))
def k_17 : C.XE := (C.call 14 (C.cons (C.k (.str [49, 50, 51, 52, 53, 54])) C.nil))
def k_18 : C.XE := (C.call 13 (C.cons (C.k (.str [97, 32, 98, 46, 99, 100])) C.nil))
def k_19 : C.XE := (C.call 16 (C.cons (C.k (.str [100, 97, 116, 101])) (C.cons (C.k (.str [120])) (C.cons (C.k (.str [])) C.nil))))
def k_20 : C.XE := (C.call 0 (C.cons (C.var 0) (C.cons (C.var 1) C.nil)))
def ct : CT := { g := pg, fc := [c_read_answer, c_read_special, c_is_figures, c_two_figures, c_whole_of, c_number_of, c_number_text, c_days_in, c_date_of, c_real_day, c_time_of, c_mail_of, c_is_of, c_link_of, c_phone_of, c_order_of, c_is_same, c__law_dice, c__law_roll, c__law_rounds, c__law_told, c__law_whole, c__law_number, c__law_shown, c__law_date, c__law_time, c__law_place, c__law_mail, c__law_link, c__law_phone, c__law_plain, c_law], lc := [k_0, k_1, k_2, k_3, k_4, k_5, k_6, k_7, k_8, k_9, k_10, k_11, k_12, k_13, k_14, k_15, k_16, k_17, k_18, k_19, k_20] }
theorem e_read_answer (cf : CF) (o : List Fr) (fr : Fr) (h : MH) : evSs pg cf o f_read_answer.body fr h = c_read_answer cf o fr h := by kernel_rfl
theorem e_read_special (cf : CF) (o : List Fr) (fr : Fr) (h : MH) : evSs pg cf o f_read_special.body fr h = c_read_special cf o fr h := by kernel_rfl
theorem e_is_figures (cf : CF) (o : List Fr) (fr : Fr) (h : MH) : evSs pg cf o f_is_figures.body fr h = c_is_figures cf o fr h := by kernel_rfl
theorem e_two_figures (cf : CF) (o : List Fr) (fr : Fr) (h : MH) : evSs pg cf o f_two_figures.body fr h = c_two_figures cf o fr h := by kernel_rfl
theorem e_whole_of (cf : CF) (o : List Fr) (fr : Fr) (h : MH) : evSs pg cf o f_whole_of.body fr h = c_whole_of cf o fr h := by kernel_rfl
theorem e_number_of (cf : CF) (o : List Fr) (fr : Fr) (h : MH) : evSs pg cf o f_number_of.body fr h = c_number_of cf o fr h := by kernel_rfl
theorem e_number_text (cf : CF) (o : List Fr) (fr : Fr) (h : MH) : evSs pg cf o f_number_text.body fr h = c_number_text cf o fr h := by kernel_rfl
theorem e_days_in (cf : CF) (o : List Fr) (fr : Fr) (h : MH) : evSs pg cf o f_days_in.body fr h = c_days_in cf o fr h := by kernel_rfl
theorem e_date_of (cf : CF) (o : List Fr) (fr : Fr) (h : MH) : evSs pg cf o f_date_of.body fr h = c_date_of cf o fr h := by kernel_rfl
theorem e_real_day (cf : CF) (o : List Fr) (fr : Fr) (h : MH) : evSs pg cf o f_real_day.body fr h = c_real_day cf o fr h := by kernel_rfl
theorem e_time_of (cf : CF) (o : List Fr) (fr : Fr) (h : MH) : evSs pg cf o f_time_of.body fr h = c_time_of cf o fr h := by kernel_rfl
theorem e_mail_of (cf : CF) (o : List Fr) (fr : Fr) (h : MH) : evSs pg cf o f_mail_of.body fr h = c_mail_of cf o fr h := by kernel_rfl
theorem e_is_of (cf : CF) (o : List Fr) (fr : Fr) (h : MH) : evSs pg cf o f_is_of.body fr h = c_is_of cf o fr h := by kernel_rfl
theorem e_link_of (cf : CF) (o : List Fr) (fr : Fr) (h : MH) : evSs pg cf o f_link_of.body fr h = c_link_of cf o fr h := by kernel_rfl
theorem e_phone_of (cf : CF) (o : List Fr) (fr : Fr) (h : MH) : evSs pg cf o f_phone_of.body fr h = c_phone_of cf o fr h := by kernel_rfl
theorem e_order_of (cf : CF) (o : List Fr) (fr : Fr) (h : MH) : evSs pg cf o f_order_of.body fr h = c_order_of cf o fr h := by kernel_rfl
theorem e_is_same (cf : CF) (o : List Fr) (fr : Fr) (h : MH) : evSs pg cf o f_is_same.body fr h = c_is_same cf o fr h := by kernel_rfl
theorem e__law_dice (cf : CF) (o : List Fr) (fr : Fr) (h : MH) : evSs pg cf o f__law_dice.body fr h = c__law_dice cf o fr h := by kernel_rfl
theorem e__law_roll (cf : CF) (o : List Fr) (fr : Fr) (h : MH) : evSs pg cf o f__law_roll.body fr h = c__law_roll cf o fr h := by kernel_rfl
theorem e__law_rounds (cf : CF) (o : List Fr) (fr : Fr) (h : MH) : evSs pg cf o f__law_rounds.body fr h = c__law_rounds cf o fr h := by kernel_rfl
theorem e__law_told (cf : CF) (o : List Fr) (fr : Fr) (h : MH) : evSs pg cf o f__law_told.body fr h = c__law_told cf o fr h := by kernel_rfl
theorem e__law_whole (cf : CF) (o : List Fr) (fr : Fr) (h : MH) : evSs pg cf o f__law_whole.body fr h = c__law_whole cf o fr h := by kernel_rfl
theorem e__law_number (cf : CF) (o : List Fr) (fr : Fr) (h : MH) : evSs pg cf o f__law_number.body fr h = c__law_number cf o fr h := by kernel_rfl
theorem e__law_shown (cf : CF) (o : List Fr) (fr : Fr) (h : MH) : evSs pg cf o f__law_shown.body fr h = c__law_shown cf o fr h := by kernel_rfl
theorem e__law_date (cf : CF) (o : List Fr) (fr : Fr) (h : MH) : evSs pg cf o f__law_date.body fr h = c__law_date cf o fr h := by kernel_rfl
theorem e__law_time (cf : CF) (o : List Fr) (fr : Fr) (h : MH) : evSs pg cf o f__law_time.body fr h = c__law_time cf o fr h := by kernel_rfl
theorem e__law_place (cf : CF) (o : List Fr) (fr : Fr) (h : MH) : evSs pg cf o f__law_place.body fr h = c__law_place cf o fr h := by kernel_rfl
theorem e__law_mail (cf : CF) (o : List Fr) (fr : Fr) (h : MH) : evSs pg cf o f__law_mail.body fr h = c__law_mail cf o fr h := by kernel_rfl
theorem e__law_link (cf : CF) (o : List Fr) (fr : Fr) (h : MH) : evSs pg cf o f__law_link.body fr h = c__law_link cf o fr h := by kernel_rfl
theorem e__law_phone (cf : CF) (o : List Fr) (fr : Fr) (h : MH) : evSs pg cf o f__law_phone.body fr h = c__law_phone cf o fr h := by kernel_rfl
theorem e__law_plain (cf : CF) (o : List Fr) (fr : Fr) (h : MH) : evSs pg cf o f__law_plain.body fr h = c__law_plain cf o fr h := by kernel_rfl
theorem e_law (cf : CF) (o : List Fr) (fr : Fr) (h : MH) : evSs pg cf o f_law.body fr h = c_law cf o fr h := by kernel_rfl
theorem d_0 (cf : CF) (o : List Fr) (fr : Fr) (h : MH) : evE pg cf o l_0.body fr h = k_0 cf o fr h := by kernel_rfl
theorem d_1 (cf : CF) (o : List Fr) (fr : Fr) (h : MH) : evE pg cf o l_1.body fr h = k_1 cf o fr h := by kernel_rfl
theorem d_2 (cf : CF) (o : List Fr) (fr : Fr) (h : MH) : evE pg cf o l_2.body fr h = k_2 cf o fr h := by kernel_rfl
theorem d_3 (cf : CF) (o : List Fr) (fr : Fr) (h : MH) : evE pg cf o l_3.body fr h = k_3 cf o fr h := by kernel_rfl
theorem d_4 (cf : CF) (o : List Fr) (fr : Fr) (h : MH) : evE pg cf o l_4.body fr h = k_4 cf o fr h := by kernel_rfl
theorem d_5 (cf : CF) (o : List Fr) (fr : Fr) (h : MH) : evE pg cf o l_5.body fr h = k_5 cf o fr h := by kernel_rfl
theorem d_6 (cf : CF) (o : List Fr) (fr : Fr) (h : MH) : evE pg cf o l_6.body fr h = k_6 cf o fr h := by kernel_rfl
theorem d_7 (cf : CF) (o : List Fr) (fr : Fr) (h : MH) : evE pg cf o l_7.body fr h = k_7 cf o fr h := by kernel_rfl
theorem d_8 (cf : CF) (o : List Fr) (fr : Fr) (h : MH) : evE pg cf o l_8.body fr h = k_8 cf o fr h := by kernel_rfl
theorem d_9 (cf : CF) (o : List Fr) (fr : Fr) (h : MH) : evE pg cf o l_9.body fr h = k_9 cf o fr h := by kernel_rfl
theorem d_10 (cf : CF) (o : List Fr) (fr : Fr) (h : MH) : evE pg cf o l_10.body fr h = k_10 cf o fr h := by kernel_rfl
theorem d_11 (cf : CF) (o : List Fr) (fr : Fr) (h : MH) : evE pg cf o l_11.body fr h = k_11 cf o fr h := by kernel_rfl
theorem d_12 (cf : CF) (o : List Fr) (fr : Fr) (h : MH) : evE pg cf o l_12.body fr h = k_12 cf o fr h := by kernel_rfl
theorem d_13 (cf : CF) (o : List Fr) (fr : Fr) (h : MH) : evE pg cf o l_13.body fr h = k_13 cf o fr h := by kernel_rfl
theorem d_14 (cf : CF) (o : List Fr) (fr : Fr) (h : MH) : evE pg cf o l_14.body fr h = k_14 cf o fr h := by kernel_rfl
theorem d_15 (cf : CF) (o : List Fr) (fr : Fr) (h : MH) : evE pg cf o l_15.body fr h = k_15 cf o fr h := by kernel_rfl
theorem d_16 (cf : CF) (o : List Fr) (fr : Fr) (h : MH) : evE pg cf o l_16.body fr h = k_16 cf o fr h := by kernel_rfl
theorem d_17 (cf : CF) (o : List Fr) (fr : Fr) (h : MH) : evE pg cf o l_17.body fr h = k_17 cf o fr h := by kernel_rfl
theorem d_18 (cf : CF) (o : List Fr) (fr : Fr) (h : MH) : evE pg cf o l_18.body fr h = k_18 cf o fr h := by kernel_rfl
theorem d_19 (cf : CF) (o : List Fr) (fr : Fr) (h : MH) : evE pg cf o l_19.body fr h = k_19 cf o fr h := by kernel_rfl
theorem d_20 (cf : CF) (o : List Fr) (fr : Fr) (h : MH) : evE pg cf o l_20.body fr h = k_20 cf o fr h := by kernel_rfl
theorem ctOk : ct.Ok where
  fn := fun i F h => match i, h with
    | 0, h => by cases h; exact ⟨c_read_answer, rfl, e_read_answer⟩
    | 1, h => by cases h; exact ⟨c_read_special, rfl, e_read_special⟩
    | 2, h => by cases h; exact ⟨c_is_figures, rfl, e_is_figures⟩
    | 3, h => by cases h; exact ⟨c_two_figures, rfl, e_two_figures⟩
    | 4, h => by cases h; exact ⟨c_whole_of, rfl, e_whole_of⟩
    | 5, h => by cases h; exact ⟨c_number_of, rfl, e_number_of⟩
    | 6, h => by cases h; exact ⟨c_number_text, rfl, e_number_text⟩
    | 7, h => by cases h; exact ⟨c_days_in, rfl, e_days_in⟩
    | 8, h => by cases h; exact ⟨c_date_of, rfl, e_date_of⟩
    | 9, h => by cases h; exact ⟨c_real_day, rfl, e_real_day⟩
    | 10, h => by cases h; exact ⟨c_time_of, rfl, e_time_of⟩
    | 11, h => by cases h; exact ⟨c_mail_of, rfl, e_mail_of⟩
    | 12, h => by cases h; exact ⟨c_is_of, rfl, e_is_of⟩
    | 13, h => by cases h; exact ⟨c_link_of, rfl, e_link_of⟩
    | 14, h => by cases h; exact ⟨c_phone_of, rfl, e_phone_of⟩
    | 15, h => by cases h; exact ⟨c_order_of, rfl, e_order_of⟩
    | 16, h => by cases h; exact ⟨c_is_same, rfl, e_is_same⟩
    | 17, h => by cases h; exact ⟨c__law_dice, rfl, e__law_dice⟩
    | 18, h => by cases h; exact ⟨c__law_roll, rfl, e__law_roll⟩
    | 19, h => by cases h; exact ⟨c__law_rounds, rfl, e__law_rounds⟩
    | 20, h => by cases h; exact ⟨c__law_told, rfl, e__law_told⟩
    | 21, h => by cases h; exact ⟨c__law_whole, rfl, e__law_whole⟩
    | 22, h => by cases h; exact ⟨c__law_number, rfl, e__law_number⟩
    | 23, h => by cases h; exact ⟨c__law_shown, rfl, e__law_shown⟩
    | 24, h => by cases h; exact ⟨c__law_date, rfl, e__law_date⟩
    | 25, h => by cases h; exact ⟨c__law_time, rfl, e__law_time⟩
    | 26, h => by cases h; exact ⟨c__law_place, rfl, e__law_place⟩
    | 27, h => by cases h; exact ⟨c__law_mail, rfl, e__law_mail⟩
    | 28, h => by cases h; exact ⟨c__law_link, rfl, e__law_link⟩
    | 29, h => by cases h; exact ⟨c__law_phone, rfl, e__law_phone⟩
    | 30, h => by cases h; exact ⟨c__law_plain, rfl, e__law_plain⟩
    | 31, h => by cases h; exact ⟨c_law, rfl, e_law⟩
  lm := fun i F h => match i, h with
    | 0, h => by cases h; exact ⟨k_0, rfl, d_0⟩
    | 1, h => by cases h; exact ⟨k_1, rfl, d_1⟩
    | 2, h => by cases h; exact ⟨k_2, rfl, d_2⟩
    | 3, h => by cases h; exact ⟨k_3, rfl, d_3⟩
    | 4, h => by cases h; exact ⟨k_4, rfl, d_4⟩
    | 5, h => by cases h; exact ⟨k_5, rfl, d_5⟩
    | 6, h => by cases h; exact ⟨k_6, rfl, d_6⟩
    | 7, h => by cases h; exact ⟨k_7, rfl, d_7⟩
    | 8, h => by cases h; exact ⟨k_8, rfl, d_8⟩
    | 9, h => by cases h; exact ⟨k_9, rfl, d_9⟩
    | 10, h => by cases h; exact ⟨k_10, rfl, d_10⟩
    | 11, h => by cases h; exact ⟨k_11, rfl, d_11⟩
    | 12, h => by cases h; exact ⟨k_12, rfl, d_12⟩
    | 13, h => by cases h; exact ⟨k_13, rfl, d_13⟩
    | 14, h => by cases h; exact ⟨k_14, rfl, d_14⟩
    | 15, h => by cases h; exact ⟨k_15, rfl, d_15⟩
    | 16, h => by cases h; exact ⟨k_16, rfl, d_16⟩
    | 17, h => by cases h; exact ⟨k_17, rfl, d_17⟩
    | 18, h => by cases h; exact ⟨k_18, rfl, d_18⟩
    | 19, h => by cases h; exact ⟨k_19, rfl, d_19⟩
    | 20, h => by cases h; exact ⟨k_20, rfl, d_20⟩
end K01

-- text K01U
set_option Elab.async false
set_option linter.all false
set_option maxRecDepth 100000
set_option maxHeartbeats 0
namespace K01
open PySem FS
def dh (a b c : Int) : MH := [.lst [.int a, .int b, .int c]]
theorem roll (k : Nat) (a b c many : Int) (h0 : 0 < many) (h1 : many ≤ 100000000) : ∃ r a' b' c', (∀ o, callC ct (k + 1) (.fn 18) o [.ref 0, .int many] (dh a b c) = .ok (.int r) (dh a' b' c')) ∧ 0 ≤ r ∧ r < many := by
  have hm : many < 1073741824 := by omega
  have hm2 : ¬ (100000000 < many) := by omega
  by_cases hc : c = 2 ∨ (c = 1 ∧ a > 0)
  · refine ⟨a % many, a / many, b, c, fun o => ?_, Int.emod_nonneg _ (by omega), Int.emod_lt_of_pos _ h0⟩
    show (match c__law_roll (callC ct k) o [some (.ref 0), some (.int many), none] (dh a b c) with
      | .ret d h1 => if f__law_roll.lamf && !noClo d then R.stk else .ok d h1
      | .nx _ h1 => .ok .non h1
      | .exc c _ h1 => .exc c h1
      | _ => .stk) = _
    have e : c__law_roll (callC ct k) o [some (.ref 0), some (.int many), none] (dh a b c) = .ret (.int (a % many)) (dh (a / many) b c) := by
      have e1 : C.tcons false (C.tcmp .eq (C.ix (C.var 0) (C.k (.int 2))) (C.k (.int 2))) (C.tcons false (C.tcons true (C.tcmp .eq (C.ix (C.var 0) (C.k (.int 2))) (C.k (.int 1))) (C.tcons true (C.tcmp .gt (C.ix (C.var 0) (C.k (.int 0))) (C.k (.int 0))) (C.tnil true))) (C.tnil false)) (callC ct k) o [some (.ref 0), some (.int many), none] (dh a b c) = .ok true (dh a b c) := by
        rcases hc with rfl | ⟨rfl, ha⟩
        · rfl
        · have e2 : C.tcmp .gt (C.ix (C.var 0) (C.k (.int 0))) (C.k (.int 0)) (callC ct k) o [some (.ref 0), some (.int many), none] (dh a b 1) = .ok (decide (0 < a)) (dh a b 1) := rfl
          show (C.tcons false (C.tcons true (C.tcmp .eq (C.ix (C.var 0) (C.k (.int 2))) (C.k (.int 1))) (C.tcons true (C.tcmp .gt (C.ix (C.var 0) (C.k (.int 0))) (C.k (.int 0))) (C.tnil true))) (C.tnil false)) (callC ct k) o [some (.ref 0), some (.int many), none] (dh a b 1) = _
          show ((C.tcons true (C.tcmp .gt (C.ix (C.var 0) (C.k (.int 0))) (C.k (.int 0))) (C.tnil true)) (callC ct k) o [some (.ref 0), some (.int many), none] (dh a b 1)).bind _ = _
          unfold C.tcons
          rw [e2, decide_eq_true ha]
          rfl
      unfold c__law_roll
      unfold C.scons
      unfold C.sife
      rw [e1]
      have h2 : decide (0 < many) = true := decide_eq_true h0
      have h3 : decide (many < 1073741824) = true := decide_eq_true hm
      simp only [R.toS]
      simp [C.scons, C.set, C.sub, C.ret, C.snil, C.bin, C.bi, C.cons, C.nil, C.ix, C.var, C.k, R.bind, R.opt, R.toS, FS.get, dh, ixV, seqOf, lstOf, ixN, biV, binV, asg, put, setAt, noClo, h0, hm]
    rw [e]
    rfl
  · refine ⟨((a * 48271 + b * 69621 + 11) % 2147483647 / 7) % many, (a * 48271 + b * 69621 + 11) % 2147483647, b + 1, 0, fun o => ?_, Int.emod_nonneg _ (by omega), Int.emod_lt_of_pos _ h0⟩
    show (match c__law_roll (callC ct k) o [some (.ref 0), some (.int many), none] (dh a b c) with
      | .ret d h1 => if f__law_roll.lamf && !noClo d then R.stk else .ok d h1
      | .nx _ h1 => .ok .non h1
      | .exc c _ h1 => .exc c h1
      | _ => .stk) = _
    have e : c__law_roll (callC ct k) o [some (.ref 0), some (.int many), none] (dh a b c) = .ret (.int (((a * 48271 + b * 69621 + 11) % 2147483647 / 7) % many)) (dh ((a * 48271 + b * 69621 + 11) % 2147483647) (b + 1) 0) := by
      have c1 : ¬ c = 2 := fun z => hc (.inl z)
      have e1 : C.tcons false (C.tcmp .eq (C.ix (C.var 0) (C.k (.int 2))) (C.k (.int 2))) (C.tcons false (C.tcons true (C.tcmp .eq (C.ix (C.var 0) (C.k (.int 2))) (C.k (.int 1))) (C.tcons true (C.tcmp .gt (C.ix (C.var 0) (C.k (.int 0))) (C.k (.int 0))) (C.tnil true))) (C.tnil false)) (callC ct k) o [some (.ref 0), some (.int many), none] (dh a b c) = .ok false (dh a b c) := by
        have e2 : C.tcmp .eq (C.ix (C.var 0) (C.k (.int 2))) (C.k (.int 2)) (callC ct k) o [some (.ref 0), some (.int many), none] (dh a b c) = .ok (decide (c = 2)) (dh a b c) := rfl
        have e3 : C.tcmp .eq (C.ix (C.var 0) (C.k (.int 2))) (C.k (.int 1)) (callC ct k) o [some (.ref 0), some (.int many), none] (dh a b c) = .ok (decide (c = 1)) (dh a b c) := rfl
        have e4 : C.tcmp .gt (C.ix (C.var 0) (C.k (.int 0))) (C.k (.int 0)) (callC ct k) o [some (.ref 0), some (.int many), none] (dh a b c) = .ok (decide (0 < a)) (dh a b c) := rfl
        have c3 : c = 1 → a ≤ 0 := fun z => Int.not_lt.mp fun y => hc (.inr ⟨z, y⟩)
        simp [C.tcons, C.tnil, e2, e3, e4, R.bind, c1]
        by_cases c2 : c = 1
        · have c4 : ¬ 0 < a := by have := c3 c2; omega
          simp [c2, c4]
        · simp [c2]
      unfold c__law_roll
      unfold C.scons
      unfold C.sife
      rw [e1]
      simp only [R.toS]
      have s1 : small 48271 = true := rfl
      have s2 : small 69621 = true := rfl
      simp [C.scons, C.sife, C.set, C.sub, C.ret, C.snil, C.bin, C.bi, C.tcmp, C.cons, C.nil, C.ix, C.var, C.k, R.bind, R.opt, R.toS, FS.get, dh, ixV, seqOf, lstOf, ixN, biV, binV, asg, put, setAt, noClo, cmpV, h0, hm, hm2, s1, s2]
    rw [e]
    rfl
end K01

-- text K01V
set_option Elab.async false
set_option linter.all false
set_option maxRecDepth 100000
set_option maxHeartbeats 0
namespace K01
open PySem FS
def pl : List Nat := [0, 1, 2, 3, 4, 5, 6, 7, 8, 9, 10, 11, 12, 13, 14, 15, 16, 21, 22, 23, 26, 27, 28, 29]
theorem plOk : pureB pg pl = true := by decide +kernel
theorem eqC (k : Nat) : callK pg k = callC ct k := callC_eq ctOk rfl k
theorem lift {k k' f : Nat} {os' : List Fr} {xs : List D} {d : D} {h' : MH} (hf : pl.contains f = true) (e : callC ct k (.fn f) [] xs [] = .ok d []) (hk : k ≤ k') : callC ct k' (.fn f) os' xs h' = .ok d h' := by
  rw [← eqC] at e ⊢
  exact callK_lift plOk hf hk e
theorem liftX {k k' f c : Nat} {os' : List Fr} {xs : List D} {h' : MH} (hf : pl.contains f = true) (e : callC ct k (.fn f) [] xs [] = .exc c []) (hk : k ≤ k') : callC ct k' (.fn f) os' xs h' = .exc c h' := by
  rw [← eqC] at e ⊢
  exact callK_liftX plOk hf hk e
/-- what an answer reads as: none: KindError -/
def RdR (due : Option (List Nat)) (h : MH) : FS.R D := match due with
  | some s => .ok (.str s) h
  | none => .exc 1 h
/-- read_special -/
def Sp (kind body : List Nat) (due : Option (List Nat)) : Prop := callC ct 10 (.fn 1) [] [.str kind, .str body] [] = RdR due []
theorem Sp.at {kind body : List Nat} {due : Option (List Nat)} (s : Sp kind body due) {k : Nat} (hk : 10 ≤ k) (o : List Fr) (h : MH) : callC ct k (.fn 1) o [.str kind, .str body] h = RdR due h := by
  unfold Sp at s
  cases due with
  | some d => exact lift (by decide) s hk
  | none => exact liftX (by decide) s hk
def stripS (t : List Nat) : List Nat := rstripL ([32] : List Nat).contains (lstripL ([32] : List Nat).contains t)
def kinds : List (List Nat) := [[119, 104, 111, 108, 101], [110, 117, 109, 98, 101, 114], [100, 97, 116, 101], [116, 105, 109, 101], [109, 97, 105, 108], [108, 105, 110, 107], [121, 101, 115], [112, 104, 111, 110, 101]]
def kindsD : FS.D := .tup [.str [116, 101, 120, 116], .str [108, 105, 110, 101, 115], .str [119, 104, 111, 108, 101], .str [110, 117, 109, 98, 101, 114], .str [100, 97, 116, 101], .str [116, 105, 109, 101], .str [109, 97, 105, 108], .str [108, 105, 110, 107], .str [121, 101, 115], .str [112, 104, 111, 110, 101]]
theorem kind_in {kind : List Nat} (hk : kind ∈ kinds) {h : MH} : cmpV .notin (.str kind) kindsD h = some false := by
  unfold kinds at hk
  simp only [List.mem_cons, List.not_mem_nil, or_false] at hk
  rcases hk with rfl | rfl | rfl | rfl | rfl | rfl | rfl | rfl <;> rfl
theorem rd (kind text : List Nat) (hk : kind ∈ kinds) (hl : text.length ≤ 400) (k : Nat) (o : List Fr) (h : MH) :
    callC ct (k + 1) (.fn 0) o [.str kind, .str text] h = (if stripS text = [] then .ok (.str []) h else callC ct k (.fn 1) ([some (.str kind), some (.str text), some (.str (stripS text)), none, none] :: o) [.str kind, .str (stripS text)] h) := by
  have hl2 : text.length ≤ line := Nat.le_trans hl (by decide)
  show (match c_read_answer (callC ct k) o [some (.str kind), some (.str text), none, none, none] h with
      | .ret d h1 => if f_read_answer.lamf && !noClo d then R.stk else .ok d h1
      | .nx _ h1 => .ok .non h1
      | .exc c _ h1 => .exc c h1
      | _ => .stk) = _
  have e1 : C.tcons false (C.tcmp .notin (C.var 0) (C.glb pg 0)) (C.tcons false (C.tcmp .gt (C.bi .len (C.cons (C.var 1) C.nil)) (C.glb pg 1)) (C.tnil false)) (callC ct k) o [some (.str kind), some (.str text), none, none, none] h = .ok false h := by
    have q1 : C.tcmp .notin (C.var 0) (C.glb pg 0) (callC ct k) o [some (.str kind), some (.str text), none, none, none] h = .ok false h := by
      have q2 : C.tcmp .notin (C.var 0) (C.glb pg 0) (callC ct k) o [some (.str kind), some (.str text), none, none, none] h = R.opt h (cmpV .notin (.str kind) kindsD h) := rfl
      rw [q2, kind_in hk]
      rfl
    have q2 : C.tcmp .gt (C.bi .len (C.cons (C.var 1) C.nil)) (C.glb pg 1) (callC ct k) o [some (.str kind), some (.str text), none, none, none] h = .ok false h := by
      have q3 : C.bi .len (C.cons (C.var 1) C.nil) (callC ct k) o [some (.str kind), some (.str text), none, none, none] h = .ok (FS.D.int text.length) h := by
        have q4 : C.bi .len (C.cons (C.var 1) C.nil) (callC ct k) o [some (.str kind), some (.str text), none, none, none] h = (if Nat.ble text.length line = true then R.ok (FS.D.int text.length) h else R.stk) := rfl
        rw [q4, if_pos (Nat.ble_eq_true_of_le hl2)]
      unfold C.tcmp
      rw [q3]
      have q5 : decide ((400 : Int) < (text.length : Int)) = false := decide_eq_false (by omega)
      have q6 : cmpV .gt (FS.D.int text.length) (FS.D.int 400) h = some (decide ((400 : Int) < (text.length : Int))) := rfl
      show R.opt h (cmpV .gt (FS.D.int text.length) (FS.D.int 400) h) = _
      rw [q6, q5]
      rfl
    unfold C.tcons
    rw [q1]
    simp only [R.bind, C.tcons, q2]
    rfl
  have e2 : C.set (.nm 2) (C.me .strip (C.var 1) (C.cons (C.k (.str [32])) C.nil)) (callC ct k) o [some (.str kind), some (.str text), none, none, none] h = .nx [some (.str kind), some (.str text), some (.str (stripS text)), none, none] h := by
    have q1 : C.me .strip (C.var 1) (C.cons (C.k (.str [32])) C.nil) (callC ct k) o [some (.str kind), some (.str text), none, none, none] h = .ok (FS.D.str (stripS text)) h := by
      have q2 : C.me .strip (C.var 1) (C.cons (C.k (.str [32])) C.nil) (callC ct k) o [some (.str kind), some (.str text), none, none, none] h = (if Nat.ble text.length line = true then R.ok (FS.D.str (stripS text)) h else R.stk) := rfl
      rw [q2, if_pos (Nat.ble_eq_true_of_le hl2)]
    unfold C.set
    rw [q1]
    rfl
  -- the rest
  have ek : ∀ y : List Nat, y ∈ [[116, 101, 120, 116], [108, 105, 110, 101, 115]] → ∀ fr' h', C.tcmp .eq (C.var 0) (C.k (.str y)) (callC ct k) o (some (.str kind) :: fr') h' = .ok false h' := by
    intro y hy fr' h'
    unfold kinds at hk
    simp only [List.mem_cons, List.not_mem_nil, or_false] at hk hy
    rcases hy with rfl | rfl <;> rcases hk with rfl | rfl | rfl | rfl | rfl | rfl | rfl | rfl <;> rfl
  have run : ∀ res, (stripS text = [] → res = RS.ret (.str []) h) → (stripS text ≠ [] → res = ((callC ct k (.fn 1) ([some (.str kind), some (.str text), some (.str (stripS text)), none, none] :: o) [.str kind, .str (stripS text)] h).toS [some (.str kind), some (.str text), some (.str (stripS text)), none, none] fun d h1 => .ret d h1)) →
      c_read_answer (callC ct k) o [some (.str kind), some (.str text), none, none, none] h = res := by
    intro res r1 r2
    unfold c_read_answer
    have s1 : ∀ {a b r : C.XS} {c : C.XB} {fr : Fr} {h : MH}, c (callC ct k) o fr h = .ok false h → b = C.snil → C.scons (C.sife c a b) r (callC ct k) o fr h = r (callC ct k) o fr h := by
      intro a b r c fr h e eb
      unfold C.scons C.sife
      rw [e, eb]
      rfl
    have s2 : ∀ {s r : C.XS} {fr fr1 : Fr} {h h1 : MH}, s (callC ct k) o fr h = .nx fr1 h1 → C.scons s r (callC ct k) o fr h = r (callC ct k) o fr1 h1 := by
      intro s r fr fr1 h h1 e
      unfold C.scons
      rw [e]
    rw [s1 e1 rfl, s2 e2]
    by_cases hs : stripS text = []
    · rw [r1 hs, hs]
      rfl
    · have e3 : C.tcmp .eq (C.var 2) (C.k (.str [])) (callC ct k) o [some (.str kind), some (.str text), some (.str (stripS text)), none, none] h = .ok false h := by
        have q : C.tcmp .eq (C.var 2) (C.k (.str [])) (callC ct k) o [some (.str kind), some (.str text), some (.str (stripS text)), none, none] h = R.opt h (some (deq (.str (stripS text)) (.str []))) := rfl
        rw [q]
        have : deq (.str (stripS text)) (.str []) = false := by
          unfold deq
          simpa using hs
        rw [this]
        rfl
      rw [s1 e3 rfl, s1 (ek _ (by simp) _ _) rfl, s1 (ek _ (by simp) _ _) rfl, r2 hs]
      have q : ∀ r : RS, (∀ fr1 h1, r ≠ .nx fr1 h1) → (match r with | .nx fr1 h1 => C.snil (callC ct k) o fr1 h1 | x => x) = r := by
        intro r hr
        cases r <;> first | rfl | exact absurd rfl (hr _ _)
      unfold C.scons
      refine (q _ fun fr1 h1 e => ?_).trans ?_
      · have e : ((callC ct k (.fn 1) ([some (.str kind), some (.str text), some (.str (stripS text)), none, none] :: o) [.str kind, .str (stripS text)] h).toS [some (.str kind), some (.str text), some (.str (stripS text)), none, none] fun d h1 => RS.ret d h1) = .nx fr1 h1 := e
        cases hq : (callC ct k (.fn 1) ([some (.str kind), some (.str text), some (.str (stripS text)), none, none] :: o) [.str kind, .str (stripS text)] h) with
        | ok d h2 => rw [hq] at e; cases e
        | exc c h2 => rw [hq] at e; cases e
        | stk => rw [hq] at e; cases e
      · rfl
  by_cases hs : stripS text = []
  · rw [run _ (fun _ => rfl) (fun z => absurd hs z), if_pos hs]
    rfl
  · rw [run _ (fun z => absurd z hs) (fun _ => rfl), if_neg hs]
    cases hq : (callC ct k (.fn 1) ([some (.str kind), some (.str text), some (.str (stripS text)), none, none] :: o) [.str kind, .str (stripS text)] h) <;> rfl
end K01

-- text K01W
set_option Elab.async false
set_option linter.all false
set_option maxRecDepth 100000
set_option maxHeartbeats 0
namespace K01
open PySem FS
section
variable {cf : CF} {o : List Fr} {fr fr1 : Fr} {h h1 : MH}
theorem st_no {a b r : C.XS} {c : C.XB} (e : c cf o fr h = .ok false h1) (eb : b = C.snil) : C.scons (C.sife c a b) r cf o fr h = r cf o fr h1 := by
  unfold C.scons C.sife
  rw [e, eb]
  rfl
theorem st_yes {a b r : C.XS} {c : C.XB} (e : c cf o fr h = .ok true h1) {v : FS.D} {h2 : MH} (e2 : a cf o fr h1 = .ret v h2) : C.scons (C.sife c a b) r cf o fr h = .ret v h2 := by
  unfold C.scons C.sife
  rw [e]
  show (match a cf o fr h1 with | .nx fr1 h1 => r cf o fr1 h1 | x => x) = _
  rw [e2]
theorem st_in {a b r : C.XS} {c : C.XB} (e : c cf o fr h = .ok true h1) {h2 : MH} (e2 : a cf o fr h1 = .nx fr1 h2) : C.scons (C.sife c a b) r cf o fr h = r cf o fr1 h2 := by
  unfold C.scons C.sife
  rw [e]
  show (match a cf o fr h1 with | .nx fr1 h1 => r cf o fr1 h1 | x => x) = _
  rw [e2]
theorem st_nx {s r : C.XS} (e : s cf o fr h = .nx fr1 h1) : C.scons s r cf o fr h = r cf o fr1 h1 := by
  unfold C.scons
  rw [e]
theorem st_ret {s r : C.XS} {v : FS.D} (e : s cf o fr h = .ret v h1) : C.scons s r cf o fr h = .ret v h1 := by
  unfold C.scons
  rw [e]
theorem st_set {t : T} {e : C.XE} {v : FS.D} (q : e cf o fr h = .ok v h1) (a : asg t v fr = some fr1) : C.set t e cf o fr h = .nx fr1 h1 := by
  unfold C.set
  rw [q]
  simp only [R.toS, a]
theorem st_retE {e : C.XE} {v : FS.D} (q : e cf o fr h = .ok v h1) : C.ret e cf o fr h = .ret v h1 := by
  unfold C.ret
  rw [q]
  rfl
theorem ev_cmpT {op : Cop} {a b : C.XE} {x y : FS.D} {h2 : MH} {r : Bool} (ea : a cf o fr h = .ok x h1) (eb : b cf o fr h1 = .ok y h2) (ec : cmpV op x y h2 = some r) : C.tcmp op a b cf o fr h = .ok r h2 := by
  unfold C.tcmp
  rw [ea]
  simp only [R.bind, eb, ec]
  rfl
theorem ev_cmp {op : Cop} {a b : C.XE} {x y : FS.D} {h2 : MH} {r : Bool} (ea : a cf o fr h = .ok x h1) (eb : b cf o fr h1 = .ok y h2) (ec : cmpV op x y h2 = some r) : C.cmp op a b cf o fr h = .ok (.bl r) h2 := by
  unfold C.cmp
  rw [ea]
  simp only [R.bind, eb, ec]
theorem ev_bin {op : Bop} {a b : C.XE} {x y : FS.D} {h2 : MH} {r : FS.R FS.D} (ea : a cf o fr h = .ok x h1) (eb : b cf o fr h1 = .ok y h2) (ec : binV op x y h2 = r) : C.bin op a b cf o fr h = r := by
  unfold C.bin
  rw [ea]
  simp only [R.bind, eb, ec]
theorem ev_me {m : Me} {e : C.XE} {es : C.XEs} {s : List Nat} {xs : List FS.D} {h2 : MH} {r : FS.R FS.D} (ea : e cf o fr h = .ok (.str s) h1) (eb : es cf o fr h1 = .ok xs h2) (ec : meV m (.str s) xs h2 = r) : C.me m e es cf o fr h = r := by
  unfold C.me
  rw [ea]
  simp only [R.bind, eb, ec]
theorem ev_call {f : Nat} {es : C.XEs} {xs : List FS.D} {r : FS.R FS.D} (ea : es cf o fr h = .ok xs h1) (ec : cf (.fn f) (fr :: o) xs h1 = r) : C.call f es cf o fr h = r := by
  unfold C.call
  rw [ea]
  simp only [R.bind, ec]
theorem ev_cons {e : C.XE} {es : C.XEs} {x : FS.D} {xs : List FS.D} {h2 : MH} (ea : e cf o fr h = .ok x h1) (eb : es cf o fr h1 = .ok xs h2) : C.cons e es cf o fr h = .ok (x :: xs) h2 := by
  unfold C.cons
  rw [ea]
  simp only [R.bind, eb]
theorem ev_tup {es : C.XEs} {xs : List FS.D} (ea : es cf o fr h = .ok xs h1) (hl : Nat.ble xs.length line = true := by rfl) : C.tup es cf o fr h = .ok (.tup xs) h1 := by
  unfold C.tup
  rw [ea]
  simp only [R.bind, hl, if_true]
theorem ev_lst {es : C.XEs} {xs : List FS.D} (ea : es cf o fr h = .ok xs h1) (hl : Nat.ble xs.length line = true := by rfl) : C.lst false es cf o fr h = .ok (.lst xs) h1 := by
  unfold C.lst
  rw [ea]
  simp only [R.bind, hl, if_true]
theorem ev_ix {a b : C.XE} {x y z : FS.D} {h2 : MH} (ea : a cf o fr h = .ok x h1) (eb : b cf o fr h1 = .ok y h2) (ec : ixV x y h2 = some z) : C.ix a b cf o fr h = .ok z h2 := by
  unfold C.ix
  rw [ea]
  simp only [R.bind, eb, ec]
  rfl
end
/-- read_answer kind text, anywhere -/
def Reads (kind text : List Nat) (due : Option (List Nat)) : Prop := ∀ k, 11 ≤ k → ∀ o h, callC ct k (.fn 0) o [.str kind, .str text] h = RdR due h
theorem Reads.of {kind text : List Nat} {due : Option (List Nat)} (hk : kind ∈ kinds) (hl : text.length ≤ 400) (h0 : stripS text = [] → due = some []) (h1 : stripS text ≠ [] → Sp kind (stripS text) due) : Reads kind text due := by
  intro k hk2 o h
  obtain ⟨j, rfl⟩ : ∃ j, k = j + 1 := ⟨k - 1, by omega⟩
  rw [rd kind text hk hl]
  by_cases hs : stripS text = []
  · rw [if_pos hs, h0 hs]
    rfl
  · rw [if_neg hs]
    exact (h1 hs).at (by omega) _ _
theorem order_of1 {kind s : List Nat} (hk : inOpt [] (.str kind) (.tup [.str [119, 104, 111, 108, 101], .str [110, 117, 109, 98, 101, 114]]) = some false) (hr : Reads kind s (some s)) (hs : s ≠ []) {k : Nat} (hk2 : 12 ≤ k) (o : List Fr) (h : MH) :
    callC ct k (.fn 15) o [.str kind, .str s] h = .ok (.tup [.int 1, .int 0, .str s]) h := by
  obtain ⟨j, rfl⟩ : ∃ j, k = j + 1 := ⟨k - 1, by omega⟩
  have e : c_order_of (callC ct j) o [some (.str kind), some (.str s)] h = .ret (.tup [.int 1, .int 0, .str s]) h := by
    unfold c_order_of
    refine (st_no (h1 := h) (ev_cmpT (ev_call rfl (hr j (by omega) _ h)) rfl (r := false) ?_) rfl).trans ?_
    · show some (deq (.str s) (.str [])) = _
      unfold deq
      simpa using hs
    · refine (st_no (h1 := h) (ev_cmpT rfl rfl (r := false) ?_) rfl).trans ?_
      · exact inOpt_up (h' := h) hk
      · exact st_ret (st_retE rfl)
  show (match c_order_of (callC ct j) o [some (.str kind), some (.str s)] h with
      | .ret d h1 => if f_order_of.lamf && !noClo d then R.stk else .ok d h1
      | .nx _ h1 => .ok .non h1
      | .exc c _ h1 => .exc c h1
      | _ => .stk) = _
  rw [e]
  rfl
theorem order_of2 {kind s : List Nat} {n : Int} (hk : inOpt [] (.str kind) (.tup [.str [119, 104, 111, 108, 101], .str [110, 117, 109, 98, 101, 114]]) = some true) (hr : Reads kind s (some s)) (hs : s ≠ []) (hn : callC ct 10 (.fn 5) [] [.str s] [] = .ok (.int n) []) {k : Nat} (hk2 : 12 ≤ k) (o : List Fr) (h : MH) :
    callC ct k (.fn 15) o [.str kind, .str s] h = .ok (.tup [.int 1, .int n, .str []]) h := by
  obtain ⟨j, rfl⟩ : ∃ j, k = j + 1 := ⟨k - 1, by omega⟩
  have e : c_order_of (callC ct j) o [some (.str kind), some (.str s)] h = .ret (.tup [.int 1, .int n, .str []]) h := by
    unfold c_order_of
    refine (st_no (h1 := h) (ev_cmpT (ev_call rfl (hr j (by omega) _ h)) rfl (r := false) ?_) rfl).trans ?_
    · show some (deq (.str s) (.str [])) = _
      unfold deq
      simpa using hs
    · refine st_yes (h1 := h) (ev_cmpT (op := .isin) (x := .str kind) (y := .tup [.str [119, 104, 111, 108, 101], .str [110, 117, 109, 98, 101, 114]]) (h2 := h) rfl rfl (r := true) (inOpt_up (h' := h) hk)) ?_
      exact st_ret (st_retE (ev_tup (ev_cons rfl (ev_cons (ev_call rfl (lift (by decide) hn (by omega))) rfl))))
  show (match c_order_of (callC ct j) o [some (.str kind), some (.str s)] h with
      | .ret d h1 => if f_order_of.lamf && !noClo d then R.stk else .ok d h1
      | .nx _ h1 => .ok .non h1
      | .exc c _ h1 => .exc c h1
      | _ => .stk) = _
  rw [e]
  rfl
theorem cmp_str (a b : List Nat) (h : MH) : cmpV .eq (.str a) (.str b) h = some (decide (a = b)) := by
  show some (deq (.str a) (.str b)) = _
  unfold deq
  first | rfl | (congr 1; by_cases e : a = b <;> simp [e])
def lowS (s : List Nat) : List Nat := s.map PyProof.Rows.lo1
def okS (s : List Nat) : Prop := ascii s = true ∧ s.length ≤ 400
theorem is_same {kind x y s t : List Nat} (hx : Reads kind x (some s)) (hy : Reads kind y (some t)) (hs : okS s) (ht : okS t) {k : Nat} (hk2 : 12 ≤ k) (o : List Fr) (h : MH) :
    callC ct k (.fn 16) o [.str kind, .str x, .str y] h = .ok (.bl (decide (lowS s = lowS t))) h := by
  obtain ⟨j, rfl⟩ : ∃ j, k = j + 1 := ⟨k - 1, by omega⟩
  have low : ∀ z, okS z → meV .lower (.str z) [] h = .ok (.str (lowS z)) h := fun z hz => by
    have q : meV .lower (.str z) [] h = (if (ascii z && Nat.ble z.length 5592405) = true then R.ok (.str (lowS z)) h else .stk) := rfl
    rw [q, hz.1, Nat.ble_eq_true_of_le (Nat.le_trans hz.2 (by decide))]
    rfl
  have e : c_is_same (callC ct j) o [some (.str kind), some (.str x), some (.str y)] h = .ret (.bl (decide (lowS s = lowS t))) h := by
    unfold c_is_same
    exact st_ret (st_retE (ev_cmp (ev_me (ev_call rfl (hx j (by omega) _ h)) rfl (low s hs)) (ev_me (ev_call rfl (hy j (by omega) _ h)) rfl (low t ht)) (cmp_str _ _ _)))
  show (match c_is_same (callC ct j) o [some (.str kind), some (.str x), some (.str y)] h with
      | .ret d h1 => if f_is_same.lamf && !noClo d then R.stk else .ok d h1
      | .nx _ h1 => .ok .non h1
      | .exc c _ h1 => .exc c h1
      | _ => .stk) = _
  rw [e]
  rfl
end K01

-- text K01X
set_option Elab.async false
set_option linter.all false
set_option maxRecDepth 100000
set_option maxHeartbeats 0
namespace K01
open PySem FS
def rowBody : C.XS :=
  (C.scons (C.set (.nm 22) (C.bin .add (C.bin .add (C.bin .mul (C.k (.str [32])) (C.call 18 (C.cons (C.var 1) (C.cons (C.k (.int 3)) C.nil)))) (C.var 20)) (C.bin .mul (C.k (.str [32])) (C.call 18 (C.cons (C.var 1) (C.cons (C.k (.int 3)) C.nil))))))
  (C.scons (C.set (.nm 21) (C.ife (C.tcmp .eq (C.me .strip (C.var 20) (C.cons (C.k (.str [32])) C.nil)) (C.k (.str []))) (C.k (.str [])) (C.var 21)))
  (C.scons (C.set (.nm 23) (C.call 20 (C.cons (C.lam 20) C.nil)))
  (C.scons (C.sife (C.tcons false (C.tcmp .ne (C.var 23) (C.ife (C.tcmp .notn (C.var 21) (C.k .non)) (C.var 21) (C.k (.str [75, 105, 110, 100, 69, 114, 114, 111, 114])))) (C.tcons false (C.tcons true (C.tcmp .notn (C.var 21) (C.k .non)) (C.tcons true (C.tcmp .ne (C.call 0 (C.cons (C.var 19) (C.cons (C.var 21) C.nil))) (C.var 21)) (C.tnil true))) (C.tnil false))) (C.scons (C.ret (C.k (.bl false)))
  C.snil) C.snil)
  (C.scons (C.sife (C.tcmp .notin (C.var 21) (C.lst false (C.cons (C.k .non) (C.cons (C.k (.str [])) C.nil)))) (C.scons (C.set (.nm 24) (C.ife (C.tcmp .isin (C.var 19) (C.lst false (C.cons (C.k (.str [119, 104, 111, 108, 101])) (C.cons (C.k (.str [110, 117, 109, 98, 101, 114])) C.nil)))) (C.tup (C.cons (C.k (.int 1)) (C.cons (C.call 22 (C.cons (C.var 21) C.nil)) (C.cons (C.k (.str [])) C.nil)))) (C.tup (C.cons (C.k (.int 1)) (C.cons (C.k (.int 0)) (C.cons (C.var 21) C.nil))))))
  (C.scons (C.sife (C.tcons false (C.tcmp .ne (C.call 15 (C.cons (C.var 19) (C.cons (C.var 21) C.nil))) (C.var 24)) (C.tcons false (C.tnt (C.tv (C.call 16 (C.cons (C.var 19) (C.cons (C.var 20) (C.cons (C.var 21) C.nil)))))) (C.tcons false (C.tv (C.call 16 (C.cons (C.var 19) (C.cons (C.var 20) (C.cons (C.k (.str [])) C.nil))))) (C.tnil false)))) (C.scons (C.ret (C.k (.bl false)))
  C.snil) C.snil)
  C.snil)) C.snil)
  C.snil)))))
/-- the slots that the loop over rows writes -/
def frL (p : List (Option FS.D)) (x19 x20 x21 x22 x23 x24 : Option FS.D) : Fr := p ++ [x19, x20, x21, x22, x23, x24]
def padS (n : Nat) : List Nat := List.replicate n 32
theorem binV_pad (n : Nat) (hn : n ≤ 2) (h : MH) : binV .mul (.str [32]) (.int (n : Int)) h = .ok (.str (padS n)) h := by
  match n, hn with
  | 0, _ => rfl
  | 1, _ => rfl
  | 2, _ => rfl
theorem binV_add (a b : List Nat) (hl : a.length + b.length ≤ 1000) (h : MH) : binV .add (.str a) (.str b) h = .ok (.str (a ++ b)) h := by
  have q : binV .add (.str a) (.str b) h = (if Nat.ble (a.length + b.length) line = true then R.ok (FS.D.str (a ++ b)) h else .stk) := rfl
  rw [q, if_pos (Nat.ble_eq_true_of_le (Nat.le_trans hl (by decide)))]
theorem rollN (k : Nat) (a b c : Int) (m : Nat) (h0 : 0 < m) (h1 : m ≤ 100000000) : ∃ (r : Nat) (a' b' c' : Int), (∀ o, callC ct (k + 1) (.fn 18) o [.ref 0, .int (m : Int)] (dh a b c) = .ok (.int (r : Int)) (dh a' b' c')) ∧ r < m := by
  obtain ⟨r, a', b', c', e, q0, q1⟩ := roll k a b c m (by omega) (by omega)
  refine ⟨r.toNat, a', b', c', fun o => ?_, by omega⟩
  rw [e o]
  congr 2
  omega
def dueD : Option (List Nat) → FS.D
  | some s => .str s
  | none => .non
def toldD : Option (List Nat) → FS.D
  | some s => .str s
  | none => .str [75, 105, 110, 100, 69, 114, 114, 111, 114]
/-- _law_told(lambda: read_answer(kind, wide)) -/
theorem told {kind wide : List Nat} {due : Option (List Nat)} (hr : Reads kind wide due) {k : Nat} (hk : 13 ≤ k) {p : List (Option FS.D)} (hp : p.length = 19) {x20 x21 x23 x24 : Option FS.D} (h : MH) :
    callC ct k (.fn 20) [frL p (some (.str kind)) x20 x21 (some (.str wide)) x23 x24] [.clo 20 0] h = .ok (toldD due) h := by
  obtain ⟨j, rfl⟩ : ∃ j, k = j + 1 := ⟨k - 1, by omega⟩
  obtain ⟨i, rfl⟩ : ∃ i, j = i + 1 := ⟨j - 1, by omega⟩
  generalize hfr : frL p (some (.str kind)) x20 x21 (some (.str wide)) x23 x24 = fr
  have g19 : FS.get fr 19 = some (.str kind) := by
    rw [← hfr]
    unfold FS.get frL
    rw [List.getElem?_append_right (by omega), hp]
    rfl
  have g22 : FS.get fr 22 = some (.str wide) := by
    rw [← hfr]
    unfold FS.get frL
    rw [List.getElem?_append_right (by omega), hp]
    rfl
  have len : fr.length = 25 := by
    rw [← hfr]
    unfold frL
    rw [List.length_append, hp]
    rfl
  have e1 : C.app pg 0 (callC ct (i + 1)) [fr] [some (.clo 20 0)] h = RdR due h := by
    have q1 : C.app pg 0 (callC ct (i + 1)) [fr] [some (.clo 20 0)] h = (if ([19, 22] : List Nat).all (fun i => Nat.blt i fr.length) = true then callC ct (i + 1) (.lam 20 (([19, 22] : List Nat).map (FS.get fr))) ([some (.clo 20 0)] :: [fr]) [] h else .stk) := rfl
    rw [q1, len]
    have q2 : ([19, 22] : List Nat).all (fun i => Nat.blt i 25) = true := by decide
    rw [if_pos q2]
    have q3 : ([19, 22] : List Nat).map (FS.get fr) = [some (.str kind), some (.str wide)] := by
      simp only [List.map_cons, List.map_nil, g19, g22]
    rw [q3]
    show C.call 0 (C.cons (C.var 0) (C.cons (C.var 1) C.nil)) (callC ct i) _ [some (.str kind), some (.str wide)] h = _
    exact ev_call rfl (hr i (by omega) _ h)
  have e : c__law_told (callC ct (i + 1)) [fr] [some (.clo 20 0)] h = .ret (toldD due) h := by
    unfold c__law_told
    refine st_ret ?_
    unfold C.tri
    cases due with
    | some s =>
      rw [st_ret (st_retE (v := .str s) (h1 := h) e1)]
      rfl
    | none =>
      have e3 : C.scons (C.ret (C.app pg 0)) C.snil (callC ct (i + 1)) [fr] [some (.clo 20 0)] h = .exc 1 [some (.clo 20 0)] h := by
        unfold C.scons C.ret
        rw [e1]
        rfl
      rw [e3]
      rfl
  show (match c__law_told (callC ct (i + 1)) [fr] [some (.clo 20 0)] h with
      | .ret d h1 => if f__law_told.lamf && !noClo d then R.stk else .ok d h1
      | .nx _ h1 => .ok .non h1
      | .exc c _ h1 => .exc c h1
      | _ => .stk) = _
  rw [e]
  cases due <;> rfl
end K01

-- text K01Y
set_option Elab.async false
set_option linter.all false
set_option maxRecDepth 100000
set_option maxHeartbeats 0
namespace K01
open PySem FS
section
variable {p : List (Option FS.D)} {x19 x20 x21 x22 x23 x24 : Option FS.D}
theorem g_hi (hp : p.length = 19) (j : Nat) : FS.get (frL p x19 x20 x21 x22 x23 x24) (19 + j) = FS.get [x19, x20, x21, x22, x23, x24] j := by
  unfold FS.get frL
  rw [List.getElem?_append_right (by omega), hp, Nat.add_sub_cancel_left]
theorem g1 (hp : p.length = 19) (h1 : p[1]? = some (some (.ref 0))) : FS.get (frL p x19 x20 x21 x22 x23 x24) 1 = some (.ref 0) := by
  unfold FS.get frL
  rw [List.getElem?_append_left (by omega), h1]
theorem a_hi (hp : p.length = 19) (j : Nat) (hj : j < 6) (d : FS.D) : asg (.nm (19 + j)) d (frL p x19 x20 x21 x22 x23 x24) = some (p ++ ([x19, x20, x21, x22, x23, x24] : List (Option FS.D)).set j (some d)) := by
  have hl : (frL p x19 x20 x21 x22 x23 x24).length = 25 := by
    unfold frL
    rw [List.length_append, hp]
    rfl
  unfold asg
  rw [if_pos (by omega)]
  unfold put frL
  rw [List.set_append_right _ _ (by omega), hp, Nat.add_sub_cancel_left]
variable {cf : CF} {o : List Fr} {h : MH}
theorem v_hi (hp : p.length = 19) (j : Nat) {d : FS.D} (e : FS.get [x19, x20, x21, x22, x23, x24] j = some d) : C.var (19 + j) cf o (frL p x19 x20 x21 x22 x23 x24) h = .ok d h := by
  unfold C.var
  rw [g_hi hp, e]
  rfl
theorem v_1 (hp : p.length = 19) (h1 : p[1]? = some (some (.ref 0))) : C.var 1 cf o (frL p x19 x20 x21 x22 x23 x24) h = .ok (.ref 0) h := by
  unfold C.var
  rw [g1 hp h1]
  rfl
end
/-- the padding, then the row -/
theorem row_wide {p : List (Option FS.D)} (hp : p.length = 19) (h1 : p[1]? = some (some (.ref 0))) {given : List Nat} (hl : given.length ≤ 396) (x19 x21 x22 x23 x24 : Option FS.D) (a b c : Int) :
    ∃ (r q : Nat) (a' b' c' : Int), r ≤ 2 ∧ q ≤ 2 ∧ C.bin .add (C.bin .add (C.bin .mul (C.k (.str [32])) (C.call 18 (C.cons (C.var 1) (C.cons (C.k (.int 3)) C.nil)))) (C.var 20)) (C.bin .mul (C.k (.str [32])) (C.call 18 (C.cons (C.var 1) (C.cons (C.k (.int 3)) C.nil)))) (callC ct 20) [] (frL p x19 (some (.str given)) x21 x22 x23 x24) (dh a b c) = .ok (.str (padS r ++ given ++ padS q)) (dh a' b' c') := by
  obtain ⟨r, a1, b1, c1, e1, hr⟩ := rollN 19 a b c 3 (by omega) (by omega)
  obtain ⟨q, a2, b2, c2, e2, hq⟩ := rollN 19 a1 b1 c1 3 (by omega) (by omega)
  refine ⟨r, q, a2, b2, c2, by omega, by omega, ?_⟩
  have lr : (padS r).length = r := List.length_replicate
  have lq : (padS q).length = q := List.length_replicate
  have m1 : C.bin .mul (C.k (.str [32])) (C.call 18 (C.cons (C.var 1) (C.cons (C.k (.int 3)) C.nil))) (callC ct 20) [] (frL p x19 (some (.str given)) x21 x22 x23 x24) (dh a b c) = .ok (.str (padS r)) (dh a1 b1 c1) :=
    ev_bin rfl (ev_call (ev_cons (v_1 hp h1) (ev_cons rfl rfl)) (e1 _)) (binV_pad r (by omega) _)
  have m2 : C.bin .mul (C.k (.str [32])) (C.call 18 (C.cons (C.var 1) (C.cons (C.k (.int 3)) C.nil))) (callC ct 20) [] (frL p x19 (some (.str given)) x21 x22 x23 x24) (dh a1 b1 c1) = .ok (.str (padS q)) (dh a2 b2 c2) :=
    ev_bin rfl (ev_call (ev_cons (v_1 hp h1) (ev_cons rfl rfl)) (e2 _)) (binV_pad q (by omega) _)
  exact ev_bin (ev_bin m1 (v_hi hp 1 rfl) (binV_add _ _ (by omega) _)) m2 (binV_add _ _ (by rw [List.length_append]; omega) _)
end K01

-- text K01Z
set_option Elab.async false
set_option linter.all false
set_option maxRecDepth 100000
set_option maxHeartbeats 0
namespace K01
open PySem FS
def due2 (given : List Nat) (due : Option (List Nat)) : Option (List Nat) := if stripS given = [] then some [] else due
def isNum (kind : List Nat) : Bool := decide (kind = [119, 104, 111, 108, 101]) || decide (kind = [110, 117, 109, 98, 101, 114])
/-- what makes a row good -/
structure RowOk (kind given : List Nat) (due : Option (List Nat)) : Prop where
  len : given.length ≤ 396
  wide : ∀ r q, r ≤ 2 → q ≤ 2 → Reads kind (padS r ++ given ++ padS q) (due2 given due)
  nil : Reads kind [] (some [])
  back : ∀ s, due2 given due = some s → Reads kind s (some s) ∧ okS s
  num : isNum kind = true → ∀ s, due2 given due = some s → s ≠ [] → ∃ n, callC ct 10 (.fn 5) [] [.str s] [] = .ok (.int n) [] ∧ callC ct 10 (.fn 22) [] [.str s] [] = .ok (.int n) []
theorem RowOk.given {kind given : List Nat} {due : Option (List Nat)} (r : RowOk kind given due) : Reads kind given (due2 given due) := by
  have := r.wide 0 0 (by omega) (by omega)
  simpa [padS] using this
theorem isNum_in {kind : List Nat} {h : MH} : inOpt h (.str kind) (.lst [.str [119, 104, 111, 108, 101], .str [110, 117, 109, 98, 101, 114]]) = some (isNum kind) := by
  show some (deq (.str [119, 104, 111, 108, 101]) (.str kind) || (deq (.str [110, 117, 109, 98, 101, 114]) (.str kind) || false)) = _
  unfold deq isNum
  rw [Bool.or_false]
  congr 2
  · by_cases e : kind = [119, 104, 111, 108, 101]
    · simp [e]
    · rw [decide_eq_false e]
      simpa using fun z => e z.symm
  · by_cases e : kind = [110, 117, 109, 98, 101, 114]
    · simp [e]
    · rw [decide_eq_false e]
      simpa using fun z => e z.symm
theorem isNum_inT {kind : List Nat} {h : MH} : inOpt h (.str kind) (.tup [.str [119, 104, 111, 108, 101], .str [110, 117, 109, 98, 101, 114]]) = some (isNum kind) := (isNum_in (h := h))
theorem deq_refl_str (s : List Nat) : deq (.str s) (.str s) = true := by
  unfold deq
  exact beq_self_eq_true s
theorem cmp_ne_self (s : List Nat) (h : MH) : cmpV .ne (.str s) (.str s) h = some false := by
  show some (!(deq (.str s) (.str s))) = _
  rw [deq_refl_str]
  rfl
theorem low_ne {s : List Nat} (hs : s ≠ []) : decide (lowS s = lowS []) = false := by
  apply decide_eq_false
  intro e
  unfold lowS at e
  exact hs (List.map_eq_nil_iff.mp e)
theorem ne_key (x : FS.D) (s : List Nat) (hx : shp 59 x = true) (hd : deq x x = true) (hs : ascii s = true) {h : MH} : cmpV .ne (.tup [.int 1, x, .str s]) (.tup [.int 1, x, .str s]) h = some false := by
  have h1 : (s.all fun c => Nat.blt c 1114112) = true := by
    refine List.all_eq_true.mpr fun c hc => ?_
    have := List.all_eq_true.mp hs c hc
    have h2 : c < 128 := Nat.le_of_ble_eq_true this
    exact Nat.ble_eq_true_of_le (by omega)
  have h3 : shp 60 (.tup [.int 1, x, .str s]) = true := by
    simp only [shp, shps, hx, h1, Bool.and_self]
  have h4 : deq (.tup [.int 1, x, .str s]) (.tup [.int 1, x, .str s]) = true := by
    simp only [deq, deqs, hd, decide_true, beq_self_eq_true, Bool.and_self]
  show (eqOpt (.tup [.int 1, x, .str s]) (.tup [.int 1, x, .str s])).map not = _
  unfold eqOpt
  rw [if_neg (by simp [flatD]), if_pos (by rw [h3]; rfl), h4]
  rfl
theorem row {p : List (Option FS.D)} (hp : p.length = 19) (h1 : p[1]? = some (some (.ref 0))) {kind given : List Nat} {due : Option (List Nat)} (RO : RowOk kind given due) (x22 x23 x24 : Option FS.D) (a b c : Int) :
    ∃ x21' x22' x23' x24' a' b' c', rowBody (callC ct 20) [] (frL p (some (.str kind)) (some (.str given)) (some (dueD due)) x22 x23 x24) (dh a b c) = .nx (frL p (some (.str kind)) (some (.str given)) x21' x22' x23' x24') (dh a' b' c') := by
  obtain ⟨r, q, a', b', c', hr, hq, ew⟩ := row_wide hp h1 RO.len (some (.str kind)) (some (dueD due)) x22 x23 x24 a b c
  have hw := RO.wide r q hr hq
  have hg := RO.given
  generalize hwide : padS r ++ given ++ padS q = wide at ew hw
  generalize hh : dh a' b' c' = h at ew
  -- due
  have ed : C.ife (C.tcmp .eq (C.me .strip (C.var 20) (C.cons (C.k (.str [32])) C.nil)) (C.k (.str []))) (C.k (.str [])) (C.var 21) (callC ct 20) [] (frL p (some (.str kind)) (some (.str given)) (some (dueD due)) (some (.str wide)) x23 x24) h = .ok (dueD (due2 given due)) h := by
    have q1 : C.me .strip (C.var 20) (C.cons (C.k (.str [32])) C.nil) (callC ct 20) [] (frL p (some (.str kind)) (some (.str given)) (some (dueD due)) (some (.str wide)) x23 x24) h = .ok (.str (stripS given)) h := by
      refine ev_me (v_hi hp 1 rfl) (ev_cons rfl rfl) ?_
      have q2 : meV .strip (.str given) [.str [32]] h = (if Nat.ble given.length line = true then R.ok (FS.D.str (stripS given)) h else .stk) := rfl
      rw [q2, if_pos (Nat.ble_eq_true_of_le (Nat.le_trans RO.len (by decide)))]
    have q3 := ev_cmpT (op := .eq) (b := C.k (.str [])) (cf := callC ct 20) q1 rfl (cmp_str (stripS given) [] h)
    unfold C.ife
    rw [q3]
    unfold due2
    by_cases hs : stripS given = []
    · rw [if_pos hs, decide_eq_true hs]
      rfl
    · rw [if_neg hs, decide_eq_false hs]
      exact v_hi (cf := callC ct 20) (o := []) hp 2 rfl
  have t := told (due := due2 given due) hw (k := 20) (by omega) (p := p) hp (x20 := some (.str given)) (x21 := some (dueD (due2 given due))) (x23 := x23) (x24 := x24) h
  unfold rowBody
  have s1 := st_set (t := .nm 22) (cf := callC ct 20) (o := []) ew (a_hi hp 3 (by omega) (.str wide))
  rw [st_nx s1]
  have s2 := st_set (t := .nm 21) (cf := callC ct 20) (o := []) ed (a_hi hp 2 (by omega) (dueD (due2 given due)))
  refine ?_
  have s2' : C.set (.nm 21) (C.ife (C.tcmp .eq (C.me .strip (C.var 20) (C.cons (C.k (.str [32])) C.nil)) (C.k (.str []))) (C.k (.str [])) (C.var 21)) (callC ct 20) [] (p ++ ([some (.str kind), some (.str given), some (dueD due), x22, x23, x24] : List (Option FS.D)).set 3 (some (.str wide))) h = .nx (frL p (some (.str kind)) (some (.str given)) (some (dueD (due2 given due))) (some (.str wide)) x23 x24) h := s2
  rw [st_nx s2']
  have et : C.call 20 (C.cons (C.lam 20) C.nil) (callC ct 20) [] (frL p (some (.str kind)) (some (.str given)) (some (dueD (due2 given due))) (some (.str wide)) x23 x24) h = .ok (toldD (due2 given due)) h := ev_call (ev_cons rfl rfl) t
  have s3 := st_set (t := .nm 23) (cf := callC ct 20) (o := []) et (a_hi hp 4 (by omega) _)
  rw [st_nx s3]
  have hF : p ++ ([some (.str kind), some (.str given), some (dueD (due2 given due)), some (.str wide), x23, x24] : List (Option FS.D)).set 4 (some (toldD (due2 given due))) = frL p (some (.str kind)) (some (.str given)) (some (dueD (due2 given due))) (some (.str wide)) (some (toldD (due2 given due))) x24 := rfl
  rw [hF]
  have back := RO.back
  have num := RO.num
  generalize due2 given due = due' at hg back num ⊢
  have no4 : C.tcons false (C.tcmp .ne (C.var 23) (C.ife (C.tcmp .notn (C.var 21) (C.k .non)) (C.var 21) (C.k (.str [75, 105, 110, 100, 69, 114, 114, 111, 114])))) (C.tcons false (C.tcons true (C.tcmp .notn (C.var 21) (C.k .non)) (C.tcons true (C.tcmp .ne (C.call 0 (C.cons (C.var 19) (C.cons (C.var 21) C.nil))) (C.var 21)) (C.tnil true))) (C.tnil false)) (callC ct 20) [] (frL p (some (.str kind)) (some (.str given)) (some (dueD due')) (some (.str wide)) (some (toldD due')) x24) h = .ok false h := by
    cases due' with
    | none =>
      have t1 : C.tcmp .notn (C.var 21) (C.k .non) (callC ct 20) [] (frL p (some (.str kind)) (some (.str given)) (some (dueD none)) (some (.str wide)) (some (toldD none)) x24) h = .ok false h := ev_cmpT (v_hi hp 2 rfl) rfl rfl
      have t2 : C.tcmp .ne (C.var 23) (C.ife (C.tcmp .notn (C.var 21) (C.k .non)) (C.var 21) (C.k (.str [75, 105, 110, 100, 69, 114, 114, 111, 114]))) (callC ct 20) [] (frL p (some (.str kind)) (some (.str given)) (some (dueD none)) (some (.str wide)) (some (toldD none)) x24) h = .ok false h := by
        refine ev_cmpT (y := .str [75, 105, 110, 100, 69, 114, 114, 111, 114]) (h2 := h) (v_hi hp 4 rfl) ?_ rfl
        unfold C.ife
        rw [t1]
        rfl
      simp only [C.tcons, t2, R.bind, t1]
      rfl
    | some s =>
      have t1 : C.tcmp .notn (C.var 21) (C.k .non) (callC ct 20) [] (frL p (some (.str kind)) (some (.str given)) (some (dueD (some s))) (some (.str wide)) (some (toldD (some s))) x24) h = .ok true h := ev_cmpT (v_hi hp 2 rfl) rfl rfl
      have t2 : C.tcmp .ne (C.var 23) (C.ife (C.tcmp .notn (C.var 21) (C.k .non)) (C.var 21) (C.k (.str [75, 105, 110, 100, 69, 114, 114, 111, 114]))) (callC ct 20) [] (frL p (some (.str kind)) (some (.str given)) (some (dueD (some s))) (some (.str wide)) (some (toldD (some s))) x24) h = .ok false h := by
        refine ev_cmpT (x := .str s) (y := .str s) (h2 := h) (v_hi hp 4 rfl) ?_ (cmp_ne_self s h)
        unfold C.ife
        rw [t1]
        exact v_hi (cf := callC ct 20) (o := []) hp 2 rfl
      have t3 : C.tcmp .ne (C.call 0 (C.cons (C.var 19) (C.cons (C.var 21) C.nil))) (C.var 21) (callC ct 20) [] (frL p (some (.str kind)) (some (.str given)) (some (dueD (some s))) (some (.str wide)) (some (toldD (some s))) x24) h = .ok false h :=
        ev_cmpT (x := .str s) (y := .str s) (h2 := h) (ev_call (ev_cons (v_hi hp 0 rfl) (ev_cons (v_hi hp 2 rfl) rfl)) ((back s rfl).1 20 (by omega) _ h)) (v_hi hp 2 rfl) (cmp_ne_self s h)
      simp only [C.tcons, t2, R.bind, t1, t3]
      rfl
  rw [st_no no4 rfl]
  have t5 : ∀ b, inOpt h (dueD due') (.lst [.non, .str []]) = some (!b) → C.tcmp .notin (C.var 21) (C.lst false (C.cons (C.k .non) (C.cons (C.k (.str [])) C.nil))) (callC ct 20) [] (frL p (some (.str kind)) (some (.str given)) (some (dueD due')) (some (.str wide)) (some (toldD due')) x24) h = .ok b h := fun b e => by
    refine ev_cmpT (x := dueD due') (y := .lst [.non, .str []]) (h2 := h) (v_hi hp 2 rfl) rfl ?_
    show (inOpt h (dueD due') (.lst [.non, .str []])).map not = _
    rw [e]
    show some (!(!b)) = _
    rw [Bool.not_not]
  by_cases hz : due' = none ∨ due' = some []
  · have e5 := t5 false (by rcases hz with rfl | rfl <;> rfl)
    rw [st_no e5 rfl]
    subst hh
    exact ⟨_, _, _, _, _, _, _, rfl⟩
  · obtain ⟨s, rfl, hs⟩ : ∃ s, due' = some s ∧ s ≠ [] := by
      cases due' with
      | none => exact absurd (.inl rfl) hz
      | some s => exact ⟨s, rfl, fun e => hz (.inr (by rw [e]))⟩
    obtain ⟨rs, os⟩ := back s rfl
    have e5 := t5 true (by
      show some (deq .non (.str s) || (deq (.str []) (.str s) || false)) = _
      unfold deq
      have : (([] : List Nat) == s) = false := by
        rw [beq_eq_false_iff_ne]
        exact fun e => hs e.symm
      rw [this]
      rfl)
    -- the key
    obtain ⟨key, ek, eo⟩ : ∃ key, C.ife (C.tcmp .isin (C.var 19) (C.lst false (C.cons (C.k (.str [119, 104, 111, 108, 101])) (C.cons (C.k (.str [110, 117, 109, 98, 101, 114])) C.nil)))) (C.tup (C.cons (C.k (.int 1)) (C.cons (C.call 22 (C.cons (C.var 21) C.nil)) (C.cons (C.k (.str [])) C.nil)))) (C.tup (C.cons (C.k (.int 1)) (C.cons (C.k (.int 0)) (C.cons (C.var 21) C.nil)))) (callC ct 20) [] (frL p (some (.str kind)) (some (.str given)) (some (dueD (some s))) (some (.str wide)) (some (toldD (some s))) x24) h = .ok key h ∧
        (∀ o, callC ct 20 (.fn 15) o [.str kind, .str s] h = .ok key h) ∧ cmpV .ne key key h = some false := by
      have ti : C.tcmp .isin (C.var 19) (C.lst false (C.cons (C.k (.str [119, 104, 111, 108, 101])) (C.cons (C.k (.str [110, 117, 109, 98, 101, 114])) C.nil))) (callC ct 20) [] (frL p (some (.str kind)) (some (.str given)) (some (dueD (some s))) (some (.str wide)) (some (toldD (some s))) x24) h = .ok (isNum kind) h := ev_cmpT (op := .isin) (x := .str kind) (y := .lst [.str [119, 104, 111, 108, 101], .str [110, 117, 109, 98, 101, 114]]) (h2 := h) (v_hi hp 0 rfl) rfl (isNum_in (h := h))
      cases hn : isNum kind with
      | true =>
        obtain ⟨n, n1, n2⟩ := num hn s rfl hs
        refine ⟨.tup [.int 1, .int n, .str []], ?_, fun o => order_of2 (by rw [isNum_inT, hn]) rs hs n1 (by omega) o h, ?_⟩
        · unfold C.ife
          rw [ti, hn]
          exact ev_tup (ev_cons rfl (ev_cons (ev_call (ev_cons (v_hi hp 2 rfl) rfl) (lift (by decide) n2 (by omega))) rfl))
        · exact ne_key (.int n) [] (by unfold shp; rfl) (by unfold deq; exact decide_eq_true rfl) rfl
      | false =>
        refine ⟨.tup [.int 1, .int 0, .str s], ?_, fun o => order_of1 (by rw [isNum_inT, hn]) rs hs (by omega) o h, ?_⟩
        · unfold C.ife
          rw [ti, hn]
          exact ev_tup (ev_cons rfl (ev_cons rfl (ev_cons (v_hi hp 2 rfl) rfl)))
        · exact ne_key (.int 0) s (by unfold shp; rfl) (by unfold deq; rfl) os.1
    have s4 := st_set (t := .nm 24) (cf := callC ct 20) (o := []) ek (a_hi hp 5 (by omega) key)
    have hF2 : p ++ ([some (.str kind), some (.str given), some (dueD (some s)), some (.str wide), some (toldD (some s)), x24] : List (Option FS.D)).set 5 (some key) = frL p (some (.str kind)) (some (.str given)) (some (dueD (some s))) (some (.str wide)) (some (toldD (some s))) (some key) := rfl
    rw [hF2] at s4
    have no6 : C.tcons false (C.tcmp .ne (C.call 15 (C.cons (C.var 19) (C.cons (C.var 21) C.nil))) (C.var 24)) (C.tcons false (C.tnt (C.tv (C.call 16 (C.cons (C.var 19) (C.cons (C.var 20) (C.cons (C.var 21) C.nil)))))) (C.tcons false (C.tv (C.call 16 (C.cons (C.var 19) (C.cons (C.var 20) (C.cons (C.k (.str [])) C.nil))))) (C.tnil false))) (callC ct 20) [] (frL p (some (.str kind)) (some (.str given)) (some (dueD (some s))) (some (.str wide)) (some (toldD (some s))) (some key)) h = .ok false h := by
      have u1 : C.tcmp .ne (C.call 15 (C.cons (C.var 19) (C.cons (C.var 21) C.nil))) (C.var 24) (callC ct 20) [] (frL p (some (.str kind)) (some (.str given)) (some (dueD (some s))) (some (.str wide)) (some (toldD (some s))) (some key)) h = .ok false h :=
        ev_cmpT (x := key) (y := key) (h2 := h) (ev_call (h1 := h) (ev_cons (v_hi hp 0 rfl) (ev_cons (v_hi hp 2 rfl) rfl)) (eo.1 _)) (v_hi hp 5 rfl) eo.2
      have u2 : C.tv (C.call 16 (C.cons (C.var 19) (C.cons (C.var 20) (C.cons (C.var 21) C.nil)))) (callC ct 20) [] (frL p (some (.str kind)) (some (.str given)) (some (dueD (some s))) (some (.str wide)) (some (toldD (some s))) (some key)) h = .ok true h := by
        unfold C.tv
        rw [ev_call (ev_cons (v_hi hp 0 rfl) (ev_cons (v_hi hp 1 rfl) (ev_cons (v_hi hp 2 rfl) rfl))) (is_same hg rs os os (by omega) _ h), decide_eq_true rfl]
        rfl
      have u3 : C.tv (C.call 16 (C.cons (C.var 19) (C.cons (C.var 20) (C.cons (C.k (.str [])) C.nil)))) (callC ct 20) [] (frL p (some (.str kind)) (some (.str given)) (some (dueD (some s))) (some (.str wide)) (some (toldD (some s))) (some key)) h = .ok false h := by
        unfold C.tv
        rw [ev_call (ev_cons (v_hi hp 0 rfl) (ev_cons (v_hi hp 1 rfl) (ev_cons rfl rfl))) (is_same hg RO.nil os ⟨rfl, by decide⟩ (by omega) _ h), low_ne hs]
        rfl
      simp only [C.tcons, C.tnt, u1, u2, u3, R.bind]
      rfl
    have s5 := st_nx (r := C.scons (C.sife (C.tcons false (C.tcmp .ne (C.call 15 (C.cons (C.var 19) (C.cons (C.var 21) C.nil))) (C.var 24)) (C.tcons false (C.tnt (C.tv (C.call 16 (C.cons (C.var 19) (C.cons (C.var 20) (C.cons (C.var 21) C.nil)))))) (C.tcons false (C.tv (C.call 16 (C.cons (C.var 19) (C.cons (C.var 20) (C.cons (C.k (.str [])) C.nil))))) (C.tnil false)))) (C.scons (C.ret (C.k (.bl false))) C.snil) C.snil) C.snil) (h1 := h) s4
    rw [st_no no6 rfl] at s5
    rw [st_in e5 s5]
    subst hh
    exact ⟨_, _, _, _, _, _, _, rfl⟩
end K01

-- text K01a
set_option Elab.async false
set_option linter.all false
set_option maxRecDepth 100000
set_option maxHeartbeats 0
namespace K01
open PySem FS
abbrev Row : Type := List Nat × List Nat × Option (List Nat)
def rowD (r : Row) : FS.D := .tup [.str r.1, .str r.2.1, dueD r.2.2]
theorem asg_row {p : List (Option FS.D)} (hp : p.length = 19) (k g d : FS.D) (x19 x20 x21 x22 x23 x24 : Option FS.D) : asg (.tup [.nm 19, .nm 20, .nm 21]) (.tup [k, g, d]) (frL p x19 x20 x21 x22 x23 x24) = some (frL p (some k) (some g) (some d) x22 x23 x24) := by
  have e1 := a_hi (x19 := x19) (x20 := x20) (x21 := x21) (x22 := x22) (x23 := x23) (x24 := x24) hp 0 (by omega) k
  have e2 := a_hi (x19 := some k) (x20 := x20) (x21 := x21) (x22 := x22) (x23 := x23) (x24 := x24) hp 1 (by omega) g
  have e3 := a_hi (x19 := some k) (x20 := some g) (x21 := x21) (x22 := x22) (x23 := x23) (x24 := x24) hp 2 (by omega) d
  unfold asg asgs
  have e1' : asg (.nm 19) k (frL p x19 x20 x21 x22 x23 x24) = some (frL p (some k) x20 x21 x22 x23 x24) := e1
  have e2' : asg (.nm 20) g (frL p (some k) x20 x21 x22 x23 x24) = some (frL p (some k) (some g) x21 x22 x23 x24) := e2
  have e3' : asg (.nm 21) d (frL p (some k) (some g) x21 x22 x23 x24) = some (frL p (some k) (some g) (some d) x22 x23 x24) := e3
  rw [e1']
  simp only [asgs, e2', e3']
theorem rows_ok {p : List (Option FS.D)} (hp : p.length = 19) (h1 : p[1]? = some (some (.ref 0))) : ∀ (l : List Row), (∀ r ∈ l, RowOk r.1 r.2.1 r.2.2) → ∀ (x19 x20 x21 x22 x23 x24 : Option FS.D) (a b c : Int),
    ∃ x19' x20' x21' x22' x23' x24' a' b' c', FS.forM (fun x fr1 h2 => match asg (.tup [.nm 19, .nm 20, .nm 21]) x fr1 with
      | some fr2 => rowBody (callC ct 20) [] fr2 h2
      | none => .stk) (l.map rowD) (frL p x19 x20 x21 x22 x23 x24) (dh a b c) = .nx (frL p x19' x20' x21' x22' x23' x24') (dh a' b' c')
  | [], _, x19, x20, x21, x22, x23, x24, a, b, c => ⟨x19, x20, x21, x22, x23, x24, a, b, c, rfl⟩
  | r :: l, hl, x19, x20, x21, x22, x23, x24, a, b, c => by
    obtain ⟨y21, y22, y23, y24, a', b', c', e⟩ := row hp h1 (hl r List.mem_cons_self) x22 x23 x24 a b c
    obtain ⟨z19, z20, z21, z22, z23, z24, a2, b2, c2, e2⟩ := rows_ok hp h1 l (fun r hr => hl r (List.mem_cons_of_mem _ hr)) (some (.str r.1)) (some (.str r.2.1)) y21 y22 y23 y24 a' b' c'
    refine ⟨z19, z20, z21, z22, z23, z24, a2, b2, c2, ?_⟩
    rw [List.map_cons]
    unfold FS.forM rowD
    rw [asg_row hp]
    simp only [e]
    exact e2
end K01

-- text K01b
set_option Elab.async false
set_option linter.all false
set_option maxRecDepth 100000
set_option maxHeartbeats 0
namespace K01
open PySem FS
def SpB (kind body : List Nat) (due : Option (List Nat)) : Bool := match callC ct 10 (.fn 1) [] [.str kind, .str body] [], due with
  | .ok (.str s) [], some d => decide (s = d)
  | .exc 1 [], none => true
  | _, _ => false
theorem SpB_ok {kind body : List Nat} {due : Option (List Nat)} (h : SpB kind body due = true) : Sp kind body due := by
  unfold SpB at h
  unfold Sp
  split at h
  · rename_i s d e
    rw [e, of_decide_eq_true h]
    rfl
  · rename_i e
    rw [e]
    rfl
  · cases h
def numB (s : List Nat) : Bool := match callC ct 10 (.fn 5) [] [.str s] [], callC ct 10 (.fn 22) [] [.str s] [] with
  | .ok (.int a) [], .ok (.int b) [] => decide (a = b)
  | _, _ => false
theorem numB_ok {s : List Nat} (h : numB s = true) : ∃ n, callC ct 10 (.fn 5) [] [.str s] [] = .ok (.int n) [] ∧ callC ct 10 (.fn 22) [] [.str s] [] = .ok (.int n) [] := by
  unfold numB at h
  split at h
  · rename_i a b e1 e2
    exact ⟨a, e1, by rw [e2, of_decide_eq_true h]⟩
  · cases h
/-- the look at a row -/
def rowB (kind given : List Nat) (due : Option (List Nat)) : Bool := Nat.ble given.length 396 && (if stripS given = [] then true else match due with
  | none => SpB kind (stripS given) none
  | some s => !s.isEmpty && SpB kind (stripS given) (some s) && SpB kind s (some s) && decide (stripS s = s) && ascii s && Nat.ble s.length 400 && (!isNum kind || numB s))
theorem dropW_pad (n : Nat) (x : List Nat) : (padS n ++ x).dropWhile ([32] : List Nat).contains = x.dropWhile ([32] : List Nat).contains := by
  induction n with
  | zero => rfl
  | succ n ih =>
    show (32 :: (padS n ++ x)).dropWhile _ = _
    rw [List.dropWhile_cons_of_pos (by decide)]
    exact ih
theorem dropW_app {x y : List Nat} (h : x.dropWhile ([32] : List Nat).contains ≠ []) : (x ++ y).dropWhile ([32] : List Nat).contains = x.dropWhile ([32] : List Nat).contains ++ y := by
  induction x with
  | nil => exact absurd rfl h
  | cons a x ih =>
    by_cases ha : ([32] : List Nat).contains a = true
    · rw [List.cons_append, List.dropWhile_cons_of_pos ha, List.dropWhile_cons_of_pos ha]
      rw [List.dropWhile_cons_of_pos ha] at h
      exact ih h
    · rw [List.cons_append, List.dropWhile_cons_of_neg ha, List.dropWhile_cons_of_neg ha]
      rfl
theorem rstrip_pad (x : List Nat) (n : Nat) : rstripL ([32] : List Nat).contains (x ++ padS n) = rstripL ([32] : List Nat).contains x := by
  unfold rstripL
  have : (x ++ padS n).reverse = padS n ++ x.reverse := by
    rw [List.reverse_append]
    congr 1
    unfold padS
    exact List.reverse_replicate
  rw [this, dropW_pad]
theorem dropW_pad0 (n : Nat) : (padS n).dropWhile ([32] : List Nat).contains = [] := by
  have := dropW_pad n []
  rwa [List.append_nil] at this
theorem strip_pad (r q : Nat) (x : List Nat) : stripS (padS r ++ x ++ padS q) = stripS x := by
  unfold stripS lstripL
  rw [List.append_assoc, dropW_pad]
  by_cases h : x.dropWhile ([32] : List Nat).contains = []
  · rw [h]
    have : (x ++ padS q).dropWhile ([32] : List Nat).contains = [] := by
      induction x with
      | nil => exact dropW_pad0 q
      | cons a x ih =>
        by_cases ha : ([32] : List Nat).contains a = true
        · rw [List.dropWhile_cons_of_pos ha] at h
          rw [List.cons_append, List.dropWhile_cons_of_pos ha]
          exact ih h
        · rw [List.dropWhile_cons_of_neg ha] at h
          cases h
    rw [this]
  · rw [dropW_app h, rstrip_pad]
theorem RowOk.of {kind given : List Nat} {due : Option (List Nat)} (hk : kind ∈ kinds) (h : rowB kind given due = true) : RowOk kind given due := by
  unfold rowB at h
  rw [Bool.and_eq_true] at h
  have hl := Nat.le_of_ble_eq_true h.1
  have hnil : Reads kind [] (some []) := Reads.of hk (by decide) (fun _ => rfl) (fun z => absurd rfl z)
  have hwl : ∀ r q, r ≤ 2 → q ≤ 2 → (padS r ++ given ++ padS q).length ≤ 400 := fun r q hr hq => by
    rw [List.length_append, List.length_append]
    unfold padS
    rw [List.length_replicate, List.length_replicate]
    omega
  by_cases hs : stripS given = []
  · have ed : due2 given due = some [] := if_pos hs
    refine ⟨hl, fun r q hr hq => ?_, hnil, fun s e => ?_, fun _ s e hne => ?_⟩
    · rw [ed]
      exact Reads.of hk (hwl r q hr hq) (fun _ => rfl) (fun z => absurd (by rw [strip_pad, hs]) z)
    · rw [ed] at e
      cases e
      exact ⟨hnil, rfl, by decide⟩
    · rw [ed] at e
      cases e
      exact absurd rfl hne
  · have ed : due2 given due = due := if_neg hs
    have h2 := h.2
    rw [if_neg hs] at h2
    cases due with
    | none =>
      refine ⟨hl, fun r q hr hq => ?_, hnil, fun s e => ?_, fun _ s e hne => ?_⟩
      · rw [ed]
        exact Reads.of hk (hwl r q hr hq) (fun z => absurd (by rw [← strip_pad r q]; exact z) hs) (fun _ => by rw [strip_pad]; exact SpB_ok h2)
      · rw [ed] at e
        cases e
      · rw [ed] at e
        cases e
    | some d =>
      simp only [Bool.and_eq_true, Bool.not_eq_true', Bool.or_eq_true, decide_eq_true_eq] at h2
      obtain ⟨⟨⟨⟨⟨⟨q1, q2⟩, q3⟩, q4⟩, q5⟩, q6⟩, q7⟩ := h2
      have hd : d.length ≤ 400 := Nat.le_of_ble_eq_true q6
      refine ⟨hl, fun r q hr hq => ?_, hnil, fun s e => ?_, fun hn s e hne => ?_⟩
      · rw [ed]
        exact Reads.of hk (hwl r q hr hq) (fun z => absurd (by rw [← strip_pad r q]; exact z) hs) (fun _ => by rw [strip_pad]; exact SpB_ok q2)
      · rw [ed] at e
        cases e
        exact ⟨Reads.of hk hd (fun z => by rw [← q4, z]) (fun _ => by rw [q4]; exact SpB_ok q3), q5, hd⟩
      · rw [ed] at e
        cases e
        rcases q7 with q7 | q7
        · rw [hn] at q7
          cases q7
        · exact numB_ok q7
end K01

-- text K01n
set_option Elab.async false
set_option linter.all false
set_option maxRecDepth 100000
set_option maxHeartbeats 0
namespace K01
open PySem FS
def kNumber : List Nat := [110, 117, 109, 98, 101, 114]
def kWhole : List Nat := [119, 104, 111, 108, 101]
def N1 : List (List Nat) := [[], [45], [43]]
def N2 : List (List Nat) := [[48], [48, 48, 55], [49, 44, 50, 51, 52], [49, 50, 44, 51, 52], [49, 50, 51, 52, 53, 54, 55, 56, 57, 48], [120], [], [57, 57, 57, 44, 57, 57, 57, 44, 57, 57, 57]]
def N3 : List (List Nat) := [[], [46, 53], [46, 49, 50, 53], [46], [46, 49, 50, 51, 52], [46, 120]]
/-- the law's own: what a number is told as -/
def numDue (s : List Nat) : Option (Option (List Nat)) := match callC ct 10 (.fn 22) [] [.str s] [] with
  | .ok .non [] => some none
  | .ok (.int n) [] => (match callC ct 10 (.fn 23) [] [.int n] [] with
    | .ok (.str d) [] => some (some d)
    | _ => none)
  | _ => none
def wholeDue (s : List Nat) : Option (Option (List Nat)) := match callC ct 10 (.fn 21) [] [.str s] [] with
  | .ok .non [] => some none
  | .ok (.int n) [] => if intOk n then some (some (intL n)) else none
  | _ => none
def num1 (s : List Nat) : Bool := (match numDue s with
  | some d => rowB kNumber s d
  | none => false) && (match wholeDue s with
  | some d => rowB kWhole s d
  | none => false)
theorem nums : (N1.all fun a => N2.all fun b => N3.all fun c => num1 (a ++ b ++ c)) = true := by decide +kernel
end K01

-- text K01m
set_option Elab.async false
set_option linter.all false
set_option maxRecDepth 100000
set_option maxHeartbeats 0
namespace K01
open PySem FS
def kMail : List Nat := [109, 97, 105, 108]
def kLink : List Nat := [108, 105, 110, 107]
def kPhone : List Nat := [112, 104, 111, 110, 101]
def kYes : List Nat := [121, 101, 115]
def kDate : List Nat := [100, 97, 116, 101]
def kTime : List Nat := [116, 105, 109, 101]
def M1 : List (List Nat) := [[65, 110, 110], [97, 46, 98, 43, 99], [46, 97], [97, 46, 46, 98], [97, 32, 98], []]
def M2 : List (List Nat) := [[64], [64, 64], []]
def M3 : List (List Nat) := [[88, 46, 79, 114, 103], [97, 45, 98, 46, 99, 111, 46, 117, 107], [120], [97, 46, 98], [45, 97, 46, 111, 114, 103], [97, 46, 111, 49, 103], []]
def K1 : List (List Nat) := [[], [72, 84, 84, 80, 58, 47, 47], [104, 116, 116, 112, 115, 58, 47, 47], [102, 116, 112, 58, 47, 47]]
def K2 : List (List Nat) := [[88, 46, 79, 114, 103], [97, 46, 98, 99], [120]]
def K3 : List (List Nat) := [[], [47], [47, 65, 32, 98], [47, 67, 63, 120, 61, 49]]
def P1 : List (List Nat) := [[43], [48, 48], [], [48]]
def P2 : List (List Nat) := [[52, 49, 32, 40, 55, 57, 41, 32, 49, 50, 51, 45, 52, 53, 45, 54, 55], [49, 50, 51, 52, 53], [49, 50, 51, 52, 53, 54, 55], [49, 50, 51, 52, 53, 54, 55, 56, 57, 48, 49, 50, 51, 52, 53, 54, 55], [49, 50, 97, 52, 53, 54, 55]]
def Y1 : List (List Nat) := [[89, 101, 115], [121], [79, 78], [48], [102, 97, 108, 115, 101], [109, 97, 121, 98, 101], [78]]
def txtDue (f : Nat) (s : List Nat) : Option (Option (List Nat)) := match callC ct 10 (.fn f) [] [.str s] [] with
  | .ok .non [] => some none
  | .ok (.str d) [] => some (some d)
  | _ => none
def txt1 (f : Nat) (kind s : List Nat) : Bool := match txtDue f s with
  | some d => rowB kind s d
  | none => false
theorem mails : (M1.all fun a => M2.all fun b => M3.all fun c => txt1 27 kMail (a ++ b ++ c)) = true := by decide +kernel
theorem links : (K1.all fun a => K2.all fun b => K3.all fun c => txt1 28 kLink (a ++ b ++ c)) = true := by decide +kernel
theorem phones : (P1.all fun a => P2.all fun b => txt1 29 kPhone (a ++ b)) = true := by decide +kernel
def yesDue (s : List Nat) : Option (List Nat) := if s = [109, 97, 121, 98, 101] then none else if lowS s = [121, 101, 115] ∨ lowS s = [121] ∨ lowS s = [111, 110] then some [121, 101, 115] else some [110, 111]
theorem yess : (Y1.all fun a => rowB kYes a (yesDue a)) = true := by decide +kernel
end K01

-- text K01p
set_option Elab.async false
set_option linter.all false
set_option maxRecDepth 100000
set_option maxHeartbeats 0
namespace K01
open PySem FS
theorem plain (fr : Fr) (a b c : Int) : callC ct 20 (.fn 30) [fr] [] (dh a b c) = .ok (.bl true) (dh a b c) := by kernel_rfl
end K01

-- text K01d
set_option Elab.async false
set_option linter.all false
set_option maxRecDepth 100000
set_option maxHeartbeats 0
namespace K01
open PySem FS
def dateBody : C.XS :=
  (C.scons (C.set (.nm 3) (C.me .split (C.var 0) (C.cons (C.var 1) C.nil)))
  (C.scons (C.sife (C.tcmp .eq (C.bi .len (C.cons (C.var 3) C.nil)) (C.k (.int 3))) (C.scons (C.par [4, 5, 6] (C.cons (C.ix (C.var 3) (C.ix (C.var 2) (C.k (.int 0)))) (C.cons (C.ix (C.var 3) (C.ix (C.var 2) (C.k (.int 1)))) (C.cons (C.ix (C.var 3) (C.ix (C.var 2) (C.k (.int 2)))) C.nil))))
  (C.scons (C.sife (C.tcons false (C.tcmp .ne (C.bi .len (C.cons (C.var 4) C.nil)) (C.k (.int 4))) (C.tcons false (C.tnt (C.tv (C.call 2 (C.cons (C.var 4) (C.cons (C.k (.int 4)) C.nil))))) (C.tcons false (C.tnt (C.tv (C.call 2 (C.cons (C.bin .add (C.var 5) (C.var 6)) (C.cons (C.k (.int 4)) C.nil))))) (C.tcons false (C.tcmp .isin (C.k (.str [])) (C.tup (C.cons (C.var 5) (C.cons (C.var 6) C.nil)))) (C.tnil false))))) (C.scons (C.rai 1)
  C.snil) C.snil)
  (C.scons (C.ret (C.call 9 (C.cons (C.bi .int (C.cons (C.var 4) C.nil)) (C.cons (C.bi .int (C.cons (C.var 5) C.nil)) (C.cons (C.bi .int (C.cons (C.var 6) C.nil)) (C.cons (C.bi .len (C.cons (C.var 5) C.nil)) (C.cons (C.bi .len (C.cons (C.var 6) C.nil)) C.nil)))))))
  C.snil))) C.snil)
  C.snil))
def dateIn : C.XS :=
  (C.scons (C.par [4, 5, 6] (C.cons (C.ix (C.var 3) (C.ix (C.var 2) (C.k (.int 0)))) (C.cons (C.ix (C.var 3) (C.ix (C.var 2) (C.k (.int 1)))) (C.cons (C.ix (C.var 3) (C.ix (C.var 2) (C.k (.int 2)))) C.nil))))
  (C.scons (C.sife (C.tcons false (C.tcmp .ne (C.bi .len (C.cons (C.var 4) C.nil)) (C.k (.int 4))) (C.tcons false (C.tnt (C.tv (C.call 2 (C.cons (C.var 4) (C.cons (C.k (.int 4)) C.nil))))) (C.tcons false (C.tnt (C.tv (C.call 2 (C.cons (C.bin .add (C.var 5) (C.var 6)) (C.cons (C.k (.int 4)) C.nil))))) (C.tcons false (C.tcmp .isin (C.k (.str [])) (C.tup (C.cons (C.var 5) (C.cons (C.var 6) C.nil)))) (C.tnil false))))) (C.scons (C.rai 1)
  C.snil) C.snil)
  (C.scons (C.ret (C.call 9 (C.cons (C.bi .int (C.cons (C.var 4) C.nil)) (C.cons (C.bi .int (C.cons (C.var 5) C.nil)) (C.cons (C.bi .int (C.cons (C.var 6) C.nil)) (C.cons (C.bi .len (C.cons (C.var 5) C.nil)) (C.cons (C.bi .len (C.cons (C.var 6) C.nil)) C.nil)))))))
  C.snil)))
structure DateIn (y m d : List Nat) (yi mi di : Int) (res : FS.R FS.D) : Prop where
  y4 : y.length = 4
  fy : callC ct 8 (.fn 2) [] [.str y, .int 4] [] = .ok (.bl true) []
  fmd : callC ct 8 (.fn 2) [] [.str (m ++ d), .int 4] [] = .ok (.bl true) []
  m0 : m ≠ []
  d0 : d ≠ []
  ml : m.length ≤ 4
  dl : d.length ≤ 4
  iy : ∀ h, biV .int [.str y] h = .ok (.int yi) h
  im : ∀ h, biV .int [.str m] h = .ok (.int mi) h
  id : ∀ h, biV .int [.str d] h = .ok (.int di) h
  res : callC ct 8 (.fn 9) [] [.int yi, .int mi, .int di, .int m.length, .int d.length] [] = res
theorem len_str {x : List Nat} (hl : x.length ≤ 1000) (h : MH) : biV .len [.str x] h = .ok (.int x.length) h := by
  have q : biV .len [.str x] h = (if Nat.ble x.length line = true then R.ok (FS.D.int x.length) h else .stk) := rfl
  rw [q, if_pos (Nat.ble_eq_true_of_le (Nat.le_trans hl (by decide)))]
theorem ev_bi {cf : CF} {o : List Fr} {fr : Fr} {h h1 : MH} {b : Bi} {es : C.XEs} {xs : List FS.D} {r : FS.R FS.D} (ea : es cf o fr h = .ok xs h1) (ec : biV b xs h1 = r) : C.bi b es cf o fr h = r := by
  unfold C.bi
  rw [ea]
  simp only [R.bind, ec]
theorem cmp_int (op : Cop) (i j : Int) (h : MH) : cmpV .ne (.int i) (.int j) h = some (!(decide (i = j))) := rfl
def outS (res : FS.R FS.D) (fr : Fr) (h : MH) : RS := match res with
  | .ok v _ => .ret v h
  | .exc c _ => .exc c fr h
  | .stk => .stk
/-- behind the split: year, month, day stand in their slots -/
theorem date_tail {y m d : List Nat} {yi mi di : Int} {res : FS.R FS.D} (D : DateIn y m d yi mi di res) (hres : res ≠ .stk) {k : Nat} (hk : 8 ≤ k) (o : List Fr) (x0 x1 x2 x3 : Option FS.D) (h : MH) :
    C.scons (C.sife (C.tcons false (C.tcmp .ne (C.bi .len (C.cons (C.var 4) C.nil)) (C.k (.int 4))) (C.tcons false (C.tnt (C.tv (C.call 2 (C.cons (C.var 4) (C.cons (C.k (.int 4)) C.nil))))) (C.tcons false (C.tnt (C.tv (C.call 2 (C.cons (C.bin .add (C.var 5) (C.var 6)) (C.cons (C.k (.int 4)) C.nil))))) (C.tcons false (C.tcmp .isin (C.k (.str [])) (C.tup (C.cons (C.var 5) (C.cons (C.var 6) C.nil)))) (C.tnil false))))) (C.scons (C.rai 1)
  C.snil) C.snil)
  (C.scons (C.ret (C.call 9 (C.cons (C.bi .int (C.cons (C.var 4) C.nil)) (C.cons (C.bi .int (C.cons (C.var 5) C.nil)) (C.cons (C.bi .int (C.cons (C.var 6) C.nil)) (C.cons (C.bi .len (C.cons (C.var 5) C.nil)) (C.cons (C.bi .len (C.cons (C.var 6) C.nil)) C.nil)))))))
  C.snil) (callC ct k) o [x0, x1, x2, x3, some (.str y), some (.str m), some (.str d)] h = outS res [x0, x1, x2, x3, some (.str y), some (.str m), some (.str d)] h := by
  generalize hfr : ([x0, x1, x2, x3, some (.str y), some (.str m), some (.str d)] : Fr) = fr
  have v4 : C.var 4 (callC ct k) o fr h = .ok (.str y) h := by rw [← hfr]; rfl
  have v5 : C.var 5 (callC ct k) o fr h = .ok (.str m) h := by rw [← hfr]; rfl
  have v6 : C.var 6 (callC ct k) o fr h = .ok (.str d) h := by rw [← hfr]; rfl
  have t1 : C.tcmp .ne (C.bi .len (C.cons (C.var 4) C.nil)) (C.k (.int 4)) (callC ct k) o fr h = .ok false h :=
    ev_cmpT (ev_bi (ev_cons v4 rfl) (len_str (by rw [D.y4]; omega) h)) rfl (by rw [D.y4]; rfl)
  have t2 : C.tnt (C.tv (C.call 2 (C.cons (C.var 4) (C.cons (C.k (.int 4)) C.nil)))) (callC ct k) o fr h = .ok false h := by
    unfold C.tnt C.tv
    rw [ev_call (ev_cons v4 (ev_cons rfl rfl)) (lift (by decide) D.fy hk)]
    rfl
  have t3 : C.tnt (C.tv (C.call 2 (C.cons (C.bin .add (C.var 5) (C.var 6)) (C.cons (C.k (.int 4)) C.nil)))) (callC ct k) o fr h = .ok false h := by
    unfold C.tnt C.tv
    rw [ev_call (ev_cons (ev_bin v5 v6 (binV_add m d (by have := D.ml; have := D.dl; omega) h)) (ev_cons rfl rfl)) (lift (by decide) D.fmd hk)]
    rfl
  have t4 : C.tcmp .isin (C.k (.str [])) (C.tup (C.cons (C.var 5) (C.cons (C.var 6) C.nil))) (callC ct k) o fr h = .ok false h := by
    refine ev_cmpT (op := .isin) (x := .str []) (y := .tup [.str m, .str d]) (h2 := h) rfl (ev_tup (ev_cons v5 (ev_cons v6 rfl))) ?_
    show some (deq (.str m) (.str []) || (deq (.str d) (.str []) || false)) = _
    unfold deq
    have a1 : (m == []) = false := beq_eq_false_iff_ne.mpr D.m0
    have a2 : (d == []) = false := beq_eq_false_iff_ne.mpr D.d0
    rw [a1, a2]
    rfl
  have no : C.tcons false (C.tcmp .ne (C.bi .len (C.cons (C.var 4) C.nil)) (C.k (.int 4))) (C.tcons false (C.tnt (C.tv (C.call 2 (C.cons (C.var 4) (C.cons (C.k (.int 4)) C.nil))))) (C.tcons false (C.tnt (C.tv (C.call 2 (C.cons (C.bin .add (C.var 5) (C.var 6)) (C.cons (C.k (.int 4)) C.nil))))) (C.tcons false (C.tcmp .isin (C.k (.str [])) (C.tup (C.cons (C.var 5) (C.cons (C.var 6) C.nil)))) (C.tnil false)))) (callC ct k) o fr h = .ok false h := by
    simp only [C.tcons, t1, t2, t3, t4, R.bind]
    rfl
  rw [st_no no rfl]
  have args : C.cons (C.bi .int (C.cons (C.var 4) C.nil)) (C.cons (C.bi .int (C.cons (C.var 5) C.nil)) (C.cons (C.bi .int (C.cons (C.var 6) C.nil)) (C.cons (C.bi .len (C.cons (C.var 5) C.nil)) (C.cons (C.bi .len (C.cons (C.var 6) C.nil)) C.nil)))) (callC ct k) o fr h = .ok [.int yi, .int mi, .int di, .int m.length, .int d.length] h :=
    ev_cons (ev_bi (ev_cons v4 rfl) (D.iy h)) (ev_cons (ev_bi (ev_cons v5 rfl) (D.im h)) (ev_cons (ev_bi (ev_cons v6 rfl) (D.id h)) (ev_cons (ev_bi (ev_cons v5 rfl) (len_str (by have := D.ml; omega) h)) (ev_cons (ev_bi (ev_cons v6 rfl) (len_str (by have := D.dl; omega) h)) rfl))))
  cases res with
  | stk => exact absurd rfl hres
  | ok v h2 =>
    have e := D.res
    have e2 := callK_up plOk (h' := h) 8 (k - 8) 9 [] (fr :: o) [.int yi, .int mi, .int di, .int m.length, .int d.length] (by decide)
    rw [eqC, eqC, e, show 8 + (k - 8) = k by omega] at e2
    exact st_ret (st_retE (ev_call args e2.2))
  | exc c h2 =>
    have e := D.res
    have e2 := callK_up plOk (h' := h) 8 (k - 8) 9 [] (fr :: o) [.int yi, .int mi, .int di, .int m.length, .int d.length] (by decide)
    rw [eqC, eqC, e, show 8 + (k - 8) = k by omega] at e2
    unfold C.scons C.ret
    rw [ev_call args e2.2]
    rfl
end K01

-- text K01e
set_option Elab.async false
set_option linter.all false
set_option maxRecDepth 100000
set_option maxHeartbeats 0
namespace K01
open PySem FS
theorem split_str {x : List Nat} {c : Nat} (hc : c < 128) (hl : x.length ≤ 1000) (h : MH) : meV .split (.str x) [.str [c]] h = .ok (.lst ((TL.spl [c] 0 [] x).map .str)) h := by
  have q : meV .split (.str x) [.str [c]] h = (if (!([c] : List Nat).isEmpty && ascii [c] && Nat.ble (x.length + 2) line) = true then R.ok (FS.D.lst ((TL.spl [c] 0 [] x).map .str)) h else .stk) := rfl
  have a : ascii [c] = true := by
    show (Nat.blt c 128 && true) = true
    rw [Bool.and_true]
    exact Nat.ble_eq_true_of_le hc
  rw [q, a, Nat.ble_eq_true_of_le (Nat.le_trans (show x.length + 2 ≤ 1002 by omega) (by decide))]
  rfl
theorem date_miss {text : List Nat} {c : Nat} (hc : c < 128) (hl : text.length ≤ 1000) (hn : noC c text = true) (cf : CF) (o : List Fr) (x2 x3 x4 x5 x6 : Option FS.D) (h : MH) :
    dateBody cf o [some (.str text), some (.str [c]), x2, x3, x4, x5, x6] h = .nx [some (.str text), some (.str [c]), x2, some (.lst [.str text]), x4, x5, x6] h := by
  unfold dateBody
  have e : C.me .split (C.var 0) (C.cons (C.var 1) C.nil) cf o [some (.str text), some (.str [c]), x2, x3, x4, x5, x6] h = .ok (.lst [.str text]) h := by
    refine ev_me (s := text) (h1 := h) rfl (ev_cons rfl rfl) ?_
    rw [split_str hc hl, spl_none hn]
    rfl
  rw [st_nx (st_set e rfl)]
  exact st_no rfl rfl
theorem date_hit {text y m d : List Nat} {yi mi di : Int} {res : FS.R FS.D} (D : DateIn y m d yi mi di res) (hres : res ≠ .stk) {c : Nat} (hc : c < 128) (hl : text.length ≤ 1000) {A B E : List Nat} (hs : TL.spl [c] 0 [] text = [A, B, E]) {i0 i1 i2 : Int} {k : Nat} (hk : 8 ≤ k) (o : List Fr) (x3 x4 x5 x6 : Option FS.D) (h : MH)
    (e0 : ixV (.lst [.str A, .str B, .str E]) (.int i0) h = some (.str y)) (e1 : ixV (.lst [.str A, .str B, .str E]) (.int i1) h = some (.str m)) (e2 : ixV (.lst [.str A, .str B, .str E]) (.int i2) h = some (.str d)) :
    dateBody (callC ct k) o [some (.str text), some (.str [c]), some (.tup [.int i0, .int i1, .int i2]), x3, x4, x5, x6] h = outS res [some (.str text), some (.str [c]), some (.tup [.int i0, .int i1, .int i2]), some (.lst [.str A, .str B, .str E]), some (.str y), some (.str m), some (.str d)] h := by
  unfold dateBody
  have e : C.me .split (C.var 0) (C.cons (C.var 1) C.nil) (callC ct k) o [some (.str text), some (.str [c]), some (.tup [.int i0, .int i1, .int i2]), x3, x4, x5, x6] h = .ok (.lst [.str A, .str B, .str E]) h := by
    refine ev_me (s := text) (h1 := h) rfl (ev_cons rfl rfl) ?_
    rw [split_str hc hl, hs]
    rfl
  rw [st_nx (st_set e rfl)]
  have t := date_tail D hres hk o (some (.str text)) (some (.str [c])) (some (.tup [.int i0, .int i1, .int i2])) (some (.lst [.str A, .str B, .str E])) h
  have p : C.par [4, 5, 6] (C.cons (C.ix (C.var 3) (C.ix (C.var 2) (C.k (.int 0)))) (C.cons (C.ix (C.var 3) (C.ix (C.var 2) (C.k (.int 1)))) (C.cons (C.ix (C.var 3) (C.ix (C.var 2) (C.k (.int 2)))) C.nil))) (callC ct k) o [some (.str text), some (.str [c]), some (.tup [.int i0, .int i1, .int i2]), some (.lst [.str A, .str B, .str E]), x4, x5, x6] h = .nx [some (.str text), some (.str [c]), some (.tup [.int i0, .int i1, .int i2]), some (.lst [.str A, .str B, .str E]), some (.str y), some (.str m), some (.str d)] h := by
    unfold C.par
    rw [ev_cons (ev_ix (h1 := h) rfl (ev_ix (h1 := h) (y := .int 0) rfl rfl rfl) e0) (ev_cons (ev_ix (h1 := h) rfl (ev_ix (h1 := h) (y := .int 1) rfl rfl rfl) e1) (ev_cons (ev_ix (h1 := h) rfl (ev_ix (h1 := h) (y := .int 2) rfl rfl rfl) e2) rfl))]
    rfl
  have inn := (st_nx p).trans t
  cases res with
  | stk => exact absurd rfl hres
  | ok v h2 => exact st_yes (h1 := h) rfl inn
  | exc c2 h2 =>
    unfold C.scons C.sife
    show (match (match dateIn (callC ct k) o [some (.str text), some (.str [c]), some (.tup [.int i0, .int i1, .int i2]), some (.lst [.str A, .str B, .str E]), x4, x5, x6] h with
      | x => x) with
      | .nx fr1 h1 => C.snil (callC ct k) o fr1 h1
      | x => x) = _
    have inn2 : dateIn (callC ct k) o [some (.str text), some (.str [c]), some (.tup [.int i0, .int i1, .int i2]), some (.lst [.str A, .str B, .str E]), x4, x5, x6] h = _ := inn
    rw [inn2]
    rfl
end K01

-- text K01f
set_option Elab.async false
set_option linter.all false
set_option maxRecDepth 100000
set_option maxHeartbeats 0
namespace K01
open PySem FS
def outR (res : FS.R FS.D) (h : MH) : FS.R FS.D := match res with
  | .ok v _ => .ok v h
  | .exc c _ => .exc c h
  | .stk => .stk
def dateF (cf : CF) (o : List Fr) : FS.D → Fr → MH → RS := fun x fr1 h2 => match asg (.tup [.nm 1, .nm 2]) x fr1 with
  | some fr2 => dateBody cf o fr2 h2
  | none => .stk
def o0 : FS.D := .tup [.int 0, .int 1, .int 2]
def o1 : FS.D := .tup [.int 2, .int 1, .int 0]
def o2 : FS.D := .tup [.int 2, .int 0, .int 1]
theorem date_fin {text : List Nat} {res : FS.R FS.D} (hres : res ≠ .stk) {k : Nat} {o : List Fr} {h : MH} {fr : Fr} (e : FS.forM (dateF (callC ct k) o) [.tup [.str [45], o0], .tup [.str [46], o1], .tup [.str [47], o2]] [some (.str text), none, none, none, none, none, none] h = outS res fr h) :
    callC ct (k + 1) (.fn 8) o [.str text] h = outR res h := by
  have e2 : c_date_of (callC ct k) o [some (.str text), none, none, none, none, none, none] h = outS res fr h := by
    unfold c_date_of C.scons
    have q : C.for_ (.tup [(.nm 1), (.nm 2)]) (C.ie (C.tup (C.cons (C.tup (C.cons (C.k (.str [45])) (C.cons (C.tup (C.cons (C.k (.int 0)) (C.cons (C.k (.int 1)) (C.cons (C.k (.int 2)) C.nil)))) C.nil))) (C.cons (C.tup (C.cons (C.k (.str [46])) (C.cons (C.tup (C.cons (C.k (.int 2)) (C.cons (C.k (.int 1)) (C.cons (C.k (.int 0)) C.nil)))) C.nil))) (C.cons (C.tup (C.cons (C.k (.str [47])) (C.cons (C.tup (C.cons (C.k (.int 2)) (C.cons (C.k (.int 0)) (C.cons (C.k (.int 1)) C.nil)))) C.nil))) C.nil))))) dateBody (callC ct k) o [some (.str text), none, none, none, none, none, none] h = outS res fr h := e
    have q2 := q
    unfold dateBody C.scons at q2
    rw [q2]
    cases res <;> first | rfl | exact absurd rfl hres
  show (match c_date_of (callC ct k) o [some (.str text), none, none, none, none, none, none] h with
      | .ret d h1 => if f_date_of.lamf && !noClo d then R.stk else .ok d h1
      | .nx _ h1 => .ok .non h1
      | .exc c _ h1 => .exc c h1
      | _ => .stk) = _
  rw [e2]
  cases res <;> first | rfl | exact absurd rfl hres
theorem forM_hit {f : FS.D → Fr → MH → RS} {x : FS.D} {xs : List FS.D} {fr fr2 : Fr} {h : MH} {res : FS.R FS.D} (hres : res ≠ .stk) (e : f x fr h = outS res fr2 h) : FS.forM f (x :: xs) fr h = outS res fr2 h := by
  unfold FS.forM
  rw [e]
  cases res <;> first | rfl | exact absurd rfl hres
theorem forM_miss {f : FS.D → Fr → MH → RS} {x : FS.D} {xs : List FS.D} {fr fr2 : Fr} {h : MH} (e : f x fr h = .nx fr2 h) : FS.forM f (x :: xs) fr h = FS.forM f xs fr2 h := by
  rw [FS.forM, e]
section
variable {y m d : List Nat} {yi mi di : Int} {res : FS.R FS.D} (D : DateIn y m d yi mi di res) (hres : res ≠ .stk) (ny : ∀ c ∈ [45, 46, 47], noC c y = true) (nm : ∀ c ∈ [45, 46, 47], noC c m = true) (nd : ∀ c ∈ [45, 46, 47], noC c d = true)
theorem noC_app {c : Nat} {x z : List Nat} (a : noC c x = true) (b : noC c z = true) : noC c (x ++ z) = true := by
  unfold noC at a b ⊢
  rw [List.all_append, a, b]
  rfl
theorem noC_cons {c e : Nat} {z : List Nat} (a : Nat.beq e c = false) (b : noC c z = true) : noC c (e :: z) = true := by
  unfold noC at b ⊢
  rw [List.all_cons, a, b]
  rfl
include D hres ny nm nd
theorem date0 {k : Nat} (hk : 8 ≤ k) (o : List Fr) (h : MH) : callC ct (k + 1) (.fn 8) o [.str (y ++ 45 :: (m ++ 45 :: d))] h = outR res h := by
  have l : (y ++ 45 :: (m ++ 45 :: d)).length ≤ 1000 := by
    have := D.y4; have := D.ml; have := D.dl
    simp only [List.length_append, List.length_cons]
    omega
  have t := date_hit (i0 := 0) (i1 := 1) (i2 := 2) D hres (c := 45) (by omega) l (spl_three (ny 45 (by simp)) (nm 45 (by simp)) (nd 45 (by simp))) hk o none none none none h rfl rfl rfl
  exact date_fin hres (forM_hit hres t)
theorem date1 {k : Nat} (hk : 8 ≤ k) (o : List Fr) (h : MH) : callC ct (k + 1) (.fn 8) o [.str (d ++ 46 :: (m ++ 46 :: y))] h = outR res h := by
  have l : (d ++ 46 :: (m ++ 46 :: y)).length ≤ 1000 := by
    have := D.y4; have := D.ml; have := D.dl
    simp only [List.length_append, List.length_cons]
    omega
  have n1 : noC 45 (d ++ 46 :: (m ++ 46 :: y)) = true := noC_app (nd 45 (by simp)) (noC_cons rfl (noC_app (nm 45 (by simp)) (noC_cons rfl (ny 45 (by simp)))))
  have t0 := date_miss (c := 45) (by omega) l n1 (callC ct k) o (some o0) none none none none h
  have t := date_hit (i0 := 2) (i1 := 1) (i2 := 0) D hres (c := 46) (by omega) l (spl_three (nd 46 (by simp)) (nm 46 (by simp)) (ny 46 (by simp))) hk o (some (.lst [.str (d ++ 46 :: (m ++ 46 :: y))])) none none none h rfl rfl rfl
  exact date_fin hres ((forM_miss (fr2 := [some (.str (d ++ 46 :: (m ++ 46 :: y))), some (.str [45]), some o0, some (.lst [.str (d ++ 46 :: (m ++ 46 :: y))]), none, none, none]) t0).trans (forM_hit hres t))
theorem date2 {k : Nat} (hk : 8 ≤ k) (o : List Fr) (h : MH) : callC ct (k + 1) (.fn 8) o [.str (m ++ 47 :: (d ++ 47 :: y))] h = outR res h := by
  have l : (m ++ 47 :: (d ++ 47 :: y)).length ≤ 1000 := by
    have := D.y4; have := D.ml; have := D.dl
    simp only [List.length_append, List.length_cons]
    omega
  have n1 : ∀ c ∈ [45, 46], noC c (m ++ 47 :: (d ++ 47 :: y)) = true := fun c hc => noC_app (nm c (by simp at hc ⊢; omega)) (noC_cons (by simp at hc; rcases hc with rfl | rfl <;> rfl) (noC_app (nd c (by simp at hc ⊢; omega)) (noC_cons (by simp at hc; rcases hc with rfl | rfl <;> rfl) (ny c (by simp at hc ⊢; omega)))))
  have t0 := date_miss (c := 45) (by omega) l (n1 45 (by simp)) (callC ct k) o (some o0) none none none none h
  have t1 := date_miss (c := 46) (by omega) l (n1 46 (by simp)) (callC ct k) o (some o1) (some (.lst [.str (m ++ 47 :: (d ++ 47 :: y))])) none none none h
  have t := date_hit (i0 := 2) (i1 := 0) (i2 := 1) D hres (c := 47) (by omega) l (spl_three (nm 47 (by simp)) (nd 47 (by simp)) (ny 47 (by simp))) hk o (some (.lst [.str (m ++ 47 :: (d ++ 47 :: y))])) none none none h rfl rfl rfl
  exact date_fin hres ((forM_miss (fr2 := [some (.str (m ++ 47 :: (d ++ 47 :: y))), some (.str [45]), some o0, some (.lst [.str (m ++ 47 :: (d ++ 47 :: y))]), none, none, none]) t0).trans ((forM_miss (fr2 := [some (.str (m ++ 47 :: (d ++ 47 :: y))), some (.str [46]), some o1, some (.lst [.str (m ++ 47 :: (d ++ 47 :: y))]), none, none, none]) t1).trans (forM_hit hres t)))
end
end K01

-- text K01g
set_option Elab.async false
set_option linter.all false
set_option maxRecDepth 100000
set_option maxHeartbeats 0
namespace K01
open PySem FS
theorem sp_dateX {text : List Nat} (e : ∀ o h, callC ct 9 (.fn 8) o [.str text] h = .exc 1 h) : Sp kDate text none := by
  have e2 : c_read_special (callC ct 9) [] [some (.str kDate), some (.str text), none, none, none, none, none, none] [] = .exc 1 [some (.str kDate), some (.str text), none, none, none, none, none, none] [] := by
    unfold c_read_special
    refine (st_no (h1 := []) rfl rfl).trans ((st_no (h1 := []) rfl rfl).trans ?_)
    have q : C.set (.tup [(.nm 2), (.nm 3), (.nm 4)]) (C.call 8 (C.cons (C.var 1) C.nil)) (callC ct 9) [] [some (.str kDate), some (.str text), none, none, none, none, none, none] [] = .exc 1 [some (.str kDate), some (.str text), none, none, none, none, none, none] [] := by
      unfold C.set
      rw [ev_call (xs := [.str text]) (h1 := []) rfl (e _ _)]
      rfl
    conv =>
      lhs
      unfold C.scons C.sife
    show (match (match C.set (.tup [(.nm 2), (.nm 3), (.nm 4)]) (C.call 8 (C.cons (C.var 1) C.nil)) (callC ct 9) [] [some (.str kDate), some (.str text), none, none, none, none, none, none] [] with
      | .nx fr1 h1 => C.scons (C.ret (C.fs (C.jcons (C.var 2) (C.jcons (C.k (.str [45])) (C.jcons (C.call 3 (C.cons (C.var 3) C.nil)) (C.jcons (C.k (.str [45])) (C.jcons (C.call 3 (C.cons (C.var 4) C.nil)) C.jnil))))))) C.snil (callC ct 9) [] fr1 h1
      | x => x) with
      | .nx fr1 h1 => _
      | x => x) = _
    rw [q]
  unfold Sp
  show (match c_read_special (callC ct 9) [] [some (.str kDate), some (.str text), none, none, none, none, none, none] [] with
      | .ret d h1 => if f_read_special.lamf && !noClo d then R.stk else .ok d h1
      | .nx _ h1 => .ok .non h1
      | .exc c _ h1 => .exc c h1
      | _ => .stk) = _
  rw [e2]
  rfl
theorem sp_date {text due : List Nat} {yi mi di : Int} (e : ∀ o h, callC ct 9 (.fn 8) o [.str text] h = .ok (.tup [.int yi, .int mi, .int di]) h)
    (q : C.fs (C.jcons (C.var 2) (C.jcons (C.k (.str [45])) (C.jcons (C.call 3 (C.cons (C.var 3) C.nil)) (C.jcons (C.k (.str [45])) (C.jcons (C.call 3 (C.cons (C.var 4) C.nil)) C.jnil))))) (callC ct 9) [] [some (.str kDate), some (.str text), some (.int yi), some (.int mi), some (.int di), none, none, none] [] = .ok (.str due) []) : Sp kDate text (some due) := by
  have e2 : c_read_special (callC ct 9) [] [some (.str kDate), some (.str text), none, none, none, none, none, none] [] = .ret (.str due) [] := by
    unfold c_read_special
    refine (st_no (h1 := []) rfl rfl).trans ((st_no (h1 := []) rfl rfl).trans (st_yes (h1 := []) rfl ?_))
    refine (st_nx (st_set (ev_call (xs := [.str text]) (h1 := []) rfl (e _ _)) rfl)).trans ?_
    exact st_ret (st_retE q)
  unfold Sp
  show (match c_read_special (callC ct 9) [] [some (.str kDate), some (.str text), none, none, none, none, none, none] [] with
      | .ret d h1 => if f_read_special.lamf && !noClo d then R.stk else .ok d h1
      | .nx _ h1 => .ok .non h1
      | .exc c _ h1 => .exc c h1
      | _ => .stk) = _
  rw [e2]
  rfl
end K01

-- text K01h
set_option Elab.async false
set_option linter.all false
set_option maxRecDepth 100000
set_option maxHeartbeats 0
namespace K01
open PySem FS
/-- figures of a number, its two figures -/
def two (n : Nat) : List Nat := if n > 9 then intL (n : Int) else 48 :: intL (n : Int)
def twoB (n : Nat) : Bool := match callC ct 5 (.fn 3) [] [.int (n : Int)] [] with
  | .ok (.str s) [] => decide (s = two n)
  | _ => false
theorem twos : ((List.range 60).all twoB) = true := by decide +kernel
theorem two_at {n : Nat} (hn : n < 60) {k : Nat} (hk : 5 ≤ k) (o : List Fr) (h : MH) : callC ct k (.fn 3) o [.int (n : Int)] h = .ok (.str (two n)) h := by
  have q := List.all_eq_true.mp twos n (List.mem_range.mpr hn)
  unfold twoB at q
  split at q
  · rename_i s e
    rw [of_decide_eq_true q] at e
    exact lift (by decide) e hk
  · cases q
def yearL : List Nat := [1999, 2000, 2024, 2026, 1899]
def monB (m d : List Nat) : Bool := match callC ct 8 (.fn 2) [] [.str (m ++ d), .int 4] [] with
  | .ok (.bl true) [] => true
  | _ => false
/-- the months, days as they are written: bare, padded -/
def wrt (pad : Bool) (n : Nat) : List Nat := if pad && decide (n < 10) then 48 :: intL (n : Int) else intL (n : Int)
theorem mons : ([true, false].all fun p => (List.range 14).all fun m => (List.range 33).all fun d => monB (wrt p m) (wrt p d)) = true := by decide +kernel
end K01

-- text K01i
set_option Elab.async false
set_option linter.all false
set_option maxRecDepth 100000
set_option maxHeartbeats 0
namespace K01
open PySem FS
def goodB (y m d : Nat) : Bool := Nat.ble 1900 y && Nat.ble 1 m && Nat.ble m 12 && Nat.ble 1 d && Nat.ble d (if m = 2 then (if y % 4 = 0 ∧ (y % 100 ≠ 0 ∨ y % 400 = 0) then 29 else 28) else if m = 4 ∨ m = 6 ∨ m = 9 ∨ m = 11 then 30 else 31)
def dayB (y m d lm ld : Nat) : Bool := match callC ct 8 (.fn 9) [] [.int y, .int m, .int d, .int lm, .int ld] [] with
  | .ok (.tup [.int a, .int b, .int c]) [] => goodB y m d && decide (a = y) && decide (b = m) && decide (c = d)
  | .exc 1 [] => !goodB y m d
  | _ => false
theorem days : (yearL.all fun y => [true, false].all fun p => (List.range 14).all fun m => (List.range 33).all fun d => dayB y m d (wrt p m).length (wrt p d).length) = true := by decide +kernel
end K01

-- text K01j
set_option Elab.async false
set_option linter.all false
set_option maxRecDepth 100000
set_option maxHeartbeats 0
namespace K01
open PySem FS
/-- a text of at most four figures that reads as n -/
def figB (x : List Nat) (n : Nat) : Bool := !x.isEmpty && Nat.ble x.length 4 && x.all isDig && decide (NumText.digitsVal x = n) && noC 45 x && noC 46 x && noC 47 x
structure Fig (x : List Nat) (n : Nat) : Prop where
  ne : x ≠ []
  len : x.length ≤ 4
  int : ∀ h, biV .int [.str x] h = .ok (.int (n : Int)) h
  no : ∀ c ∈ [45, 46, 47], noC c x = true
theorem figB_ok {x : List Nat} {n : Nat} (h : figB x n = true) : Fig x n := by
  unfold figB at h
  simp only [Bool.and_eq_true, Bool.not_eq_true', decide_eq_true_eq] at h
  obtain ⟨⟨⟨⟨⟨⟨h1, h2⟩, h3⟩, h4⟩, h5⟩, h6⟩, h7⟩ := h
  have hl : x.length ≤ 4 := Nat.le_of_ble_eq_true h2
  refine ⟨fun e => (by rw [e] at h1; cases h1), hl, fun h => ?_, fun c hc => ?_⟩
  · have q : biV .int [.str x] h = (if (!x.isEmpty && Nat.ble x.length 640 && x.all isDig) = true then R.ok (FS.D.int ((NumText.digitsVal x : Nat))) h else .stk) := rfl
    rw [q, h1, h3, Nat.ble_eq_true_of_le (show x.length ≤ 640 by omega), h4]
    rfl
  · simp only [List.mem_cons, List.not_mem_nil, or_false] at hc
    rcases hc with rfl | rfl | rfl
    · exact h5
    · exact h6
    · exact h7
theorem figs : ([true, false].all fun p => (List.range 60).all fun n => figB (wrt p n) n) = true := by decide +kernel
theorem figsY : (yearL.all fun y => figB (intL (y : Int)) y && Nat.beq (intL (y : Int)).length 4 && (match callC ct 8 (.fn 2) [] [.str (intL (y : Int)), .int 4] [] with
  | .ok (.bl true) [] => true
  | _ => false)) = true := by decide +kernel
def dayR (y m d : Nat) : FS.R FS.D := if goodB y m d then .ok (.tup [.int y, .int m, .int d]) [] else .exc 1 []
theorem date_in {y : Nat} (hy : y ∈ yearL) (p : Bool) {m d : Nat} (hm : m < 14) (hd : d < 33) : DateIn (intL (y : Int)) (wrt p m) (wrt p d) y m d (dayR y m d) := by
  have hp : p ∈ [true, false] := by cases p <;> simp
  have a := List.all_eq_true.mp figsY y hy
  simp only [Bool.and_eq_true] at a
  have fy := figB_ok a.1.1
  have fm := figB_ok (List.all_eq_true.mp (List.all_eq_true.mp figs p hp) m (List.mem_range.mpr (by omega)))
  have fd := figB_ok (List.all_eq_true.mp (List.all_eq_true.mp figs p hp) d (List.mem_range.mpr (by omega)))
  refine ⟨Nat.eq_of_beq_eq_true a.1.2, ?_, ?_, fm.ne, fd.ne, fm.len, fd.len, fy.int, fm.int, fd.int, ?_⟩
  · have b := a.2
    split at b
    · assumption
    · cases b
  · have b := List.all_eq_true.mp (List.all_eq_true.mp (List.all_eq_true.mp mons p hp) m (List.mem_range.mpr hm)) d (List.mem_range.mpr hd)
    unfold monB at b
    split at b
    · assumption
    · cases b
  · have b := List.all_eq_true.mp (List.all_eq_true.mp (List.all_eq_true.mp (List.all_eq_true.mp days y hy) p hp) m (List.mem_range.mpr hm)) d (List.mem_range.mpr hd)
    unfold dayB at b
    unfold dayR
    split at b
    · rename_i r1 r2 r3 e
      simp only [Bool.and_eq_true, decide_eq_true_eq] at b
      rw [e, b.1.1.1, b.1.1.2, b.1.2, b.2]
      rfl
    · rename_i e
      rw [Bool.not_eq_true'] at b
      rw [e, b]
      rfl
    · cases b
end K01

-- text K01k
set_option Elab.async false
set_option linter.all false
set_option maxRecDepth 100000
set_option maxHeartbeats 0
namespace K01
open PySem FS
/-- how a date is told -/
def dateTold (y m d : Nat) : Option (List Nat) := if goodB y m d then some (intL (y : Int) ++ 45 :: (two m ++ 45 :: two d)) else none
def dateTxt (way : Nat) (y : List Nat) (m d : List Nat) : List Nat := match way with
  | 0 => y ++ 45 :: (m ++ 45 :: d)
  | 1 => d ++ 46 :: (m ++ 46 :: y)
  | _ => m ++ 47 :: (d ++ 47 :: y)
theorem dayR_ne (y m d : Nat) : dayR y m d ≠ .stk := by
  unfold dayR
  split <;> (intro e; cases e)
theorem date_call {y : Nat} (hy : y ∈ yearL) (p : Bool) {m d : Nat} (hm : m < 14) (hd : d < 33) (way : Nat) {k : Nat} (hk : 8 ≤ k) (o : List Fr) (h : MH) : callC ct (k + 1) (.fn 8) o [.str (dateTxt way (intL (y : Int)) (wrt p m) (wrt p d))] h = outR (dayR y m d) h := by
  have D := date_in hy p hm hd
  have hp : p ∈ [true, false] := by cases p <;> simp
  have a := List.all_eq_true.mp figsY y hy
  simp only [Bool.and_eq_true] at a
  have fy := figB_ok a.1.1
  have fm := figB_ok (List.all_eq_true.mp (List.all_eq_true.mp figs p hp) m (List.mem_range.mpr (by omega)))
  have fd := figB_ok (List.all_eq_true.mp (List.all_eq_true.mp figs p hp) d (List.mem_range.mpr (by omega)))
  match way with
  | 0 => exact date0 D (dayR_ne _ _ _) fy.no fm.no fd.no hk o h
  | 1 => exact date1 D (dayR_ne _ _ _) fy.no fm.no fd.no hk o h
  | _ + 2 => exact date2 D (dayR_ne _ _ _) fy.no fm.no fd.no hk o h
end K01

-- text K01l
set_option Elab.async false
set_option linter.all false
set_option maxRecDepth 100000
set_option maxHeartbeats 0
namespace K01
open PySem FS
theorem ev_jcons {cf : CF} {o : List Fr} {fr : Fr} {h h1 : MH} {acc : List Nat} {e : C.XE} {es : C.XJ} {x : FS.D} {t : List Nat} (ea : e cf o fr h = .ok x h1) (et : txtV x = some t) (hl : acc.length + t.length ≤ 1000) : C.jcons e es cf o acc fr h = es cf o (acc ++ t) fr h1 := by
  unfold C.jcons
  rw [ea]
  simp only [R.bind, et]
  rw [if_pos (Nat.ble_eq_true_of_le (Nat.le_trans hl (by decide)))]
theorem lens : ((yearL.all fun y => intOk (y : Int) && Nat.ble (intL (y : Int)).length 10) && (List.range 60).all fun n => Nat.ble (two n).length 10) = true := by decide +kernel
theorem sp_dates {y : Nat} (hy : y ∈ yearL) (p : Bool) {m d : Nat} (hm : m < 14) (hd : d < 33) (way : Nat) : Sp kDate (dateTxt way (intL (y : Int)) (wrt p m) (wrt p d)) (dateTold y m d) := by
  have c := fun o h => date_call hy p hm hd way (k := 8) (by omega) o h
  unfold dayR at c
  unfold dateTold
  cases hg : goodB y m d with
  | false =>
    rw [hg] at c
    exact sp_dateX c
  | true =>
    rw [hg] at c
    rw [if_pos rfl]
    have L := lens
    rw [Bool.and_eq_true] at L
    have ly := List.all_eq_true.mp L.1 y hy
    rw [Bool.and_eq_true] at ly
    have l1 := Nat.le_of_ble_eq_true ly.2
    have l2 := Nat.le_of_ble_eq_true (List.all_eq_true.mp L.2 m (List.mem_range.mpr (by omega)))
    have l3 := Nat.le_of_ble_eq_true (List.all_eq_true.mp L.2 d (List.mem_range.mpr (by omega)))
    have ty : txtV (.int (y : Int)) = some (intL (y : Int)) := by
      show (if intOk (y : Int) = true then some (intL (y : Int)) else none) = _
      rw [if_pos ly.1]
    have ts : ∀ s : List Nat, s.length ≤ 10 → txtV (.str s) = some s := fun s hs => by
      show (if Nat.ble s.length line = true then some s else none) = _
      rw [if_pos (Nat.ble_eq_true_of_le (Nat.le_trans hs (by decide)))]
    refine sp_date c ?_
    unfold C.fs
    rw [ev_jcons (h1 := []) rfl ty (by simp; omega), ev_jcons (h1 := []) rfl (ts [45] (by decide)) (by simp; omega), ev_jcons (h1 := []) (ev_call (h1 := []) (xs := [.int (m : Int)]) rfl (two_at (by omega) (by omega) _ _)) (ts _ l2) (by simp; omega), ev_jcons (h1 := []) rfl (ts [45] (by decide)) (by simp; omega),
      ev_jcons (h1 := []) (ev_call (h1 := []) (xs := [.int (d : Int)]) rfl (two_at (by omega) (by omega) _ _)) (ts _ l3) (by simp; omega)]
    show R.ok (FS.D.str _) [] = _
    simp
end K01

-- text K01o
set_option Elab.async false
set_option linter.all false
set_option maxRecDepth 100000
set_option maxHeartbeats 0
namespace K01
open PySem FS
/-- what is told of a good date is a date as written: padded, the first way -/
theorem told_txt : ((List.range 60).all fun n => decide (two n = wrt true n)) = true := by decide +kernel
def noSp (x : List Nat) : Bool := x.all fun a => !Nat.beq a 32
theorem strip_no {x : List Nat} (h : noSp x = true) : stripS x = x := by
  have key : ∀ z : List Nat, noSp z = true → z.dropWhile ([32] : List Nat).contains = z := by
    intro z hz
    cases z with
    | nil => rfl
    | cons a z =>
      unfold noSp at hz
      rw [List.all_cons, Bool.and_eq_true, Bool.not_eq_true'] at hz
      rw [List.dropWhile_cons_of_neg]
      simp only [List.contains_cons, List.contains_nil, Bool.or_false, beq_iff_eq]
      intro e
      rw [e] at hz
      cases hz.1
  have hr : noSp x.reverse = true := by
    unfold noSp at h ⊢
    rw [List.all_reverse]
    exact h
  unfold stripS lstripL rstripL
  rw [key x h, key _ hr, List.reverse_reverse]
end K01

-- text K01q
set_option Elab.async false
set_option linter.all false
set_option maxRecDepth 100000
set_option maxHeartbeats 0
namespace K01
open PySem FS
theorem RowOk.mk' {kind given : List Nat} {due : Option (List Nat)} (hk : kind ∈ kinds) (hn : isNum kind = false) (hl : given.length ≤ 396) (hs : stripS given = given) (h0 : given ≠ []) (sp : Sp kind given due) (bk : ∀ s, due = some s → s ≠ [] ∧ stripS s = s ∧ Sp kind s (some s) ∧ okS s) : RowOk kind given due := by
  have ed : due2 given due = due := if_neg (by rw [hs]; exact h0)
  refine ⟨hl, fun r q hr hq => ?_, Reads.of hk (by decide) (fun _ => rfl) (fun z => absurd rfl z), fun s e => ?_, fun h s e _ => ?_⟩
  · rw [ed]
    refine Reads.of hk ?_ (fun z => absurd (by rw [← hs, ← strip_pad r q]; exact z) h0) (fun _ => by rw [strip_pad, hs]; exact sp)
    rw [List.length_append, List.length_append]
    unfold padS
    rw [List.length_replicate, List.length_replicate]
    omega
  · rw [ed] at e
    obtain ⟨b1, b2, b3, b4⟩ := bk s e
    exact ⟨Reads.of hk b4.2 (fun z => absurd (by rw [← b2]; exact z) b1) (fun _ => by rw [b2]; exact b3), b4⟩
  · rw [hn] at h
    cases h
end K01

-- text K01r
set_option Elab.async false
set_option linter.all false
set_option maxRecDepth 100000
set_option maxHeartbeats 0
namespace K01
open PySem FS
def okTxt (x : List Nat) : Bool := noSp x && Nat.ble x.length 396 && !x.isEmpty && ascii x
theorem dates_txt : (yearL.all fun y => [true, false].all fun p => (List.range 14).all fun m => (List.range 33).all fun d => (List.range 3).all fun w => okTxt (dateTxt w (intL (y : Int)) (wrt p m) (wrt p d))) = true := by decide +kernel
theorem row_date {y : Nat} (hy : y ∈ yearL) (p : Bool) {m d w : Nat} (hm : m < 14) (hd : d < 33) (hw : w < 3) : RowOk kDate (dateTxt w (intL (y : Int)) (wrt p m) (wrt p d)) (dateTold y m d) := by
  have ok : ∀ p w, w < 3 → okTxt (dateTxt w (intL (y : Int)) (wrt p m) (wrt p d)) = true := fun p w hw => List.all_eq_true.mp (List.all_eq_true.mp (List.all_eq_true.mp (List.all_eq_true.mp (List.all_eq_true.mp dates_txt y hy) p (by cases p <;> simp)) m (List.mem_range.mpr hm)) d (List.mem_range.mpr hd)) w (List.mem_range.mpr hw)
  have use : ∀ x, okTxt x = true → stripS x = x ∧ x.length ≤ 396 ∧ x ≠ [] ∧ ascii x = true := fun x h => by
    unfold okTxt at h
    simp only [Bool.and_eq_true, Bool.not_eq_true'] at h
    exact ⟨strip_no h.1.1.1, Nat.le_of_ble_eq_true h.1.1.2, fun e => (by rw [e] at h; cases h.1.2), h.2⟩
  obtain ⟨a1, a2, a3, a4⟩ := use _ (ok p w hw)
  refine RowOk.mk' (by decide) (by decide) a2 a1 a3 (sp_dates hy p hm hd w) fun s e => ?_
  have q := sp_dates hy true hm hd 0
  have t2 : ∀ n, n < 60 → two n = wrt true n := fun n hn => of_decide_eq_true (List.all_eq_true.mp told_txt n (List.mem_range.mpr hn))
  rw [e] at q
  have es : s = dateTxt 0 (intL (y : Int)) (wrt true m) (wrt true d) := by
    unfold dateTold at e
    split at e
    · cases e
      rw [t2 m (by omega), t2 d (by omega)]
      rfl
    · cases e
  obtain ⟨b1, b2, b3, b4⟩ := use _ (ok true 0 (by omega))
  rw [← es] at b1 b2 b3 b4 q
  exact ⟨b3, b1, q, b4, by omega⟩
end K01

-- text K01s
set_option Elab.async false
set_option linter.all false
set_option maxRecDepth 100000
set_option maxHeartbeats 0
namespace K01
open PySem FS
section
variable {cf : CF} {o : List Fr} {fr fr1 : Fr} {h h1 h2 h3 : MH}
theorem ev_ifT {c : C.XB} {a b : C.XE} {r : FS.R FS.D} (e : c cf o fr h = .ok true h1) (ea : a cf o fr h1 = r) : C.ife c a b cf o fr h = r := by
  unfold C.ife
  rw [e]
  exact ea
theorem ev_ifF {c : C.XB} {a b : C.XE} {r : FS.R FS.D} (e : c cf o fr h = .ok false h1) (ea : b cf o fr h1 = r) : C.ife c a b cf o fr h = r := by
  unfold C.ife
  rw [e]
  exact ea
theorem ev_sl {a lo hi : C.XE} {n1 n2 : Bool} {x l u : FS.D} {l2 u2 : Option Int} {r : FS.D} (ea : a cf o fr h = .ok x h1) (el : lo cf o fr h1 = .ok l h1) (ol : opE n1 l = some l2) (eu : hi cf o fr h1 = .ok u h1) (ou : opE n2 u = some u2) (es : slV x l2 u2 h1 = some r) : C.sl a n1 lo n2 hi cf o fr h = .ok r h1 := by
  unfold C.sl
  rw [ea]
  simp only [R.bind, el, ol, eu, ou, es]
  rfl
theorem ev_bop {es : C.XB} {b : Bool} (e : es cf o fr h = .ok b h1) : C.bop es cf o fr h = .ok (.bl b) h1 := by
  unfold C.bop
  rw [e]
  rfl
theorem bl_and {e : C.XE} {es : C.XB} {x y : Bool} (e1 : e cf o fr h = .ok (.bl x) h) (e2 : es cf o fr h = .ok y h) : C.bcons true e es cf o fr h = .ok (x && y) h := by
  unfold C.bcons
  rw [e1]
  cases x with
  | true => exact e2
  | false => rfl
theorem bl_or {e : C.XE} {es : C.XB} {x y : Bool} (e1 : e cf o fr h = .ok (.bl x) h) (e2 : es cf o fr h = .ok y h) : C.bcons false e es cf o fr h = .ok (x || y) h := by
  unfold C.bcons
  rw [e1]
  cases x with
  | true => rfl
  | false => exact e2
theorem bl_last {e : C.XE} {x : Bool} (e1 : e cf o fr h = .ok (.bl x) h1) : C.blast e cf o fr h = .ok x h1 := by
  unfold C.blast
  rw [e1]
  rfl
theorem tc_and {c cs : C.XB} {x y : Bool} (e1 : c cf o fr h = .ok x h) (e2 : cs cf o fr h = .ok y h) : C.tcons true c cs cf o fr h = .ok (x && y) h := by
  unfold C.tcons
  rw [e1]
  cases x with
  | true => exact e2
  | false => rfl
theorem tc_or {c cs : C.XB} {x y : Bool} (e1 : c cf o fr h = .ok x h) (e2 : cs cf o fr h = .ok y h) : C.tcons false c cs cf o fr h = .ok (x || y) h := by
  unfold C.tcons
  rw [e1]
  cases x with
  | true => rfl
  | false => exact e2
theorem tc_nt {c : C.XB} {x : Bool} (e1 : c cf o fr h = .ok x h1) : C.tnt c cf o fr h = .ok (!x) h1 := by
  unfold C.tnt
  rw [e1]
  rfl
theorem tc_v {e : C.XE} {x : Bool} (e1 : e cf o fr h = .ok (.bl x) h1) : C.tv e cf o fr h = .ok x h1 := by
  unfold C.tv
  rw [e1]
  rfl
theorem tc_chn {op op2 : Cop} {a b c : C.XE} {x y z : FS.D} {p q : Bool} (ea : a cf o fr h = .ok x h) (eb : b cf o fr h = .ok y h) (ec : c cf o fr h = .ok z h) (e1 : cmpV op x y h = some p) (e2 : cmpV op2 y z h = some q) : C.tchn op op2 a b c cf o fr h = .ok (p && q) h := by
  unfold C.tchn
  rw [ea]
  simp only [R.bind, eb, e1]
  cases p with
  | false => rfl
  | true =>
    simp only [ec, e2]
    rfl
theorem ev_chn {op op2 : Cop} {a b c : C.XE} {x y z : FS.D} {p q : Bool} (ea : a cf o fr h = .ok x h) (eb : b cf o fr h = .ok y h) (ec : c cf o fr h = .ok z h) (e1 : cmpV op x y h = some p) (e2 : cmpV op2 y z h = some q) : C.chn op op2 a b c cf o fr h = .ok (.bl (p && q)) h := by
  unfold C.chn
  rw [ea]
  simp only [R.bind, eb, e1]
  cases p with
  | false => rfl
  | true =>
    simp only [ec, e2]
    rfl
theorem st_par {ts : List Nat} {es : C.XEs} {xs : List FS.D} (e : es cf o fr h = .ok xs h1) (a : asgNs ts xs fr = some fr1) : C.par ts es cf o fr h = .nx fr1 h1 := by
  unfold C.par
  rw [e]
  simp only [R.toS, a]
theorem st_rai {a b r : C.XS} {c : C.XB} {n : Nat} (e : c cf o fr h = .ok true h1) (ea : a cf o fr h1 = .exc n fr h1) : C.scons (C.sife c a b) r cf o fr h = .exc n fr h1 := by
  unfold C.scons C.sife
  rw [e]
  simp only [R.toS, ea]
theorem fn_ret {k f : Nat} {F : Fn} {c : C.XS} {xs : List FS.D} {v : FS.D} (hF : pg.fns[f]? = some F) (hc : ct.fc[f]? = some c) (ha : xs.length = F.ar) (hl : F.lamf = false) (e : c (callC ct k) o (xs.map some ++ List.replicate (F.nl - F.ar) none) h = .ret v h1) (hd : F.dfl = [] := by rfl) : callC ct (k + 1) (.fn f) o xs h = .ok v h1 := by
  unfold callC
  have hF' : ct.g.fns[f]? = some F := hF
  rw [hF', hc]
  simp only [hd, ha, List.drop_nil, List.append_nil, hl, Bool.false_and, List.length_nil, Nat.add_zero, Nat.le_refl, and_self, if_true]
  rw [e]
  rfl
theorem fn_exc {k f n : Nat} {F : Fn} {c : C.XS} {xs : List FS.D} (hF : pg.fns[f]? = some F) (hc : ct.fc[f]? = some c) (ha : xs.length = F.ar) (e : c (callC ct k) o (xs.map some ++ List.replicate (F.nl - F.ar) none) h = .exc n fr1 h1) (hd : F.dfl = [] := by rfl) : callC ct (k + 1) (.fn f) o xs h = .exc n h1 := by
  unfold callC
  have hF' : ct.g.fns[f]? = some F := hF
  rw [hF', hc]
  simp only [hd, ha, List.drop_nil, List.append_nil, Bool.false_and, List.length_nil, Nat.add_zero, Nat.le_refl, and_self, if_true]
  rw [e]
end
theorem sl_str {x : List Nat} (hl : x.length ≤ 1000) (lo hi : Option Int) (h : MH) : slV (.str x) lo hi h = some (.str (cut x lo hi)) := by
  have q : slV (.str x) lo hi h = (if Nat.ble x.length line = true then some (.str (cut x lo hi)) else none) := rfl
  rw [q, if_pos (Nat.ble_eq_true_of_le (Nat.le_trans hl (by decide)))]
theorem strip_str {x : List Nat} (hl : x.length ≤ 1000) (h : MH) : meV .strip (.str x) [.str [32]] h = .ok (.str (stripS x)) h := by
  have q : meV .strip (.str x) [.str [32]] h = (if Nat.ble x.length line = true then R.ok (FS.D.str (stripS x)) h else .stk) := rfl
  rw [q, if_pos (Nat.ble_eq_true_of_le (Nat.le_trans hl (by decide)))]
theorem low_str {x : List Nat} (ha : ascii x = true) (hl : x.length ≤ 1000) (h : MH) : meV .lower (.str x) [] h = .ok (.str (lowS x)) h := by
  have q : meV .lower (.str x) [] h = (if (ascii x && Nat.ble x.length 5592405) = true then R.ok (FS.D.str (lowS x)) h else .stk) := rfl
  rw [q, ha, Nat.ble_eq_true_of_le (Nat.le_trans hl (by decide))]
  rfl
def partOf (c : Nat) (x : List Nat) : List Nat × List Nat × List Nat := match TL.par [c] [] x with
  | some (p, q) => (p, [c], q)
  | none => (x, [], [])
theorem part_str {x : List Nat} {c : Nat} (hl : x.length ≤ 1000) (h : MH) : meV .part (.str x) [.str [c]] h = .ok (.tup [.str (partOf c x).1, .str (partOf c x).2.1, .str (partOf c x).2.2]) h := by
  have q : meV .part (.str x) [.str [c]] h = (if (!([c] : List Nat).isEmpty && Nat.ble x.length line) = true then (match TL.par [c] [] x with
    | some (p, q) => R.ok (.tup [.str p, .str [c], .str q]) h
    | none => .ok (.tup [.str x, .str [], .str []]) h) else .stk) := rfl
  rw [q, Nat.ble_eq_true_of_le (Nat.le_trans hl (by decide))]
  unfold partOf
  cases TL.par [c] [] x <;> rfl
theorem cmp_ne (a b : List Nat) (h : MH) : cmpV .ne (.str a) (.str b) h = some (!decide (a = b)) := by
  have e := cmp_str a b h
  show (cmpV .eq (.str a) (.str b) h).map not = _
  rw [e]
  rfl
end K01

-- text K01t
set_option Elab.async false
set_option linter.all false
set_option maxRecDepth 100000
set_option maxHeartbeats 0
namespace K01
open PySem FS
def tAm : List Nat := [97, 109]
def tPm : List Nat := [112, 109]
def halfOf (low : List Nat) : List Nat := if cut low (some (-2)) none = tAm ∨ cut low (some (-2)) none = tPm then cut low (some (-2)) none else []
def bodyOf (low half : List Nat) : List Nat := if half = [] then low else stripS (cut low none (some (-2)))
structure TimeIn (T half head colon tail : List Nat) (hi mi : Nat) : Prop where
  asc : ascii T = true
  len : T.length ≤ 100
  hf : halfOf (lowS T) = half
  bl : (bodyOf (lowS T) half).length ≤ 100
  part : partOf 58 (bodyOf (lowS T) half) = (head, colon, tail)
  tl : tail.length ≤ 100
  fh : callC ct 8 (.fn 2) [] [.str head, .int 2] [] = .ok (.bl true) []
  ih : ∀ h, biV .int [.str head] h = .ok (.int (hi : Int)) h
  t : (colon = [58] ∧ tail.length = 2 ∧ callC ct 8 (.fn 2) [] [.str tail, .int 2] [] = .ok (.bl true) [] ∧ ∀ h, biV .int [.str tail] h = .ok (.int (mi : Int)) h) ∨ (colon = [] ∧ half ≠ [] ∧ mi = 0)
def timeBad (half : List Nat) (hi mi : Nat) : Bool := decide ((59 : Int) < (mi : Int)) || ((!decide (half = []) && !(decide ((1 : Int) ≤ (hi : Int)) && decide ((hi : Int) ≤ 12))) || ((decide (half = []) && decide ((23 : Int) < (hi : Int))) || false))
def timeHour (half : List Nat) (hi : Nat) : Int := if half = [] then (hi : Int) else (hi : Int) % 12 + (if half = tPm then 12 else 0)
def timeR (half : List Nat) (hi mi : Nat) (h : MH) : FS.R FS.D := if timeBad half hi mi then .exc 1 h else .ok (.tup [.int (timeHour half hi), .int (mi : Int)]) h
theorem in_ampm (x : List Nat) (h : MH) : cmpV .isin (.str x) (.tup [.str [97, 109], .str [112, 109]]) h = some (decide (x = tAm ∨ x = tPm)) := by
  show some (deq (.str [97, 109]) (.str x) || (deq (.str [112, 109]) (.str x) || false)) = _
  unfold deq tAm tPm
  rw [Bool.or_false]
  congr 1
  by_cases e : x = [97, 109]
  · simp [e]
  · by_cases e2 : x = [112, 109]
    · simp [e2]
    · have a1 : ([97, 109] == x) = false := beq_eq_false_iff_ne.mpr fun z => e z.symm
      have a2 : ([112, 109] == x) = false := beq_eq_false_iff_ne.mpr fun z => e2 z.symm
      rw [a1, a2]
      simp [e, e2]
theorem low_len (x : List Nat) : (lowS x).length = x.length := List.length_map _
theorem cut_len {α : Type} (x : List α) (lo hi : Option Int) : (cut x lo hi).length ≤ x.length := by
  unfold cut
  rw [List.length_take, List.length_drop]
  omega
theorem time_walk {T half head colon tail : List Nat} {hi mi : Nat} (I : TimeIn T half head colon tail hi mi) {k : Nat} (hk : 8 ≤ k) (o : List Fr) (h : MH) : callC ct (k + 1) (.fn 10) o [.str T] h = timeR half hi mi h := by
  have l1 : (lowS T).length ≤ 100 := by rw [low_len]; exact I.len
  have hhalf : (halfOf (lowS T)) = half := I.hf
  -- what the body does
  have body : ∀ res, res = (if timeBad half hi mi then RS.exc 1 [some (.str T), some (.str (lowS T)), some (.str half), some (.str (bodyOf (lowS T) half)), some (.str head), some (.str colon), some (.str tail), some (.bl true), some (.int (hi : Int)), some (.int (mi : Int))] h else RS.ret (.tup [.int (timeHour half hi), .int (mi : Int)]) h) → c_time_of (callC ct k) o [some (.str T), none, none, none, none, none, none, none, none, none] h = res := by
    intro res hres
    unfold c_time_of
    have s1 : C.set (.nm 1) (C.me .lower (C.var 0) C.nil) (callC ct k) o [some (.str T), none, none, none, none, none, none, none, none, none] h = .nx [some (.str T), some (.str (lowS T)), none, none, none, none, none, none, none, none] h :=
      st_set (ev_me (s := T) rfl rfl (low_str I.asc (by have := I.len; omega) h)) rfl
    rw [st_nx s1]
    have sl2 : ∀ fr', C.sl (C.var 1) false (C.neg (C.k (.int 2))) true C.nop (callC ct k) o (some (.str T) :: some (.str (lowS T)) :: fr') h = .ok (.str (cut (lowS T) (some (-2)) none)) h := fun fr' =>
      ev_sl (x := .str (lowS T)) (l := .int (-2)) (u := .non) rfl rfl rfl rfl rfl (sl_str (by omega) _ _ h)
    have s2 : C.set (.nm 2) (C.ife (C.tcmp .isin (C.sl (C.var 1) false (C.neg (C.k (.int 2))) true C.nop) (C.tup (C.cons (C.k (.str [97, 109])) (C.cons (C.k (.str [112, 109])) C.nil)))) (C.sl (C.var 1) false (C.neg (C.k (.int 2))) true C.nop) (C.k (.str []))) (callC ct k) o [some (.str T), some (.str (lowS T)), none, none, none, none, none, none, none, none] h = .nx [some (.str T), some (.str (lowS T)), some (.str half), none, none, none, none, none, none, none] h := by
      refine st_set (v := .str half) ?_ rfl
      have t := ev_cmpT (op := .isin) (b := C.tup (C.cons (C.k (.str [97, 109])) (C.cons (C.k (.str [112, 109])) C.nil))) (sl2 [none, none, none, none, none, none, none, none]) rfl (in_ampm _ h)
      rw [← hhalf]
      unfold halfOf
      by_cases hc : cut (lowS T) (some (-2)) none = tAm ∨ cut (lowS T) (some (-2)) none = tPm
      · rw [decide_eq_true hc] at t
        rw [if_pos hc]
        exact ev_ifT t (sl2 _)
      · rw [decide_eq_false hc] at t
        rw [if_neg hc]
        exact ev_ifF t rfl
    rw [st_nx s2]
    have tne : ∀ fr', C.tcmp .ne (C.var 2) (C.k (.str [])) (callC ct k) o (some (.str T) :: some (.str (lowS T)) :: some (.str half) :: fr') h = .ok (!decide (half = [])) h := fun fr' => ev_cmpT (x := .str half) (h1 := h) rfl rfl (cmp_ne _ _ h)
    have teq : ∀ fr', C.tcmp .eq (C.var 2) (C.k (.str [])) (callC ct k) o (some (.str T) :: some (.str (lowS T)) :: some (.str half) :: fr') h = .ok (decide (half = [])) h := fun fr' => ev_cmpT (x := .str half) (h1 := h) rfl rfl (cmp_str _ _ h)
    have s3 : C.set (.nm 3) (C.ife (C.tcmp .ne (C.var 2) (C.k (.str []))) (C.me .strip (C.sl (C.var 1) true C.nop false (C.neg (C.k (.int 2)))) (C.cons (C.k (.str [32])) C.nil)) (C.var 1)) (callC ct k) o [some (.str T), some (.str (lowS T)), some (.str half), none, none, none, none, none, none, none] h = .nx [some (.str T), some (.str (lowS T)), some (.str half), some (.str (bodyOf (lowS T) half)), none, none, none, none, none, none] h := by
      refine st_set (v := .str (bodyOf (lowS T) half)) ?_ rfl
      have t := tne [none, none, none, none, none, none, none]
      unfold bodyOf
      by_cases hc : half = []
      · rw [decide_eq_true hc] at t
        rw [if_pos hc]
        exact ev_ifF t rfl
      · rw [decide_eq_false hc] at t
        rw [if_neg hc]
        refine ev_ifT t (ev_me (s := cut (lowS T) none (some (-2))) ?_ rfl (strip_str (Nat.le_trans (cut_len _ _ _) (by omega)) h))
        exact ev_sl (x := .str (lowS T)) (l := .non) (u := .int (-2)) (h1 := h) rfl rfl rfl rfl rfl (sl_str (by omega) _ _ h)
    rw [st_nx s3]
    have bl := I.bl
    have part := I.part
    generalize bodyOf (lowS T) half = bd at bl part hres ⊢
    have s4 : C.set (.tup [(.nm 4), (.nm 5), (.nm 6)]) (C.me .part (C.var 3) (C.cons (C.k (.str [58])) C.nil)) (callC ct k) o [some (.str T), some (.str (lowS T)), some (.str half), some (.str bd), none, none, none, none, none, none] h = .nx [some (.str T), some (.str (lowS T)), some (.str half), some (.str bd), some (.str head), some (.str colon), some (.str tail), none, none, none] h := by
      have e := part_str (x := bd) (c := 58) (by omega) h
      rw [part] at e
      exact st_set (ev_me (s := bd) (h1 := h) rfl rfl e) rfl
    rw [st_nx s4]
    have cne : ∀ fr', C.tcmp .ne (C.var 5) (C.k (.str [])) (callC ct k) o (some (.str T) :: some (.str (lowS T)) :: some (.str half) :: some (.str bd) :: some (.str head) :: some (.str colon) :: fr') h = .ok (!decide (colon = [])) h := fun fr' => ev_cmpT (x := .str colon) (h1 := h) rfl rfl (cmp_ne _ _ h)
    have s5 : C.set (.nm 7) (C.ife (C.tcmp .ne (C.var 5) (C.k (.str []))) (C.bop (C.bcons true (C.cmp .eq (C.bi .len (C.cons (C.var 6) C.nil)) (C.k (.int 2))) (C.blast (C.call 2 (C.cons (C.var 6) (C.cons (C.k (.int 2)) C.nil)))))) (C.cmp .ne (C.var 2) (C.k (.str [])))) (callC ct k) o [some (.str T), some (.str (lowS T)), some (.str half), some (.str bd), some (.str head), some (.str colon), some (.str tail), none, none, none] h = .nx [some (.str T), some (.str (lowS T)), some (.str half), some (.str bd), some (.str head), some (.str colon), some (.str tail), some (.bl true), none, none] h := by
      refine st_set (v := .bl true) ?_ rfl
      have t := cne [some (.str tail), none, none, none]
      rcases I.t with ⟨hc, hl, hf, _⟩ | ⟨hc, hh, _⟩
      · have ce : decide (colon = []) = false := decide_eq_false (by rw [hc]; intro e; cases e)
        rw [ce] at t
        refine ev_ifT t ?_
        have e1 := bl_and (e := C.cmp .eq (C.bi .len (C.cons (C.var 6) C.nil)) (C.k (.int 2))) (es := C.blast (C.call 2 (C.cons (C.var 6) (C.cons (C.k (.int 2)) C.nil)))) (cf := callC ct k) (o := o) (fr := [some (.str T), some (.str (lowS T)), some (.str half), some (.str bd), some (.str head), some (.str colon), some (.str tail), none, none, none]) (h := h) (x := true) (y := true)
          (ev_cmp (x := .int (tail.length : Int)) (h1 := h) (ev_bi (xs := [.str tail]) rfl (len_str (by omega) h)) rfl (by rw [hl]; rfl)) (bl_last (ev_call (xs := [.str tail, .int 2]) (h1 := h) rfl (lift (by decide) hf hk)))
        exact ev_bop e1
      · have ce : decide (colon = []) = true := decide_eq_true hc
        rw [ce] at t
        refine ev_ifF t (ev_cmp (x := .str half) (h1 := h) rfl rfl ?_)
        rw [cmp_ne, decide_eq_false hh]
        rfl
    rw [st_nx s5]
    have n6 : C.tcons false (C.tnt (C.tv (C.call 2 (C.cons (C.var 4) (C.cons (C.k (.int 2)) C.nil))))) (C.tcons false (C.tnt (C.tv (C.var 7))) (C.tnil false)) (callC ct k) o [some (.str T), some (.str (lowS T)), some (.str half), some (.str bd), some (.str head), some (.str colon), some (.str tail), some (.bl true), none, none] h = .ok false h :=
      tc_or (x := false) (tc_nt (x := true) (tc_v (ev_call (xs := [.str head, .int 2]) (h1 := h) rfl (lift (by decide) I.fh hk)))) (tc_or (x := false) (y := false) (tc_nt (x := true) (tc_v rfl)) rfl)
    rw [st_no n6 rfl]
    have s7 : C.par [8, 9] (C.cons (C.bi .int (C.cons (C.var 4) C.nil)) (C.cons (C.ife (C.tcmp .ne (C.var 5) (C.k (.str []))) (C.bi .int (C.cons (C.var 6) C.nil)) (C.k (.int 0))) C.nil)) (callC ct k) o [some (.str T), some (.str (lowS T)), some (.str half), some (.str bd), some (.str head), some (.str colon), some (.str tail), some (.bl true), none, none] h = .nx [some (.str T), some (.str (lowS T)), some (.str half), some (.str bd), some (.str head), some (.str colon), some (.str tail), some (.bl true), some (.int (hi : Int)), some (.int (mi : Int))] h := by
      refine st_par (xs := [.int (hi : Int), .int (mi : Int)]) (ev_cons (ev_bi (xs := [.str head]) (h1 := h) rfl (I.ih h)) (ev_cons ?_ rfl)) rfl
      have t := cne [some (.str tail), some (.bl true), none, none]
      rcases I.t with ⟨hc, hl, hf, hm⟩ | ⟨hc, hh, hm⟩
      · have ce : decide (colon = []) = false := decide_eq_false (by rw [hc]; intro e; cases e)
        rw [ce] at t
        exact ev_ifT t (ev_bi (xs := [.str tail]) (h1 := h) rfl (hm h))
      · have ce : decide (colon = []) = true := decide_eq_true hc
        rw [ce] at t
        refine ev_ifF t ?_
        rw [hm]
        rfl
    rw [st_nx s7]
    have n8 : C.tcons false (C.tcmp .gt (C.var 9) (C.k (.int 59))) (C.tcons false (C.tcons true (C.tcmp .ne (C.var 2) (C.k (.str []))) (C.tcons true (C.tnt (C.tchn .le .le (C.k (.int 1)) (C.var 8) (C.k (.int 12)))) (C.tnil true))) (C.tcons false (C.tcons true (C.tcmp .eq (C.var 2) (C.k (.str []))) (C.tcons true (C.tcmp .gt (C.var 8) (C.k (.int 23))) (C.tnil true))) (C.tnil false))) (callC ct k) o [some (.str T), some (.str (lowS T)), some (.str half), some (.str bd), some (.str head), some (.str colon), some (.str tail), some (.bl true), some (.int (hi : Int)), some (.int (mi : Int))] h = .ok (timeBad half hi mi) h := by
      have a1 := tc_and (tne [some (.str bd), some (.str head), some (.str colon), some (.str tail), some (.bl true), some (.int (hi : Int)), some (.int (mi : Int))]) (tc_and (tc_nt (tc_chn (op := .le) (op2 := .le) (a := C.k (.int 1)) (b := C.var 8) (c := C.k (.int 12)) (cf := callC ct k) (o := o) (fr := [some (.str T), some (.str (lowS T)), some (.str half), some (.str bd), some (.str head), some (.str colon), some (.str tail), some (.bl true), some (.int (hi : Int)), some (.int (mi : Int))]) (h := h) rfl rfl rfl rfl rfl)) (rfl : C.tnil true (callC ct k) o _ h = .ok true h))
      have a2 := tc_and (teq [some (.str bd), some (.str head), some (.str colon), some (.str tail), some (.bl true), some (.int (hi : Int)), some (.int (mi : Int))]) (tc_and (ev_cmpT (op := .gt) (a := C.var 8) (b := C.k (.int 23)) (cf := callC ct k) (o := o) (h1 := h) (h2 := h) rfl rfl rfl) (rfl : C.tnil true (callC ct k) o _ h = .ok true h))
      have a3 := tc_or (ev_cmpT (op := .gt) (a := C.var 9) (b := C.k (.int 59)) (cf := callC ct k) (o := o) (h1 := h) (h2 := h) rfl rfl rfl) (tc_or a1 (tc_or a2 (rfl : C.tnil false (callC ct k) o _ h = .ok false h)))
      simp only [Bool.and_true] at a3
      exact a3
    rw [hres]
    cases hb : timeBad half hi mi with
    | true =>
      rw [hb] at n8
      exact st_rai n8 rfl
    | false =>
      rw [hb] at n8
      rw [st_no n8 rfl]
      refine st_ret (st_retE (ev_tup (xs := [.int (timeHour half hi), .int (mi : Int)]) (ev_cons ?_ rfl)))
      have t := tne [some (.str bd), some (.str head), some (.str colon), some (.str tail), some (.bl true), some (.int (hi : Int)), some (.int (mi : Int))]
      unfold timeHour
      by_cases hc : half = []
      · rw [decide_eq_true hc] at t
        rw [if_pos hc]
        exact ev_ifF t rfl
      · rw [decide_eq_false hc] at t
        rw [if_neg hc]
        refine ev_ifT t (ev_bin (x := .int ((hi : Int) % 12)) (y := .int (if half = tPm then 12 else 0)) (h1 := h) (h2 := h) ?_ ?_ rfl)
        · exact ev_bin (x := .int (hi : Int)) (y := .int 12) (h1 := h) (h2 := h) rfl rfl rfl
        · have t2 : C.tcmp .eq (C.var 2) (C.k (.str [112, 109])) (callC ct k) o [some (.str T), some (.str (lowS T)), some (.str half), some (.str bd), some (.str head), some (.str colon), some (.str tail), some (.bl true), some (.int (hi : Int)), some (.int (mi : Int))] h = .ok (decide (half = tPm)) h := ev_cmpT (x := .str half) (h1 := h) rfl rfl (cmp_str _ _ h)
          by_cases hp : half = tPm
          · rw [decide_eq_true hp] at t2
            rw [if_pos hp]
            exact ev_ifT t2 rfl
          · rw [decide_eq_false hp] at t2
            rw [if_neg hp]
            exact ev_ifF t2 rfl
  unfold timeR
  have b := body _ rfl
  cases hb : timeBad half hi mi with
  | true =>
    rw [hb, if_pos rfl] at b
    rw [if_pos rfl]
    exact fn_exc (F := f_time_of) rfl rfl rfl b
  | false =>
    rw [hb, if_neg (by decide)] at b
    rw [if_neg (by decide)]
    exact fn_ret (F := f_time_of) rfl rfl rfl rfl b
end K01

-- text K01ta
set_option Elab.async false
set_option linter.all false
set_option maxRecDepth 100000
set_option maxHeartbeats 0
namespace K01
open PySem FS
def bl : Nat → Bool := ([32] : List Nat).contains
theorem bl_iff {a : Nat} : bl a = true ↔ a = 32 := by
  unfold bl
  simp
/-- no blank ahead, none behind -/
def hdN (x : List Nat) : Prop := ∀ r, x ≠ 32 :: r
def ltN (x : List Nat) : Prop := ∀ r, x ≠ r ++ [32]
def rsS (x : List Nat) : List Nat := rstripL bl x
theorem drop_id {x : List Nat} (h : hdN x) : x.dropWhile bl = x := by
  cases x with
  | nil => rfl
  | cons a r =>
    refine List.dropWhile_cons_of_neg fun e => ?_
    rw [bl_iff.mp e] at h
    exact h r rfl
theorem drop_hdN (x : List Nat) : hdN (x.dropWhile bl) := by
  induction x with
  | nil => intro r e; cases e
  | cons a x ih =>
    by_cases ha : bl a = true
    · rw [List.dropWhile_cons_of_pos ha]
      exact ih
    · rw [List.dropWhile_cons_of_neg ha]
      intro r e
      injection e with e1 e2
      exact ha (bl_iff.mpr e1)
theorem rs_ltN (x : List Nat) : ltN (rsS x) := by
  intro r e
  unfold rsS rstripL at e
  have e2 : x.reverse.dropWhile bl = 32 :: r.reverse := by
    rw [← List.reverse_reverse (x.reverse.dropWhile bl), e, List.reverse_append]
    rfl
  exact drop_hdN _ _ e2
theorem rs_id {x : List Nat} (h : ltN x) : rsS x = x := by
  have q : hdN x.reverse := fun r e => h r.reverse (by
    rw [← List.reverse_reverse x, e, List.reverse_cons])
  unfold rsS rstripL
  rw [drop_id q, List.reverse_reverse]
theorem rs_pre (x : List Nat) : ∃ y, x = rsS x ++ y := by
  refine ⟨(x.reverse.takeWhile bl).reverse, ?_⟩
  unfold rsS rstripL
  rw [← List.reverse_append, List.takeWhile_append_dropWhile, List.reverse_reverse]
theorem hdN_pre {x y : List Nat} (h : hdN (x ++ y)) : hdN x := fun r e => h (r ++ y) (by rw [e]; rfl)
theorem strip_hdN (x : List Nat) : hdN (stripS x) := by
  have q := drop_hdN x
  obtain ⟨y, e⟩ := rs_pre (x.dropWhile bl)
  rw [e] at q
  exact hdN_pre q
theorem strip_ltN (x : List Nat) : ltN (stripS x) := rs_ltN _
theorem strip_id {x : List Nat} (h : hdN x) (l : ltN x) : stripS x = x := by
  show rsS (x.dropWhile bl) = x
  rw [drop_id h, rs_id l]
theorem strip_strip (x : List Nat) : stripS (stripS x) = stripS x := strip_id (strip_hdN x) (strip_ltN x)
/-! pieces between a sign -/
theorem spl1 (c a : Nat) (acc r : List Nat) : TL.spl [c] 0 acc (a :: r) = if a = c then acc :: TL.spl [c] 0 [] r else TL.spl [c] 0 (acc ++ [a]) r := by
  by_cases e : a = c
  · rw [if_pos e, TL.spl_hit (by rw [pre1, e]; exact Nat.beq_refl c)]
    rfl
  · rw [if_neg e, TL.spl_miss (by rw [pre1]; exact Bool.eq_false_iff.mpr fun z => e (Nat.eq_of_beq_eq_true z))]
/-- every sign of a piece stands in the text; none is the mark -/
theorem spl_in {c : Nat} : ∀ {x acc w : List Nat}, c ∉ acc → w ∈ TL.spl [c] 0 acc x → c ∉ w ∧ ∀ a ∈ w, a ∈ acc ∨ a ∈ x
  | [], acc, w, h, hw => by
    rw [TL.spl_nil, List.mem_singleton] at hw
    rw [hw]
    exact ⟨h, fun a ha => .inl ha⟩
  | a :: x, acc, w, h, hw => by
    rw [spl1] at hw
    by_cases e : a = c
    · rw [if_pos e] at hw
      rcases List.mem_cons.mp hw with hw | hw
      · rw [hw]
        exact ⟨h, fun a ha => .inl ha⟩
      · obtain ⟨q1, q2⟩ := spl_in (acc := []) (by simp) hw
        refine ⟨q1, fun b hb => ?_⟩
        rcases q2 b hb with z | z
        · cases z
        · exact .inr (List.mem_cons_of_mem _ z)
    · rw [if_neg e] at hw
      obtain ⟨q1, q2⟩ := spl_in (acc := acc ++ [a]) (by simp [h]; exact fun z => e z.symm) hw
      refine ⟨q1, fun b hb => ?_⟩
      rcases q2 b hb with z | z
      · rcases List.mem_append.mp z with z | z
        · exact .inl z
        · rw [List.mem_singleton] at z
          rw [z]
          exact .inr List.mem_cons_self
      · exact .inr (List.mem_cons_of_mem _ z)
/-- the signs of all pieces, one more for each -/
def tot : List (List Nat) → Nat
  | [] => 0
  | w :: r => w.length + 1 + tot r
theorem spl_tot {c : Nat} : ∀ (x acc : List Nat), tot (TL.spl [c] 0 acc x) = acc.length + x.length + 1
  | [], acc => by
    rw [TL.spl_nil]
    rfl
  | a :: x, acc => by
    rw [spl1]
    split
    · show acc.length + 1 + tot _ = _
      rw [spl_tot x []]
      simp only [List.length_nil, List.length_cons]
      omega
    · rw [spl_tot x]
      simp only [List.length_append, List.length_cons, List.length_nil]
      omega
theorem spl_ne {c : Nat} : ∀ (x acc : List Nat), TL.spl [c] 0 acc x ≠ []
  | [], acc => by rw [TL.spl_nil]; simp
  | a :: x, acc => by
    rw [spl1]
    split
    · simp
    · exact spl_ne x _
/-- the first piece begins as the text -/
theorem spl_head {c : Nat} : ∀ (x acc : List Nat), ∃ p r y, TL.spl [c] 0 acc x = (acc ++ p) :: r ∧ x = p ++ y
  | [], acc => ⟨[], [], [], by rw [TL.spl_nil, List.append_nil], rfl⟩
  | a :: x, acc => by
    rw [spl1]
    split
    · exact ⟨[], _, a :: x, by rw [List.append_nil], rfl⟩
    · obtain ⟨p, r, y, e1, e2⟩ := spl_head (c := c) x (acc ++ [a])
      refine ⟨a :: p, r, y, ?_, ?_⟩
      · rw [e1, List.append_assoc]
        rfl
      · rw [e2]
        rfl
theorem tot_lenS (ws : List (List Nat)) : lenS ws + ws.length = tot ws := by
  induction ws with
  | nil => rfl
  | cons w r ih =>
    show w.length + lenS r + (r.length + 1) = w.length + 1 + tot r
    omega
theorem join_len (c : Nat) : ∀ ws : List (List Nat), (TL.joinL [c] ws).length ≤ tot ws
  | [] => Nat.zero_le _
  | [w] => by
    show w.length ≤ w.length + 1 + 0
    omega
  | w :: v :: r => by
    have ih := join_len c (v :: r)
    show (w ++ ([c] ++ TL.joinL [c] (v :: r))).length ≤ w.length + 1 + tot (v :: r)
    simp only [List.length_append, List.length_cons, List.length_nil]
    omega
theorem join_mem {c : Nat} : ∀ {ws : List (List Nat)} {a : Nat}, a ∈ TL.joinL [c] ws → a = c ∨ ∃ w ∈ ws, a ∈ w
  | [], a, h => by cases h
  | [w], a, h => .inr ⟨w, List.mem_singleton.mpr rfl, h⟩
  | w :: v :: r, a, h => by
    have h2 : a ∈ w ++ ([c] ++ TL.joinL [c] (v :: r)) := h
    rcases List.mem_append.mp h2 with h2 | h2
    · exact .inr ⟨w, List.mem_cons_self, h2⟩
    · rcases List.mem_append.mp h2 with h2 | h2
      · exact .inl (List.mem_singleton.mp h2)
      · rcases join_mem h2 with z | ⟨u, hu, z⟩
        · exact .inl z
        · exact .inr ⟨u, List.mem_cons_of_mem _ hu, z⟩
theorem tot_filter (p : List Nat → Bool) (ws : List (List Nat)) : tot (ws.filter p) ≤ tot ws := by
  induction ws with
  | nil => exact Nat.le_refl _
  | cons w r ih =>
    rw [List.filter_cons]
    split
    · show w.length + 1 + tot _ ≤ w.length + 1 + tot r
      omega
    · show tot _ ≤ w.length + 1 + tot r
      omega
theorem rs_len (w : List Nat) : (rsS w).length ≤ w.length := by
  obtain ⟨y, e⟩ := rs_pre w
  have := congrArg List.length e
  rw [List.length_append] at this
  omega
theorem tot_rs (ws : List (List Nat)) : tot (ws.map rsS) ≤ tot ws := by
  induction ws with
  | nil => exact Nat.le_refl _
  | cons w r ih =>
    have := rs_len w
    show (rsS w).length + 1 + tot _ ≤ w.length + 1 + tot r
    omega
theorem hdN_join {c : Nat} (hc : c ≠ 32) {w : List Nat} {r : List (List Nat)} (h : hdN w) : hdN (TL.joinL [c] (w :: r)) := by
  intro s e
  cases r with
  | nil => exact h s e
  | cons v r =>
    have e2 : w ++ ([c] ++ TL.joinL [c] (v :: r)) = 32 :: s := e
    cases w with
    | nil =>
      injection e2 with e3 e4
      exact hc e3
    | cons a w =>
      injection e2 with e3 e4
      exact h w (by rw [e3])
theorem snoc_app {x y r : List Nat} (hy : y ≠ []) (e : x ++ y = r ++ [32]) : ∃ z, y = z ++ [32] := by
  have e2 : y.reverse ++ x.reverse = 32 :: r.reverse := by
    rw [← List.reverse_append, e, List.reverse_append]
    rfl
  cases hr : y.reverse with
  | nil => exact absurd (List.reverse_eq_nil_iff.mp hr) hy
  | cons a s =>
    rw [hr] at e2
    injection e2 with e3 e4
    refine ⟨s.reverse, ?_⟩
    rw [← List.reverse_reverse y, hr, List.reverse_cons, e3]
theorem ltN_join {c : Nat} (hc : c ≠ 32) : ∀ {ws : List (List Nat)}, (∀ w ∈ ws, ltN w) → ltN (TL.joinL [c] ws)
  | [], _, r, e => by cases r <;> cases e
  | [w], h, r, e => h w (List.mem_singleton.mpr rfl) r e
  | w :: v :: q, h, r, e => by
    have ih := ltN_join hc (ws := v :: q) fun u hu => h u (List.mem_cons_of_mem _ hu)
    have e2 : w ++ ([c] ++ TL.joinL [c] (v :: q)) = r ++ [32] := e
    by_cases hj : TL.joinL [c] (v :: q) = []
    · rw [hj] at e2
      obtain ⟨z, ez⟩ := snoc_app (x := w) (y := [c] ++ []) (by simp) e2
      cases z with
      | nil =>
        injection ez with e3 e4
        exact hc e3
      | cons a z =>
        injection ez with e3 e4
        cases z <;> cases e4
    · obtain ⟨z, ez⟩ := snoc_app (x := w ++ [c]) hj (by rw [List.append_assoc]; exact e2)
      exact ih z ez
/-- words, none empty, joined by blanks -/
theorem join_words {ws : List (List Nat)} (h : ∀ w ∈ ws, w ≠ [] ∧ (32 : Nat) ∉ w) : hdN (TL.joinL [32] ws) ∧ ltN (TL.joinL [32] ws) ∧ (ws ≠ [] → TL.joinL [32] ws ≠ []) := by
  induction ws with
  | nil => exact ⟨fun r e => (by cases e), fun r e => (by cases r <;> cases e), fun z => absurd rfl z⟩
  | cons w r ih =>
    obtain ⟨i1, i2, i3⟩ := ih fun u hu => h u (List.mem_cons_of_mem _ hu)
    obtain ⟨w1, w2⟩ := h w List.mem_cons_self
    have hw : hdN w := fun s e => w2 (by rw [e]; exact List.mem_cons_self)
    have lw : ltN w := fun s e => w2 (by rw [e]; simp)
    cases r with
    | nil => exact ⟨hw, lw, fun _ => w1⟩
    | cons v q =>
      refine ⟨fun s e => ?_, fun s e => ?_, fun _ e => ?_⟩
      · have e2 : w ++ ([32] ++ TL.joinL [32] (v :: q)) = 32 :: s := e
        cases w with
        | nil => exact w1 rfl
        | cons a w =>
          injection e2 with e3 e4
          exact hw w (by rw [e3])
      · have e2 : w ++ ([32] ++ TL.joinL [32] (v :: q)) = s ++ [32] := e
        obtain ⟨z, ez⟩ := snoc_app (x := w ++ [32]) (i3 (by simp)) (by rw [List.append_assoc]; exact e2)
        exact i2 z ez
      · have e2 : w ++ ([32] ++ TL.joinL [32] (v :: q)) = [] := e
        simp at e2
end K01

-- text K01tb
set_option Elab.async false
set_option linter.all false
set_option maxRecDepth 100000
set_option maxHeartbeats 0
namespace K01
open PySem FS
def kText : List Nat := [116, 101, 120, 116]
def kLines : List Nat := [108, 105, 110, 101, 115]
def neB (w : List Nat) : Bool := !decide (w = [])
def words (x : List Nat) : List (List Nat) := (TL.spl [32] 0 [] x).filter neB
def textDue (x : List Nat) : Option (List Nat) := if within [10] x then none else some (TL.joinL [32] (words x))
def linesDue (x : List Nat) : List Nat := TL.joinL [10] ((TL.spl [10] 0 [] x).map rsS)
theorem within_mem {c : Nat} : ∀ {x : List Nat}, within [c] x = true ↔ c ∈ x
  | [] => by
    show ([c] : List Nat).isEmpty = true ↔ _
    simp
  | a :: r => by
    have q : within [c] (a :: r) = ((Nat.beq c a && true) || within [c] r) := rfl
    rw [q, Bool.and_true, Bool.or_eq_true, within_mem (x := r), List.mem_cons]
    constructor
    · rintro (z | z)
      · exact .inl (Nat.eq_of_beq_eq_true z)
      · exact .inr z
    · rintro (z | z)
      · rw [z]
        exact .inl (Nat.beq_refl _)
      · exact .inr z
theorem mapW_opt {α : Type} {emb : α → FS.D} {f : FS.D → MH → FS.R (Option FS.D)} {g : α → Option FS.D} {h : MH} : ∀ {ws : List α}, (∀ w ∈ ws, f (emb w) h = .ok (g w) h) → mapW f (ws.map emb) h = .ok (ws.filterMap g) h
  | [], _ => rfl
  | w :: r, hf => by
    have ih := mapW_opt (emb := emb) (ws := r) fun v hv => hf v (List.mem_cons_of_mem _ hv)
    have e := hf w List.mem_cons_self
    show (f (emb w) h).bind (fun o h1 => (mapW f (r.map emb) h1).bind fun ys h2 => .ok (match o with
      | some y => y :: ys
      | none => ys) h2) = _
    rw [e]
    simp only [R.bind, ih]
    rw [List.filterMap_cons]
    cases g w <;> rfl
section
variable {cf : CF} {o : List Fr} {fr : Fr} {h : MH}
theorem asg_lc {v : Nat} (hv : v < fr.length) (x : FS.D) : ∃ F, asg (.nm v) x (wipeF fr [v]) = some F ∧ (∀ j, v ≠ j → FS.get F j = FS.get fr j) ∧ FS.get F v = some x := by
  have hl : (wipeF fr [v]).length = fr.length := by
    show (fr.set v none).length = _
    rw [List.length_set]
  refine ⟨put (wipeF fr [v]) v x, ?_, fun j hj => ?_, ?_⟩
  · unfold asg
    rw [if_pos (by omega)]
  · unfold FS.get put
    rw [List.getElem?_set_ne hj]
    show (match (fr.set v none)[j]? with
      | some (some d) => some d
      | _ => none) = _
    (rw [List.getElem?_set_ne hj]) <;> rfl
  · unfold FS.get put
    rw [List.getElem?_set_self (by omega)]
theorem ev_lc {α : Type} {emb : α → FS.D} {v : Nat} (hv : v < fr.length) {it : C.XEs} {ifs : C.XB} {e : C.XE} {ws : List α} {b : α → Bool} {g : α → FS.D} (hi : it cf o fr h = .ok (ws.map emb) h) (hl : ws.length ≤ line)
    (hs : ∀ w ∈ ws, ∀ F, (∀ j, v ≠ j → FS.get F j = FS.get fr j) ∧ FS.get F v = some (emb w) → ifs cf ([] :: o) F h = .ok (b w) h ∧ (b w = true → e cf ([] :: o) F h = .ok (g w) h)) :
    C.lc [v] (.nm v) it ifs e cf o fr h = .ok (.lst ((ws.filter b).map g)) h := by
  unfold C.lc
  rw [hi]
  simp only [R.bind]
  rw [if_pos (Nat.ble_eq_true_of_le (by rw [List.length_map]; exact hl))]
  have e1 : ws.filterMap (fun w => if b w = true then some (g w) else none) = (ws.filter b).map g := by
    clear hi hl hs
    induction ws with
    | nil => rfl
    | cons w r ih =>
      rw [List.filterMap_cons, List.filter_cons]
      cases b w with
      | true =>
        simp only [if_true, List.map_cons]
        rw [ih]
      | false => exact ih
  rw [← e1, mapW_opt (emb := emb) (g := fun w => if b w = true then some (g w) else none)]
  intro w hw
  obtain ⟨F, a1, a2⟩ := asg_lc hv (emb w)
  obtain ⟨s1, s2⟩ := hs w hw F a2
  simp only [a1, s1, R.noX]
  cases hb : b w with
  | true =>
    simp only [s2 hb, R.noX]
    rfl
  | false => rfl
theorem v_of {F : Fr} {v : Nat} {x : FS.D} (e : FS.get F v = some x) : C.var v cf o F h = .ok x h := by
  unfold C.var
  rw [e]
  rfl
/-- [word for word in body.split(" ") if word != ""] -/
theorem lc_words {v : Nat} (hv : v < fr.length) {b : C.XE} {x : List Nat} (hx : x.length ≤ 1000) (hb : b cf o fr h = .ok (.str x) h) :
    C.lc [v] (.nm v) (C.ie (C.me .split b (C.cons (C.k (.str [32])) C.nil))) (C.tcons true (C.tcmp .ne (C.var v) (C.k (.str []))) (C.tnil true)) (C.var v) cf o fr h = .ok (.lst ((words x).map .str)) h := by
  refine ev_lc hv (ws := TL.spl [32] 0 [] x) (emb := .str) (b := neB) (g := .str) ?_ ?_ fun w hw F hF => ⟨?_, fun _ => v_of hF.2⟩
  · unfold C.ie
    rw [ev_me hb (xs := [.str [32]]) (h2 := h) rfl (split_str (by decide) hx h)]
    rfl
  · have := spl_tot (c := 32) x []
    have := tot_lenS (TL.spl [32] 0 [] x)
    have : (1001 : Nat) ≤ line := by decide
    simp only [List.length_nil] at *
    omega
  · have t := tc_and (ev_cmpT (op := .ne) (cf := cf) (o := [] :: o) (fr := F) (h := h) (h1 := h) (h2 := h) (a := C.var v) (b := C.k (.str [])) (v_of hF.2) rfl (cmp_ne w [] h)) (rfl : C.tnil true cf ([] :: o) F h = .ok true h)
    rw [Bool.and_true] at t
    exact t
theorem rstrip_str {x : List Nat} (hl : x.length ≤ 1001) (h : MH) : meV .rstrip (.str x) [.str [32]] h = .ok (.str (rsS x)) h := by
  have q : meV .rstrip (.str x) [.str [32]] h = (if Nat.ble x.length line = true then R.ok (FS.D.str (rsS x)) h else .stk) := rfl
  rw [q, if_pos (Nat.ble_eq_true_of_le (Nat.le_trans hl (by decide)))]
theorem mem_tot {w : List Nat} {ws : List (List Nat)} (h : w ∈ ws) : w.length + 1 ≤ tot ws := by
  induction ws with
  | nil => cases h
  | cons v r ih =>
    rcases List.mem_cons.mp h with h | h
    · rw [h]
      exact Nat.le_add_right _ _
    · have := ih h
      show _ ≤ v.length + 1 + tot r
      omega
theorem len_tot (ws : List (List Nat)) : ws.length ≤ tot ws := by
  have := tot_lenS ws
  omega
/-- [line.rstrip(" ") for line in body.split("\n")] -/
theorem lc_lines {v : Nat} (hv : v < fr.length) {b : C.XE} {x : List Nat} (hx : x.length ≤ 1000) (hb : b cf o fr h = .ok (.str x) h) :
    C.lc [v] (.nm v) (C.ie (C.me .split b (C.cons (C.k (.str [10])) C.nil))) (C.tnil true) (C.me .rstrip (C.var v) (C.cons (C.k (.str [32])) C.nil)) cf o fr h = .ok (.lst (((TL.spl [10] 0 [] x).map rsS).map .str)) h := by
  have ht := spl_tot (c := 10) x []
  rw [List.length_nil, Nat.zero_add] at ht
  have e := ev_lc (cf := cf) (o := o) (h := h) hv (ws := TL.spl [10] 0 [] x) (emb := .str) (b := fun _ => true) (g := fun w => .str (rsS w)) (it := C.ie (C.me .split b (C.cons (C.k (.str [10])) C.nil))) (ifs := C.tnil true) (e := C.me .rstrip (C.var v) (C.cons (C.k (.str [32])) C.nil)) ?_ ?_ fun w hw F hF => ⟨rfl, fun _ => ?_⟩
  · rw [e, List.map_map, List.filter_eq_self.mpr fun _ _ => rfl]
    rfl
  · unfold C.ie
    rw [ev_me hb (xs := [.str [10]]) (h2 := h) rfl (split_str (by decide) hx h)]
    rfl
  · have := len_tot (TL.spl [10] 0 [] x)
    have : (1001 : Nat) ≤ line := by decide
    omega
  · have := mem_tot hw
    exact ev_me (v_of hF.2) (h2 := h) (xs := [.str [32]]) rfl (rstrip_str (by omega) h)
theorem strsOf_map (ws : List (List Nat)) : strsOf (ws.map .str) = some ws := by
  induction ws with
  | nil => rfl
  | cons w r ih =>
    show (match strsOf (r.map .str) with
      | some l => some (w :: l)
      | none => none) = _
    rw [ih]
theorem join_str {c : Nat} {ws : List (List Nat)} (hl : tot ws ≤ 2000) (h : MH) : meV .join (.str [c]) [.lst (ws.map .str)] h = .ok (.str (TL.joinL [c] ws)) h := by
  have q : meV .join (.str [c]) [.lst (ws.map .str)] h = (match strsOf (ws.map .str) with
      | some l => if Nat.ble (lenS l + l.length * 1) line = true then R.ok (FS.D.str (TL.joinL [c] l)) h else .stk
      | none => .stk) := rfl
  rw [q, strsOf_map]
  have := tot_lenS ws
  have : (2000 : Nat) ≤ line := by decide
  simp only
  rw [if_pos (Nat.ble_eq_true_of_le (by omega))]
end
theorem words_tot (x : List Nat) : tot (words x) ≤ x.length + 1 := by
  have := tot_filter neB (TL.spl [32] 0 [] x)
  have := spl_tot (c := 32) x []
  unfold words
  simp only [List.length_nil] at *
  omega
theorem lines_tot (x : List Nat) : tot ((TL.spl [10] 0 [] x).map rsS) ≤ x.length + 1 := by
  have := tot_rs (TL.spl [10] 0 [] x)
  have := spl_tot (c := 10) x []
  simp only [List.length_nil] at *
  omega
theorem in_nl (x : List Nat) (h : MH) : cmpV .isin (.str [10]) (.str x) h = some (within [10] x) := rfl
theorem strip_sub (x : List Nat) : (stripS x).Sublist x := by
  obtain ⟨y, e⟩ := rs_pre (x.dropWhile bl)
  have a : (stripS x).Sublist (x.dropWhile bl) := by
    conv =>
      rhs
      rw [e]
    exact List.sublist_append_left _ _
  exact a.trans (List.dropWhile_suffix bl).sublist
/-- the arms of texts, lines -/
theorem rd_start {kind T : List Nat} (hk : kind = kText ∨ kind = kLines) (hl : T.length ≤ 400) {k : Nat} {o : List Fr} {h : MH} : C.tcons false (C.tcmp .notin (C.var 0) (C.glb pg 0)) (C.tcons false (C.tcmp .gt (C.bi .len (C.cons (C.var 1) C.nil)) (C.glb pg 1)) (C.tnil false)) (callC ct k) o [some (.str kind), some (.str T), none, none, none] h = .ok false h := by
  have c1 : cmpV .notin (.str kind) kindsD h = some false := by
    rcases hk with rfl | rfl <;> rfl
  have c2 : cmpV .gt (.int (T.length : Int)) (.int 400) h = some false := by
    show some (decide ((400 : Int) < (T.length : Int))) = _
    rw [decide_eq_false (by omega)]
  exact tc_or (x := false) (ev_cmpT (op := .notin) (x := .str kind) (y := kindsD) (h1 := h) rfl rfl c1) (tc_or (x := false) (y := false) (ev_cmpT (op := .gt) (x := .int (T.length : Int)) (y := .int 400) (h1 := h) (ev_bi (xs := [.str T]) (h1 := h) rfl (len_str (by omega) h)) rfl c2) rfl)
theorem rd_text (T : List Nat) (hl : T.length ≤ 400) (k : Nat) (o : List Fr) (h : MH) : callC ct (k + 1) (.fn 0) o [.str kText, .str T] h = RdR (if stripS T = [] then some [] else textDue (stripS T)) h := by
  have hsl : (stripS T).length ≤ 400 := Nat.le_trans (strip_sub T).length_le hl
  have s2 : C.set (.nm 2) (C.me .strip (C.var 1) (C.cons (C.k (.str [32])) C.nil)) (callC ct k) o [some (.str kText), some (.str T), none, none, none] h = .nx [some (.str kText), some (.str T), some (.str (stripS T)), none, none] h := st_set (ev_me (s := T) (h1 := h) rfl rfl (strip_str (by omega) h)) rfl
  have t3 : C.tcmp .eq (C.var 2) (C.k (.str [])) (callC ct k) o [some (.str kText), some (.str T), some (.str (stripS T)), none, none] h = .ok (decide (stripS T = [])) h := ev_cmpT (x := .str (stripS T)) (h1 := h) rfl rfl (cmp_str _ _ h)
  by_cases hs : stripS T = []
  · rw [decide_eq_true hs] at t3
    rw [if_pos hs]
    refine fn_ret (F := f_read_answer) rfl rfl rfl rfl (v := .str []) ?_
    show c_read_answer (callC ct k) o [some (.str kText), some (.str T), none, none, none] h = _
    unfold c_read_answer
    rw [st_no (rd_start (.inl rfl) hl) rfl, st_nx s2]
    exact st_yes t3 rfl
  · rw [decide_eq_false hs] at t3
    rw [if_neg hs]
    generalize stripS T = B at hsl s2 t3
    have t4 : C.tcmp .isin (C.k (.str [10])) (C.var 2) (callC ct k) o [some (.str kText), some (.str T), some (.str B), none, none] h = .ok (within [10] B) h := ev_cmpT (x := .str [10]) (y := .str B) (h1 := h) rfl rfl (in_nl _ h)
    unfold textDue
    cases hw : within [10] B with
    | true =>
      rw [hw] at t4
      rw [if_pos rfl]
      refine fn_exc (F := f_read_answer) rfl rfl rfl (n := 1) (fr1 := [some (.str kText), some (.str T), some (.str B), none, none]) ?_
      show c_read_answer (callC ct k) o [some (.str kText), some (.str T), none, none, none] h = _
      unfold c_read_answer
      rw [st_no (rd_start (.inl rfl) hl) rfl, st_nx s2, st_no t3 rfl]
      exact st_rai (h1 := h) rfl (st_rai t4 rfl)
    | false =>
      rw [hw] at t4
      rw [if_neg (by decide)]
      refine fn_ret (F := f_read_answer) rfl rfl rfl rfl (v := .str (TL.joinL [32] (words B))) ?_
      show c_read_answer (callC ct k) o [some (.str kText), some (.str T), none, none, none] h = _
      unfold c_read_answer
      rw [st_no (rd_start (.inl rfl) hl) rfl, st_nx s2, st_no t3 rfl]
      refine st_yes (h1 := h) rfl ?_
      rw [st_no t4 rfl]
      refine st_ret (st_retE (ev_me (s := [32]) (h1 := h) rfl (ev_cons (lc_words (show 3 < 5 by decide) (x := B) (by omega) rfl) rfl) (join_str ?_ h)))
      have := words_tot B
      omega
theorem rd_lines (T : List Nat) (hl : T.length ≤ 400) (k : Nat) (o : List Fr) (h : MH) : callC ct (k + 1) (.fn 0) o [.str kLines, .str T] h = RdR (if stripS T = [] then some [] else some (linesDue (stripS T))) h := by
  have hsl : (stripS T).length ≤ 400 := Nat.le_trans (strip_sub T).length_le hl
  have s2 : C.set (.nm 2) (C.me .strip (C.var 1) (C.cons (C.k (.str [32])) C.nil)) (callC ct k) o [some (.str kLines), some (.str T), none, none, none] h = .nx [some (.str kLines), some (.str T), some (.str (stripS T)), none, none] h := st_set (ev_me (s := T) (h1 := h) rfl rfl (strip_str (by omega) h)) rfl
  have t3 : C.tcmp .eq (C.var 2) (C.k (.str [])) (callC ct k) o [some (.str kLines), some (.str T), some (.str (stripS T)), none, none] h = .ok (decide (stripS T = [])) h := ev_cmpT (x := .str (stripS T)) (h1 := h) rfl rfl (cmp_str _ _ h)
  by_cases hs : stripS T = []
  · rw [decide_eq_true hs] at t3
    rw [if_pos hs]
    refine fn_ret (F := f_read_answer) rfl rfl rfl rfl (v := .str []) ?_
    show c_read_answer (callC ct k) o [some (.str kLines), some (.str T), none, none, none] h = _
    unfold c_read_answer
    rw [st_no (rd_start (.inr rfl) hl) rfl, st_nx s2]
    exact st_yes t3 rfl
  · rw [decide_eq_false hs] at t3
    rw [if_neg hs]
    generalize stripS T = B at hsl s2 t3
    unfold linesDue
    refine fn_ret (F := f_read_answer) rfl rfl rfl rfl (v := .str (TL.joinL [10] ((TL.spl [10] 0 [] B).map rsS))) ?_
    show c_read_answer (callC ct k) o [some (.str kLines), some (.str T), none, none, none] h = _
    unfold c_read_answer
    rw [st_no (rd_start (.inr rfl) hl) rfl, st_nx s2, st_no t3 rfl]
    refine (st_no (h1 := h) rfl rfl).trans (st_yes (h1 := h) rfl ?_)
    refine st_ret (st_retE (ev_me (s := [10]) (h1 := h) rfl (ev_cons (lc_lines (show 4 < 5 by decide) (x := B) (by omega) rfl) rfl) (join_str ?_ h)))
    have := lines_tot B
    omega
theorem ascii_of {x y : List Nat} (hx : ascii x = true) (h : ∀ a ∈ y, a ∈ x ∨ a < 128) : ascii y = true := by
  refine List.all_eq_true.mpr fun a ha => ?_
  rcases h a ha with z | z
  · exact List.all_eq_true.mp hx a z
  · exact Nat.ble_eq_true_of_le z
theorem row_text {T : List Nat} (hl : T.length ≤ 300) (ha : ascii T = true) : RowOk kText T (textDue (stripS T)) := by
  have hsl := (strip_sub T).length_le
  refine ⟨by omega, fun r q hr hq k hk o h => ?_, fun k hk o h => ?_, fun s e => ?_, fun z => absurd z (by decide)⟩
  · obtain ⟨j, rfl⟩ : ∃ j, k = j + 1 := ⟨k - 1, by omega⟩
    rw [rd_text _ (by
      rw [List.length_append, List.length_append]
      unfold padS
      rw [List.length_replicate, List.length_replicate]
      omega), strip_pad]
    rfl
  · obtain ⟨j, rfl⟩ : ∃ j, k = j + 1 := ⟨k - 1, by omega⟩
    rw [rd_text _ (by decide)]
    rfl
  · unfold due2 at e
    by_cases hs : stripS T = []
    · rw [if_pos hs] at e
      cases e
      refine ⟨fun k hk o h => ?_, rfl, by decide⟩
      obtain ⟨j, rfl⟩ : ∃ j, k = j + 1 := ⟨k - 1, by omega⟩
      rw [rd_text _ (by decide)]
      rfl
    · rw [if_neg hs] at e
      unfold textDue at e
      split at e
      · cases e
      · rename_i hw
        cases e
        have hws : ∀ w ∈ words (stripS T), w ≠ [] ∧ (32 : Nat) ∉ w := fun w hw => by
          unfold words at hw
          obtain ⟨m, n⟩ := List.mem_filter.mp hw
          refine ⟨?_, (spl_in (by simp) m).1⟩
          unfold neB at n
          simpa using n
        obtain ⟨j1, j2, j3⟩ := join_words hws
        have jm : ∀ a ∈ TL.joinL [32] (words (stripS T)), a = 32 ∨ a ∈ stripS T := fun a ha => by
          rcases join_mem ha with z | ⟨w, hw, z⟩
          · exact .inl z
          · unfold words at hw
            rcases (spl_in (by simp) (List.mem_filter.mp hw).1).2 a z with z | z
            · cases z
            · exact .inr z
        have jl : (TL.joinL [32] (words (stripS T))).length ≤ 400 := by
          have := join_len 32 (words (stripS T))
          have := words_tot (stripS T)
          omega
        refine ⟨fun k hk o h => ?_, ascii_of ha fun a ha => ?_, jl⟩
        · obtain ⟨j, rfl⟩ : ∃ j, k = j + 1 := ⟨k - 1, by omega⟩
          rw [rd_text _ jl, strip_id j1 j2]
          by_cases hj : TL.joinL [32] (words (stripS T)) = []
          · rw [if_pos hj, hj]
          · rw [if_neg hj]
            have hne : words (stripS T) ≠ [] := fun z => hj (by rw [z]; rfl)
            have w0 : ¬ within [10] (TL.joinL [32] (words (stripS T))) = true := fun z => by
              rcases jm 10 (within_mem.mp z) with y | y
              · cases y
              · exact hw (within_mem.mpr y)
            unfold textDue
            rw [if_neg w0]
            have e1 : words (TL.joinL [32] (words (stripS T))) = words (stripS T) := by
              show (TL.spl [32] 0 [] (TL.joinL [32] (words (stripS T)))).filter neB = _
              rw [TL.spl_join hne fun w hw => (hws w hw).2]
              refine List.filter_eq_self.mpr fun w hw => ?_
              unfold neB
              simpa using (hws w hw).1
            rw [e1]
        · rcases jm a ha with z | z
          · exact .inr (by omega)
          · exact .inl ((strip_sub T).mem z)
theorem row_lines {T : List Nat} (hl : T.length ≤ 300) (ha : ascii T = true) : RowOk kLines T (some (linesDue (stripS T))) := by
  have hsl := (strip_sub T).length_le
  refine ⟨by omega, fun r q hr hq k hk o h => ?_, fun k hk o h => ?_, fun s e => ?_, fun z => absurd z (by decide)⟩
  · obtain ⟨j, rfl⟩ : ∃ j, k = j + 1 := ⟨k - 1, by omega⟩
    rw [rd_lines _ (by
      rw [List.length_append, List.length_append]
      unfold padS
      rw [List.length_replicate, List.length_replicate]
      omega), strip_pad]
    rfl
  · obtain ⟨j, rfl⟩ : ∃ j, k = j + 1 := ⟨k - 1, by omega⟩
    rw [rd_lines _ (by decide)]
    rfl
  · unfold due2 at e
    by_cases hs : stripS T = []
    · rw [if_pos hs] at e
      cases e
      refine ⟨fun k hk o h => ?_, rfl, by decide⟩
      obtain ⟨j, rfl⟩ : ∃ j, k = j + 1 := ⟨k - 1, by omega⟩
      rw [rd_lines _ (by decide)]
      rfl
    · rw [if_neg hs] at e
      cases e
      have hh := strip_hdN T
      generalize hB : stripS T = B at hh hs hsl
      have hps : ∀ w ∈ (TL.spl [10] 0 [] B).map rsS, ltN w ∧ (10 : Nat) ∉ w ∧ ∀ a ∈ w, a ∈ B := fun w hw => by
        obtain ⟨v, hv, rfl⟩ := List.mem_map.mp hw
        obtain ⟨y, ey⟩ := rs_pre v
        obtain ⟨n1, n2⟩ := spl_in (by simp) hv
        have mv : ∀ a ∈ rsS v, a ∈ v := fun a ha => by
          rw [ey]
          exact List.mem_append_left _ ha
        refine ⟨rs_ltN v, fun z => n1 (mv _ z), fun a ha => ?_⟩
        rcases n2 a (mv a ha) with z | z
        · cases z
        · exact z
      have lt := ltN_join (c := 10) (by decide) fun w hw => (hps w hw).1
      have hd : hdN (linesDue B) := by
        obtain ⟨p, r, y, e1, e2⟩ := spl_head (c := 10) B []
        unfold linesDue
        rw [e1, List.map_cons, List.nil_append]
        refine hdN_join (by decide) ?_
        rw [e2] at hh
        have hp := hdN_pre hh
        obtain ⟨z, ez⟩ := rs_pre p
        rw [ez] at hp
        exact hdN_pre hp
      have lt2 : ltN (linesDue B) := lt
      have jl : (linesDue B).length ≤ 400 := by
        have := join_len 10 ((TL.spl [10] 0 [] B).map rsS)
        have := lines_tot B
        unfold linesDue
        omega
      have hne : (TL.spl [10] 0 [] B).map rsS ≠ [] := fun z => spl_ne B [] (List.map_eq_nil_iff.mp z)
      have fix : linesDue (linesDue B) = linesDue B := by
        have e1 : TL.spl [10] 0 [] (linesDue B) = (TL.spl [10] 0 [] B).map rsS := TL.spl_join hne fun w hw => (hps w hw).2.1
        show TL.joinL [10] ((TL.spl [10] 0 [] (linesDue B)).map rsS) = _
        rw [e1, List.map_map]
        unfold linesDue
        congr 1
        refine List.map_congr_left fun w hw => ?_
        exact rs_id (rs_ltN w)
      refine ⟨fun k hk o h => ?_, ascii_of ha fun a ha => ?_, jl⟩
      · obtain ⟨j, rfl⟩ : ∃ j, k = j + 1 := ⟨k - 1, by omega⟩
        rw [rd_lines _ jl, strip_id hd lt2, fix]
        by_cases hj : linesDue B = []
        · rw [if_pos hj, hj]
        · rw [if_neg hj]
      · rcases join_mem ha with z | ⟨w, hw, z⟩
        · exact .inr (by omega)
        · refine .inl ((strip_sub T).mem ?_)
          rw [hB]
          exact (hps w hw).2.2 a z
end K01

-- text K01tc
set_option Elab.async false
set_option linter.all false
set_option maxRecDepth 100000
set_option maxHeartbeats 0
namespace K01
open PySem FS
def halfs : List (List Nat) := [[], [97, 109], [80, 77], [32, 112, 109]]
def halfN (half : List Nat) : List Nat := stripS (lowS half)
def timeTxt (p bare : Bool) (h m : Nat) (half : List Nat) : List Nat := wrt p h ++ (if bare then [] else 58 :: wrt true m) ++ half
def tB (p bare : Bool) (h m : Nat) (half : List Nat) : Bool := let T := timeTxt p bare h m half
  let B := bodyOf (lowS T) (halfN half)
  ascii T && Nat.ble T.length 100 && decide (halfOf (lowS T) = halfN half) && Nat.ble B.length 100 && decide (partOf 58 B = (wrt p h, (if bare then [] else [58]), (if bare then [] else wrt true m))) && decide (stripS T = T) && !T.isEmpty
theorem tt1 : ((List.range 26).all fun h => (List.range 62).all fun m => halfs.all fun half => tB false false h m half) = true := by decide +kernel
theorem tt2 : ((List.range 26).all fun h => halfs.all fun half => half.isEmpty || tB false true h 0 half) = true := by decide +kernel
theorem tt3 : ((List.range 24).all fun h => (List.range 60).all fun m => tB true false h m []) = true := by decide +kernel
def figB2 (x : List Nat) (n : Nat) : Bool := figB x n && (match callC ct 8 (.fn 2) [] [.str x, .int 2] [] with
  | .ok (.bl true) [] => true
  | _ => false)
theorem figs2 : ([true, false].all fun p => (List.range 62).all fun n => figB2 (wrt p n) n && Nat.ble (wrt p n).length 2) = true := by decide +kernel
theorem figs3 : ((List.range 62).all fun n => Nat.beq (wrt true n).length 2 && decide (two n = wrt true n) && decide (cut (48 :: intL (n : Int)) (some (-2)) none = wrt true n)) = true := by decide +kernel
theorem fig_at (p : Bool) {n : Nat} (hn : n < 62) : Fig (wrt p n) n ∧ callC ct 8 (.fn 2) [] [.str (wrt p n), .int 2] [] = .ok (.bl true) [] ∧ (wrt p n).length ≤ 2 := by
  have hp : p ∈ [true, false] := by cases p <;> simp
  have a := List.all_eq_true.mp (List.all_eq_true.mp figs2 p hp) n (List.mem_range.mpr hn)
  rw [Bool.and_eq_true] at a
  have a1 := a.1
  unfold figB2 at a1
  rw [Bool.and_eq_true] at a1
  refine ⟨figB_ok a1.1, ?_, Nat.le_of_ble_eq_true a.2⟩
  have b := a1.2
  split at b
  · assumption
  · cases b
theorem fig_two {n : Nat} (hn : n < 62) : (wrt true n).length = 2 ∧ two n = wrt true n ∧ cut (48 :: intL (n : Int)) (some (-2)) none = wrt true n := by
  have a := List.all_eq_true.mp figs3 n (List.mem_range.mpr hn)
  simp only [Bool.and_eq_true, decide_eq_true_eq] at a
  exact ⟨Nat.eq_of_beq_eq_true a.1.1, a.1.2, a.2⟩
theorem tB_in {p bare : Bool} {h m : Nat} {half : List Nat} (b : tB p bare h m half = true) (hh : h < 62) (hm : m < 62) (hb : bare = true → halfN half ≠ [] ∧ m = 0) : TimeIn (timeTxt p bare h m half) (halfN half) (wrt p h) (if bare then [] else [58]) (if bare then [] else wrt true m) h m := by
  unfold tB at b
  simp only [Bool.and_eq_true, decide_eq_true_eq] at b
  obtain ⟨⟨⟨⟨⟨⟨b1, b2⟩, b3⟩, b4⟩, b5⟩, b6⟩, b7⟩ := b
  obtain ⟨f1, f2, f3⟩ := fig_at p hh
  obtain ⟨g1, g2, g3⟩ := fig_at true hm
  have l2 := (fig_two hm).1
  refine ⟨b1, Nat.le_of_ble_eq_true b2, b3, Nat.le_of_ble_eq_true b4, b5, ?_, f2, f1.int, ?_⟩
  · split
    · exact Nat.zero_le _
    · omega
  · cases bare with
    | true => exact .inr ⟨rfl, hb rfl⟩
    | false => exact .inl ⟨rfl, l2, g2, g1.int⟩
theorem tB_str {p bare : Bool} {h m : Nat} {half : List Nat} (b : tB p bare h m half = true) : ascii (timeTxt p bare h m half) = true ∧ (timeTxt p bare h m half).length ≤ 100 ∧ stripS (timeTxt p bare h m half) = timeTxt p bare h m half ∧ timeTxt p bare h m half ≠ [] := by
  unfold tB at b
  simp only [Bool.and_eq_true, decide_eq_true_eq] at b
  obtain ⟨⟨⟨⟨⟨⟨b1, b2⟩, b3⟩, b4⟩, b5⟩, b6⟩, b7⟩ := b
  refine ⟨b1, Nat.le_of_ble_eq_true b2, b6, fun e => ?_⟩
  rw [e] at b7
  cases b7
def hourN (half : List Nat) (hi : Nat) : Nat := if half = [] then hi else hi % 12 + (if half = tPm then 12 else 0)
theorem hour_eq (half : List Nat) (hi : Nat) : timeHour half hi = (hourN half hi : Int) := by
  unfold timeHour hourN
  split
  · rfl
  · split <;> omega
/-- how a time is told -/
def timeDue (half : List Nat) (hi mi : Nat) : Option (List Nat) := if timeBad half hi mi then none else some (timeTxt true false (hourN half hi) mi [])
theorem good_lt {half : List Nat} {hi mi : Nat} (h : timeBad half hi mi = false) : hourN half hi < 24 ∧ mi < 60 := by
  unfold timeBad at h
  simp only [Bool.or_eq_false_iff, Bool.and_eq_false_iff, Bool.not_eq_false', decide_eq_false_iff_not, decide_eq_true_eq, Bool.or_false, Bool.and_eq_true] at h
  obtain ⟨h1, h2, h3⟩ := h
  unfold hourN
  refine ⟨?_, by omega⟩
  by_cases e : half = []
  · rw [if_pos e]
    rcases h3 with h3 | h3
    · exact absurd e h3
    · omega
  · rw [if_neg e]
    split <;> omega
theorem sp_time {T half head colon tail : List Nat} {hi mi : Nat} (I : TimeIn T half head colon tail hi mi) : Sp kTime T (timeDue half hi mi) := by
  have w := fun o h => time_walk I (k := 8) (by omega) o h
  unfold timeR at w
  unfold Sp timeDue
  cases hb : timeBad half hi mi with
  | true =>
    simp only [hb, if_true] at w ⊢
    refine fn_exc (F := f_read_special) rfl rfl rfl (n := 1) (fr1 := [some (.str kTime), some (.str T), none, none, none, none, none, none]) ?_
    show c_read_special (callC ct 9) [] [some (.str kTime), some (.str T), none, none, none, none, none, none] [] = _
    unfold c_read_special
    refine (st_no (h1 := []) rfl rfl).trans ((st_no (h1 := []) rfl rfl).trans ((st_no (h1 := []) rfl rfl).trans (st_rai (h1 := []) rfl ?_)))
    have q : C.set (.tup [(.nm 5), (.nm 6)]) (C.call 10 (C.cons (C.var 1) C.nil)) (callC ct 9) [] [some (.str kTime), some (.str T), none, none, none, none, none, none] [] = .exc 1 [some (.str kTime), some (.str T), none, none, none, none, none, none] [] := by
      unfold C.set
      rw [ev_call (xs := [.str T]) (h1 := []) rfl (w _ _)]
      rfl
    unfold C.scons
    rw [q]
  | false =>
    simp only [hb] at w ⊢
    obtain ⟨g1, g2⟩ := good_lt hb
    rw [hour_eq] at w
    refine fn_ret (F := f_read_special) rfl rfl rfl rfl (v := .str (timeTxt true false (hourN half hi) mi [])) ?_
    show c_read_special (callC ct 9) [] [some (.str kTime), some (.str T), none, none, none, none, none, none] [] = _
    unfold c_read_special
    refine (st_no (h1 := []) rfl rfl).trans ((st_no (h1 := []) rfl rfl).trans ((st_no (h1 := []) rfl rfl).trans (st_yes (h1 := []) rfl ?_)))
    refine (st_nx (st_set (ev_call (xs := [.str T]) (h1 := []) rfl (w _ _)) rfl)).trans ?_
    refine st_ret (st_retE ?_)
    have ts : ∀ s : List Nat, s.length ≤ 10 → txtV (.str s) = some s := fun s hs => by
      show (if Nat.ble s.length line = true then some s else none) = _
      rw [if_pos (Nat.ble_eq_true_of_le (Nat.le_trans hs (by decide)))]
    obtain ⟨p1, p2, p3⟩ := fig_two (n := hourN half hi) (by omega)
    obtain ⟨q1, q2, q3⟩ := fig_two (n := mi) (by omega)
    have t1 := two_at (n := hourN half hi) (by omega) (k := 9) (by omega)
    have t2 := two_at (n := mi) (by omega) (k := 9) (by omega)
    rw [p2] at t1
    rw [q2] at t2
    unfold C.fs
    rw [ev_jcons (h1 := []) (ev_call (h1 := []) (xs := [.int (hourN half hi : Int)]) rfl (t1 _ _)) (ts _ (by omega)) (by simp; omega), ev_jcons (h1 := []) rfl (ts [58] (by decide)) (by simp; omega),
      ev_jcons (h1 := []) (ev_call (h1 := []) (xs := [.int (mi : Int)]) rfl (t2 _ _)) (ts _ (by omega)) (by simp; omega)]
    show R.ok (FS.D.str _) [] = _
    unfold timeTxt
    simp
/-- a row of a time -/
theorem row_time {bare : Bool} {h m : Nat} {half : List Nat} (hh : h < 26) (hm : m < 62) (hf : half ∈ halfs) (hb : bare = true → half ≠ [] ∧ m = 0) : RowOk kTime (timeTxt false bare h m half) (timeDue (halfN half) h m) := by
  have ne : half ≠ [] → halfN half ≠ [] := by
    unfold halfs at hf
    simp only [List.mem_cons, List.not_mem_nil, or_false] at hf
    rcases hf with rfl | rfl | rfl | rfl
    · exact fun z => absurd rfl z
    · exact fun _ => by decide
    · exact fun _ => by decide
    · exact fun _ => by decide
  have b : tB false bare h m half = true := by
    cases bare with
    | false => exact List.all_eq_true.mp (List.all_eq_true.mp (List.all_eq_true.mp tt1 h (List.mem_range.mpr hh)) m (List.mem_range.mpr hm)) half hf
    | true =>
      obtain ⟨z1, rfl⟩ := hb rfl
      have q := List.all_eq_true.mp (List.all_eq_true.mp tt2 h (List.mem_range.mpr hh)) half hf
      rw [Bool.or_eq_true] at q
      rcases q with q | q
      · exact absurd (List.isEmpty_iff.mp q) z1
      · exact q
  obtain ⟨s1, s2, s3, s4⟩ := tB_str b
  refine RowOk.mk' (by decide) (by decide) (by omega) s3 s4 (sp_time (tB_in b (by omega) hm fun z => ⟨ne (hb z).1, (hb z).2⟩)) fun s e => ?_
  unfold timeDue at e
  cases hb : timeBad (halfN half) h m with
  | true =>
    rw [hb] at e
    cases e
  | false =>
    rw [hb] at e
    cases e
    obtain ⟨g1, g2⟩ := good_lt hb
    have b2 : tB true false (hourN (halfN half) h) m [] = true := List.all_eq_true.mp (List.all_eq_true.mp tt3 _ (List.mem_range.mpr g1)) m (List.mem_range.mpr g2)
    obtain ⟨r1, r2, r3, r4⟩ := tB_str b2
    have sp := sp_time (tB_in b2 (by omega) hm fun z => by cases z)
    have e2 : timeDue (halfN []) (hourN (halfN half) h) m = some (timeTxt true false (hourN (halfN half) h) m []) := by
      have hn : halfN [] = [] := rfl
      rw [hn]
      unfold timeDue
      have h0 : timeBad [] (hourN (halfN half) h) m = false := by
        unfold timeBad
        simp only [decide_true, Bool.not_true, Bool.false_and, Bool.true_and, Bool.false_or, Bool.or_false]
        rw [decide_eq_false (by omega), decide_eq_false (by omega)]
        rfl
      rw [h0, if_neg (by decide)]
      rfl
    rw [e2] at sp
    exact ⟨r4, r3, sp, r1, by omega⟩
end K01

-- text K01td
set_option Elab.async false
set_option linter.all false
set_option maxRecDepth 100000
set_option maxHeartbeats 0
namespace K01
open PySem FS
theorem str_nat {n : Nat} (hn : n < 4000) (h : MH) : biV .str [.int (n : Int)] h = .ok (.str (intL (n : Int))) h := by
  have q : biV .str [.int (n : Int)] h = (if intOk (n : Int) = true then R.ok (FS.D.str (intL (n : Int))) h else .stk) := rfl
  have e : intOk (n : Int) = true := by
    unfold intOk
    refine decide_eq_true ?_
    rw [Int.natAbs_natCast]
    by_cases h0 : n = 0
    · rw [h0]
      decide
    · exact (Nat.log2_lt h0).mpr (Nat.lt_of_lt_of_le hn (by decide +kernel))
  rw [q, if_pos e]
theorem ix_nat {xs : List FS.D} {r : Nat} (hr : r < xs.length) (h : MH) : ixV (.lst xs) (.int (r : Int)) h = xs[r]? := by
  show (match ixN xs.length (r : Int) with
    | some j => xs[j]?
    | none => none) = _
  have e : ixN xs.length (r : Int) = some r := by
    unfold ixN
    rw [if_pos (by omega), if_pos (by omega)]
    rfl
  rw [e]
theorem ix_menu (M : List (List Nat)) {r : Nat} (hr : r < M.length) (h : MH) : ∃ x ∈ M, ixV (.lst (M.map .str)) (.int (r : Int)) h = some (.str x) := by
  refine ⟨M[r], List.getElem_mem hr, ?_⟩
  rw [ix_nat (by rw [List.length_map]; exact hr), List.getElem?_map, List.getElem?_eq_getElem hr]
  rfl
section
variable {cf : CF} {o : List Fr} {fr fr1 : Fr} {h h1 h2 h3 : MH}
theorem bl_andT {e : C.XE} {es : C.XB} {r : FS.R Bool} (e1 : e cf o fr h = .ok (.bl true) h1) (e2 : es cf o fr h1 = r) : C.bcons true e es cf o fr h = r := by
  unfold C.bcons
  rw [e1]
  exact e2
theorem bl_andF {e : C.XE} {es : C.XB} (e1 : e cf o fr h = .ok (.bl false) h1) : C.bcons true e es cf o fr h = .ok false h1 := by
  unfold C.bcons
  rw [e1]
  rfl
/-- ("0" + str(n))[-2:] -/
theorem ev_pad {v : C.XE} {n : Nat} (hn : n < 62) (ev : v cf o fr h = .ok (.int (n : Int)) h) : C.sl (C.bin .add (C.k (.str [48])) (C.bi .str (C.cons v C.nil))) false (C.neg (C.k (.int 2))) true C.nop cf o fr h = .ok (.str (wrt true n)) h := by
  have l : (intL (n : Int)).length ≤ 10 := by
    have q : ((List.range 62).all fun n => Nat.ble (intL (n : Int)).length 10) = true := by decide +kernel
    exact Nat.le_of_ble_eq_true (List.all_eq_true.mp q n (List.mem_range.mpr hn))
  refine ev_sl (x := .str (48 :: intL (n : Int))) (l := .int (-2)) (u := .non) ?_ rfl rfl rfl rfl ?_
  · exact ev_bin (x := .str [48]) (y := .str (intL (n : Int))) (h1 := h) (h2 := h) rfl (ev_bi (ev_cons ev rfl) (str_nat (by omega) h)) (binV_add _ _ (by simp; omega) h)
  · rw [sl_str (by simp; omega), (fig_two hn).2.2]
end
theorem wrt_len (p : Bool) {n : Nat} (hn : n < 62) : (wrt p n).length ≤ 10 := by
  have := (fig_at p hn).2.2
  omega
theorem half_ok {half : List Nat} (hf : half ∈ halfs) : ascii half = true ∧ half.length ≤ 3 ∧ (half ≠ [] → halfN half ≠ []) ∧ (half = [] → halfN half = []) := by
  unfold halfs at hf
  simp only [List.mem_cons, List.not_mem_nil, or_false] at hf
  rcases hf with rfl | rfl | rfl | rfl <;> exact ⟨by decide, by decide, by decide, by decide⟩
theorem law_time (k : Nat) (a b c : Int) (o : List Fr) : ∃ T due a' b' c', callC ct (k + 2) (.fn 25) o [.ref 0] (dh a b c) = .ok (.tup [.str T, dueD due]) (dh a' b' c') ∧ RowOk kTime T due := by
  obtain ⟨r1, a1, b1, c1, e1, q1⟩ := rollN k a b c 26 (by omega) (by omega)
  obtain ⟨r2, a2, b2, c2, e2, q2⟩ := rollN k a1 b1 c1 62 (by omega) (by omega)
  obtain ⟨r3, a3, b3, c3, e3, q3⟩ := rollN k a2 b2 c2 4 (by omega) (by omega)
  obtain ⟨half, hf, ehalf⟩ := ix_menu halfs (r := r3) q3 (dh a3 b3 c3)
  obtain ⟨ha, hl, hn1, hn2⟩ := half_ok hf
  -- bare
  obtain ⟨bare, a4, b4, c4, e4, hb⟩ : ∃ bare a4 b4 c4, C.bop (C.bcons true (C.cmp .ne (C.var 3) (C.k (.str []))) (C.blast (C.cmp .eq (C.call 18 (C.cons (C.var 0) (C.cons (C.k (.int 3)) C.nil))) (C.k (.int 0))))) (callC ct (k + 1)) o [some (.ref 0), some (.int (r1 : Int)), some (.int (r2 : Int)), some (.str half), none, none, none, none] (dh a3 b3 c3) = .ok (.bl bare) (dh a4 b4 c4) ∧ (bare = true → half ≠ []) := by
    have t := ev_cmp (op := .ne) (cf := callC ct (k + 1)) (o := o) (fr := [some (.ref 0), some (.int (r1 : Int)), some (.int (r2 : Int)), some (.str half), none, none, none, none]) (h := dh a3 b3 c3) (h1 := dh a3 b3 c3) (h2 := dh a3 b3 c3) (a := C.var 3) (b := C.k (.str [])) (x := .str half) rfl rfl (cmp_ne half [] _)
    by_cases hc : half = []
    · rw [decide_eq_true hc] at t
      exact ⟨false, a3, b3, c3, ev_bop (bl_andF t), fun z => by cases z⟩
    · rw [decide_eq_false hc] at t
      obtain ⟨r5, a5, b5, c5, e5, q5⟩ := rollN k a3 b3 c3 3 (by omega) (by omega)
      refine ⟨decide ((r5 : Int) = 0), a5, b5, c5, ev_bop (bl_andT t (bl_last ?_)), fun _ => hc⟩
      exact ev_cmp (x := .int (r5 : Int)) (y := .int 0) (ev_call (xs := [.ref 0, .int ((3 : Nat) : Int)]) (h1 := dh a3 b3 c3) rfl (e5 _)) rfl rfl
  let m := if bare then 0 else r2
  have hm : m < 62 := by
    show (if bare = true then 0 else r2) < 62
    split <;> omega
  refine ⟨timeTxt false bare r1 m half, timeDue (halfN half) r1 m, a4, b4, c4, ?_, row_time q1 hm hf fun z => ⟨hb z, by show (if bare = true then 0 else r2) = 0; rw [if_pos z]⟩⟩
  refine fn_ret (F := f__law_time) rfl rfl rfl rfl ?_
  show c__law_time (callC ct (k + 1)) o [some (.ref 0), none, none, none, none, none, none, none] (dh a b c) = _
  unfold c__law_time
  have s1 : C.par [1, 2, 3] (C.cons (C.call 18 (C.cons (C.var 0) (C.cons (C.k (.int 26)) C.nil))) (C.cons (C.call 18 (C.cons (C.var 0) (C.cons (C.k (.int 62)) C.nil))) (C.cons (C.ix (C.lst false (C.cons (C.k (.str [])) (C.cons (C.k (.str [97, 109])) (C.cons (C.k (.str [80, 77])) (C.cons (C.k (.str [32, 112, 109])) C.nil))))) (C.call 18 (C.cons (C.var 0) (C.cons (C.k (.int 4)) C.nil)))) C.nil))) (callC ct (k + 1)) o [some (.ref 0), none, none, none, none, none, none, none] (dh a b c) = .nx [some (.ref 0), some (.int (r1 : Int)), some (.int (r2 : Int)), some (.str half), none, none, none, none] (dh a3 b3 c3) :=
    st_par (xs := [.int (r1 : Int), .int (r2 : Int), .str half]) (ev_cons (ev_call (xs := [.ref 0, .int ((26 : Nat) : Int)]) (h1 := dh a b c) rfl (e1 _)) (ev_cons (ev_call (xs := [.ref 0, .int ((62 : Nat) : Int)]) (h1 := dh a1 b1 c1) rfl (e2 _)) (ev_cons (ev_ix (h1 := dh a2 b2 c2) (x := .lst (halfs.map .str)) rfl (ev_call (xs := [.ref 0, .int ((4 : Nat) : Int)]) (h1 := dh a2 b2 c2) rfl (e3 _)) ehalf) rfl))) rfl
  rw [st_nx s1, st_nx (st_set (t := .nm 4) (fr1 := [some (.ref 0), some (.int (r1 : Int)), some (.int (r2 : Int)), some (.str half), some (.bl bare), none, none, none]) e4 rfl)]
  generalize dh a4 b4 c4 = h
  have tv4 : ∀ x5 x2, C.tv (C.var 4) (callC ct (k + 1)) o [some (.ref 0), some (.int (r1 : Int)), x2, some (.str half), some (.bl bare), x5, none, none] h = .ok bare h := fun _ _ => rfl
  have s3 : C.set (.nm 5) (C.bin .add (C.bin .add (C.bi .str (C.cons (C.var 1) C.nil)) (C.ife (C.tv (C.var 4)) (C.k (.str [])) (C.bin .add (C.k (.str [58])) (C.sl (C.bin .add (C.k (.str [48])) (C.bi .str (C.cons (C.var 2) C.nil))) false (C.neg (C.k (.int 2))) true C.nop)))) (C.var 3)) (callC ct (k + 1)) o [some (.ref 0), some (.int (r1 : Int)), some (.int (r2 : Int)), some (.str half), some (.bl bare), none, none, none] h = .nx [some (.ref 0), some (.int (r1 : Int)), some (.int (r2 : Int)), some (.str half), some (.bl bare), some (.str (timeTxt false bare r1 m half)), none, none] h := by
    have w1 := wrt_len false (n := r1) (by omega)
    have w2 := wrt_len true (n := r2) (by omega)
    have i1 : C.bi .str (C.cons (C.var 1) C.nil) (callC ct (k + 1)) o [some (.ref 0), some (.int (r1 : Int)), some (.int (r2 : Int)), some (.str half), some (.bl bare), none, none, none] h = .ok (.str (wrt false r1)) h := ev_bi (xs := [.int (r1 : Int)]) (h1 := h) rfl (str_nat (by omega) h)
    have i2 : C.ife (C.tv (C.var 4)) (C.k (.str [])) (C.bin .add (C.k (.str [58])) (C.sl (C.bin .add (C.k (.str [48])) (C.bi .str (C.cons (C.var 2) C.nil))) false (C.neg (C.k (.int 2))) true C.nop)) (callC ct (k + 1)) o [some (.ref 0), some (.int (r1 : Int)), some (.int (r2 : Int)), some (.str half), some (.bl bare), none, none, none] h = .ok (.str (if bare then [] else 58 :: wrt true m)) h := by
      cases bare with
      | true => exact ev_ifT (tv4 _ _) rfl
      | false => exact ev_ifF (tv4 _ _) (ev_bin (x := .str [58]) (h1 := h) rfl (ev_pad (n := r2) (by omega) rfl) (binV_add _ _ (by simp; omega) h))
    refine st_set (ev_bin (ev_bin i1 i2 (binV_add _ _ ?_ h)) rfl (binV_add _ _ ?_ h)) rfl
    · have := wrt_len true hm
      split <;> simp <;> omega
    · have := wrt_len true hm
      rw [List.length_append]
      split <;> simp <;> omega
  rw [st_nx s3]
  have s4 : C.set (.nm 2) (C.ife (C.tv (C.var 4)) (C.k (.int 0)) (C.var 2)) (callC ct (k + 1)) o [some (.ref 0), some (.int (r1 : Int)), some (.int (r2 : Int)), some (.str half), some (.bl bare), some (.str (timeTxt false bare r1 m half)), none, none] h = .nx [some (.ref 0), some (.int (r1 : Int)), some (.int (m : Int)), some (.str half), some (.bl bare), some (.str (timeTxt false bare r1 m half)), none, none] h := by
    refine st_set (v := .int (m : Int)) ?_ rfl
    cases bare with
    | true => exact ev_ifT (tv4 _ _) rfl
    | false => exact ev_ifF (tv4 _ _) rfl
  rw [st_nx s4]
  generalize timeTxt false bare r1 m half = T
  -- good, real
  have s5 : C.sife (C.tcmp .eq (C.var 3) (C.k (.str []))) (C.scons (C.par [6, 7] (C.cons (C.bop (C.bcons true (C.cmp .lt (C.var 1) (C.k (.int 24))) (C.blast (C.cmp .lt (C.var 2) (C.k (.int 60)))))) (C.cons (C.var 1) C.nil))) C.snil) (C.scons (C.par [6, 7] (C.cons (C.bop (C.bcons true (C.chn .le .le (C.k (.int 1)) (C.var 1) (C.k (.int 12))) (C.blast (C.cmp .lt (C.var 2) (C.k (.int 60)))))) (C.cons (C.bin .add (C.bin .mod (C.var 1) (C.k (.int 12))) (C.ife (C.tcmp .eq (C.me .strip (C.me .lower (C.var 3) C.nil) (C.cons (C.k (.str [32])) C.nil)) (C.k (.str [112, 109]))) (C.k (.int 12)) (C.k (.int 0)))) C.nil))) C.snil) (callC ct (k + 1)) o [some (.ref 0), some (.int (r1 : Int)), some (.int (m : Int)), some (.str half), some (.bl bare), some (.str T), none, none] h = .nx [some (.ref 0), some (.int (r1 : Int)), some (.int (m : Int)), some (.str half), some (.bl bare), some (.str T), some (.bl (!timeBad (halfN half) r1 m)), some (.int (hourN (halfN half) r1 : Int))] h := by
    have t : C.tcmp .eq (C.var 3) (C.k (.str [])) (callC ct (k + 1)) o [some (.ref 0), some (.int (r1 : Int)), some (.int (m : Int)), some (.str half), some (.bl bare), some (.str T), none, none] h = .ok (decide (half = [])) h := ev_cmpT (x := .str half) (h1 := h) rfl rfl (cmp_str _ _ h)
    unfold C.sife
    rw [t]
    by_cases hc : half = []
    · rw [decide_eq_true hc]
      simp only [R.toS]
      have hz := hn2 hc
      refine (st_nx (st_par (xs := [.bl (decide ((r1 : Int) < 24) && decide ((m : Int) < 60)), .int (r1 : Int)]) (ev_cons (ev_bop (bl_and (h := h) rfl (bl_last rfl))) rfl) rfl)).trans ?_
      have e1 : (decide ((r1 : Int) < 24) && decide ((m : Int) < 60)) = !timeBad (halfN half) r1 m := by
        rw [hz]
        unfold timeBad
        simp only [decide_true, Bool.not_true, Bool.false_and, Bool.true_and, Bool.false_or, Bool.or_false]
        by_cases x1 : r1 < 24 <;> by_cases x2 : m < 60
        · rw [decide_eq_true (show (r1 : Int) < 24 by omega), decide_eq_true (show (m : Int) < 60 by omega), decide_eq_false (show ¬ (59 : Int) < (m : Int) by omega), decide_eq_false (show ¬ (23 : Int) < (r1 : Int) by omega)]
          rfl
        · rw [decide_eq_false (show ¬ (m : Int) < 60 by omega), decide_eq_true (show (59 : Int) < (m : Int) by omega)]
          simp
        · rw [decide_eq_false (show ¬ (r1 : Int) < 24 by omega), decide_eq_true (show (23 : Int) < (r1 : Int) by omega)]
          simp
        · rw [decide_eq_false (show ¬ (r1 : Int) < 24 by omega), decide_eq_true (show (23 : Int) < (r1 : Int) by omega)]
          simp
      have e2 : hourN (halfN half) r1 = r1 := by
        rw [hz]
        rfl
      rw [e1, e2]
      rfl
    · rw [decide_eq_false hc]
      simp only [R.toS]
      have hz := hn1 hc
      have tl : C.tcmp .eq (C.me .strip (C.me .lower (C.var 3) C.nil) (C.cons (C.k (.str [32])) C.nil)) (C.k (.str [112, 109])) (callC ct (k + 1)) o [some (.ref 0), some (.int (r1 : Int)), some (.int (m : Int)), some (.str half), some (.bl bare), some (.str T), none, none] h = .ok (decide (halfN half = tPm)) h :=
        ev_cmpT (x := .str (halfN half)) (h1 := h) (ev_me (s := lowS half) (h1 := h) (ev_me (s := half) (h1 := h) rfl rfl (low_str ha (by omega) h)) rfl (strip_str (by rw [low_len]; omega) h)) rfl (cmp_str _ _ h)
      have ti : C.ife (C.tcmp .eq (C.me .strip (C.me .lower (C.var 3) C.nil) (C.cons (C.k (.str [32])) C.nil)) (C.k (.str [112, 109]))) (C.k (.int 12)) (C.k (.int 0)) (callC ct (k + 1)) o [some (.ref 0), some (.int (r1 : Int)), some (.int (m : Int)), some (.str half), some (.bl bare), some (.str T), none, none] h = .ok (.int (if halfN half = tPm then 12 else 0)) h := by
        by_cases hp : halfN half = tPm
        · rw [decide_eq_true hp] at tl
          rw [if_pos hp]
          exact ev_ifT tl rfl
        · rw [decide_eq_false hp] at tl
          rw [if_neg hp]
          exact ev_ifF tl rfl
      have e2 : (r1 : Int) % 12 + (if halfN half = tPm then 12 else 0) = (hourN (halfN half) r1 : Int) := by
        unfold hourN
        rw [if_neg hz]
        split <;> omega
      refine (st_nx (st_par (xs := [.bl ((decide ((1 : Int) ≤ (r1 : Int)) && decide ((r1 : Int) ≤ 12)) && decide ((m : Int) < 60)), .int ((r1 : Int) % 12 + (if halfN half = tPm then 12 else 0))]) (ev_cons (ev_bop (bl_and (h := h) (ev_chn rfl rfl rfl rfl rfl) (bl_last rfl))) (ev_cons (ev_bin (x := .int ((r1 : Int) % 12)) (h1 := h) rfl ti rfl) rfl)) rfl)).trans ?_
      have e1 : ((decide ((1 : Int) ≤ (r1 : Int)) && decide ((r1 : Int) ≤ 12)) && decide ((m : Int) < 60)) = !timeBad (halfN half) r1 m := by
        unfold timeBad
        rw [decide_eq_false hz]
        simp only [Bool.not_false, Bool.true_and, Bool.false_and, Bool.or_false]
        by_cases x2 : m < 60
        · rw [decide_eq_true (show (m : Int) < 60 by omega), decide_eq_false (show ¬ (59 : Int) < (m : Int) by omega)]
          simp
        · rw [decide_eq_false (show ¬ (m : Int) < 60 by omega), decide_eq_true (show (59 : Int) < (m : Int) by omega)]
          simp
      rw [e1, e2]
      rfl
  rw [st_nx s5]
  refine st_ret (st_retE (ev_tup (ev_cons rfl (ev_cons ?_ rfl))))
  unfold timeDue
  cases hbad : timeBad (halfN half) r1 m with
  | true => exact ev_ifF rfl rfl
  | false =>
    obtain ⟨g1, g2⟩ := good_lt hbad
    have w1 := wrt_len true (n := hourN (halfN half) r1) (by omega)
    have w2 := wrt_len true (n := m) (by omega)
    refine ev_ifT rfl ?_
    refine (ev_bin (ev_bin (ev_pad (n := hourN (halfN half) r1) (by omega) rfl) rfl (binV_add _ _ (by simp; omega) h)) (ev_pad (n := m) (by omega) rfl) (binV_add _ _ (by simp; omega) h)).trans ?_
    show R.ok (FS.D.str _) h = R.ok (FS.D.str _) h
    unfold timeTxt
    simp
end K01

-- text K01te
set_option Elab.async false
set_option linter.all false
set_option maxRecDepth 100000
set_option maxHeartbeats 0
namespace K01
open PySem FS
def szL (b : Bool) : List Int := [0, 31, 28 + b2i b, 31, 30, 31, 30, 31, 31, 30, 31, 30, 31, 0]
def leapB (y : Nat) : Bool := decide ((y : Int) % 4 = 0) && (!decide ((y : Int) % 100 = 0) || decide ((y : Int) % 400 = 0))
def szN (y m : Nat) : Int := (szL (leapB y)).getD m 0
theorem good_eq : (yearL.all fun y => (List.range 14).all fun m => (List.range 33).all fun d => (decide ((1900 : Int) ≤ (y : Int)) && (decide ((1 : Int) ≤ (d : Int)) && decide ((d : Int) ≤ szN y m))) == goodB y m d) = true := by decide +kernel
theorem ix_year {r : Nat} (hr : r < 5) (h : MH) : ∃ y ∈ yearL, ixV (.lst [.int 1999, .int 2000, .int 2024, .int 2026, .int 1899]) (.int (r : Int)) h = some (.int (y : Int)) := by
  match r, hr with
  | 0, _ => exact ⟨1999, by decide, rfl⟩
  | 1, _ => exact ⟨2000, by decide, rfl⟩
  | 2, _ => exact ⟨2024, by decide, rfl⟩
  | 3, _ => exact ⟨2026, by decide, rfl⟩
  | 4, _ => exact ⟨1899, by decide, rfl⟩
theorem ix_sz (y : Nat) {m : Nat} (hm : m < 14) (h : MH) : ixV (.lst ((szL (leapB y)).map .int)) (.int (m : Int)) h = some (.int (szN y m)) := by
  have hl : (szL (leapB y)).length = 14 := rfl
  rw [ix_nat (by rw [List.length_map, hl]; exact hm), List.getElem?_map, List.getElem?_eq_getElem (by omega)]
  unfold szN
  rw [List.getD_eq_getElem?_getD, List.getElem?_eq_getElem (by omega)]
  rfl
theorem ix_way {A B D : FS.D} {w : Nat} (hw : w < 3) (h : MH) : ixV (.lst [A, B, D]) (.int (w : Int)) h = some (match w with
    | 0 => A
    | 1 => B
    | _ => D) := by
  match w, hw with
  | 0, _ => rfl
  | 1, _ => rfl
  | 2, _ => rfl
theorem year_ok {y : Nat} (hy : y ∈ yearL) : y < 4000 ∧ (intL (y : Int)).length ≤ 10 := by
  have L := lens
  rw [Bool.and_eq_true] at L
  have ly := List.all_eq_true.mp L.1 y hy
  rw [Bool.and_eq_true] at ly
  refine ⟨?_, Nat.le_of_ble_eq_true ly.2⟩
  have q : (yearL.all fun y => Nat.blt y 4000) = true := by decide
  exact Nat.le_of_ble_eq_true (List.all_eq_true.mp q y hy)
theorem law_date (k : Nat) (a b c : Int) (o : List Fr) : ∃ T due a' b' c', callC ct (k + 2) (.fn 24) o [.ref 0] (dh a b c) = .ok (.tup [.str T, dueD due]) (dh a' b' c') ∧ RowOk kDate T due := by
  obtain ⟨r1, a1, b1, c1, e1, q1⟩ := rollN k a b c 5 (by omega) (by omega)
  obtain ⟨m, a2, b2, c2, e2, hm⟩ := rollN k a1 b1 c1 14 (by omega) (by omega)
  obtain ⟨d, a3, b3, c3, e3, hd⟩ := rollN k a2 b2 c2 33 (by omega) (by omega)
  obtain ⟨w, a4, b4, c4, e4, hw⟩ := rollN k a3 b3 c3 3 (by omega) (by omega)
  obtain ⟨r5, a5, b5, c5, e5, q5⟩ := rollN k a4 b4 c4 2 (by omega) (by omega)
  obtain ⟨y, hy, ey⟩ := ix_year q1 (dh a1 b1 c1)
  obtain ⟨y1, y2⟩ := year_ok hy
  refine ⟨dateTxt w (intL (y : Int)) (wrt (decide ((r5 : Int) = 0)) m) (wrt (decide ((r5 : Int) = 0)) d), dateTold y m d, a5, b5, c5, ?_, row_date hy _ hm hd hw⟩
  refine fn_ret (F := f__law_date) rfl rfl rfl rfl ?_
  show c__law_date (callC ct (k + 1)) o [some (.ref 0), none, none, none, none, none, none, none, none, none, none, none] (dh a b c) = _
  unfold c__law_date
  have s1 : C.set (.tup [(.nm 1), (.nm 2), (.nm 3), (.nm 4)]) (C.tup (C.cons (C.ix (C.lst false (C.cons (C.k (.int 1999)) (C.cons (C.k (.int 2000)) (C.cons (C.k (.int 2024)) (C.cons (C.k (.int 2026)) (C.cons (C.k (.int 1899)) C.nil)))))) (C.call 18 (C.cons (C.var 0) (C.cons (C.k (.int 5)) C.nil)))) (C.cons (C.call 18 (C.cons (C.var 0) (C.cons (C.k (.int 14)) C.nil))) (C.cons (C.call 18 (C.cons (C.var 0) (C.cons (C.k (.int 33)) C.nil))) (C.cons (C.call 18 (C.cons (C.var 0) (C.cons (C.k (.int 3)) C.nil))) C.nil))))) (callC ct (k + 1)) o [some (.ref 0), none, none, none, none, none, none, none, none, none, none, none] (dh a b c) = .nx [some (.ref 0), some (.int (y : Int)), some (.int (m : Int)), some (.int (d : Int)), some (.int (w : Int)), none, none, none, none, none, none, none] (dh a4 b4 c4) :=
    st_set (v := .tup [.int (y : Int), .int (m : Int), .int (d : Int), .int (w : Int)]) (ev_tup (ev_cons (ev_ix (x := .lst [.int 1999, .int 2000, .int 2024, .int 2026, .int 1899]) (h1 := dh a b c) rfl (ev_call (xs := [.ref 0, .int ((5 : Nat) : Int)]) (h1 := dh a b c) rfl (e1 _)) ey) (ev_cons (ev_call (xs := [.ref 0, .int ((14 : Nat) : Int)]) (h1 := dh a1 b1 c1) rfl (e2 _)) (ev_cons (ev_call (xs := [.ref 0, .int ((33 : Nat) : Int)]) (h1 := dh a2 b2 c2) rfl (e3 _)) (ev_cons (ev_call (xs := [.ref 0, .int ((3 : Nat) : Int)]) (h1 := dh a3 b3 c3) rfl (e4 _)) rfl))))) rfl
  rw [st_nx s1]
  have s2 : C.set (.nm 5) (C.cmp .eq (C.call 18 (C.cons (C.var 0) (C.cons (C.k (.int 2)) C.nil))) (C.k (.int 0))) (callC ct (k + 1)) o [some (.ref 0), some (.int (y : Int)), some (.int (m : Int)), some (.int (d : Int)), some (.int (w : Int)), none, none, none, none, none, none, none] (dh a4 b4 c4) = .nx [some (.ref 0), some (.int (y : Int)), some (.int (m : Int)), some (.int (d : Int)), some (.int (w : Int)), some (.bl (decide ((r5 : Int) = 0))), none, none, none, none, none, none] (dh a5 b5 c5) :=
    st_set (ev_cmp (x := .int (r5 : Int)) (y := .int 0) (ev_call (xs := [.ref 0, .int ((2 : Nat) : Int)]) (h1 := dh a4 b4 c4) rfl (e5 _)) rfl rfl) rfl
  rw [st_nx s2]
  generalize dh a5 b5 c5 = h
  generalize decide ((r5 : Int) = 0) = p
  have wm := wrt_len p (n := m) (by omega)
  have wd := wrt_len p (n := d) (by omega)
  have s3 : C.set (.nm 6) (C.lc [7] (.nm 7) (C.ie (C.lst false (C.cons (C.var 2) (C.cons (C.var 3) C.nil)))) (C.tnil true) (C.ife (C.tv (C.var 5)) (C.sl (C.bin .add (C.k (.str [48])) (C.bi .str (C.cons (C.var 7) C.nil))) false (C.neg (C.k (.int 2))) true C.nop) (C.bi .str (C.cons (C.var 7) C.nil)))) (callC ct (k + 1)) o [some (.ref 0), some (.int (y : Int)), some (.int (m : Int)), some (.int (d : Int)), some (.int (w : Int)), some (.bl p), none, none, none, none, none, none] h = .nx [some (.ref 0), some (.int (y : Int)), some (.int (m : Int)), some (.int (d : Int)), some (.int (w : Int)), some (.bl p), some (.lst [.str (wrt p m), .str (wrt p d)]), none, none, none, none, none] h := by
    refine st_set (v := .lst [.str (wrt p m), .str (wrt p d)]) ?_ rfl
    have e := ev_lc (cf := callC ct (k + 1)) (o := o) (fr := [some (.ref 0), some (.int (y : Int)), some (.int (m : Int)), some (.int (d : Int)), some (.int (w : Int)), some (.bl p), none, none, none, none, none, none]) (h := h) (v := 7) (show 7 < 12 by decide) (emb := fun n : Nat => FS.D.int (n : Int)) (ws := [m, d]) (b := fun _ => true) (g := fun n => .str (wrt p n)) (it := C.ie (C.lst false (C.cons (C.var 2) (C.cons (C.var 3) C.nil)))) (ifs := C.tnil true) (e := C.ife (C.tv (C.var 5)) (C.sl (C.bin .add (C.k (.str [48])) (C.bi .str (C.cons (C.var 7) C.nil))) false (C.neg (C.k (.int 2))) true C.nop) (C.bi .str (C.cons (C.var 7) C.nil))) rfl (show 2 ≤ line by decide) fun n hn F hF => ⟨rfl, fun _ => ?_⟩
    · exact e
    · have hn2 : n < 62 := by
        simp only [List.mem_cons, List.not_mem_nil, or_false] at hn
        rcases hn with rfl | rfl <;> omega
      have v7 : C.var 7 (callC ct (k + 1)) ([] :: o) F h = .ok (.int (n : Int)) h := v_of hF.2
      have v5 : C.tv (C.var 5) (callC ct (k + 1)) ([] :: o) F h = .ok p h := tc_v (v_of (by rw [hF.1 5 (by decide)]; rfl))
      cases p with
      | true => exact ev_ifT v5 (ev_pad hn2 v7)
      | false => exact ev_ifF v5 (ev_bi (ev_cons v7 rfl) (str_nat (by omega) h))
  rw [st_nx s3]
  have s4 : C.set (.nm 8) (C.ix (C.lst false (C.cons (C.bin .add (C.bin .add (C.bin .add (C.bin .add (C.bi .str (C.cons (C.var 1) C.nil)) (C.k (.str [45]))) (C.ix (C.var 6) (C.k (.int 0)))) (C.k (.str [45]))) (C.ix (C.var 6) (C.k (.int 1)))) (C.cons (C.bin .add (C.bin .add (C.bin .add (C.bin .add (C.ix (C.var 6) (C.k (.int 1))) (C.k (.str [46]))) (C.ix (C.var 6) (C.k (.int 0)))) (C.k (.str [46]))) (C.bi .str (C.cons (C.var 1) C.nil))) (C.cons (C.bin .add (C.bin .add (C.bin .add (C.bin .add (C.ix (C.var 6) (C.k (.int 0))) (C.k (.str [47]))) (C.ix (C.var 6) (C.k (.int 1)))) (C.k (.str [47]))) (C.bi .str (C.cons (C.var 1) C.nil))) C.nil)))) (C.var 4)) (callC ct (k + 1)) o [some (.ref 0), some (.int (y : Int)), some (.int (m : Int)), some (.int (d : Int)), some (.int (w : Int)), some (.bl p), some (.lst [.str (wrt p m), .str (wrt p d)]), none, none, none, none, none] h = .nx [some (.ref 0), some (.int (y : Int)), some (.int (m : Int)), some (.int (d : Int)), some (.int (w : Int)), some (.bl p), some (.lst [.str (wrt p m), .str (wrt p d)]), none, some (.str (dateTxt w (intL (y : Int)) (wrt p m) (wrt p d))), none, none, none] h := by
    generalize hfr : ([some (.ref 0), some (.int (y : Int)), some (.int (m : Int)), some (.int (d : Int)), some (.int (w : Int)), some (.bl p), some (.lst [.str (wrt p m), .str (wrt p d)]), none, none, none, none, none] : Fr) = fr
    have iy : C.bi .str (C.cons (C.var 1) C.nil) (callC ct (k + 1)) o fr h = .ok (.str (intL (y : Int))) h := by
      rw [← hfr]
      exact ev_bi (xs := [.int (y : Int)]) (h1 := h) rfl (str_nat y1 h)
    have i0 : C.ix (C.var 6) (C.k (.int 0)) (callC ct (k + 1)) o fr h = .ok (.str (wrt p m)) h := by rw [← hfr]; rfl
    have i1 : C.ix (C.var 6) (C.k (.int 1)) (callC ct (k + 1)) o fr h = .ok (.str (wrt p d)) h := by rw [← hfr]; rfl
    have v4 : C.var 4 (callC ct (k + 1)) o fr h = .ok (.int (w : Int)) h := by rw [← hfr]; rfl
    have five : ∀ (A B D : List Nat) (s : Nat) (ea eb ed : C.XE), A.length ≤ 10 → B.length ≤ 10 → D.length ≤ 10 → ea (callC ct (k + 1)) o fr h = .ok (.str A) h → eb (callC ct (k + 1)) o fr h = .ok (.str B) h → ed (callC ct (k + 1)) o fr h = .ok (.str D) h → C.bin .add (C.bin .add (C.bin .add (C.bin .add ea (C.k (.str [s]))) eb) (C.k (.str [s]))) ed (callC ct (k + 1)) o fr h = .ok (.str (A ++ s :: (B ++ s :: D))) h := by
      intro A B D s ea eb ed la lb ld pa pb pd
      refine (ev_bin (ev_bin (ev_bin (ev_bin pa rfl (binV_add _ _ (by simp; omega) h)) pb (binV_add _ _ (by simp; omega) h)) rfl (binV_add _ _ (by simp; omega) h)) pd (binV_add _ _ (by simp; omega) h)).trans ?_
      simp
    refine st_set (v := .str (dateTxt w (intL (y : Int)) (wrt p m) (wrt p d))) ?_ (by rw [← hfr]; rfl)
    refine ev_ix (ev_lst (ev_cons (five _ _ _ 45 _ _ _ y2 wm wd iy i0 i1) (ev_cons (five _ _ _ 46 _ _ _ wd wm y2 i1 i0 iy) (ev_cons (five _ _ _ 47 _ _ _ wm wd y2 i0 i1 iy) rfl)))) v4 ?_
    rw [ix_way hw]
    match w, hw with
    | 0, _ => rfl
    | 1, _ => rfl
    | 2, _ => rfl
  rw [st_nx s4]
  generalize dateTxt w (intL (y : Int)) (wrt p m) (wrt p d) = T
  generalize wrt p m = wm' at wm
  generalize wrt p d = wd' at wd
  have s5 : C.set (.nm 9) (C.bop (C.bcons true (C.cmp .eq (C.bin .mod (C.var 1) (C.k (.int 4))) (C.k (.int 0))) (C.blast (C.bop (C.bcons false (C.cmp .ne (C.bin .mod (C.var 1) (C.k (.int 100))) (C.k (.int 0))) (C.blast (C.cmp .eq (C.bin .mod (C.var 1) (C.k (.int 400))) (C.k (.int 0))))))))) (callC ct (k + 1)) o [some (.ref 0), some (.int (y : Int)), some (.int (m : Int)), some (.int (d : Int)), some (.int (w : Int)), some (.bl p), some (.lst [.str wm', .str wd']), none, some (.str T), none, none, none] h = .nx [some (.ref 0), some (.int (y : Int)), some (.int (m : Int)), some (.int (d : Int)), some (.int (w : Int)), some (.bl p), some (.lst [.str wm', .str wd']), none, some (.str T), some (.bl (leapB y)), none, none] h := by
    refine st_set (v := .bl (leapB y)) (ev_bop (bl_and ?_ (bl_last (ev_bop (bl_or ?_ (bl_last ?_)))))) rfl
    · exact ev_cmp (x := .int ((y : Int) % 4)) (y := .int 0) (h1 := h) rfl rfl rfl
    · exact ev_cmp (x := .int ((y : Int) % 100)) (y := .int 0) (h1 := h) rfl rfl rfl
    · exact ev_cmp (x := .int ((y : Int) % 400)) (y := .int 0) (h1 := h) rfl rfl rfl
  rw [st_nx s5]
  have s6 : C.set (.nm 10) (C.lst false (C.cons (C.k (.int 0)) (C.cons (C.k (.int 31)) (C.cons (C.bin .add (C.k (.int 28)) (C.bi .int (C.cons (C.var 9) C.nil))) (C.cons (C.k (.int 31)) (C.cons (C.k (.int 30)) (C.cons (C.k (.int 31)) (C.cons (C.k (.int 30)) (C.cons (C.k (.int 31)) (C.cons (C.k (.int 31)) (C.cons (C.k (.int 30)) (C.cons (C.k (.int 31)) (C.cons (C.k (.int 30)) (C.cons (C.k (.int 31)) (C.cons (C.k (.int 0)) C.nil))))))))))))))) (callC ct (k + 1)) o [some (.ref 0), some (.int (y : Int)), some (.int (m : Int)), some (.int (d : Int)), some (.int (w : Int)), some (.bl p), some (.lst [.str wm', .str wd']), none, some (.str T), some (.bl (leapB y)), none, none] h = .nx [some (.ref 0), some (.int (y : Int)), some (.int (m : Int)), some (.int (d : Int)), some (.int (w : Int)), some (.bl p), some (.lst [.str wm', .str wd']), none, some (.str T), some (.bl (leapB y)), some (.lst ((szL (leapB y)).map .int)), none] h := by
    generalize leapB y = lp
    exact st_set rfl rfl
  rw [st_nx s6]
  have ge : (decide ((1900 : Int) ≤ (y : Int)) && (decide ((1 : Int) ≤ (d : Int)) && decide ((d : Int) ≤ szN y m))) = goodB y m d := by
    have q := List.all_eq_true.mp (List.all_eq_true.mp (List.all_eq_true.mp good_eq y hy) m (List.mem_range.mpr hm)) d (List.mem_range.mpr hd)
    exact beq_iff_eq.mp q
  have s7 : C.set (.nm 11) (C.bop (C.bcons true (C.cmp .ge (C.var 1) (C.k (.int 1900))) (C.blast (C.chn .le .le (C.k (.int 1)) (C.var 3) (C.ix (C.var 10) (C.var 2)))))) (callC ct (k + 1)) o [some (.ref 0), some (.int (y : Int)), some (.int (m : Int)), some (.int (d : Int)), some (.int (w : Int)), some (.bl p), some (.lst [.str wm', .str wd']), none, some (.str T), some (.bl (leapB y)), some (.lst ((szL (leapB y)).map .int)), none] h = .nx [some (.ref 0), some (.int (y : Int)), some (.int (m : Int)), some (.int (d : Int)), some (.int (w : Int)), some (.bl p), some (.lst [.str wm', .str wd']), none, some (.str T), some (.bl (leapB y)), some (.lst ((szL (leapB y)).map .int)), some (.bl (goodB y m d))] h := by
    rw [← ge]
    refine st_set (ev_bop (bl_and (ev_cmp (x := .int (y : Int)) (y := .int 1900) (h1 := h) rfl rfl rfl) (bl_last (ev_chn (x := .int 1) (y := .int (d : Int)) (z := .int (szN y m)) rfl rfl ?_ rfl rfl)))) rfl
    exact ev_ix (x := .lst ((szL (leapB y)).map .int)) (y := .int (m : Int)) (h1 := h) rfl rfl (ix_sz y hm h)
  rw [st_nx s7]
  refine st_ret (st_retE (ev_tup (ev_cons rfl (ev_cons ?_ rfl))))
  unfold dateTold
  obtain ⟨p1, p2, p3⟩ := fig_two (n := m) (by omega)
  obtain ⟨r1, r2, r3⟩ := fig_two (n := d) (by omega)
  cases goodB y m d with
  | false => exact ev_ifF rfl rfl
  | true =>
    refine ev_ifT rfl ?_
    refine (ev_bin (ev_bin (ev_bin (ev_bin (ev_bi (xs := [.int (y : Int)]) (h1 := h) rfl (str_nat y1 h)) rfl (binV_add _ _ (by simp; omega) h)) (ev_pad (n := m) (by omega) rfl) (binV_add _ _ (by simp; omega) h)) rfl (binV_add _ _ (by simp; omega) h)) (ev_pad (n := d) (by omega) rfl) (binV_add _ _ (by simp; omega) h)).trans ?_
    show R.ok (FS.D.str _) h = R.ok (FS.D.str _) h
    rw [p2, r2]
    simp
end K01

-- text K01tf
set_option Elab.async false
set_option linter.all false
set_option maxRecDepth 100000
set_option maxHeartbeats 0
namespace K01
open PySem FS
def pS1 : C.XS := C.par [2, 3] (C.cons (C.lst false (C.cons (C.k (.str [48])) (C.cons (C.k (.str [48, 48, 55])) (C.cons (C.k (.str [49, 44, 50, 51, 52])) (C.cons (C.k (.str [49, 50, 44, 51, 52])) (C.cons (C.k (.str [49, 50, 51, 52, 53, 54, 55, 56, 57, 48])) (C.cons (C.k (.str [120])) (C.cons (C.k (.str [])) (C.cons (C.k (.str [57, 57, 57, 44, 57, 57, 57, 44, 57, 57, 57])) C.nil))))))))) (C.cons (C.lst false (C.cons (C.k (.str [])) (C.cons (C.k (.str [46, 53])) (C.cons (C.k (.str [46, 49, 50, 53])) (C.cons (C.k (.str [46])) (C.cons (C.k (.str [46, 49, 50, 51, 52])) (C.cons (C.k (.str [46, 120])) C.nil))))))) C.nil))
def pS2 : C.XS := C.set (.nm 4) (C.bin .add (C.bin .add (C.ix (C.lst false (C.cons (C.k (.str [])) (C.cons (C.k (.str [45])) (C.cons (C.k (.str [43])) C.nil)))) (C.call 18 (C.cons (C.var 1) (C.cons (C.k (.int 3)) C.nil)))) (C.ix (C.var 2) (C.call 18 (C.cons (C.var 1) (C.cons (C.k (.int 8)) C.nil))))) (C.ix (C.var 3) (C.call 18 (C.cons (C.var 1) (C.cons (C.k (.int 6)) C.nil)))))
def pS3 : C.XS := C.set (.nm 5) (C.lst false (C.cons (C.tup (C.cons (C.k (.str [110, 117, 109, 98, 101, 114])) (C.cons (C.var 4) (C.cons (C.ife (C.tcmp .isn (C.call 22 (C.cons (C.var 4) C.nil)) (C.k .non)) (C.k .non) (C.call 23 (C.cons (C.call 22 (C.cons (C.var 4) C.nil)) C.nil))) C.nil)))) (C.cons (C.tup (C.cons (C.k (.str [119, 104, 111, 108, 101])) (C.cons (C.var 4) (C.cons (C.ife (C.tcmp .isn (C.call 21 (C.cons (C.var 4) C.nil)) (C.k .non)) (C.k .non) (C.bi .str (C.cons (C.call 21 (C.cons (C.var 4) C.nil)) C.nil))) C.nil)))) C.nil)))
def pS4 : C.XS := C.par [6, 7] (C.cons (C.call 24 (C.cons (C.var 1) C.nil)) (C.cons (C.call 25 (C.cons (C.var 1) C.nil)) C.nil))
def pS5 : C.XS := C.par [8, 9] (C.cons (C.lst false (C.cons (C.k (.str [65, 110, 110])) (C.cons (C.k (.str [97, 46, 98, 43, 99])) (C.cons (C.k (.str [46, 97])) (C.cons (C.k (.str [97, 46, 46, 98])) (C.cons (C.k (.str [97, 32, 98])) (C.cons (C.k (.str [])) C.nil))))))) (C.cons (C.lst false (C.cons (C.k (.str [88, 46, 79, 114, 103])) (C.cons (C.k (.str [97, 45, 98, 46, 99, 111, 46, 117, 107])) (C.cons (C.k (.str [120])) (C.cons (C.k (.str [97, 46, 98])) (C.cons (C.k (.str [45, 97, 46, 111, 114, 103])) (C.cons (C.k (.str [97, 46, 111, 49, 103])) (C.cons (C.k (.str [])) C.nil)))))))) C.nil))
def pS6 : C.XS := C.set (.nm 10) (C.bin .add (C.bin .add (C.ix (C.var 8) (C.call 18 (C.cons (C.var 1) (C.cons (C.k (.int 6)) C.nil)))) (C.ix (C.lst false (C.cons (C.k (.str [64])) (C.cons (C.k (.str [64, 64])) (C.cons (C.k (.str [])) C.nil)))) (C.bin .fdiv (C.call 18 (C.cons (C.var 1) (C.cons (C.k (.int 7)) C.nil))) (C.k (.int 3))))) (C.ix (C.var 9) (C.call 18 (C.cons (C.var 1) (C.cons (C.k (.int 7)) C.nil)))))
def pS7 : C.XS := C.set (.nm 11) (C.bin .add (C.bin .add (C.ix (C.lst false (C.cons (C.k (.str [])) (C.cons (C.k (.str [72, 84, 84, 80, 58, 47, 47])) (C.cons (C.k (.str [104, 116, 116, 112, 115, 58, 47, 47])) (C.cons (C.k (.str [102, 116, 112, 58, 47, 47])) C.nil))))) (C.call 18 (C.cons (C.var 1) (C.cons (C.k (.int 4)) C.nil)))) (C.ix (C.lst false (C.cons (C.k (.str [88, 46, 79, 114, 103])) (C.cons (C.k (.str [97, 46, 98, 99])) (C.cons (C.k (.str [120])) C.nil)))) (C.call 18 (C.cons (C.var 1) (C.cons (C.k (.int 3)) C.nil))))) (C.ix (C.lst false (C.cons (C.k (.str [])) (C.cons (C.k (.str [47])) (C.cons (C.k (.str [47, 65, 32, 98])) (C.cons (C.k (.str [47, 67, 63, 120, 61, 49])) C.nil))))) (C.call 18 (C.cons (C.var 1) (C.cons (C.k (.int 4)) C.nil)))))
def pS8 : C.XS := C.set (.nm 12) (C.bin .add (C.ix (C.lst false (C.cons (C.k (.str [43])) (C.cons (C.k (.str [48, 48])) (C.cons (C.k (.str [])) (C.cons (C.k (.str [48])) C.nil))))) (C.call 18 (C.cons (C.var 1) (C.cons (C.k (.int 4)) C.nil)))) (C.ix (C.lst false (C.cons (C.k (.str [52, 49, 32, 40, 55, 57, 41, 32, 49, 50, 51, 45, 52, 53, 45, 54, 55])) (C.cons (C.k (.str [49, 50, 51, 52, 53])) (C.cons (C.k (.str [49, 50, 51, 52, 53, 54, 55])) (C.cons (C.k (.str [49, 50, 51, 52, 53, 54, 55, 56, 57, 48, 49, 50, 51, 52, 53, 54, 55])) (C.cons (C.k (.str [49, 50, 97, 52, 53, 54, 55])) C.nil)))))) (C.call 18 (C.cons (C.var 1) (C.cons (C.k (.int 5)) C.nil)))))
def pS9 : C.XS := C.set (.nm 13) (C.ix (C.lst false (C.cons (C.k (.str [89, 101, 115])) (C.cons (C.k (.str [121])) (C.cons (C.k (.str [79, 78])) (C.cons (C.k (.str [48])) (C.cons (C.k (.str [102, 97, 108, 115, 101])) (C.cons (C.k (.str [109, 97, 121, 98, 101])) (C.cons (C.k (.str [78])) C.nil)))))))) (C.call 18 (C.cons (C.var 1) (C.cons (C.k (.int 7)) C.nil))))
def pS10 : C.XS := C.set (.nm 14) (C.cmp .isin (C.me .lower (C.var 13) C.nil) (C.lst false (C.cons (C.k (.str [121, 101, 115])) (C.cons (C.k (.str [121])) (C.cons (C.k (.str [116, 114, 117, 101])) (C.cons (C.k (.str [49])) (C.cons (C.k (.str [111, 110])) C.nil)))))))
def pS11 : C.XS := C.set (.nm 5) (C.bin .add (C.var 5) (C.lst false (C.cons (C.bin .add (C.tup (C.cons (C.k (.str [100, 97, 116, 101])) C.nil)) (C.var 6)) (C.cons (C.bin .add (C.tup (C.cons (C.k (.str [116, 105, 109, 101])) C.nil)) (C.var 7)) (C.cons (C.tup (C.cons (C.k (.str [109, 97, 105, 108])) (C.cons (C.var 10) (C.cons (C.call 27 (C.cons (C.var 10) C.nil)) C.nil)))) (C.cons (C.tup (C.cons (C.k (.str [108, 105, 110, 107])) (C.cons (C.var 11) (C.cons (C.call 28 (C.cons (C.var 11) C.nil)) C.nil)))) (C.cons (C.tup (C.cons (C.k (.str [112, 104, 111, 110, 101])) (C.cons (C.var 12) (C.cons (C.call 29 (C.cons (C.var 12) C.nil)) C.nil)))) (C.cons (C.tup (C.cons (C.k (.str [121, 101, 115])) (C.cons (C.var 13) (C.cons (C.ife (C.tcmp .eq (C.var 13) (C.k (.str [109, 97, 121, 98, 101]))) (C.k .non) (C.ife (C.tv (C.var 14)) (C.k (.str [121, 101, 115])) (C.k (.str [110, 111])))) C.nil)))) C.nil))))))))
def pS12 : C.XS := C.set (.nm 15) (C.me .join (C.k (.str [])) (C.cons (C.lc [16] (.nm 16) (C.rng (C.cons (C.call 18 (C.cons (C.var 1) (C.cons (C.k (.int 9)) C.nil))) C.nil)) (C.tnil true) (C.ix (C.lst false (C.cons (C.k (.str [97])) (C.cons (C.k (.str [32])) (C.cons (C.k (.str [32, 32])) (C.cons (C.k (.str [66, 45])) (C.cons (C.k (.str [10])) (C.cons (C.k (.str [122, 32])) C.nil))))))) (C.call 18 (C.cons (C.var 1) (C.cons (C.k (.int 6)) C.nil))))) C.nil))
def pS13 : C.XS := C.set (.nm 17) (C.me .strip (C.var 15) (C.cons (C.k (.str [32])) C.nil))
def pS14 : C.XS := C.set (.nm 5) (C.bin .add (C.var 5) (C.lst false (C.cons (C.tup (C.cons (C.k (.str [116, 101, 120, 116])) (C.cons (C.var 15) (C.cons (C.ife (C.tcmp .isin (C.k (.str [10])) (C.var 17)) (C.k .non) (C.me .join (C.k (.str [32])) (C.cons (C.lc [18] (.nm 18) (C.ie (C.me .split (C.var 17) (C.cons (C.k (.str [32])) C.nil))) (C.tcons true (C.tcmp .ne (C.var 18) (C.k (.str []))) (C.tnil true)) (C.var 18)) C.nil))) C.nil)))) (C.cons (C.tup (C.cons (C.k (.str [108, 105, 110, 101, 115])) (C.cons (C.var 15) (C.cons (C.me .join (C.k (.str [10])) (C.cons (C.lc [18] (.nm 18) (C.ie (C.me .split (C.var 17) (C.cons (C.k (.str [10])) C.nil))) (C.tnil true) (C.me .rstrip (C.var 18) (C.cons (C.k (.str [32])) C.nil))) C.nil)) C.nil)))) C.nil))))
def pFor : C.XS := C.for_ (.tup [(.nm 19), (.nm 20), (.nm 21)]) (C.ie (C.var 5)) rowBody
def pBody : C.XS := C.scons pS1 (C.scons pS2 (C.scons pS3 (C.scons pS4 (C.scons pS5 (C.scons pS6 (C.scons pS7 (C.scons pS8 (C.scons pS9 (C.scons pS10 (C.scons pS11 (C.scons pS12 (C.scons pS13 (C.scons pS14 (C.scons pFor C.snil))))))))))))))
theorem law_eq : c_law = C.scons (C.for_ (.nm 1) (C.ie (C.call 19 (C.cons (C.var 0) (C.cons (C.k (.int 1)) C.nil)))) pBody) (C.scons (C.ret (C.call 30 C.nil)) C.snil) := rfl
def FP (sd : FS.D) (x2 x3 x4 x5 x6 x7 x8 x9 x10 x11 x12 x13 x14 x15 x16 x17 x18 : Option FS.D) : Fr := frL [some sd, some (.ref 0), x2, x3, x4, x5, x6, x7, x8, x9, x10, x11, x12, x13, x14, x15, x16, x17, x18] none none none none none none
theorem ev_menu {k : Nat} (M : List (List Nat)) (h0 : 0 < M.length) (hM : M.length ≤ 1000) {E : C.XE} {o : List Fr} {fr : Fr} {a b c : Int} (hE : E (callC ct (k + 1)) o fr (dh a b c) = .ok (.lst (M.map .str)) (dh a b c)) (h1 : FS.get fr 1 = some (.ref 0)) : ∃ x ∈ M, ∃ a' b' c', C.ix E (C.call 18 (C.cons (C.var 1) (C.cons (C.k (.int (M.length : Int))) C.nil))) (callC ct (k + 1)) o fr (dh a b c) = .ok (.str x) (dh a' b' c') := by
  obtain ⟨r, a', b', c', e, hr⟩ := rollN k a b c M.length h0 (by omega)
  obtain ⟨x, hx, ex⟩ := ix_menu M hr (dh a' b' c')
  exact ⟨x, hx, a', b', c', ev_ix hE (ev_call (ev_cons (v_of h1) (ev_cons rfl rfl)) (e _)) ex⟩
def shortB (M : List (List Nat)) : Bool := M.all fun x => Nat.ble x.length 40
theorem short_of {M : List (List Nat)} (h : shortB M = true) {x : List Nat} (hx : x ∈ M) : x.length ≤ 40 := Nat.le_of_ble_eq_true (List.all_eq_true.mp h x hx)
theorem add3 {k : Nat} {o : List Fr} {fr : Fr} {h h1 h2 h3 : MH} {A B D : C.XE} {x y z : List Nat} (e1 : A (callC ct k) o fr h = .ok (.str x) h1) (e2 : B (callC ct k) o fr h1 = .ok (.str y) h2) (e3 : D (callC ct k) o fr h2 = .ok (.str z) h3) (l1 : x.length ≤ 40) (l2 : y.length ≤ 40) (l3 : z.length ≤ 40) : C.bin .add (C.bin .add A B) D (callC ct k) o fr h = .ok (.str (x ++ y ++ z)) h3 :=
  ev_bin (ev_bin e1 e2 (binV_add _ _ (by omega) _)) e3 (binV_add _ _ (by rw [List.length_append]; omega) _)
theorem tS1 (sd : FS.D) (cf : CF) (o : List Fr) (h : MH) : pS1 cf o (FP sd none none none none none none none none none none none none none none none none none) h = .nx (FP sd (some (.lst (N2.map .str))) (some (.lst (N3.map .str))) none none none none none none none none none none none none none none none) h := rfl
theorem tS2 (sd : FS.D) (a b c : Int) : ∃ s d1 d2 a' b' c', pS2 (callC ct 20) [] (FP sd (some (.lst (N2.map .str))) (some (.lst (N3.map .str))) none none none none none none none none none none none none none none none) (dh a b c) = .nx (FP sd (some (.lst (N2.map .str))) (some (.lst (N3.map .str))) (some (.str s)) none none none none none none none none none none none none none none) (dh a' b' c') ∧ numDue s = some d1 ∧ wholeDue s = some d2 ∧ RowOk kNumber s d1 ∧ RowOk kWhole s d2 := by
  obtain ⟨x, hx, a1, b1, c1, e1⟩ := ev_menu (k := 19) N1 (by decide) (by decide) (E := C.lst false (C.cons (C.k (.str [])) (C.cons (C.k (.str [45])) (C.cons (C.k (.str [43])) C.nil)))) (o := []) (fr := (FP sd (some (.lst (N2.map .str))) (some (.lst (N3.map .str))) none none none none none none none none none none none none none none none)) (a := a) (b := b) (c := c) rfl rfl
  obtain ⟨y, hy, a2, b2, c2, e2⟩ := ev_menu (k := 19) N2 (by decide) (by decide) (E := C.var 2) (o := []) (fr := (FP sd (some (.lst (N2.map .str))) (some (.lst (N3.map .str))) none none none none none none none none none none none none none none none)) (a := a1) (b := b1) (c := c1) rfl rfl
  obtain ⟨z, hz, a3, b3, c3, e3⟩ := ev_menu (k := 19) N3 (by decide) (by decide) (E := C.var 3) (o := []) (fr := (FP sd (some (.lst (N2.map .str))) (some (.lst (N3.map .str))) none none none none none none none none none none none none none none none)) (a := a2) (b := b2) (c := c2) rfl rfl
  have q := List.all_eq_true.mp (List.all_eq_true.mp (List.all_eq_true.mp nums x hx) y hy) z hz
  unfold num1 at q
  rw [Bool.and_eq_true] at q
  obtain ⟨q1, q2⟩ := q
  cases n1 : numDue (x ++ y ++ z) with
  | none =>
    rw [n1] at q1
    cases q1
  | some d1 =>
    rw [n1] at q1
    cases n2 : wholeDue (x ++ y ++ z) with
    | none =>
      rw [n2] at q2
      cases q2
    | some d2 =>
      rw [n2] at q2
      refine ⟨x ++ y ++ z, d1, d2, a3, b3, c3, st_set (add3 e1 e2 e3 (short_of (M := N1) (by decide) hx) (short_of (M := N2) (by decide) hy) (short_of (M := N3) (by decide) hz)) rfl, n1, n2, RowOk.of (by decide) q1, RowOk.of (by decide) q2⟩
theorem num_at {s : List Nat} {d1 : Option (List Nat)} (n1 : numDue s = some d1) {o : List Fr} {fr : Fr} {h : MH} (v : C.var 4 (callC ct 20) o fr h = .ok (.str s) h) : C.ife (C.tcmp .isn (C.call 22 (C.cons (C.var 4) C.nil)) (C.k .non)) (C.k .non) (C.call 23 (C.cons (C.call 22 (C.cons (C.var 4) C.nil)) C.nil)) (callC ct 20) o fr h = .ok (dueD d1) h := by
  unfold numDue at n1
  split at n1
  · rename_i e
    cases n1
    have e2 : C.call 22 (C.cons (C.var 4) C.nil) (callC ct 20) o fr h = .ok .non h := ev_call (ev_cons v rfl) (lift (by decide) e (by omega))
    exact ev_ifT (ev_cmpT e2 rfl rfl) rfl
  · rename_i n e
    split at n1
    · rename_i d e3
      cases n1
      have e2 : C.call 22 (C.cons (C.var 4) C.nil) (callC ct 20) o fr h = .ok (.int n) h := ev_call (ev_cons v rfl) (lift (by decide) e (by omega))
      exact ev_ifF (ev_cmpT e2 rfl rfl) (ev_call (ev_cons e2 rfl) (lift (by decide) e3 (by omega)))
    · cases n1
  · cases n1
theorem whole_at {s : List Nat} {d1 : Option (List Nat)} (n1 : wholeDue s = some d1) {o : List Fr} {fr : Fr} {h : MH} (v : C.var 4 (callC ct 20) o fr h = .ok (.str s) h) : C.ife (C.tcmp .isn (C.call 21 (C.cons (C.var 4) C.nil)) (C.k .non)) (C.k .non) (C.bi .str (C.cons (C.call 21 (C.cons (C.var 4) C.nil)) C.nil)) (callC ct 20) o fr h = .ok (dueD d1) h := by
  unfold wholeDue at n1
  split at n1
  · rename_i e
    cases n1
    have e2 : C.call 21 (C.cons (C.var 4) C.nil) (callC ct 20) o fr h = .ok .non h := ev_call (ev_cons v rfl) (lift (by decide) e (by omega))
    exact ev_ifT (ev_cmpT e2 rfl rfl) rfl
  · rename_i n e
    split at n1
    · rename_i hn
      cases n1
      have e2 : C.call 21 (C.cons (C.var 4) C.nil) (callC ct 20) o fr h = .ok (.int n) h := ev_call (ev_cons v rfl) (lift (by decide) e (by omega))
      refine ev_ifF (ev_cmpT e2 rfl rfl) (ev_bi (ev_cons e2 rfl) ?_)
      have q : biV .str [.int n] h = (if intOk n = true then R.ok (FS.D.str (intL n)) h else .stk) := rfl
      rw [q, if_pos hn]
      rfl
    · cases n1
  · cases n1
theorem tS3 (sd : FS.D) {s : List Nat} {d1 d2 : Option (List Nat)} (n1 : numDue s = some d1) (n2 : wholeDue s = some d2) (h : MH) : pS3 (callC ct 20) [] (FP sd (some (.lst (N2.map .str))) (some (.lst (N3.map .str))) (some (.str s)) none none none none none none none none none none none none none none) h = .nx (FP sd (some (.lst (N2.map .str))) (some (.lst (N3.map .str))) (some (.str s)) (some (.lst ([(kNumber, s, d1), (kWhole, s, d2)].map rowD))) none none none none none none none none none none none none none) h :=
  st_set (ev_lst (xs := [.tup [.str kNumber, .str s, dueD d1], .tup [.str kWhole, .str s, dueD d2]]) (ev_cons (ev_tup (ev_cons rfl (ev_cons rfl (ev_cons (num_at n1 rfl) rfl)))) (ev_cons (ev_tup (ev_cons rfl (ev_cons rfl (ev_cons (whole_at n2 rfl) rfl)))) rfl))) rfl
section
variable (sd : FS.D) (X2 X3 X4 X5 X6 X7 : Option FS.D) (a b c : Int)
theorem tS4 : ∃ T1 e1 T2 e2 a' b' c', pS4 (callC ct 20) [] (FP sd X2 X3 X4 X5 none none none none none none none none none none none none none) (dh a b c) = .nx (FP sd X2 X3 X4 X5 (some (.tup [.str T1, dueD e1])) (some (.tup [.str T2, dueD e2])) none none none none none none none none none none none) (dh a' b' c') ∧ RowOk kDate T1 e1 ∧ RowOk kTime T2 e2 := by
  obtain ⟨T1, e1, a1, b1, c1, q1, r1⟩ := law_date 18 a b c [(FP sd X2 X3 X4 X5 none none none none none none none none none none none none none)]
  obtain ⟨T2, e2, a2, b2, c2, q2, r2⟩ := law_time 18 a1 b1 c1 [(FP sd X2 X3 X4 X5 none none none none none none none none none none none none none)]
  exact ⟨T1, e1, T2, e2, a2, b2, c2, st_par (ev_cons (ev_call (ev_cons rfl rfl) q1) (ev_cons (ev_call (ev_cons rfl rfl) q2) rfl)) rfl, r1, r2⟩
theorem tS5 (cf : CF) (o : List Fr) (h : MH) : pS5 cf o (FP sd X2 X3 X4 X5 X6 X7 none none none none none none none none none none none) h = .nx (FP sd X2 X3 X4 X5 X6 X7 (some (.lst (M1.map .str))) (some (.lst (M3.map .str))) none none none none none none none none none) h := rfl
theorem due_of {f : Nat} {kind s : List Nat} (hk : kind ∈ kinds) (h : txt1 f kind s = true) : ∃ d, txtDue f s = some d ∧ RowOk kind s d := by
  unfold txt1 at h
  split at h
  · rename_i d e
    exact ⟨d, e, RowOk.of hk h⟩
  · cases h
theorem tS6 : ∃ s d a' b' c', pS6 (callC ct 20) [] (FP sd X2 X3 X4 X5 X6 X7 (some (.lst (M1.map .str))) (some (.lst (M3.map .str))) none none none none none none none none none) (dh a b c) = .nx (FP sd X2 X3 X4 X5 X6 X7 (some (.lst (M1.map .str))) (some (.lst (M3.map .str))) (some (.str s)) none none none none none none none none) (dh a' b' c') ∧ txtDue 27 s = some d ∧ RowOk kMail s d := by
  obtain ⟨x, hx, a1, b1, c1, e1⟩ := ev_menu (k := 19) M1 (by decide) (by decide) (E := C.var 8) (o := []) (fr := (FP sd X2 X3 X4 X5 X6 X7 (some (.lst (M1.map .str))) (some (.lst (M3.map .str))) none none none none none none none none none)) (a := a) (b := b) (c := c) rfl rfl
  obtain ⟨r, a2, b2, c2, e2, hr⟩ := rollN 19 a1 b1 c1 7 (by omega) (by omega)
  obtain ⟨y, hy, ey⟩ := ix_menu M2 (r := r / 3) (show r / 3 < 3 by omega) (dh a2 b2 c2)
  obtain ⟨z, hz, a3, b3, c3, e3⟩ := ev_menu (k := 19) M3 (by decide) (by decide) (E := C.var 9) (o := []) (fr := (FP sd X2 X3 X4 X5 X6 X7 (some (.lst (M1.map .str))) (some (.lst (M3.map .str))) none none none none none none none none none)) (a := a2) (b := b2) (c := c2) rfl rfl
  obtain ⟨d, q1, q2⟩ := due_of (f := 27) (kind := kMail) (by decide) (List.all_eq_true.mp (List.all_eq_true.mp (List.all_eq_true.mp mails x hx) y hy) z hz)
  have em : C.ix (C.lst false (C.cons (C.k (.str [64])) (C.cons (C.k (.str [64, 64])) (C.cons (C.k (.str [])) C.nil)))) (C.bin .fdiv (C.call 18 (C.cons (C.var 1) (C.cons (C.k (.int 7)) C.nil))) (C.k (.int 3))) (callC ct 20) [] (FP sd X2 X3 X4 X5 X6 X7 (some (.lst (M1.map .str))) (some (.lst (M3.map .str))) none none none none none none none none none) (dh a1 b1 c1) = .ok (.str y) (dh a2 b2 c2) := by
    refine ev_ix (x := .lst (M2.map .str)) (h1 := dh a1 b1 c1) rfl (ev_bin (y := .int 3) (ev_call (xs := [.ref 0, .int ((7 : Nat) : Int)]) (h1 := dh a1 b1 c1) rfl (e2 _)) rfl ?_) ey
    show R.ok (FS.D.int ((r : Int) / 3)) _ = _
    congr 2
  exact ⟨x ++ y ++ z, d, a3, b3, c3, st_set (add3 e1 em e3 (short_of (M := M1) (by decide) hx) (short_of (M := M2) (by decide) hy) (short_of (M := M3) (by decide) hz)) rfl, q1, q2⟩
variable (X8 X9 X10 X11 X12 X13 X14 : Option FS.D)
theorem tS7 : ∃ s d a' b' c', pS7 (callC ct 20) [] (FP sd X2 X3 X4 X5 X6 X7 X8 X9 X10 none none none none none none none none) (dh a b c) = .nx (FP sd X2 X3 X4 X5 X6 X7 X8 X9 X10 (some (.str s)) none none none none none none none) (dh a' b' c') ∧ txtDue 28 s = some d ∧ RowOk kLink s d := by
  obtain ⟨x, hx, a1, b1, c1, e1⟩ := ev_menu (k := 19) K1 (by decide) (by decide) (E := C.lst false (C.cons (C.k (.str [])) (C.cons (C.k (.str [72, 84, 84, 80, 58, 47, 47])) (C.cons (C.k (.str [104, 116, 116, 112, 115, 58, 47, 47])) (C.cons (C.k (.str [102, 116, 112, 58, 47, 47])) C.nil))))) (o := []) (fr := (FP sd X2 X3 X4 X5 X6 X7 X8 X9 X10 none none none none none none none none)) (a := a) (b := b) (c := c) rfl rfl
  obtain ⟨y, hy, a2, b2, c2, e2⟩ := ev_menu (k := 19) K2 (by decide) (by decide) (E := C.lst false (C.cons (C.k (.str [88, 46, 79, 114, 103])) (C.cons (C.k (.str [97, 46, 98, 99])) (C.cons (C.k (.str [120])) C.nil)))) (o := []) (fr := (FP sd X2 X3 X4 X5 X6 X7 X8 X9 X10 none none none none none none none none)) (a := a1) (b := b1) (c := c1) rfl rfl
  obtain ⟨z, hz, a3, b3, c3, e3⟩ := ev_menu (k := 19) K3 (by decide) (by decide) (E := C.lst false (C.cons (C.k (.str [])) (C.cons (C.k (.str [47])) (C.cons (C.k (.str [47, 65, 32, 98])) (C.cons (C.k (.str [47, 67, 63, 120, 61, 49])) C.nil))))) (o := []) (fr := (FP sd X2 X3 X4 X5 X6 X7 X8 X9 X10 none none none none none none none none)) (a := a2) (b := b2) (c := c2) rfl rfl
  obtain ⟨d, q1, q2⟩ := due_of (f := 28) (kind := kLink) (by decide) (List.all_eq_true.mp (List.all_eq_true.mp (List.all_eq_true.mp links x hx) y hy) z hz)
  exact ⟨x ++ y ++ z, d, a3, b3, c3, st_set (add3 e1 e2 e3 (short_of (M := K1) (by decide) hx) (short_of (M := K2) (by decide) hy) (short_of (M := K3) (by decide) hz)) rfl, q1, q2⟩
theorem tS8 : ∃ s d a' b' c', pS8 (callC ct 20) [] (FP sd X2 X3 X4 X5 X6 X7 X8 X9 X10 X11 none none none none none none none) (dh a b c) = .nx (FP sd X2 X3 X4 X5 X6 X7 X8 X9 X10 X11 (some (.str s)) none none none none none none) (dh a' b' c') ∧ txtDue 29 s = some d ∧ RowOk kPhone s d := by
  obtain ⟨x, hx, a1, b1, c1, e1⟩ := ev_menu (k := 19) P1 (by decide) (by decide) (E := C.lst false (C.cons (C.k (.str [43])) (C.cons (C.k (.str [48, 48])) (C.cons (C.k (.str [])) (C.cons (C.k (.str [48])) C.nil))))) (o := []) (fr := (FP sd X2 X3 X4 X5 X6 X7 X8 X9 X10 X11 none none none none none none none)) (a := a) (b := b) (c := c) rfl rfl
  obtain ⟨y, hy, a2, b2, c2, e2⟩ := ev_menu (k := 19) P2 (by decide) (by decide) (E := C.lst false (C.cons (C.k (.str [52, 49, 32, 40, 55, 57, 41, 32, 49, 50, 51, 45, 52, 53, 45, 54, 55])) (C.cons (C.k (.str [49, 50, 51, 52, 53])) (C.cons (C.k (.str [49, 50, 51, 52, 53, 54, 55])) (C.cons (C.k (.str [49, 50, 51, 52, 53, 54, 55, 56, 57, 48, 49, 50, 51, 52, 53, 54, 55])) (C.cons (C.k (.str [49, 50, 97, 52, 53, 54, 55])) C.nil)))))) (o := []) (fr := (FP sd X2 X3 X4 X5 X6 X7 X8 X9 X10 X11 none none none none none none none)) (a := a1) (b := b1) (c := c1) rfl rfl
  obtain ⟨d, q1, q2⟩ := due_of (f := 29) (kind := kPhone) (by decide) (List.all_eq_true.mp (List.all_eq_true.mp phones x hx) y hy)
  have l1 := short_of (M := P1) (by decide) hx
  have l2 := short_of (M := P2) (by decide) hy
  exact ⟨x ++ y, d, a2, b2, c2, st_set (ev_bin e1 e2 (binV_add _ _ (by omega) _)) rfl, q1, q2⟩
theorem tS9 : ∃ s a' b' c', pS9 (callC ct 20) [] (FP sd X2 X3 X4 X5 X6 X7 X8 X9 X10 X11 X12 none none none none none none) (dh a b c) = .nx (FP sd X2 X3 X4 X5 X6 X7 X8 X9 X10 X11 X12 (some (.str s)) none none none none none) (dh a' b' c') ∧ s ∈ Y1 := by
  obtain ⟨x, hx, a1, b1, c1, e1⟩ := ev_menu (k := 19) Y1 (by decide) (by decide) (E := C.lst false (C.cons (C.k (.str [89, 101, 115])) (C.cons (C.k (.str [121])) (C.cons (C.k (.str [79, 78])) (C.cons (C.k (.str [48])) (C.cons (C.k (.str [102, 97, 108, 115, 101])) (C.cons (C.k (.str [109, 97, 121, 98, 101])) (C.cons (C.k (.str [78])) C.nil)))))))) (o := []) (fr := (FP sd X2 X3 X4 X5 X6 X7 X8 X9 X10 X11 X12 none none none none none none)) (a := a) (b := b) (c := c) rfl rfl
  exact ⟨x, a1, b1, c1, st_set e1 rfl, hx⟩
theorem tS10 {s : List Nat} (hs : s ∈ Y1) (h : MH) : ∃ fl, pS10 (callC ct 20) [] (FP sd X2 X3 X4 X5 X6 X7 X8 X9 X10 X11 X12 (some (.str s)) none none none none none) h = .nx (FP sd X2 X3 X4 X5 X6 X7 X8 X9 X10 X11 X12 (some (.str s)) (some (.bl fl)) none none none none) h ∧ (if s = [109, 97, 121, 98, 101] then none else if fl = true then some [121, 101, 115] else some [110, 111]) = yesDue s := by
  unfold Y1 at hs
  simp only [List.mem_cons, List.not_mem_nil, or_false] at hs
  rcases hs with rfl | rfl | rfl | rfl | rfl | rfl | rfl
  · exact ⟨true, rfl, by decide⟩
  · exact ⟨true, rfl, by decide⟩
  · exact ⟨true, rfl, by decide⟩
  · exact ⟨false, rfl, by decide⟩
  · exact ⟨false, rfl, by decide⟩
  · exact ⟨false, rfl, by decide⟩
  · exact ⟨false, rfl, by decide⟩
end
theorem binV_lst (x y : List FS.D) (hl : x.length + y.length ≤ 1000) (h : MH) : binV .add (.lst x) (.lst y) h = .ok (.lst (x ++ y)) h := by
  have q : binV .add (.lst x) (.lst y) h = (if Nat.ble (x.length + y.length) line = true then R.ok (FS.D.lst (x ++ y)) h else .stk) := rfl
  rw [q, if_pos (Nat.ble_eq_true_of_le (Nat.le_trans hl (by decide)))]
theorem txt_at {f : Nat} (hf : pl.contains f = true) {s : List Nat} {d : Option (List Nat)} (e : txtDue f s = some d) {v : C.XE} {o : List Fr} {fr : Fr} {h : MH} (ev : v (callC ct 20) o fr h = .ok (.str s) h) : C.call f (C.cons v C.nil) (callC ct 20) o fr h = .ok (dueD d) h := by
  unfold txtDue at e
  split at e
  · rename_i q
    cases e
    exact ev_call (ev_cons ev rfl) (lift hf q (by omega))
  · rename_i t q
    cases e
    exact ev_call (ev_cons ev rfl) (lift hf q (by omega))
  · cases e
theorem tS11 (sd : FS.D) (X2 X3 X4 X8 X9 : Option FS.D) {L : List Row} (hL : L.length ≤ 10) {T1 T2 s1 s2 s3 s4 : List Nat} {e1 e2 d1 d2 d3 : Option (List Nat)} {fl : Bool} (q1 : txtDue 27 s1 = some d1) (q2 : txtDue 28 s2 = some d2) (q3 : txtDue 29 s3 = some d3) (q4 : (if s4 = [109, 97, 121, 98, 101] then none else if fl = true then some [121, 101, 115] else some [110, 111]) = yesDue s4) (h : MH) : pS11 (callC ct 20) [] (FP sd X2 X3 X4 (some (.lst (L.map rowD))) (some (.tup [.str T1, dueD e1])) (some (.tup [.str T2, dueD e2])) X8 X9 (some (.str s1)) (some (.str s2)) (some (.str s3)) (some (.str s4)) (some (.bl fl)) none none none none) h = .nx (FP sd X2 X3 X4 (some (.lst ((L ++ [(kDate, T1, e1), (kTime, T2, e2), (kMail, s1, d1), (kLink, s2, d2), (kPhone, s3, d3), (kYes, s4, yesDue s4)]).map rowD))) (some (.tup [.str T1, dueD e1])) (some (.tup [.str T2, dueD e2])) X8 X9 (some (.str s1)) (some (.str s2)) (some (.str s3)) (some (.str s4)) (some (.bl fl)) none none none none) h := by
  refine st_set (v := .lst ((L ++ [(kDate, T1, e1), (kTime, T2, e2), (kMail, s1, d1), (kLink, s2, d2), (kPhone, s3, d3), (kYes, s4, yesDue s4)]).map rowD)) ?_ rfl
  have y : C.ife (C.tcmp .eq (C.var 13) (C.k (.str [109, 97, 121, 98, 101]))) (C.k .non) (C.ife (C.tv (C.var 14)) (C.k (.str [121, 101, 115])) (C.k (.str [110, 111]))) (callC ct 20) [] (FP sd X2 X3 X4 (some (.lst (L.map rowD))) (some (.tup [.str T1, dueD e1])) (some (.tup [.str T2, dueD e2])) X8 X9 (some (.str s1)) (some (.str s2)) (some (.str s3)) (some (.str s4)) (some (.bl fl)) none none none none) h = .ok (dueD (yesDue s4)) h := by
    rw [← q4]
    have t : C.tcmp .eq (C.var 13) (C.k (.str [109, 97, 121, 98, 101])) (callC ct 20) [] (FP sd X2 X3 X4 (some (.lst (L.map rowD))) (some (.tup [.str T1, dueD e1])) (some (.tup [.str T2, dueD e2])) X8 X9 (some (.str s1)) (some (.str s2)) (some (.str s3)) (some (.str s4)) (some (.bl fl)) none none none none) h = .ok (decide (s4 = [109, 97, 121, 98, 101])) h := ev_cmpT (x := .str s4) (h1 := h) rfl rfl (cmp_str _ _ h)
    by_cases hs : s4 = [109, 97, 121, 98, 101]
    · rw [decide_eq_true hs] at t
      rw [if_pos hs]
      exact ev_ifT t rfl
    · rw [decide_eq_false hs] at t
      rw [if_neg hs]
      refine ev_ifF t ?_
      cases fl with
      | true => exact ev_ifT rfl rfl
      | false => exact ev_ifF rfl rfl
  refine ev_bin (x := .lst (L.map rowD)) (h1 := h) rfl (ev_lst (xs := [rowD (kDate, T1, e1), rowD (kTime, T2, e2), rowD (kMail, s1, d1), rowD (kLink, s2, d2), rowD (kPhone, s3, d3), rowD (kYes, s4, yesDue s4)]) (ev_cons rfl (ev_cons rfl (ev_cons (ev_tup (ev_cons rfl (ev_cons rfl (ev_cons (txt_at (by decide) q1 rfl) rfl)))) (ev_cons (ev_tup (ev_cons rfl (ev_cons rfl (ev_cons (txt_at (by decide) q2 rfl) rfl)))) (ev_cons (ev_tup (ev_cons rfl (ev_cons rfl (ev_cons (txt_at (by decide) q3 rfl) rfl)))) (ev_cons (ev_tup (ev_cons rfl (ev_cons rfl (ev_cons y rfl)))) rfl))))))) ?_
  rw [List.map_append]
  exact binV_lst _ _ (by rw [List.length_map]; simp; omega) h
end K01

-- text K01tg
set_option Elab.async false
set_option linter.all false
set_option maxRecDepth 100000
set_option maxHeartbeats 0
namespace K01
open PySem FS
def TX : List (List Nat) := [[97], [32], [32, 32], [66, 45], [10], [122, 32]]
theorem joinE (w : List Nat) (r : List (List Nat)) : TL.joinL [] (w :: r) = w ++ TL.joinL [] r := by
  cases r with
  | nil => exact (List.append_nil w).symm
  | cons v r => rfl
theorem tx_ok : ∀ {ws : List (List Nat)}, (∀ w ∈ ws, w ∈ TX) → ascii (TL.joinL [] ws) = true ∧ (TL.joinL [] ws).length ≤ 2 * ws.length ∧ lenS ws ≤ 2 * ws.length
  | [], _ => ⟨rfl, Nat.le_refl _, Nat.le_refl _⟩
  | w :: r, h => by
    obtain ⟨i1, i2, i3⟩ := tx_ok (ws := r) fun v hv => h v (List.mem_cons_of_mem _ hv)
    have q : (TX.all fun x => ascii x && Nat.ble x.length 2) = true := by decide
    have q2 := List.all_eq_true.mp q w (h w List.mem_cons_self)
    rw [Bool.and_eq_true] at q2
    have l := Nat.le_of_ble_eq_true q2.2
    rw [joinE]
    refine ⟨?_, ?_, ?_⟩
    · unfold ascii at i1 q2 ⊢
      rw [List.all_append, q2.1, i1]
      rfl
    · rw [List.length_append, List.length_cons]
      omega
    · show w.length + lenS r ≤ _
      rw [List.length_cons]
      omega
def txE : C.XE := C.ix (C.lst false (C.cons (C.k (.str [97])) (C.cons (C.k (.str [32])) (C.cons (C.k (.str [32, 32])) (C.cons (C.k (.str [66, 45])) (C.cons (C.k (.str [10])) (C.cons (C.k (.str [122, 32])) C.nil))))))) (C.call 18 (C.cons (C.var 1) (C.cons (C.k (.int 6)) C.nil)))
def txF (fr : Fr) : FS.D → MH → FS.R (Option FS.D) := fun x h2 => match asg (.nm 16) x (wipeF fr [16]) with
  | some fr1 => (C.tnil true (callC ct 20) ([] :: []) fr1 h2).noX.bind fun b h3 => (match b with
    | true => (txE (callC ct 20) ([] :: []) fr1 h3).noX.bind fun y h4 => .ok (some y) h4
    | false => .ok none h3)
  | none => .stk
theorem tx_walk {fr : Fr} (hl : 16 < fr.length) (h1 : FS.get fr 1 = some (.ref 0)) : ∀ (n : Nat) (lo a b c : Int), ∃ (ws : List (List Nat)) (a' b' c' : Int), mapW (txF fr) (intsFrom lo n) (dh a b c) = .ok (ws.map .str) (dh a' b' c') ∧ (∀ w ∈ ws, w ∈ TX) ∧ ws.length = n
  | 0, lo, a, b, c => ⟨[], a, b, c, rfl, (fun w h => by cases h), rfl⟩
  | n + 1, lo, a, b, c => by
    obtain ⟨F, f1, f2, f3⟩ := asg_lc hl (.int lo)
    obtain ⟨x, hx, a1, b1, c1, e1⟩ := ev_menu (k := 19) TX (by decide) (by decide) (E := C.lst false (C.cons (C.k (.str [97])) (C.cons (C.k (.str [32])) (C.cons (C.k (.str [32, 32])) (C.cons (C.k (.str [66, 45])) (C.cons (C.k (.str [10])) (C.cons (C.k (.str [122, 32])) C.nil))))))) (o := [[]]) (fr := F) (a := a) (b := b) (c := c) rfl (by rw [f2 1 (by decide), h1])
    have e2 : txE (callC ct 20) [[]] F (dh a b c) = .ok (.str x) (dh a1 b1 c1) := e1
    obtain ⟨ws, a2, b2, c2, e3, m, l⟩ := tx_walk hl h1 n (lo + 1) a1 b1 c1
    refine ⟨x :: ws, a2, b2, c2, ?_, fun w hw => ?_, by rw [List.length_cons, l]⟩
    · show (txF fr (.int lo) (dh a b c)).bind (fun o h1 => (mapW (txF fr) (intsFrom (lo + 1) n) h1).bind fun ys h2 => .ok (match o with
        | some y => y :: ys
        | none => ys) h2) = _
      have e4 : txF fr (.int lo) (dh a b c) = .ok (some (.str x)) (dh a1 b1 c1) := by
        unfold txF
        rw [f1]
        show ((txE (callC ct 20) [[]] F (dh a b c)).noX.bind fun y h4 => R.ok (some y) h4) = _
        rw [e2]
        rfl
      rw [e4]
      simp only [R.bind, e3]
      rfl
    · rcases List.mem_cons.mp hw with z | z
      · rw [z]
        exact hx
      · exact m w z
theorem tS12 (sd : FS.D) (X2 X3 X4 X5 X6 X7 X8 X9 X10 X11 X12 X13 X14 : Option FS.D) (a b c : Int) : ∃ T a' b' c', pS12 (callC ct 20) [] (FP sd X2 X3 X4 X5 X6 X7 X8 X9 X10 X11 X12 X13 X14 none none none none) (dh a b c) = .nx (FP sd X2 X3 X4 X5 X6 X7 X8 X9 X10 X11 X12 X13 X14 (some (.str T)) none none none) (dh a' b' c') ∧ T.length ≤ 300 ∧ ascii T = true := by
  generalize hfr : (FP sd X2 X3 X4 X5 X6 X7 X8 X9 X10 X11 X12 X13 X14 none none none none) = fr
  have v1 : FS.get fr 1 = some (.ref 0) := by
    rw [← hfr]
    rfl
  have hl : fr.length = 25 := by
    rw [← hfr]
    rfl
  obtain ⟨n, a1, b1, c1, e1, hn⟩ := rollN 19 a b c 9 (by omega) (by omega)
  obtain ⟨ws, a2, b2, c2, e2, m, l⟩ := tx_walk (fr := fr) (by omega) v1 n 0 a1 b1 c1
  obtain ⟨t1, t2, t3⟩ := tx_ok m
  refine ⟨TL.joinL [] ws, a2, b2, c2, ?_, by omega, t1⟩
  have er : C.rng (C.cons (C.call 18 (C.cons (C.var 1) (C.cons (C.k (.int 9)) C.nil))) C.nil) (callC ct 20) [] fr (dh a b c) = .ok (intsFrom 0 n) (dh a1 b1 c1) := by
    unfold C.rng
    rw [ev_cons (ev_call (xs := [.ref 0, .int ((9 : Nat) : Int)]) (h1 := dh a b c) (ev_cons (v_of v1) (ev_cons rfl rfl)) (e1 _)) rfl]
    show R.opt (dh a1 b1 c1) (if (rngOk (n : Int) && Nat.ble (n : Int).toNat line) = true then some (intsFrom 0 (n : Int).toNat) else none) = _
    have ok : rngOk (n : Int) = true := by
      unfold rngOk
      rw [decide_eq_true (by omega), decide_eq_true (by omega)]
      rfl
    rw [ok, Int.toNat_natCast, Nat.ble_eq_true_of_le (Nat.le_trans (show n ≤ 9 by omega) (by decide))]
    rfl
  have len : ∀ (m : Nat) (lo : Int), (intsFrom lo m).length = m := fun m => by
    induction m with
    | zero => exact fun _ => rfl
    | succ m ih =>
      intro lo
      show (intsFrom (lo + 1) m).length + 1 = m + 1
      rw [ih]
  have el : C.lc [16] (.nm 16) (C.rng (C.cons (C.call 18 (C.cons (C.var 1) (C.cons (C.k (.int 9)) C.nil))) C.nil)) (C.tnil true) txE (callC ct 20) [] fr (dh a b c) = .ok (.lst (ws.map .str)) (dh a2 b2 c2) := by
    unfold C.lc
    rw [er]
    show (if Nat.ble (intsFrom 0 n).length line = true then (mapW (txF fr) (intsFrom 0 n) (dh a1 b1 c1)).bind (fun ys h5 => R.ok (FS.D.lst ys) h5) else .stk) = _
    rw [if_pos (Nat.ble_eq_true_of_le (by rw [len]; exact Nat.le_trans (show n ≤ 9 by omega) (by decide))), e2]
    rfl
  have ej : meV .join (.str []) [.lst (ws.map .str)] (dh a2 b2 c2) = .ok (.str (TL.joinL [] ws)) (dh a2 b2 c2) := by
    have q : meV .join (.str []) [.lst (ws.map .str)] (dh a2 b2 c2) = (match strsOf (ws.map .str) with
      | some l => if Nat.ble (lenS l + l.length * 0) line = true then R.ok (FS.D.str (TL.joinL [] l)) (dh a2 b2 c2) else .stk
      | none => .stk) := rfl
    rw [q, strsOf_map]
    simp only
    rw [if_pos (Nat.ble_eq_true_of_le (Nat.le_trans (show lenS ws + ws.length * 0 ≤ 100 by omega) (by decide)))]
  refine st_set (ev_me (s := []) (h1 := dh a b c) rfl (ev_cons el rfl) ej) ?_
  rw [← hfr]
  rfl
theorem tS13 (sd : FS.D) (X2 X3 X4 X5 X6 X7 X8 X9 X10 X11 X12 X13 X14 : Option FS.D) {T : List Nat} (hT : T.length ≤ 300) (cf : CF) (o : List Fr) (h : MH) : pS13 cf o (FP sd X2 X3 X4 X5 X6 X7 X8 X9 X10 X11 X12 X13 X14 (some (.str T)) none none none) h = .nx (FP sd X2 X3 X4 X5 X6 X7 X8 X9 X10 X11 X12 X13 X14 (some (.str T)) none (some (.str (stripS T))) none) h :=
  st_set (ev_me (s := T) (h1 := h) rfl rfl (strip_str (by omega) h)) rfl
theorem tS14 (sd : FS.D) (X2 X3 X4 X6 X7 X8 X9 X10 X11 X12 X13 X14 : Option FS.D) {L : List Row} (hL : L.length ≤ 20) {T : List Nat} (hT : T.length ≤ 300) (h : MH) : pS14 (callC ct 20) [] (FP sd X2 X3 X4 (some (.lst (L.map rowD))) X6 X7 X8 X9 X10 X11 X12 X13 X14 (some (.str T)) none (some (.str (stripS T))) none) h = .nx (FP sd X2 X3 X4 (some (.lst ((L ++ [(kText, T, textDue (stripS T)), (kLines, T, some (linesDue (stripS T)))]).map rowD))) X6 X7 X8 X9 X10 X11 X12 X13 X14 (some (.str T)) none (some (.str (stripS T))) none) h := by
  have hs : (stripS T).length ≤ 300 := Nat.le_trans (strip_sub T).length_le hT
  refine st_set (v := .lst ((L ++ [(kText, T, textDue (stripS T)), (kLines, T, some (linesDue (stripS T)))]).map rowD)) ?_ rfl
  generalize hfr : (FP sd X2 X3 X4 (some (.lst (L.map rowD))) X6 X7 X8 X9 X10 X11 X12 X13 X14 (some (.str T)) none (some (.str (stripS T))) none) = fr
  have v5 : C.var 5 (callC ct 20) [] fr h = .ok (.lst (L.map rowD)) h := by
    rw [← hfr]
    rfl
  have v15 : C.var 15 (callC ct 20) [] fr h = .ok (.str T) h := by
    rw [← hfr]
    rfl
  have v17 : C.var 17 (callC ct 20) [] fr h = .ok (.str (stripS T)) h := by
    rw [← hfr]
    rfl
  have hl : 18 < fr.length := by
    rw [← hfr]
    exact (show 18 < 25 by decide)
  generalize stripS T = B at hs v17
  have i1 : C.ife (C.tcmp .isin (C.k (.str [10])) (C.var 17)) (C.k .non) (C.me .join (C.k (.str [32])) (C.cons (C.lc [18] (.nm 18) (C.ie (C.me .split (C.var 17) (C.cons (C.k (.str [32])) C.nil))) (C.tcons true (C.tcmp .ne (C.var 18) (C.k (.str []))) (C.tnil true)) (C.var 18)) C.nil)) (callC ct 20) [] fr h = .ok (dueD (textDue B)) h := by
    have t : C.tcmp .isin (C.k (.str [10])) (C.var 17) (callC ct 20) [] fr h = .ok (within [10] B) h := ev_cmpT (x := .str [10]) (h1 := h) rfl v17 (in_nl _ h)
    unfold textDue
    cases hw : within [10] B with
    | true =>
      rw [hw] at t
      exact ev_ifT t rfl
    | false =>
      rw [hw] at t
      refine ev_ifF t (ev_me (s := [32]) (h1 := h) rfl (ev_cons (lc_words hl (x := B) (by omega) v17) rfl) (join_str ?_ h))
      have := words_tot B
      omega
  have i2 : C.me .join (C.k (.str [10])) (C.cons (C.lc [18] (.nm 18) (C.ie (C.me .split (C.var 17) (C.cons (C.k (.str [10])) C.nil))) (C.tnil true) (C.me .rstrip (C.var 18) (C.cons (C.k (.str [32])) C.nil))) C.nil) (callC ct 20) [] fr h = .ok (dueD (some (linesDue B))) h := by
    refine ev_me (s := [10]) (h1 := h) rfl (ev_cons (lc_lines hl (x := B) (by omega) v17) rfl) (join_str ?_ h)
    have := lines_tot B
    omega
  refine ev_bin v5 (ev_lst (xs := [rowD (kText, T, textDue B), rowD (kLines, T, some (linesDue B))]) (ev_cons (ev_tup (ev_cons rfl (ev_cons v15 (ev_cons i1 rfl)))) (ev_cons (ev_tup (ev_cons rfl (ev_cons v15 (ev_cons i2 rfl)))) rfl))) ?_
  rw [List.map_append]
  exact binV_lst _ _ (by rw [List.length_map]; simp; omega) h
theorem body_ok (sd : FS.D) (a b c : Int) : ∃ fr a' b' c', pBody (callC ct 20) [] (FP sd none none none none none none none none none none none none none none none none none) (dh a b c) = .nx fr (dh a' b' c') := by
  unfold pBody
  rw [st_nx (tS1 sd _ _ _)]
  obtain ⟨s, d1, d2, a1, b1, c1, g2, n1, n2, R1, R2⟩ := tS2 sd a b c
  rw [st_nx g2, st_nx (tS3 sd n1 n2 _)]
  obtain ⟨T1, e1, T2, e2, a2, b2, c2, g4, R3, R4⟩ := tS4 sd _ _ _ _ a1 b1 c1
  rw [st_nx g4, st_nx (tS5 sd _ _ _ _ _ _ _ _ _)]
  obtain ⟨s1, d3, a3, b3, c3, g6, q1, R5⟩ := tS6 sd _ _ _ _ _ _ a2 b2 c2
  rw [st_nx g6]
  obtain ⟨s2, d4, a4, b4, c4, g7, q2, R6⟩ := tS7 sd _ _ _ _ _ _ a3 b3 c3 _ _ _
  rw [st_nx g7]
  obtain ⟨s3, d5, a5, b5, c5, g8, q3, R7⟩ := tS8 sd _ _ _ _ _ _ a4 b4 c4 _ _ _ _
  rw [st_nx g8]
  obtain ⟨s4, a6, b6, c6, g9, hy⟩ := tS9 sd _ _ _ _ _ _ a5 b5 c5 _ _ _ _ _
  rw [st_nx g9]
  obtain ⟨fl, g10, q4⟩ := tS10 sd _ _ _ _ _ _ _ _ _ _ _ hy _
  rw [st_nx g10, st_nx (tS11 sd _ _ _ _ _ (L := [(kNumber, s, d1), (kWhole, s, d2)]) (Nat.le_of_ble_eq_true rfl) q1 q2 q3 q4 _)]
  obtain ⟨T, a7, b7, c7, g12, hT, hA⟩ := tS12 sd _ _ _ _ _ _ _ _ _ _ _ _ _ a6 b6 c6
  rw [st_nx g12, st_nx (tS13 sd _ _ _ _ _ _ _ _ _ _ _ _ _ hT _ _ _), st_nx (tS14 sd _ _ _ _ _ _ _ _ _ _ _ _ (show ([(kNumber, s, d1), (kWhole, s, d2)] ++ [(kDate, T1, e1), (kTime, T2, e2), (kMail, s1, d3), (kLink, s2, d4), (kPhone, s3, d5), (kYes, s4, yesDue s4)]).length ≤ 20 from Nat.le_of_ble_eq_true rfl) hT _)]
  obtain ⟨y19, y20, y21, y22, y23, y24, a8, b8, c8, er⟩ := rows_ok (p := [some sd, some (.ref 0), some (.lst (N2.map .str)), some (.lst (N3.map .str)), some (.str s), some (.lst ((([(kNumber, s, d1), (kWhole, s, d2)] ++ [(kDate, T1, e1), (kTime, T2, e2), (kMail, s1, d3), (kLink, s2, d4), (kPhone, s3, d5), (kYes, s4, yesDue s4)]) ++ [(kText, T, textDue (stripS T)), (kLines, T, some (linesDue (stripS T)))]).map rowD)), some (.tup [.str T1, dueD e1]), some (.tup [.str T2, dueD e2]), some (.lst (M1.map .str)), some (.lst (M3.map .str)), some (.str s1), some (.str s2), some (.str s3), some (.str s4), some (.bl fl), some (.str T), none, some (.str (stripS T)), none]) rfl rfl (([(kNumber, s, d1), (kWhole, s, d2)] ++ [(kDate, T1, e1), (kTime, T2, e2), (kMail, s1, d3), (kLink, s2, d4), (kPhone, s3, d5), (kYes, s4, yesDue s4)]) ++ [(kText, T, textDue (stripS T)), (kLines, T, some (linesDue (stripS T)))]) (fun r hr => by
    simp only [List.cons_append, List.nil_append, List.mem_cons, List.not_mem_nil, or_false] at hr
    rcases hr with rfl | rfl | rfl | rfl | rfl | rfl | rfl | rfl | rfl | rfl
    · exact R1
    · exact R2
    · exact R3
    · exact R4
    · exact R5
    · exact R6
    · exact R7
    · exact RowOk.of (show kYes ∈ kinds by decide) (List.all_eq_true.mp yess s4 hy)
    · exact row_text hT hA
    · exact row_lines hT hA) none none none none none none a7 b7 c7
  exact ⟨_, a8, b8, c8, st_nx er⟩
/-- the dice of a cell -/
theorem law_dice (k : Nat) (n : Int) : ∃ a b c, ∀ o : List Fr, callC ct (k + 1) (.fn 17) o [.int n] [] = .ok (.ref 0) (dh a b c) := by
  have t : ∀ o, C.tchn .lt .lt (C.bin .sub (C.k (.int 0)) (C.k (.int 10))) (C.var 0) (C.k (.int 10)) (callC ct k) o [some (.int n)] [] = .ok (decide ((-10 : Int) < n) && decide (n < 10)) [] := fun o => tc_chn (x := .int (-10)) rfl rfl rfl rfl rfl
  cases hb : (decide ((-10 : Int) < n) && decide (n < 10)) with
  | true =>
    simp only [hb] at t
    refine ⟨if n < 0 then -n else n, 0, 2, fun o => fn_ret (F := f__law_dice) rfl rfl rfl rfl ?_⟩
    show c__law_dice (callC ct k) o [some (.int n)] [] = _
    unfold c__law_dice
    exact st_yes (t o) rfl
  | false =>
    simp only [hb] at t
    refine ⟨n, 1 + n % 1009, b2i (decide ((10 : Int) ^ 18 ≤ n)), fun o => fn_ret (F := f__law_dice) rfl rfl rfl rfl ?_⟩
    show c__law_dice (callC ct k) o [some (.int n)] [] = _
    unfold c__law_dice
    rw [st_no (t o) rfl]
    rfl
theorem law_rounds (k : Nat) (ns : List Int) (d : FS.D) (hd : d = .lst (ns.map fun n => FS.D.int n) ∨ d = .frl (ns.map fun n => FS.D.int n)) (o : List Fr) : ∃ a b c, callC ct (k + 2) (.fn 19) o [d, .int 1] [] = .ok (.lst [.ref 0]) (dh a b c) := by
  obtain ⟨n, en⟩ : ∃ n : Int, (ns = [] ∧ n = 0) ∨ ∃ r, ns = n :: r := by
    cases ns with
    | nil => exact ⟨0, .inl ⟨rfl, rfl⟩⟩
    | cons n r => exact ⟨n, .inr ⟨r, rfl⟩⟩
  obtain ⟨a, b, c, e⟩ := law_dice k n
  refine ⟨a, b, c, fn_ret (F := f__law_rounds) rfl rfl rfl rfl ?_⟩
  show c__law_rounds (callC ct (k + 1)) o [some d, some (.int 1), none, none] [] = _
  unfold c__law_rounds
  have last : (C.scons (C.ret (C.lc [3] (.nm 3) (C.ie (C.var 2)) (C.tnil true) (C.call 17 (C.cons (C.var 3) C.nil)))) C.snil) (callC ct (k + 1)) o [some d, some (.int 1), some (.lst [.int n]), none] [] = .ret (.lst [.ref 0]) (dh a b c) := by
    refine st_ret (st_retE ?_)
    have e2 : C.call 17 (C.cons (C.var 3) C.nil) (callC ct (k + 1)) ([] :: o) [some d, some (.int 1), some (.lst [.int n]), some (.int n)] [] = .ok (.ref 0) (dh a b c) := ev_call (ev_cons rfl rfl) (e _)
    have g : ∀ (f : FS.D → MH → FS.R (Option FS.D)), f (.int n) [] = .ok (some (.ref 0)) (dh a b c) → mapW f [.int n] [] = .ok [.ref 0] (dh a b c) := by
      intro f hf
      unfold mapW
      rw [hf]
      rfl
    unfold C.lc
    show (if Nat.ble 1 line = true then ((mapW _ [FS.D.int n] []).bind fun ys h5 => R.ok (FS.D.lst ys) h5) else .stk) = _
    rw [if_pos (by rfl), g]
    · rfl
    · show ((C.call 17 (C.cons (C.var 3) C.nil) (callC ct (k + 1)) ([] :: o) [some d, some (.int 1), some (.lst [.int n]), some (.int n)] []).noX.bind fun y h4 => R.ok (some y) h4) = _
      rw [e2]
      rfl
  rcases en with ⟨rfl, rfl⟩ | ⟨r, rfl⟩
  · have s1 : C.set (.nm 2) (C.sl (C.var 0) true C.nop false (C.var 1)) (callC ct (k + 1)) o [some d, some (.int 1), none, none] [] = .nx [some d, some (.int 1), some (.lst []), none] [] := by
      rcases hd with rfl | rfl <;> rfl
    rw [st_nx s1]
    rw [st_in (h1 := []) (fr1 := [some d, some (.int 1), some (.lst [.int 0]), none]) (h2 := []) rfl rfl]
    exact last
  · have ec : cut ((n :: r).map fun n => FS.D.int n) none (some 1) = [.int n] := by
      have q : sIx ((n :: r).map fun n => FS.D.int n).length ((n :: r).map fun n => FS.D.int n).length (some 1) = 1 := by
        show (if (1 : Int) < 0 then ((1 : Int) + (((n :: r).map fun n => FS.D.int n).length : Int)).toNat else min (1 : Int).toNat ((n :: r).map fun n => FS.D.int n).length) = 1
        rw [if_neg (by decide), List.length_map, List.length_cons]
        show min 1 (r.length + 1) = 1
        omega
      unfold cut
      rw [q]
      rfl
    have s1 : C.set (.nm 2) (C.sl (C.var 0) true C.nop false (C.var 1)) (callC ct (k + 1)) o [some d, some (.int 1), none, none] [] = .nx [some d, some (.int 1), some (.lst [.int n]), none] [] := by
      refine st_set (v := .lst [.int n]) ?_ rfl
      refine ev_sl (x := d) (l := .non) (u := .int 1) (h1 := []) rfl rfl rfl rfl rfl ?_
      rcases hd with rfl | rfl
      · show some (FS.D.lst (cut ((n :: r).map fun n => FS.D.int n) none (some 1))) = _
        rw [ec]
      · show some (FS.D.lst (cut ((n :: r).map fun n => FS.D.int n) none (some 1))) = _
        rw [ec]
    rw [st_nx s1]
    rw [st_no (h1 := []) rfl rfl]
    exact last
theorem law_run (ns : List Int) (d : FS.D) (hd : d = .lst (ns.map fun n => FS.D.int n) ∨ d = .frl (ns.map fun n => FS.D.int n)) : ∃ mh, callC ct (20 + 1) (.fn 31) [] [d] [] = .ok (.bl true) mh := by
  obtain ⟨a, b, c, e⟩ := law_rounds 18 ns d hd [[some d, none, none, none, none, none, none, none, none, none, none, none, none, none, none, none, none, none, none, none, none, none, none, none, none]]
  obtain ⟨fr, a', b', c', eb⟩ := body_ok d a b c
  refine ⟨dh a' b' c', ?_⟩
  have run : c_law (callC ct 20) [] [some d, none, none, none, none, none, none, none, none, none, none, none, none, none, none, none, none, none, none, none, none, none, none, none, none] [] = .ret (.bl true) (dh a' b' c') := by
    rw [law_eq]
    have s1 : C.for_ (.nm 1) (C.ie (C.call 19 (C.cons (C.var 0) (C.cons (C.k (.int 1)) C.nil)))) pBody (callC ct 20) [] [some d, none, none, none, none, none, none, none, none, none, none, none, none, none, none, none, none, none, none, none, none, none, none, none, none] [] = .nx fr (dh a' b' c') := by
      unfold C.for_ C.ie
      rw [ev_call (ev_cons rfl (ev_cons rfl rfl)) e]
      show (match pBody (callC ct 20) [] (FP d none none none none none none none none none none none none none none none none none) (dh a b c) with
        | .nx fr1 h1 => RS.nx fr1 h1
        | .cnt fr1 h1 => RS.nx fr1 h1
        | .brk fr1 h1 => .nx fr1 h1
        | r => r) = _
      rw [eb]
    rw [st_nx s1]
    exact st_ret (st_retE (ev_call rfl (plain fr a' b' c')))
  unfold callC
  show (match c_law (callC ct 20) [] [some d, none, none, none, none, none, none, none, none, none, none, none, none, none, none, none, none, none, none, none, none, none, none, none, none] [] with
      | .ret d h1 => if f_law.lamf && !noClo d then R.stk else .ok d h1
      | .nx _ h1 => .ok .non h1
      | .exc c _ h1 => .exc c h1
      | _ => .stk) = _
  rw [run]
  rfl
end K01

-- text K01R
set_option Elab.async false
set_option linter.all false
set_option maxRecDepth 100000
set_option maxHeartbeats 0
namespace K01
open PySem PySem.Spec PyProof.Rows L2 FS
theorem run (w : World) : HandSHeadRun.RunEq R (PySem.W.view R.prog [41]) hk ob 6000 others w := by
  intro os
  kernel_rfl
end K01

-- text K01F
set_option Elab.async false
set_option linter.all false
set_option maxRecDepth 100000
set_option maxHeartbeats 0
namespace K01
open PySem PySem.Spec PyProof.Rows L2 FS
def Ok (ns : List Int) : Prop := ns.length ≤ 63
theorem law_true (ns : List Int) (h : Ok ns) (d : FS.D) (hd : d = .lst (ns.map fun n => FS.D.int n) ∨ d = .frl (ns.map fun n => FS.D.int n)) : ∃ mh, callK lawD.g (20 + 1) (.fn 31) [] [d] [] = .ok (.bl true) mh := by
  obtain ⟨mh, e⟩ := law_run ns d hd
  refine ⟨mh, ?_⟩
  show callK pg (20 + 1) (.fn 31) [] [d] [] = _
  rw [eqC]
  exact e
end K01
open PySem PySem.W PySem.Calls PyProof.Rows
theorem PySem.Challenge.cw_formstack_k01_kinds_of_answers_holds : PySem.Challenge.rw_formstack_k01_kinds_of_answers.Holds := by
  w_on; o_law
  refine HandSHeadRun.head_any (r := OpenLaw.row PySem.Challenge.rw_formstack_k01_kinds_of_answers) (q := view (OpenLaw.row PySem.Challenge.rw_formstack_k01_kinds_of_answers).prog [41]) (H := K01.hk) (ob := K01.ob) (M := 6000) (loose := K01.others) (d := HandSHeadRun.topDef (OpenLaw.row PySem.Challenge.rw_formstack_k01_kinds_of_answers).prog 41) (kwd := []) K01.ob_eq
    (by kernel_rfl) (fun s => by kernel_rfl) K01.run (by kernel_rfl) (by kernel_rfl) (by kernel_rfl) (by rfl) (by first | assumption | decide +kernel) (by decide +kernel) ⟨rfl, rfl, rfl, rfl, rfl, by decide +kernel⟩ ?hw ?hc
  case hw => w_witness2
  case hc =>
    refine LamX.walk_ofTsE (l := PySem.Challenge.rw_formstack_k01_kinds_of_answers) (n := 63) (k := 2 * 20 + 2) (x := "script") (CX := fun w => L2.CX PySem.Challenge.pw_formstack_k01_kinds_of_answers w) rfl (by decide) (by kernel_rfl) ⟨rfl, by decide, by decide⟩ ?F (fun w H s e s' z => ?G)
    case G => 
      obtain ⟨_, _, _, _, _, _, _, _, _, _, _, _, hE⟩ := z
      exact hE
    case F =>
      intro w mg fa h Y G hmg0
      obtain ⟨K, KX, c⟩ := Y
      have hmg : mg (K01.lawD.nm 31) = some (.ref fa) := by
        have e : (HandSHeadRun.topDef (OpenLaw.row PySem.Challenge.rw_formstack_k01_kinds_of_answers).prog 41).name = K01.lawD.nm 31 := by kernel_rfl
        rw [← e]
        exact hmg0
      exact ⟨K, KX, FS.LawD.law_at (l := PySem.Challenge.rw_formstack_k01_kinds_of_answers) (i := 31) (k := 20) (Ok := K01.Ok) KX G c K01.chk hmg (F := K01.f_law) (by kernel_rfl) (fun t ht => by cases ht; rfl) (fun ns h1 h2 => h1) K01.law_true⟩

