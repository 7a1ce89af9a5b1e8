import PyProof.Rows.All
import Wide.All
import OpenK.AllK
import Wide.FinOn
import HandS.ForMost
import HandS.ForExc
import HandS.ExcCtx
import HandS.Wide
import HandS.TupAny
import HandS.TupLe
import HandS.TupMul
import HandS.IsInst
import HandS.Style
import HandS.Flow
import HandS.Deep
import HandS.NoneIn
import HandS.Evl
import PyProof.Rows.IntBool
import PyProof.P3In
import HandS.Walk
import HandS.Zip
import HandS.Iter
import KE.GoesMore
import HandS.ExcInit
import HandS.ExcSuper
import HandS.Lambda
import KE.KLam
import KE.KNest
import HandS.Text
import HandS.More
import HandS.TupSets
import HandS.SetFor
import KE.SortData
import PyProof.WalksMore
import HandS.Comp
import HandS.ExcOwn
import HandS.WordsExc
import HandS.Defaults
import HandS.Codes
import HandS.Head0
import HandS.Head1
import HandS.Head2
import HandS.HeadEnd
import HandS.HeadHook4
import HandS.HeadWalk
import HandS.HotCalls
import HandS.Hot
import HandS.ExcIs
import PySem.Challenge.RW_straightfence_k01_marks_and_fences
set_option Elab.async false
set_option linter.all false
/-! A small interpreter, by itself: values as data, a store of what may change, expressions and statements of its own. -/
namespace SF
open PySem

inductive D where
  | non | bl (b : Bool) | int (i : Int) | str (s : PySem.Str)
  | tup (l : List D) | lst (l : List D) | scr (l : List Int)
  | ref (n : Nat) | fn (i : Nat) | clo (i : Nat) (env : List D) | exc (c : Nat)
  deriving Inhabited

inductive Ob where
  | lst (l : List D) | ins (c : Nat) (fs : List D)
  deriving Inhabited
abbrev Sto := List Ob
abbrev Env := List (Option D)

inductive Res (α : Type) where
  | ok (a : α) (S : Sto) | exc (c : Nat) (S : Sto) | stuck

def Res.bind {α β : Type} (r : Res α) (f : α → Sto → Res β) : Res β := match r with
  | .ok a S => f a S
  | .exc c S => .exc c S
  | .stuck => .stuck
/-- nothing may be raised here -/
def Res.calm {α : Type} (r : Res α) : Res α := match r with
  | .ok a S => .ok a S
  | _ => .stuck
def ofO (o : Option D) (S : Sto) : Res D := match o with
  | some d => .ok d S
  | none => .stuck

inductive Out where
  | nx (ρ : Env) (S : Sto) | rt (d : D) (S : Sto) | exc (c : Nat) (ρ : Env) (S : Sto) | stuck

/-- classes that isinstance is asked of -/
inductive Ty where
  | int | bool | str | tuple | exc (c : Nat) | own (c : Nat)
  deriving DecidableEq

inductive Pr where
  | add | sub | mul | fdiv | mod | pow | neg | not
  | eq | ne | lt | le | gt | ge | isN | notN | isB | notB | in_ | nin
  | tup | lst | newl | cat
  | ix | rev
  | len | abs | min2 | max2 | min1 | max1 | sum | any | all | int_ | str_ | bool_ | tuple_ | list_ | sorted | sortset | lenset
  | isi (t : Ty)
  | split | join | count | index | lindex | upper | append | pop
  deriving DecidableEq

inductive ItK where
  | seq | r1 | r2 | r3 | zip | enum
  deriving DecidableEq

inductive Tg where
  | v (i : Nat) | t (l : List Tg) | u (l : List Tg)

inductive E where
  | var (i : Nat) | non | bl (b : Bool) | int (i : Int) | str (s : PySem.Str)
  | g (k : Nat)
  | pr (p : Pr) (l : List E)
  | sl (a : E) (lo hi : List E)
  | and (a b : E) | or (a b : E) | ifx (c a b : E)
  | chain (p q : Pr) (a b c : E)
  | call (f : Nat) (l : List E) | callL (f i : Nat) (caps : List Nat) (l : List E) | cv (e : E) (l : List E)
  | lc (own : List Nat) (k : ItK) (its : List E) (t : Tg) (cond : List E) (elt : E)
  | lc2 (own own1 : List Nat) (k : ItK) (its : List E) (t : Tg) (cond : List E) (k1 : ItK) (its1 : List E) (t1 : Tg) (cond1 : List E) (elt : E)
  | lam (i : Nat) (caps : List Nat)

inductive Sm where
  | asg (t : Tg) (e : E) | par2 (i j : Nat) (a b : E) | par3 (i j k : Nat) (a b c : E)
  | setix (a i e : E)
  | ex (e : E) | ret (e : E) | retn | raise (c : Nat) (l : List E)
  | ifs (c : E) (a b : List Sm) | for_ (t : Tg) (k : ItK) (its : List E) (b : List Sm) | wh (c : E) (b : List Sm) | pass

/-! ### closures within data -/
mutual
/-- how deep closures stand in closures -/
def rk : D → Nat
  | .clo _ env => rkL env + 1
  | .tup l => rkL l
  | .lst l => rkL l
  | _ => 0
def rkL : List D → Nat
  | [] => 0
  | d :: l => max (rk d) (rkL l)
end
def rkO : Ob → Nat
  | .lst l => rkL l
  | .ins _ l => rkL l
def plainS (S : Sto) : Bool := S.all fun o => rkO o == 0
/-! ### data -/
mutual
def toPy (S : Sto) : D → Option PyData
  | .non => some .none
  | .bl b => some (.bool b)
  | .int i => some (.int i)
  | .str s => some (.str s)
  | .tup l => (toPyL S l).map .tuple
  | .lst l => (toPyL S l).map .list
  | _ => none
def toPyL (S : Sto) : List D → Option (List PyData)
  | [] => some []
  | d :: l => match toPy S d, toPyL S l with
    | some p, some ps => some (p :: ps)
    | _, _ => none
end
/-- a list's items, wherever it stands -/
def lstOf (S : Sto) : D → Option (List D)
  | .lst l => some l
  | .ref n => match S[n]? with
    | some (.lst l) => some l
    | _ => none
  | _ => none
def topPy (S : Sto) (d : D) : Option PyData := match d with
  | .ref n => match S[n]? with
    | some (.lst l) => (toPyL S l).map .list
    | _ => none
  | d => toPy S d
def eqD (S : Sto) (a b : D) : Option Bool := match topPy S a, topPy S b with
  | some p, some q => if SeqAt.shaped p && SeqAt.shaped q then some (PyData.eqv p q) else none
  | _, _ => none
def truth (S : Sto) : D → Option Bool
  | .non => some false
  | .bl b => some b
  | .int i => some (i != 0)
  | .str s => if s.length ≤ 100000 then some (s.length != 0) else none
  | .tup l => some (!l.isEmpty)
  | .lst l => some (!l.isEmpty)
  | .ref n => match S[n]? with
    | some (.lst l) => some (!l.isEmpty)
    | _ => none
  | _ => none
def b2 (b : Bool) : Int := if b then 1 else 0

/-! ### items that are walked -/
def enumFrom : Nat → List D → List D
  | _, [] => []
  | n, x :: l => .tup [.int n, x] :: enumFrom (n + 1) l
def zipD : List D → List D → List D
  | x :: l, y :: m => .tup [x, y] :: zipD l m
  | _, _ => []
def small (i : Int) : Bool := decide (-(2 ^ 62) ≤ i) && decide (i < 2 ^ 62)
def rangeD (lo c : Int) (n : Nat) : List D := (List.range n).map fun i => .int (lo + (i : Nat) * c)
def items (k : ItK) (ds : List D) : Option (List D) := match k, ds with
  | .seq, [.lst l] => some l
  | .seq, [.tup l] => some l
  | .r1, [.int j] => if small j then some (rangeD 0 1 j.toNat) else none
  | .r2, [.int i, .int j] => if small i && small j then some (rangeD i 1 (j - i).toNat) else none
  | .zip, [.lst l, .lst m] => some (zipD l m)
  | .zip, [.tup l, .tup m] => some (zipD l m)
  | .enum, [.lst l] => some (enumFrom 0 l)
  | .enum, [.tup l] => some (enumFrom 0 l)
  | _, _ => none

mutual
def bindT : Tg → D → Env → Option Env
  | .v i, d, ρ => if i < ρ.length then some (ρ.set i (some d)) else none
  | .t ts, .tup l, ρ => bindL ts l ρ
  | .u ts, .lst l, ρ => bindL ts l ρ
  | _, _, _ => none
def bindL : List Tg → List D → Env → Option Env
  | [], [], ρ => some ρ
  | t :: ts, d :: ds, ρ => match bindT t d ρ with
    | some ρ1 => bindL ts ds ρ1
    | none => none
  | _, _, _ => none
end
def wipe (ρ : Env) : List Nat → Env
  | [] => ρ
  | v :: vs => (wipe ρ vs).set v none
def startE (n : Nat) (ds : List D) : Env := ds.map some ++ List.replicate (n - ds.length) none
/-! ### operations -/
def line (n : Nat) : Bool := decide (n ≤ 100000)
def mulOk (i j : Int) : Bool := decide (i.natAbs < 2 ^ 63) || decide (j.natAbs < 2 ^ 63) || (decide (i.natAbs < 2 ^ 4000) && decide (j.natAbs < 2 ^ 4000))
def pAdd (S : Sto) : D → D → Option D
  | .int i, .int j => some (.int (i + j))
  | .bl b, .int j => some (.int (b2 b + j))
  | .str a, .str b => if line (a.length + b.length) then some (.str (a ++ b)) else none
  | .tup a, .tup b => if line (a.length + b.length) then some (.tup (a ++ b)) else none
  | .lst a, .lst b => if line (a.length + b.length) then some (.lst (a ++ b)) else none
  | _, _ => none
def pSub : D → D → Option D
  | .int i, .int j => some (.int (i - j))
  | .bl b, .int j => some (.int (b2 b - j))
  | _, _ => none
def pMul : D → D → Option D
  | .int i, .int j => if mulOk i j then some (.int (i * j)) else none
  | .lst l, .int k => if small k && line (l.length * k.toNat) then some (.lst (List.replicate k.toNat l).flatten) else none
  | .tup l, .int k => if !l.isEmpty && decide (2 ≤ k) && decide (k ≤ 1000) && decide (l.length ≤ 1000) then some (.tup (List.replicate k.toNat l).flatten) else none
  | _, _ => none
def pDiv : D → D → Option D
  | .int i, .int j => if decide (0 < j) && decide (j < 2 ^ 4000) then some (.int (i / j)) else none
  | _, _ => none
def pMod : D → D → Option D
  | .int i, .int j => if 0 < j then some (.int (i % j)) else none
  | _, _ => none
def pPow : D → D → Option D
  | .int i, .int j => if decide (0 ≤ j) && decide (j ≤ 100) && decide (i.natAbs < 2 ^ 63) then some (.int (i ^ j.toNat)) else none
  | _, _ => none
/-- the ints of a tuple of ints -/
def intsOf : List D → Option (List Int)
  | [] => some []
  | .int i :: l => (intsOf l).map (i :: ·)
  | _ => none
def blsOf : List D → Option (List Bool)
  | [] => some []
  | .bl i :: l => (blsOf l).map (i :: ·)
  | _ => none
def strsOf : List D → Option (List PySem.Str)
  | [] => some []
  | .str i :: l => (strsOf l).map (i :: ·)
  | _ => none
def ltD : D → D → Option Bool
  | .int i, .int j => some (decide (i < j))
  | .tup a, .tup b => match intsOf a, intsOf b with
    | some x, some y => some (HT.lexLt x y)
    | _, _ => none
  | _, _ => none
def leD : D → D → Option Bool
  | .int i, .int j => some (decide (i ≤ j))
  | .tup [.int a, .int b], .tup [.int c, .int d] => some (if a = c then decide (b ≤ d) else decide (a ≤ c))
  | _, _ => none
def gtI : D → D → Option Bool
  | .int i, .int j => some (decide (j < i))
  | _, _ => none
def geI : D → D → Option Bool
  | .int i, .int j => some (decide (j ≤ i))
  | _, _ => none
def bO (o : Option Bool) : Option D := o.map .bl
def nB (o : Option Bool) : Option Bool := o.map (!·)
def isNon : D → Bool
  | .non => true
  | _ => false
def inL (S : Sto) (x : D) (l : List D) : Option Bool := match toPy S x, toPyL S l with
  | some p, some ps => if SeqAt.shaped p && SeqAt.shaped (.list ps) then some (ps.any fun z => PyData.eqv z p) else none
  | _, _ => none
def inD (S : Sto) (x c : D) : Option Bool := match c with
  | .tup l => inL S x l
  | .lst l => inL S x l
  | .str s => match x with
    | .str z => if z.length = 1 then some (decide (z.cps.getD 0 0 ∈ s.cps.toList)) else none
    | _ => none
  | _ => none
def cutD (xs : List D) (lo hi : Option Int) : List D := (xs.drop (HT.sIx xs.length 0 lo)).take (HT.sIx xs.length xs.length hi - HT.sIx xs.length 0 lo)
def pSl (d : D) (lo hi : Option Int) : Option D := match d with
  | .tup l => some (.tup (cutD l lo hi))
  | .lst l => some (.lst (cutD l lo hi))
  | .str s => if line s.length then some (.str (L2.cutS s lo hi)) else none
  | _ => none
def isTy (t : Ty) : D → Option Bool
  | .non => some false
  | .bl _ => some (decide (t = .int ∨ t = .bool))
  | .int _ => some (decide (t = .int))
  | .str _ => some (decide (t = .str))
  | .tup _ => some (decide (t = .tuple))
  | .lst _ => some false
  | _ => none
/-! #### sorted sets -/
def ltP (p q : Int × Int) : Bool := decide (p.1 < q.1) || (decide (p.1 = q.1) && decide (p.2 < q.2))
def insP (x : Int × Int) : List (Int × Int) → List (Int × Int)
  | [] => [x]
  | y :: l => if ltP x y then x :: y :: l else if ltP y x then y :: insP x l else y :: l
/-- ascending, each once -/
def sortP (l : List (Int × Int)) : List (Int × Int) := l.foldr insP []
def pairs : List D → Option (List (Int × Int))
  | [] => some []
  | .tup [.int i, .int j] :: l => (pairs l).map ((i, j) :: ·)
  | _ => none
def unpairs (l : List (Int × Int)) : List D := l.map fun p => .tup [.int p.1, .int p.2]
def maxL : List Int → Int
  | [] => 0
  | [x] => x
  | x :: l => max x (maxL l)
def minL : List Int → Int
  | [] => 0
  | [x] => x
  | x :: l => min x (minL l)

/-- the first place of a thing -/
def firstIx (p : PyData) : Nat → List PyData → Option Nat
  | _, [] => none
  | n, q :: qs => if PyData.eqv q p then some n else firstIx p (n + 1) qs
def ixOf (S : Sto) (x : D) (l : List D) : Option Nat := match toPy S x, toPyL S l with
  | some p, some ps => if SeqAt.shaped p && SeqAt.shaped (.list ps) then firstIx p 0 ps else none
  | _, _ => none
def noDup : List (Int × Int) → Bool
  | [] => true
  | x :: l => !l.contains x && noDup l
def prim (p : Pr) (ds : List D) (S : Sto) : Res D := match p, ds with
  | .add, [a, b] => ofO (pAdd S a b) S
  | .sub, [a, b] => ofO (pSub a b) S
  | .mul, [a, b] => ofO (pMul a b) S
  | .fdiv, [a, b] => ofO (pDiv a b) S
  | .mod, [a, b] => ofO (pMod a b) S
  | .pow, [a, b] => ofO (pPow a b) S
  | .neg, [.int i] => .ok (.int (-i)) S
  | .not, [d] => ofO (bO (nB (truth S d))) S
  | .eq, [a, b] => ofO (bO (eqD S a b)) S
  | .ne, [a, b] => ofO (bO (nB (eqD S a b))) S
  | .lt, [a, b] => ofO (bO (ltD a b)) S
  | .gt, [a, b] => ofO (bO (gtI a b)) S
  | .le, [a, b] => ofO (bO (leD a b)) S
  | .ge, [a, b] => ofO (bO (geI a b)) S
  | .isN, [a] => .ok (.bl (isNon a)) S
  | .notN, [a] => .ok (.bl (!isNon a)) S
  | .isB, [.bl a, .bl b] => .ok (.bl (a == b)) S
  | .notB, [.bl a, .bl b] => .ok (.bl (a != b)) S
  | .in_, [x, c] => ofO (bO (inD S x c)) S
  | .nin, [x, c] => ofO (bO (nB (inD S x c))) S
  | .tup, l => if line l.length then .ok (.tup l) S else .stuck
  | .lst, l => if line l.length then .ok (.lst l) S else .stuck
  | .newl, l => if line l.length then .ok (.ref S.length) (S ++ [.lst l]) else .stuck
  | .ix, [.tup l, .int i] => ofO (L2.atI l i) S
  | .ix, [.lst l, .int i] => ofO (L2.atI l i) S
  | .ix, [.scr l, .int i] => ofO ((L2.atI l i).map .int) S
  | .ix, [.ref n, .int i] => ofO ((lstOf S (.ref n)).bind fun l => L2.atI l i) S
  | .len, [.tup l] => .ok (.int l.length) S
  | .len, [.lst l] => .ok (.int l.length) S
  | .len, [.scr l] => .ok (.int l.length) S
  | .len, [.str s] => if line s.length then .ok (.int s.length) S else .stuck
  | .abs, [.int i] => .ok (.int (if i < 0 then -i else i)) S
  | .min2, [.int i, .int j] => .ok (.int (if j < i then j else i)) S
  | .max2, [.int i, .int j] => .ok (.int (if j > i then j else i)) S
  | .sum, [.lst l] => ofO ((intsOf l).map fun x => .int x.sum) S
  | .max1, [.lst l] => ofO ((intsOf l).bind fun x => if x.isEmpty then none else some (.int (maxL x))) S
  | .min1, [.lst l] => ofO ((intsOf l).bind fun x => if x.isEmpty then none else some (.int (minL x))) S
  | .any, [.lst l] => ofO ((blsOf l).map fun x => .bl (x.any id)) S
  | .all, [.lst l] => ofO ((blsOf l).map fun x => .bl (x.all id)) S
  | .int_, [.int i] => .ok (.int i) S
  | .int_, [.str s] => if s.length ≤ 640 then ofO ((PySem.intText? s).map .int) S else .stuck
  | .str_, [.int i] => if i.natAbs < 2 ^ 1900 then .ok (.str (PySem.Str.ofString (toString i))) S else .stuck
  | .str_, [.bl b] => .ok (.str (if b then "True" else "False")) S
  | .tuple_, [.lst l] => .ok (.tup l) S
  | .tuple_, [.tup l] => .ok (.tup l) S
  | .list_, [.lst l] => .ok (.lst l) S
  | .list_, [.tup l] => .ok (.lst l) S
  | .sortset, [.tup l] => if l.length ≤ 30 then ofO ((pairs l).map fun x => .lst (unpairs (sortP x))) S else .stuck
  | .sortset, [.lst l] => if l.length ≤ 30 then ofO ((pairs l).map fun x => .lst (unpairs (sortP x))) S else .stuck
  | .lenset, [.lst l] => if l.length ≤ 30 then ofO ((pairs l).map fun x => .int (sortP x).length) S else .stuck
  | .sorted, [.tup l] => if l.length ≤ 30 then ofO ((pairs l).bind fun x => if noDup x then some (.lst (unpairs (sortP x))) else none) S else .stuck
  | .lindex, [.tup l, x] => ofO ((ixOf S x l).map fun j => .int (j : Nat)) S
  | .index, [.lst l, x] => ofO ((ixOf S x l).map fun j => .int (j : Nat)) S
  | .isi t, [d] => ofO (bO (isTy t d)) S
  | .split, [.str a, .str b] => if (b.length != 0) && line (a.length + 2) then .ok (.lst ((Txt.split a b).map .str)) S else .stuck
  | .join, [.str a, .lst l] => ofO ((strsOf l).bind fun ys => if line ((ys.map (·.length)).sum + ys.length * a.length) then some (.str (Txt.join a ys)) else none) S
  | .append, [.ref n, d] => (match S[n]? with
    | some (.lst l) => if line (l.length + 1) then .ok .non (S.set n (.lst (l ++ [d]))) else .stuck
    | _ => .stuck)
  | .pop, [.ref n] => (match S[n]? with
    | some (.lst l) => (match l[l.length - 1]? with
      | some d => .ok d (S.set n (.lst l.dropLast))
      | none => .stuck)
    | _ => .stuck)
  | .rev, [.lst l] => .ok (.lst l.reverse) S
  | .count, [.str a, .str b] => .ok (.int (Txt.count a b)) S
  | .upper, [.str a] => if line a.length then .ok (.str (Txt.upper a)) S else .stuck
  | _, _ => .stuck

/-! ### expressions -/
def lcLoop (turn : D → Sto → Res (Option D)) : List D → Sto → Res (List D)
  | [], S => .ok [] S
  | x :: xs, S => (turn x S).bind fun o S1 => (lcLoop turn xs S1).bind fun r S2 => .ok (o.toList ++ r) S2
def lc2Loop (turn : D → Sto → Res (List D)) : List D → Sto → Res (List D)
  | [], S => .ok [] S
  | x :: xs, S => (turn x S).bind fun o S1 => (lc2Loop turn xs S1).bind fun r S2 => .ok (o ++ r) S2
section
variable (call : D → List D → Sto → Res D) (gl : List D)
mutual
def ev : E → Env → Sto → Res D
  | .var i, ρ, S => match ρ[i]? with
    | some (some d) => .ok d S
    | _ => .stuck
  | .non, _, S => .ok .non S
  | .bl b, _, S => .ok (.bl b) S
  | .int i, _, S => .ok (.int i) S
  | .str x, _, S => .ok (.str x) S
  | .g k, _, S => ofO gl[k]? S
  | .pr p l, ρ, S => (evL l ρ S).bind (prim p)
  | .sl a lo hi, ρ, S => (ev a ρ S).bind fun d S1 => (evI lo ρ S1).bind fun i S2 => (evI hi ρ S2).bind fun j S3 => ofO (pSl d i j) S3
  | .and a b, ρ, S => (ev a ρ S).bind fun d S1 => match truth S1 d with
    | some true => ev b ρ S1
    | some false => .ok d S1
    | none => .stuck
  | .or a b, ρ, S => (ev a ρ S).bind fun d S1 => match truth S1 d with
    | some true => .ok d S1
    | some false => ev b ρ S1
    | none => .stuck
  | .ifx c a b, ρ, S => (ev c ρ S).bind fun d S1 => match truth S1 d with
    | some true => ev a ρ S1
    | some false => ev b ρ S1
    | none => .stuck
  | .chain p q a b c, ρ, S => (ev a ρ S).bind fun x S1 => (ev b ρ S1).bind fun y S2 => (prim p [x, y] S2).bind fun z S3 => match z with
    | .bl true => (ev c ρ S3).bind fun u S4 => prim q [y, u] S4
    | .bl false => .ok (.bl false) S3
    | _ => .stuck
  | .call f l, ρ, S => (evL l ρ S).bind fun ds S1 => call (.fn f) ds S1
  | .callL f i caps l, ρ, S => match caps.mapM fun j => ρ[j]?.join with
    | some env => (evL l ρ S).bind fun ds S1 => match call (.fn f) (.clo i env :: ds) S1 with
      | .ok d S2 => if rk d == 0 && plainS S2 then .ok d S2 else .stuck
      | _ => .stuck
    | none => .stuck
  | .cv e l, ρ, S => (ev e ρ S).bind fun f S1 => (evL l ρ S1).calm.bind fun ds S2 => call f ds S2
  | .lc own k its t cond elt, ρ, S => (evL its ρ S).bind fun ds S1 => match items k ds with
    | none => .stuck
    | some xs => (lcLoop (fun x S => match bindT t x (wipe ρ own) with
        | none => .stuck
        | some ρ1 => (evC cond ρ1 S).calm.bind fun b S1 => if b then (ev elt ρ1 S1).calm.bind fun d S2 => .ok (some d) S2 else .ok none S1) xs S1).bind fun r S2 => if line r.length then .ok (.lst r) S2 else .stuck
  | .lc2 own own1 k its t cond k1 its1 t1 cond1 elt, ρ, S => (evL its ρ S).bind fun ds S1 => match items k ds with
    | none => .stuck
    | some xs => (lc2Loop (fun x S => match bindT t x (wipe ρ own) with
        | none => .stuck
        | some ρ1 => (evC cond ρ1 S).calm.bind fun b S1 => if b then (evL its1 ρ1 S1).calm.bind fun ds S2 => (match items k1 ds with
          | none => .stuck
          | some ys => lcLoop (fun y S => match bindT t1 y (wipe ρ1 own1) with
            | none => .stuck
            | some ρ2 => (evC cond1 ρ2 S).calm.bind fun b S1 => if b then (ev elt ρ2 S1).calm.bind fun d S2 => .ok (some d) S2 else .ok none S1) ys S2) else .ok [] S1) xs S1).bind fun r S2 => if line r.length then .ok (.lst r) S2 else .stuck
  | .lam i caps, ρ, S => match caps.mapM fun j => ρ[j]?.join with
    | some env => .ok (.clo i env) S
    | none => .stuck
def evL : List E → Env → Sto → Res (List D)
  | [], _, S => .ok [] S
  | e :: l, ρ, S => (ev e ρ S).bind fun d S1 => (evL l ρ S1).bind fun ds S2 => .ok (d :: ds) S2
/-- a bound of a slice: none, or an int -/
def evI : List E → Env → Sto → Res (Option Int)
  | [], _, S => .ok none S
  | [c], ρ, S => (ev c ρ S).bind fun d S1 => match d with
    | .int i => .ok (some i) S1
    | _ => .stuck
  | _, _, _ => .stuck
/-- the tests of a comprehension: none, or one -/
def evC : List E → Env → Sto → Res Bool
  | [], _, S => .ok true S
  | [c], ρ, S => (ev c ρ S).bind fun d S1 => match truth S1 d with
    | some b => .ok b S1
    | none => .stuck
  | _, _, _ => .stuck
end

/-! ### statements -/
def forLoop (t : Tg) (body : Env → Sto → Out) : List D → Env → Sto → Out
  | [], ρ, S => .nx ρ S
  | x :: xs, ρ, S => match bindT t x ρ with
    | none => .stuck
    | some ρ1 => match body ρ1 S with
      | .nx ρ2 S2 => forLoop t body xs ρ2 S2
      | o => o
def whLoop (c : Env → Sto → Res D) (body : Env → Sto → Out) : Nat → Env → Sto → Out
  | 0, _, _ => .stuck
  | n + 1, ρ, S => match c ρ S with
    | .ok d S1 => (match truth S1 d with
      | some true => (match body ρ S1 with
        | .nx ρ2 S2 => whLoop c body n ρ2 S2
        | o => o)
      | some false => .nx ρ S1
      | none => .stuck)
    | .exc k S1 => .exc k ρ S1
    | .stuck => .stuck
def lift {α : Type} (r : Res α) (ρ : Env) (f : α → Sto → Out) : Out := match r with
  | .ok a S => f a S
  | .exc k S => .exc k ρ S
  | .stuck => .stuck
def fuelW : Nat := 1000000000000000000
def setLst (S : Sto) (o i v : D) : Option Sto := match o, i with
  | .ref n, .int k => match S[n]? with
    | some (.lst l) => (L2.ixN l.length k).map fun j => S.set n (.lst (l.set j v))
    | _ => none
  | _, _ => none
mutual
def ex : Sm → Env → Sto → Out
  | .asg t e, ρ, S => lift (ev call gl e ρ S) ρ fun d S1 => match bindT t d ρ with
    | some ρ1 => .nx ρ1 S1
    | none => .stuck
  | .par2 i j a b, ρ, S => lift (evL call gl [a, b] ρ S) ρ fun ds S1 => match ds with
    | [x, y] => if decide (i < ρ.length) && decide (j < ρ.length) then .nx ((ρ.set i (some x)).set j (some y)) S1 else .stuck
    | _ => .stuck
  | .par3 i j k a b c, ρ, S => lift (evL call gl [a, b, c] ρ S) ρ fun ds S1 => match ds with
    | [x, y, z] => if decide (i < ρ.length) && decide (j < ρ.length) && decide (k < ρ.length) then .nx (((ρ.set i (some x)).set j (some y)).set k (some z)) S1 else .stuck
    | _ => .stuck
  | .setix a i e, ρ, S => lift (evL call gl [e, a, i] ρ S) ρ fun ds S1 => match ds with
    | [v, o, k] => (match setLst S1 o k v with
      | some S2 => .nx ρ S2
      | none => .stuck)
    | _ => .stuck
  | .ex e, ρ, S => lift (ev call gl e ρ S) ρ fun _ S1 => .nx ρ S1
  | .ret e, ρ, S => lift (ev call gl e ρ S) ρ fun d S1 => .rt d S1
  | .retn, _, S => .rt .non S
  | .raise c l, ρ, S => lift (evL call gl l ρ S) ρ fun _ S1 => .exc c ρ S1
  | .ifs c a b, ρ, S => lift (ev call gl c ρ S) ρ fun d S1 => match truth S1 d with
    | some true => exL a ρ S1
    | some false => exL b ρ S1
    | none => .stuck
  | .for_ t k its b, ρ, S => lift (evL call gl its ρ S) ρ fun ds S1 => match items k ds with
    | some xs => forLoop t (exL b) xs ρ S1
    | none => .stuck
  | .wh c b, ρ, S => whLoop (ev call gl c) (exL b) fuelW ρ S
  | .pass, ρ, S => .nx ρ S
def exL : List Sm → Env → Sto → Out
  | [], ρ, S => .nx ρ S
  | s :: l, ρ, S => match ex s ρ S with
    | .nx ρ1 S1 => exL l ρ1 S1
    | o => o
end
end

/-! ### a program -/
inductive Df where
  | df (np nN : Nat) (body : List Sm)
  | err | told | nev
structure Lm where
  np : Nat
  nc : Nat
  nN : Nat
  body : E
structure Prg where
  gl : List D
  defs : List Df
  lams : List Lm
  names : List PySem.Str
def endO : Out → Res D
  | .nx _ S => .ok .non S
  | .rt d S => .ok d S
  | .exc c _ S => .exc c S
  | .stuck => .stuck
def run (G : Prg) : Nat → D → List D → Sto → Res D
  | 0, _, _, _ => .stuck
  | n + 1, .fn i, ds, S => match G.defs[i]? with
    | some (.df np nN body) => if ds.length = np then endO (exL (run G n) G.gl body (startE nN ds) S) else .stuck
    | some .err => (match ds with
      | [c] => (match run G n c [] S with
        | .ok _ S1 => .ok (.str "") S1
        | .exc k S1 => ofO (G.names[k]?.map .str) S1
        | .stuck => .stuck)
      | _ => .stuck)
    | some .told => (match ds with
      | [c] => (match run G n c [] S with
        | .ok d S1 => .ok (.tup [d, .str ""]) S1
        | .exc k S1 => ofO (G.names[k]?.map fun z => .tup [.non, .str z]) S1
        | .stuck => .stuck)
      | _ => .stuck)
    | some .nev => .stuck
    | none => .stuck
  | n + 1, .clo i env, ds, S => match G.lams[i]? with
    | some m => if ds.length = m.np ∧ env.length = m.nc ∧ rkL ds = 0 ∧ plainS S = true then ev (run G n) G.gl m.body (startE m.nN (ds ++ env)) S else .stuck
    | none => .stuck
  | _ + 1, _, _, _ => .stuck
end SF

set_option maxHeartbeats 200000
set_option Elab.async false
set_option linter.all false
set_option maxRecDepth 100000
/-! What the interpreter's data are in the abstract heap; readings by the interpreter. -/
namespace SF
open PySem PySem.Spec PyProof.Rows L2

/-- an error's dict: only those of the class that writes a field have one -/
def Dk (c : Nat) : Type := { d : Option Addr // c ≠ 16 → d = none }
def dk0 (c : Nat) : Dk c := ⟨none, fun _ => rfl⟩
/-- where the store's objects stand; what nothing may lean on (a list that is being made) -/
structure Lay where
  refs : List Addr
  msk : List Addr
def Lay.out (φ : Lay) (a : Addr) : Prop := a ∉ φ.refs ∧ a ∉ φ.msk
def Lay.add (φ : Lay) (p : Addr) : Lay := ⟨φ.refs ++ [p], φ.msk⟩
def Lay.hide (φ : Lay) (p : Addr) : Lay := ⟨φ.refs, p :: φ.msk⟩

/-- what stands still: the module's part, where functions and classes stand, what is true of tables, what a closure is -/
structure Cn where
  K : PySem.W.Frag
  fnA : Nat → Addr
  clA : Nat → Addr
  tab : Hp → Prop
  clo : Lay → Hp → V → Nat → Nat → List V → Prop

structure Fr (φ : Lay) (H : Hp) (φ' : Lay) (H' : Hp) : Prop where
  pre : ∃ ψ, φ'.refs = φ.refs ++ ψ
  msk : φ'.msk = φ.msk
  keep : ∀ b o, b ∉ φ.refs → H b = some o → (∀ ps, o ≠ .tbl ps) → H' b = some o
  new : ∀ b, b ∈ φ'.refs → b ∈ φ.refs ∨ H b = none
  back : ∀ b, H' b = none → H b = none
/-- what data lean on is kept -/
structure Kp (φ : Lay) (H : Hp) (φ' : Lay) (H' : Hp) : Prop where
  pre : ∃ ψ, φ'.refs = φ.refs ++ ψ
  keep : ∀ b o, φ.out b → H b = some o → (∀ ps, o ≠ .tbl ps) → φ'.out b ∧ H' b = some o

structure CnOk (C : Cn) : Prop where
  tab : ∀ H H', C.tab H → (∀ b o, H b = some o → (∀ l, o ≠ .lst l) → (∀ A d f, o ≠ .ins A d f) → (∀ x u, o ≠ .frz x u) → H' b = some o) → C.tab H'
  clo : ∀ φ H φ' H' v i r ws, Kp φ H φ' H' → C.clo φ H v i r ws → C.clo φ' H' v i r ws
  low : ∀ φ H H' v i r ws n, (∀ b o, H b = some o → (∀ x, o ≠ .frz x (.own n)) → H' b = some o) → r < n → C.clo φ H v i r ws → C.clo φ H' v i r ws
  ref : ∀ φ H v i r ws, C.clo φ H v i r ws → ∃ a, v = .ref a

/-- an object of the module's part -/
def KTup (K : PySem.W.Frag) (a : Addr) (xs : List V) : Prop := ∃ (o : Obj) (its : Array Value) (n : Nat), K.lookup a = some o ∧ o.cls = .type "tuple" ∧ o.data = .seq its n ∧ its.size ≤ sizeLine ∧ Vals xs its.toList
def KLst (K : PySem.W.Frag) (a : Addr) (xs : List V) : Prop := ∃ (o : Obj) (its : Array Value) (n : Nat), K.lookup a = some o ∧ o.cls = .type "list" ∧ o.dict = none ∧ o.data = .seq its n ∧ its.size ≤ sizeLine ∧ Vals xs its.toList

mutual
def Rep (C : Cn) (φ : Lay) (H : Hp) : V → D → Prop
  | v, .non => v = .non
  | v, .bl b => v = .bl b
  | v, .int i => v = .int i
  | v, .str s => v = .str s
  | v, .tup l => ∃ a vs, v = .ref a ∧ ((φ.out a ∧ Rd H a (.tup vs)) ∨ KTup C.K a vs) ∧ RepL C φ H vs l
  | v, .lst l => ∃ a vs, v = .ref a ∧ φ.out a ∧ H a = some (.lst vs) ∧ RepL C φ H vs l
  | v, .scr l => ∃ a, v = .ref a ∧ ((φ.out a ∧ Rd H a (.lst (l.map V.int))) ∨ KLst C.K a (l.map V.int))
  | v, .ref n => ∃ a, v = .ref a ∧ φ.refs[n]? = some a
  | v, .fn i => v = .ref (C.fnA i)
  | v, .clo i env => ∃ ws, C.clo φ H v i (rkL env + 1) ws ∧ RepL C φ H ws env
  | _, .exc _ => False
def RepL (C : Cn) (φ : Lay) (H : Hp) : List V → List D → Prop
  | [], [] => True
  | v :: vs, d :: ds => Rep C φ H v d ∧ RepL C φ H vs ds
  | _, _ => False
end

def ObR (C : Cn) (φ : Lay) (H : Hp) (a : Addr) : Ob → Prop
  | .lst l => ∃ vs, H a = some (.lst vs) ∧ RepL C φ H vs l
  | .ins _ _ => False

structure SR (C : Cn) (φ : Lay) (S : Sto) (H : Hp) : Prop where
  len : φ.refs.length = S.length
  nd : φ.refs.Nodup
  obj : ∀ (i : Nat) (o : Ob) (a : Addr), S[i]? = some o → φ.refs[i]? = some a → ObR C φ H a o
  tab : C.tab H
  hid : ∀ b ∈ φ.msk, ∃ vs, H b = some (.lst vs)

structure ER (C : Cn) (φ : Lay) (H : Hp) (ρ : Env) (σ : L2.St) : Prop where
  len : ρ.length = σ.length
  get : ∀ (i : Nat) (d : D), ρ[i]? = some (some d) → ∃ v, σ[i]? = some (some v) ∧ Rep C φ H v d

/-! ### frames -/
theorem Fr.refl (φ : Lay) (H : Hp) : Fr φ H φ H := ⟨⟨[], by simp⟩, rfl, fun _ _ _ h _ => h, fun _ h => .inl h, fun _ h => h⟩
theorem Fr.out {φ φ' : Lay} {H H' : Hp} (f : Fr φ H φ' H') {b : Addr} {o : HO} (h : φ.out b) (e : H b = some o) : φ'.out b := by
  refine ⟨fun m => ?_, fun m => ?_⟩
  · rcases f.new b m with z | z
    · exact h.1 z
    · rw [z] at e; cases e
  · rw [f.msk] at m
    exact h.2 m
theorem Fr.kp {φ φ' : Lay} {H H' : Hp} (f : Fr φ H φ' H') : Kp φ H φ' H' := ⟨f.pre, fun b o n e t => ⟨f.out n e, f.keep b o n.1 e t⟩⟩
theorem Kp.at {φ φ' : Lay} {H H' : Hp} (f : Kp φ H φ' H') {n : Nat} {a : Addr} (h : φ.refs[n]? = some a) : φ'.refs[n]? = some a := by
  obtain ⟨ψ, e⟩ := f.pre
  obtain ⟨hl, _⟩ := List.getElem?_eq_some_iff.mp h
  rw [e, List.getElem?_append_left hl, h]
theorem Fr.trans {φ φ1 φ2 : Lay} {H H1 H2 : Hp} (f : Fr φ H φ1 H1) (g : Fr φ1 H1 φ2 H2) : Fr φ H φ2 H2 where
  pre := by
    obtain ⟨ψ, e⟩ := f.pre
    obtain ⟨χ, e2⟩ := g.pre
    exact ⟨ψ ++ χ, by rw [e2, e, List.append_assoc]⟩
  msk := g.msk.trans f.msk
  keep := fun b o n e t => g.keep b o (fun m => by
    rcases f.new b m with z | z
    · exact n z
    · rw [z] at e; cases e) (f.keep b o n e t) t
  new := fun b m => by
    rcases g.new b m with z | z
    · exact f.new b z
    · exact .inr (f.back b z)
  back := fun b h => f.back b (g.back b h)
theorem rd_keep {φ φ' : Lay} {H H' : Hp} (f : Kp φ H φ' H') {a : Addr} {u : HO} (n : φ.out a) (hu : ∀ ps, u ≠ .tbl ps) (h : Rd H a u) : φ'.out a ∧ Rd H' a u := by
  rcases h with h | ⟨o, h⟩
  · obtain ⟨h1, h2⟩ := f.keep a _ n h hu
    exact ⟨h1, .inl h2⟩
  · obtain ⟨h1, h2⟩ := f.keep a _ n h fun _ z => by cases z
    exact ⟨h1, .inr ⟨o, h2⟩⟩
section
variable {C : Cn} (ok : CnOk C) {φ φ' : Lay} {H H' : Hp}
include ok
mutual
theorem Rep.kp (f : Kp φ H φ' H') : ∀ (d : D) (v : V), Rep C φ H v d → Rep C φ' H' v d
  | .non, _, h => by simpa only [Rep] using h
  | .bl _, _, h => by simpa only [Rep] using h
  | .int _, _, h => by simpa only [Rep] using h
  | .str _, _, h => by simpa only [Rep] using h
  | .tup l, _, h => by
    simp only [Rep] at h ⊢
    obtain ⟨a, vs, e, h1, h2⟩ := h
    refine ⟨a, vs, e, ?_, RepL.kp f l vs h2⟩
    rcases h1 with ⟨n, r⟩ | r
    · exact .inl (rd_keep f n (fun _ z => by cases z) r)
    · exact .inr r
  | .lst l, _, h => by
    simp only [Rep] at h ⊢
    obtain ⟨a, vs, e, n, h1, h2⟩ := h
    obtain ⟨g1, g2⟩ := f.keep a _ n h1 fun _ z => by cases z
    exact ⟨a, vs, e, g1, g2, RepL.kp f l vs h2⟩
  | .scr l, _, h => by
    simp only [Rep] at h ⊢
    obtain ⟨a, e, h1⟩ := h
    refine ⟨a, e, ?_⟩
    rcases h1 with ⟨n, r⟩ | r
    · exact .inl (rd_keep f n (fun _ z => by cases z) r)
    · exact .inr r
  | .ref n, _, h => by
    simp only [Rep] at h ⊢
    obtain ⟨a, e, h1⟩ := h
    exact ⟨a, e, f.at h1⟩
  | .fn i, _, h => by simpa only [Rep] using h
  | .clo i env, _, h => by
    simp only [Rep] at h ⊢
    obtain ⟨ws, h1, h2⟩ := h
    exact ⟨ws, ok.clo _ _ _ _ _ _ _ _ f h1, RepL.kp f env ws h2⟩
  | .exc _, _, h => by simp only [Rep] at h
theorem RepL.kp (f : Kp φ H φ' H') : ∀ (l : List D) (vs : List V), RepL C φ H vs l → RepL C φ' H' vs l
  | [], [], _ => by simp only [RepL]
  | d :: l, v :: vs, h => by
    simp only [RepL] at h ⊢
    exact ⟨Rep.kp f d v h.1, RepL.kp f l vs h.2⟩
  | [], _ :: _, h => by simp only [RepL] at h
  | _ :: _, [], h => by simp only [RepL] at h
end
theorem Rep.mono (f : Fr φ H φ' H') (d : D) (v : V) (h : Rep C φ H v d) : Rep C φ' H' v d := Rep.kp ok f.kp d v h
theorem RepL.mono (f : Fr φ H φ' H') (l : List D) (vs : List V) (h : RepL C φ H vs l) : RepL C φ' H' vs l := RepL.kp ok f.kp l vs h
omit ok in
theorem RepL.length : ∀ {vs : List V} {l : List D}, RepL C φ H vs l → vs.length = l.length
  | [], [], _ => rfl
  | v :: vs, d :: l, h => by
    simp only [RepL] at h
    rw [List.length_cons, List.length_cons, RepL.length h.2]
  | [], _ :: _, h => by simp only [RepL] at h
  | _ :: _, [], h => by simp only [RepL] at h
omit ok in
theorem RepL.get : ∀ {vs : List V} {l : List D} {i : Nat} {d : D}, RepL C φ H vs l → l[i]? = some d → ∃ v, vs[i]? = some v ∧ Rep C φ H v d
  | [], [], _, _, _, e => by simp at e
  | v :: vs, d' :: l, 0, d, h, e => by
    simp only [RepL] at h
    simp at e
    subst e
    exact ⟨v, rfl, h.1⟩
  | v :: vs, d' :: l, i + 1, d, h, e => by
    simp only [RepL] at h
    obtain ⟨w, h1, h2⟩ := RepL.get (i := i) h.2 (by simpa using e)
    exact ⟨w, by simpa using h1, h2⟩
  | [], _ :: _, _, _, h, _ => by simp only [RepL] at h
  | _ :: _, [], _, _, h, _ => by simp only [RepL] at h
omit ok in
theorem RepL.append : ∀ {vs ws : List V} {l m : List D}, RepL C φ H vs l → RepL C φ H ws m → RepL C φ H (vs ++ ws) (l ++ m)
  | [], _, [], _, _, h => h
  | v :: vs, ws, d :: l, m, h, g => by
    simp only [RepL] at h
    show RepL C φ H (v :: (vs ++ ws)) (d :: (l ++ m))
    simp only [RepL]
    exact ⟨h.1, RepL.append h.2 g⟩
  | [], _, _ :: _, _, h, _ => by simp only [RepL] at h
  | _ :: _, _, [], _, h, _ => by simp only [RepL] at h
omit ok in
theorem RepL.drop : ∀ {vs : List V} {l : List D} (n : Nat), RepL C φ H vs l → RepL C φ H (vs.drop n) (l.drop n)
  | _, _, 0, h => h
  | [], [], _ + 1, h => h
  | v :: vs, d :: l, n + 1, h => by
    simp only [RepL] at h
    exact RepL.drop n h.2
  | [], _ :: _, _ + 1, h => by simp only [RepL] at h
  | _ :: _, [], _ + 1, h => by simp only [RepL] at h
omit ok in
theorem RepL.take : ∀ {vs : List V} {l : List D} (n : Nat), RepL C φ H vs l → RepL C φ H (vs.take n) (l.take n)
  | _, _, 0, _ => by simp only [List.take_zero, RepL]
  | [], [], _ + 1, h => h
  | v :: vs, d :: l, n + 1, h => by
    simp only [RepL] at h
    simp only [List.take_succ_cons, RepL]
    exact ⟨h.1, RepL.take n h.2⟩
  | [], _ :: _, _ + 1, h => by simp only [RepL] at h
  | _ :: _, [], _ + 1, h => by simp only [RepL] at h
omit ok in
theorem RepL.set : ∀ {vs : List V} {l : List D} (n : Nat) {v : V} {d : D}, Rep C φ H v d → RepL C φ H vs l → RepL C φ H (vs.set n v) (l.set n d)
  | [], [], _, _, _, _, h => h
  | v :: vs, d :: l, 0, _, _, r, h => by
    simp only [RepL] at h
    simp only [List.set_cons_zero, RepL]
    exact ⟨r, h.2⟩
  | v :: vs, d :: l, n + 1, _, _, r, h => by
    simp only [RepL] at h
    simp only [List.set_cons_succ, RepL]
    exact ⟨h.1, RepL.set n r h.2⟩
  | [], _ :: _, _, _, _, _, h => by simp only [RepL] at h
  | _ :: _, [], _, _, _, _, h => by simp only [RepL] at h
theorem ER.mono {ρ : Env} {σ : L2.St} (f : Fr φ H φ' H') (e : ER C φ H ρ σ) : ER C φ' H' ρ σ :=
  ⟨e.len, fun i d h => let ⟨v, h1, h2⟩ := e.get i d h; ⟨v, h1, Rep.mono ok f d v h2⟩⟩
end

theorem nodup_ix' {N : List Nat} (hN : N.Nodup) {i j : Nat} {x : Nat} (a : N[i]? = some x) (b : N[j]? = some x) : i = j := by
  obtain ⟨h1, e1⟩ := List.getElem?_eq_some_iff.mp a
  obtain ⟨h2, e2⟩ := List.getElem?_eq_some_iff.mp b
  exact (List.getElem_inj hN).mp (e1.trans e2.symm)

/-! ### something new, something changed -/
section
variable {C : Cn} (ok : CnOk C) {φ : Lay} {S : Sto} {H : Hp}
theorem fr_new {p : Addr} {o : HO} (hp : H p = none) : Fr φ H φ (upd H p o) where
  pre := ⟨[], by simp⟩
  msk := rfl
  keep := fun b o _ e _ => by rw [upd_ne (ne_of_none e hp)]; exact e
  new := fun _ h => .inl h
  back := fun b h => by
    by_cases e : b = p
    · rw [e]; exact hp
    · rwa [upd_ne e] at h
include ok
theorem SR.new {p : Addr} {o : HO} (s : SR C φ S H) (hp : H p = none) : SR C φ S (upd H p o) where
  len := s.len
  nd := s.nd
  obj := fun i ob a h1 h2 => by
    have q := s.obj i ob a h1 h2
    cases ob with
    | lst l =>
      obtain ⟨vs, e, r⟩ := q
      exact ⟨vs, by rw [upd_ne (ne_of_none e hp)]; exact e, RepL.mono ok (fr_new hp) l vs r⟩
    | ins c fs => exact q
  tab := ok.tab H _ s.tab fun b o e _ _ _ => by rw [upd_ne (ne_of_none e hp)]; exact e
  hid := fun b hb => let ⟨vs, e⟩ := s.hid b hb; ⟨vs, by rw [upd_ne (ne_of_none e hp)]; exact e⟩
omit ok in
theorem SR.free (s : SR C φ S H) {p : Addr} (hp : H p = none) : φ.out p := by
  refine ⟨fun m => ?_, fun m => by
    obtain ⟨vs, e⟩ := s.hid p m
    rw [hp] at e
    cases e⟩
  obtain ⟨i, hi⟩ := List.mem_iff_getElem?.mp m
  obtain ⟨hl, _⟩ := List.getElem?_eq_some_iff.mp hi
  have hl' : i < List.length S := by rw [← s.len]; exact hl
  have q := s.obj i S[i] p (List.getElem?_eq_getElem hl') hi
  cases e : S[i] with
  | lst l =>
    rw [e] at q
    obtain ⟨vs, z, _⟩ := q
    rw [hp] at z
    cases z
  | ins c fs =>
    rw [e] at q
    exact q
omit ok in
/-- a new object of the store -/
theorem fr_add {p : Addr} {o : HO} (hp : H p = none) : Fr φ H (φ.add p) (upd H p o) where
  pre := ⟨[p], rfl⟩
  msk := rfl
  keep := fun b o _ e _ => by rw [upd_ne (ne_of_none e hp)]; exact e
  new := fun b h => by
    rcases List.mem_append.mp h with h | h
    · exact .inl h
    · rw [List.mem_singleton.mp h]; exact .inr hp
  back := fun b h => by
    by_cases e : b = p
    · rw [e]; exact hp
    · rwa [upd_ne e] at h
theorem SR.add {p : Addr} {vs : List V} {l : List D} (s : SR C φ S H) (hp : H p = none) (r : RepL C φ H vs l) : SR C (φ.add p) (S ++ [.lst l]) (upd H p (.lst vs)) where
  len := by simp [Lay.add, s.len]
  nd := List.nodup_append.mpr ⟨s.nd, by simp, fun a ha b hb => by
    rw [List.mem_singleton.mp hb]
    rintro rfl
    exact (s.free hp).1 ha⟩
  obj := fun i ob a h1 h2 => by
    have h2 : (φ.refs ++ [p])[i]? = some a := h2
    by_cases hi : i < φ.refs.length
    · rw [List.getElem?_append_left hi] at h2
      rw [List.getElem?_append_left (by rw [← s.len]; exact hi)] at h1
      have q := s.obj i ob a h1 h2
      cases ob with
      | lst l =>
        obtain ⟨vs, e, r⟩ := q
        exact ⟨vs, by rw [upd_ne (ne_of_none e hp)]; exact e, RepL.mono ok (fr_add hp) l vs r⟩
      | ins c fs => exact q
    · rw [List.getElem?_append_right (by omega)] at h2
      rw [List.getElem?_append_right (by rw [← s.len]; omega)] at h1
      have e0 : i - φ.refs.length = 0 := by
        cases e : i - φ.refs.length with
        | zero => rfl
        | succ n => rw [e] at h2; simp at h2
      rw [e0] at h2
      rw [← s.len, e0] at h1
      simp at h1 h2
      subst h1 h2
      exact ⟨vs, upd_same, RepL.mono ok (fr_add hp) l vs r⟩
  tab := ok.tab H _ s.tab fun b o e _ _ _ => by rw [upd_ne (ne_of_none e hp)]; exact e
  hid := fun b hb => let ⟨vs, e⟩ := s.hid b hb; ⟨vs, by rw [upd_ne (ne_of_none e hp)]; exact e⟩
omit ok in
/-- an object of the store is changed -/
theorem fr_chg {p : Addr} {o o' : HO} (hm : p ∈ φ.refs) (hp : H p = some o') : Fr φ H φ (upd H p o) where
  pre := ⟨[], by simp⟩
  msk := rfl
  keep := fun b o n e _ => by rw [upd_ne (fun z => n (by rw [z]; exact hm))]; exact e
  new := fun _ h => .inl h
  back := fun b h => by
    by_cases e : b = p
    · rw [e, upd_same] at h; cases h
    · rwa [upd_ne e] at h
theorem SR.chg {n : Nat} {p : Addr} {vs us : List V} {l : List D} (s : SR C φ S H) (hn : φ.refs[n]? = some p) (hp : H p = some (.lst us)) (r : RepL C φ H vs l) : SR C φ (S.set n (.lst l)) (upd H p (.lst vs)) where
  len := by simp [s.len]
  nd := s.nd
  obj := fun i ob a h1 h2 => by
    have hm : p ∈ φ.refs := List.mem_of_getElem? hn
    have f : Fr φ H φ (upd H p (.lst vs)) := fr_chg hm hp
    by_cases hi : n = i
    · subst hi
      rw [hn] at h2
      cases h2
      obtain ⟨hl, _⟩ := List.getElem?_eq_some_iff.mp hn
      rw [List.getElem?_set_self (by rw [← s.len]; exact hl)] at h1
      cases h1
      exact ⟨vs, upd_same, RepL.mono ok f l vs r⟩
    · rw [List.getElem?_set_ne hi] at h1
      have q := s.obj i ob a h1 h2
      have na : a ≠ p := fun e => by
        subst e
        exact hi (nodup_ix' s.nd hn h2)
      cases ob with
      | lst m =>
        obtain ⟨ws, e, r⟩ := q
        exact ⟨ws, by rw [upd_ne na]; exact e, RepL.mono ok f m ws r⟩
      | ins c fs => exact q
  tab := ok.tab H _ s.tab fun b o e h1 _ _ => by
    rw [upd_ne]
    · exact e
    · rintro rfl
      rw [hp] at e
      cases e
      exact h1 _ rfl
  hid := fun b hb => by
    by_cases e : b = p
    · exact ⟨vs, by rw [e, upd_same]⟩
    · obtain ⟨ws, q⟩ := s.hid b hb
      exact ⟨ws, by rw [upd_ne e]; exact q⟩
end

/-! ### readings by the interpreter -/
abbrev Rl (α β : Type) := Lay → Hp → β → α → Prop
section
variable {α β γ δ : Type}
def TR (C : Cn) (W : WX) (R : Rl α β) (φ : Lay) (H : Hp) (σ : L2.St) (r : Res α) (Q : β → Hp → Prop) : Prop := match r with
  | .ok a S => ∀ φ' H' b, Fr φ H φ' H' → SR C φ' S H' → R φ' H' b a → Q b H'
  | .exc c S => ∀ φ' H' (da : Dk c), Fr φ H φ' H' → SR C φ' S H' → W (.ref (C.clA c)) da.1 σ H'
  | .stuck => False
def tG (C : Cn) (W : WX) (R : Rl α β) (f : Env → Sto → Res α) : L2.St → Hp → (β → Hp → Prop) → Prop := fun σ H Q => ∃ φ S ρ, SR C φ S H ∧ ER C φ H ρ σ ∧ TR C W R φ H σ (f ρ S) Q
def tOf (C : Cn) (W : WX) (f : Env → Sto → Res D) : TE := tG C W (Rep C) f
def tOfL (C : Cn) (W : WX) (f : Env → Sto → Res (List D)) : TA := tG C W (RepL C) f
def tOfT (C : Cn) (W : WX) (f : Env → Sto → Res Bool) : TT := tG C W (fun _ _ b a => b = a) f
variable {C : Cn} {W : WX} {R : Rl α β} {R2 : Rl γ δ} {φ φ' : Lay} {H H' : Hp} {σ : L2.St} {r : Res α} {Q Q' : β → Hp → Prop}
theorem TR.fr (f : Fr φ H φ' H') (h : TR C W R φ H σ r Q) : TR C W R φ' H' σ r Q := by
  cases r with
  | ok a S => exact fun φ2 H2 b g s q => h φ2 H2 b (f.trans g) s q
  | exc c S => exact fun φ2 H2 da g s => h φ2 H2 da (f.trans g) s
  | stuck => exact h
theorem TR.imp (h : TR C W R φ H σ r Q) (k : ∀ b H', Q b H' → Q' b H') : TR C W R φ H σ r Q' := by
  cases r with
  | ok a S => exact fun φ2 H2 b g s q => k _ _ (h φ2 H2 b g s q)
  | exc c S => exact h
  | stuck => exact h
theorem tG.imp {f : Env → Sto → Res α} (h : tG C W R f σ H Q) (k : ∀ b H', Q b H' → Q' b H') : tG C W R f σ H Q' := by
  obtain ⟨φ, S, ρ, s, e, t⟩ := h
  exact ⟨φ, S, ρ, s, e, t.imp k⟩
/-- one thing, then another -/
theorem tG.bind (ok : CnOk C) {f : Env → Sto → Res α} {g : Env → α → Sto → Res γ} {K : δ → Hp → Prop} (h : tG C W R2 (fun ρ S => (f ρ S).bind fun a S1 => g ρ a S1) σ H K) :
    tG C W R f σ H fun b H1 => ∃ φ1 S1 ρ a, SR C φ1 S1 H1 ∧ ER C φ1 H1 ρ σ ∧ R φ1 H1 b a ∧ TR C W R2 φ1 H1 σ (g ρ a S1) K := by
  obtain ⟨φ, S, ρ, s, e, t⟩ := h
  refine ⟨φ, S, ρ, s, e, ?_⟩
  replace t : TR C W R2 φ H σ ((f ρ S).bind fun a S1 => g ρ a S1) K := t
  cases hf : f ρ S with
  | ok a S1 =>
    rw [hf] at t
    exact fun φ1 H1 b g s1 r => ⟨φ1, S1, ρ, a, s1, e.mono ok g, r, TR.fr g t⟩
  | exc c S1 =>
    rw [hf] at t
    exact t
  | stuck =>
    rw [hf] at t
    exact t.elim
/-- one thing, then another, from a state that is told -/
theorem TR.seq (ok : CnOk C) {f : Env → Sto → Res α} {S : Sto} {ρ : Env} {g : α → Sto → Res γ} {K : δ → Hp → Prop} (s : SR C φ S H) (e : ER C φ H ρ σ) (t : TR C W R2 φ H σ ((f ρ S).bind g) K) :
    tG C W R f σ H fun b H1 => ∃ φ1 S1 a, Fr φ H φ1 H1 ∧ SR C φ1 S1 H1 ∧ ER C φ1 H1 ρ σ ∧ R φ1 H1 b a ∧ TR C W R2 φ1 H1 σ (g a S1) K := by
  refine ⟨φ, S, ρ, s, e, ?_⟩
  cases hf : f ρ S with
  | ok a S1 =>
    rw [hf] at t
    exact fun φ1 H1 b f1 s1 r => ⟨φ1, S1, a, f1, s1, e.mono ok f1, r, TR.fr f1 t⟩
  | exc c S1 =>
    rw [hf] at t
    exact t
  | stuck =>
    rw [hf] at t
    exact t.elim
theorem tG.of {f : Env → Sto → Res α} {S : Sto} {ρ : Env} (s : SR C φ S H) (e : ER C φ H ρ σ) (t : TR C W R φ H σ (f ρ S) Q) : tG C W R f σ H Q := ⟨φ, S, ρ, s, e, t⟩
end
end SF

set_option maxHeartbeats 200000
set_option Elab.async false
set_option linter.all false
set_option maxRecDepth 100000
/-! The operations: what the interpreter makes of data is what the machine makes of values. -/
namespace SF
open PySem PySem.Spec PyProof.Rows L2

def PR (C : Cn) (φ : Lay) (H : Hp) (r : Res D) (Q : VK) : Prop := match r with
  | .ok d S => ∀ φ' H' v, Fr φ H φ' H' → SR C φ' S H' → Rep C φ' H' v d → Q v H'
  | _ => False
/-- an operation's reading by values -/
def rP (C : Cn) (p : Pr) : List V → Hp → VK → Prop := fun vs H Q => ∃ φ S ds, SR C φ S H ∧ RepL C φ H vs ds ∧ PR C φ H (prim p ds S) Q

section
variable {C : Cn} {φ : Lay} {S : Sto} {H : Hp} {Q : VK}
theorem rep1 {x : V} {ds : List D} (h : RepL C φ H [x] ds) : ∃ a, ds = [a] ∧ Rep C φ H x a := by
  cases ds with
  | nil => simp only [RepL] at h
  | cons a l =>
    cases l with
    | nil => exact ⟨a, rfl, by simp only [RepL] at h; exact h.1⟩
    | cons b l => simp only [RepL] at h; exact h.2.elim
theorem rep2 {x y : V} {ds : List D} (h : RepL C φ H [x, y] ds) : ∃ a b, ds = [a, b] ∧ Rep C φ H x a ∧ Rep C φ H y b := by
  cases ds with
  | nil => simp only [RepL] at h
  | cons a l =>
    simp only [RepL] at h
    obtain ⟨b, rfl, hb⟩ := rep1 h.2
    exact ⟨a, b, rfl, h.1, hb⟩
theorem rep3 {x y z : V} {ds : List D} (h : RepL C φ H [x, y, z] ds) : ∃ a b c, ds = [a, b, c] ∧ Rep C φ H x a ∧ Rep C φ H y b ∧ Rep C φ H z c := by
  cases ds with
  | nil => simp only [RepL] at h
  | cons a l =>
    simp only [RepL] at h
    obtain ⟨b, c, rfl, hb, hc⟩ := rep2 h.2
    exact ⟨a, b, c, rfl, h.1, hb, hc⟩
theorem PR.now {d : D} {v : V} (s : SR C φ S H) (r : Rep C φ H v d) (h : PR C φ H (.ok d S) Q) : Q v H := h φ H v (Fr.refl φ H) s r
theorem ofO_some {o : Option D} (h : PR C φ H (ofO o S) Q) : ∃ d, o = some d ∧ PR C φ H (.ok d S) Q := by
  cases o with
  | none => exact h.elim
  | some d => exact ⟨d, rfl, h⟩
theorem bO_some {o : Option Bool} (h : PR C φ H (ofO (bO o) S) Q) : ∃ b, o = some b ∧ PR C φ H (.ok (.bl b) S) Q := by
  cases o with
  | none => exact h.elim
  | some d => exact ⟨d, rfl, h⟩
theorem line_of {n : Nat} (h : line n = true) : n ≤ sizeLine := Evl.sz_of (of_decide_eq_true h)
theorem Rep.int {v : V} {i : Int} (h : Rep C φ H v (.int i)) : v = .int i := by simpa only [Rep] using h
theorem Rep.bl {v : V} {i : Bool} (h : Rep C φ H v (.bl i)) : v = .bl i := by simpa only [Rep] using h
theorem Rep.str {v : V} {i : PySem.Str} (h : Rep C φ H v (.str i)) : v = .str i := by simpa only [Rep] using h
theorem Rep.non {v : V} (h : Rep C φ H v .non) : v = .non := by simpa only [Rep] using h
theorem Rep.tup {v : V} {l : List D} (h : Rep C φ H v (.tup l)) : ∃ a vs, v = .ref a ∧ SqT C.K H a vs ∧ RepL C φ H vs l := by
  simp only [Rep] at h
  obtain ⟨a, vs, e, h1, h2⟩ := h
  refine ⟨a, vs, e, ?_, h2⟩
  rcases h1 with ⟨_, r⟩ | r
  · exact .inl r
  · exact .inr r
theorem Rep.lst {v : V} {l : List D} (h : Rep C φ H v (.lst l)) : ∃ a vs, v = .ref a ∧ H a = some (.lst vs) ∧ RepL C φ H vs l := by
  simp only [Rep] at h
  obtain ⟨a, vs, e, _, h1, h2⟩ := h
  exact ⟨a, vs, e, h1, h2⟩
theorem Rep.scr {v : V} {l : List Int} (h : Rep C φ H v (.scr l)) : ∃ a, v = .ref a ∧ SqL C.K H a (l.map V.int) := by
  simp only [Rep] at h
  obtain ⟨a, e, h1⟩ := h
  refine ⟨a, e, ?_⟩
  rcases h1 with ⟨_, r⟩ | r
  · exact .inl r
  · exact .inr r
theorem rep_int {i : Int} : Rep C φ H (.int i) (.int i) := by simp only [Rep]
theorem rep_bl {i : Bool} : Rep C φ H (.bl i) (.bl i) := by simp only [Rep]
theorem rep_str {i : PySem.Str} : Rep C φ H (.str i) (.str i) := by simp only [Rep]
theorem rep_non : Rep C φ H .non .non := by simp only [Rep]
theorem PR.int {i : Int} (s : SR C φ S H) (h : PR C φ H (.ok (.int i) S) Q) : Q (.int i) H := h.now s rep_int
theorem PR.bl {i : Bool} (s : SR C φ S H) (h : PR C φ H (.ok (.bl i) S) Q) : Q (.bl i) H := h.now s rep_bl
theorem PR.str {i : PySem.Str} (s : SR C φ S H) (h : PR C φ H (.ok (.str i) S) Q) : Q (.str i) H := h.now s rep_str
/-- a new tuple -/
theorem PR.newT (ok : CnOk C) {l : List D} {vs : List V} (s : SR C φ S H) (r : RepL C φ H vs l) (h : PR C φ H (.ok (.tup l) S) Q) : ∀ p, H p = none → Q (.ref p) (upd H p (.tup vs)) := fun p hp => by
  refine h φ _ _ (fr_new hp) (s.new ok hp) ?_
  simp only [Rep]
  exact ⟨p, vs, rfl, .inl ⟨s.free hp, .inl upd_same⟩, RepL.mono ok (fr_new hp) l vs r⟩
theorem PR.newL (ok : CnOk C) {l : List D} {vs : List V} (s : SR C φ S H) (r : RepL C φ H vs l) (h : PR C φ H (.ok (.lst l) S) Q) : ∀ p, H p = none → Q (.ref p) (upd H p (.lst vs)) := fun p hp => by
  refine h φ _ _ (fr_new hp) (s.new ok hp) ?_
  simp only [Rep]
  exact ⟨p, vs, rfl, s.free hp, upd_same, RepL.mono ok (fr_new hp) l vs r⟩
/-- a new object of the store -/
theorem PR.newR (ok : CnOk C) {l : List D} {vs : List V} (s : SR C φ S H) (r : RepL C φ H vs l) (h : PR C φ H (.ok (.ref S.length) (S ++ [.lst l])) Q) : ∀ p, H p = none → Q (.ref p) (upd H p (.lst vs)) := fun p hp => by
  refine h (φ.add p) _ _ (fr_add hp) (s.add ok hp r) ?_
  simp only [Rep]
  exact ⟨p, rfl, by rw [← s.len]; simp [Lay.add]⟩
theorem RepL.ints : ∀ {l : List D} {ns : List Int} {vs : List V}, intsOf l = some ns → RepL C φ H vs l → vs = ns.map V.int
  | [], _, [], e, _ => by cases e; rfl
  | .int i :: l, ns, v :: vs, e, h => by
    simp only [intsOf, Option.map_eq_some_iff] at e
    obtain ⟨ms, e1, rfl⟩ := e
    simp only [RepL] at h
    rw [h.1.int, RepL.ints e1 h.2]
    rfl
  | [], _, _ :: _, _, h => by simp only [RepL] at h
  | _ :: _, _, [], _, h => by simp only [RepL] at h
  | .non :: _, _, _ :: _, e, _ => by simp [intsOf] at e
  | .bl _ :: _, _, _ :: _, e, _ => by simp [intsOf] at e
  | .str _ :: _, _, _ :: _, e, _ => by simp [intsOf] at e
  | .tup _ :: _, _, _ :: _, e, _ => by simp [intsOf] at e
  | .lst _ :: _, _, _ :: _, e, _ => by simp [intsOf] at e
  | .scr _ :: _, _, _ :: _, e, _ => by simp [intsOf] at e
  | .ref _ :: _, _, _ :: _, e, _ => by simp [intsOf] at e
  | .fn _ :: _, _, _ :: _, e, _ => by simp [intsOf] at e
  | .clo _ _ :: _, _, _ :: _, e, _ => by simp [intsOf] at e
  | .exc _ :: _, _, _ :: _, e, _ => by simp [intsOf] at e
theorem RepL.bls : ∀ {l : List D} {ns : List Bool} {vs : List V}, blsOf l = some ns → RepL C φ H vs l → vs = ns.map V.bl
  | [], _, [], e, _ => by cases e; rfl
  | .bl i :: l, ns, v :: vs, e, h => by
    simp only [blsOf, Option.map_eq_some_iff] at e
    obtain ⟨ms, e1, rfl⟩ := e
    simp only [RepL] at h
    rw [h.1.bl, RepL.bls e1 h.2]
    rfl
  | [], _, _ :: _, _, h => by simp only [RepL] at h
  | _ :: _, _, [], _, h => by simp only [RepL] at h
  | .non :: _, _, _ :: _, e, _ => by simp [blsOf] at e
  | .int _ :: _, _, _ :: _, e, _ => by simp [blsOf] at e
  | .str _ :: _, _, _ :: _, e, _ => by simp [blsOf] at e
  | .tup _ :: _, _, _ :: _, e, _ => by simp [blsOf] at e
  | .lst _ :: _, _, _ :: _, e, _ => by simp [blsOf] at e
  | .scr _ :: _, _, _ :: _, e, _ => by simp [blsOf] at e
  | .ref _ :: _, _, _ :: _, e, _ => by simp [blsOf] at e
  | .fn _ :: _, _, _ :: _, e, _ => by simp [blsOf] at e
  | .clo _ _ :: _, _, _ :: _, e, _ => by simp [blsOf] at e
  | .exc _ :: _, _, _ :: _, e, _ => by simp [blsOf] at e
theorem RepL.strs : ∀ {l : List D} {ns : List PySem.Str} {vs : List V}, strsOf l = some ns → RepL C φ H vs l → vs = ns.map V.str
  | [], _, [], e, _ => by cases e; rfl
  | .str i :: l, ns, v :: vs, e, h => by
    simp only [strsOf, Option.map_eq_some_iff] at e
    obtain ⟨ms, e1, rfl⟩ := e
    simp only [RepL] at h
    rw [h.1.str, RepL.strs e1 h.2]
    rfl
  | [], _, _ :: _, _, h => by simp only [RepL] at h
  | _ :: _, _, [], _, h => by simp only [RepL] at h
  | .non :: _, _, _ :: _, e, _ => by simp [strsOf] at e
  | .int _ :: _, _, _ :: _, e, _ => by simp [strsOf] at e
  | .bl _ :: _, _, _ :: _, e, _ => by simp [strsOf] at e
  | .tup _ :: _, _, _ :: _, e, _ => by simp [strsOf] at e
  | .lst _ :: _, _, _ :: _, e, _ => by simp [strsOf] at e
  | .scr _ :: _, _, _ :: _, e, _ => by simp [strsOf] at e
  | .ref _ :: _, _, _ :: _, e, _ => by simp [strsOf] at e
  | .fn _ :: _, _, _ :: _, e, _ => by simp [strsOf] at e
  | .clo _ _ :: _, _, _ :: _, e, _ => by simp [strsOf] at e
  | .exc _ :: _, _, _ :: _, e, _ => by simp [strsOf] at e
/-! ### data -/
mutual
theorem Rep.dp (s : SR C φ S H) : ∀ (d : D) (v : V) (p : PyData), toPy S d = some p → Rep C φ H v d → Dp C.K H v p
  | .non, v, p, e, r => by cases e; rw [r.non]; exact .non
  | .bl b, v, p, e, r => by cases e; rw [r.bl]; exact .bl b
  | .int b, v, p, e, r => by cases e; rw [r.int]; exact .int b
  | .str b, v, p, e, r => by cases e; rw [r.str]; exact .str b
  | .tup l, v, p, e, r => by
    simp only [toPy, Option.map_eq_some_iff] at e
    obtain ⟨ps, e1, rfl⟩ := e
    obtain ⟨a, vs, rfl, h1, h2⟩ := r.tup
    exact .tup h1 (RepL.dp s l vs ps e1 h2)
  | .lst l, v, p, e, r => by
    simp only [toPy, Option.map_eq_some_iff] at e
    obtain ⟨ps, e1, rfl⟩ := e
    obtain ⟨a, vs, rfl, h1, h2⟩ := r.lst
    exact .lst (SqL.of h1) (RepL.dp s l vs ps e1 h2)
  | .scr _, v, p, e, r => by simp [toPy] at e
  | .ref _, v, p, e, r => by simp [toPy] at e
  | .fn _, v, p, e, r => by simp [toPy] at e
  | .clo _ _, v, p, e, r => by simp [toPy] at e
  | .exc _, v, p, e, r => by simp [toPy] at e
theorem RepL.dp (s : SR C φ S H) : ∀ (l : List D) (vs : List V) (ps : List PyData), toPyL S l = some ps → RepL C φ H vs l → DpAll C.K H vs ps
  | [], [], ps, e, _ => by cases e; exact .nil
  | d :: l, v :: vs, ps, e, r => by
    simp only [RepL] at r
    simp only [toPyL] at e
    cases e1 : toPy S d with
    | none => rw [e1] at e; cases e
    | some q =>
      cases e2 : toPyL S l with
      | none => rw [e1, e2] at e; cases e
      | some qs =>
        rw [e1, e2] at e
        cases e
        exact .cons (Rep.dp s d v q e1 r.1) (RepL.dp s l vs qs e2 r.2)
  | [], _ :: _, _, _, h => by simp only [RepL] at h
  | _ :: _, [], _, _, h => by simp only [RepL] at h
end
theorem Rep.ref (s : SR C φ S H) {n : Nat} {l : List D} {v : V} (e : S[n]? = some (.lst l)) (r : Rep C φ H v (.ref n)) : ∃ a vs, v = .ref a ∧ φ.refs[n]? = some a ∧ H a = some (.lst vs) ∧ RepL C φ H vs l := by
  simp only [Rep] at r
  obtain ⟨a, rfl, h⟩ := r
  obtain ⟨vs, h1, h2⟩ := s.obj n _ a e h
  exact ⟨a, vs, rfl, h, h1, h2⟩
theorem Rep.dpTop (s : SR C φ S H) {d : D} {v : V} {p : PyData} (e : topPy S d = some p) (r : Rep C φ H v d) : Dp C.K H v p := by
  unfold topPy at e
  split at e
  · rename_i n
    split at e
    · rename_i l hl
      simp only [Option.map_eq_some_iff] at e
      obtain ⟨ps, e1, rfl⟩ := e
      obtain ⟨a, vs, rfl, _, h1, h2⟩ := r.ref s hl
      exact .lst (SqL.of h1) (RepL.dp s l vs ps e1 h2)
    · cases e
  · exact Rep.dp s d v p e r
theorem eqD_some {a b : D} {c : Bool} (h : eqD S a b = some c) : ∃ p q, topPy S a = some p ∧ topPy S b = some q ∧ SeqAt.shaped p = true ∧ SeqAt.shaped q = true ∧ c = PyData.eqv p q := by
  unfold eqD at h
  split at h
  · rename_i p q e1 e2
    split at h
    · rename_i hs
      cases h
      rw [Bool.and_eq_true] at hs
      exact ⟨p, q, e1, e2, hs.1, hs.2, rfl⟩
    · cases h
  · cases h
end

/-! ### the operations -/
section
variable {X : Cx} {C : Cn} (ok : CnOk C) (hK : C.K = X.K)
theorem mulOk_of {i j : Int} (h : mulOk i j = true) : CMul i j ∨ CMulW i j := by
  unfold mulOk at h
  rw [Bool.or_eq_true, Bool.or_eq_true, Bool.and_eq_true, decide_eq_true_eq, decide_eq_true_eq, decide_eq_true_eq, decide_eq_true_eq] at h
  have e : (2 : Int) ^ 64 = 18446744073709551616 := by decide
  have e2 : (2 : Nat) ^ 63 = 9223372036854775808 := by decide
  rcases h with (h | h) | ⟨h1, h2⟩
  · rw [e2] at h
    refine .inl (.inl ?_)
    rw [e]
    omega
  · rw [e2] at h
    refine .inl (.inr ?_)
    rw [e]
    omega
  · exact .inr (wide_mul h1 h2 (by decide) (by decide) (by decide))
theorem small_of {i : Int} (h : small i = true) : -(2 ^ 62) ≤ i ∧ i < 2 ^ 62 := by
  unfold small at h
  rw [Bool.and_eq_true, decide_eq_true_eq, decide_eq_true_eq] at h
  exact h
include ok hK
theorem o_add : OpR X (binaryOp .Add) fun x y => rP C .add [x, y] := by
  intro pins s σ H x y v u Q I rx ry ⟨φ, S, ds, hs, hr, pr⟩
  obtain ⟨a, b, rfl, ra, rb⟩ := rep2 hr
  obtain ⟨d, e, pr⟩ := ofO_some pr
  unfold pAdd at e
  split at e
  · cases e
    rw [ra.int] at rx; rw [rb.int] at ry
    exact op_add pins s σ H _ _ v u Q I rx ry ⟨_, _, rfl, rfl, pr.int hs⟩
  · cases e
    rw [ra.bl] at rx; rw [rb.int] at ry
    cases rx
    obtain ⟨t, rfl⟩ := ry
    exact PySem.IntBool.add_bool_int ⟨.int _, H, I.tok _, ⟨_, rfl⟩, pr.int hs⟩
  · split at e
    · rename_i hl
      cases e
      rw [ra.str] at rx; rw [rb.str] at ry
      exact op_add_str pins s σ H _ _ v u Q I rx ry ⟨_, _, rfl, rfl, line_of hl, pr.str hs⟩
    · cases e
  · split at e
    · rename_i l m hl
      cases e
      obtain ⟨p, xs, rfl, h1, h2⟩ := ra.tup
      obtain ⟨q, ys, rfl, g1, g2⟩ := rb.tup
      rw [hK] at h1 g1
      refine op_catA pins s σ H _ _ v u Q I rx ry ⟨p, q, xs, ys, rfl, rfl, h1, g1, ?_, fun e => ?_, fun _ e => ?_, fun _ _ => PR.newT ok hs (h2.append g2) pr⟩
      · rw [h2.length, g2.length]
        exact line_of hl
      · subst e
        have e0 : l = [] := List.eq_nil_of_length_eq_zero h2.length.symm
        subst e0
        exact pr.now hs rb
      · subst e
        have e0 : m = [] := List.eq_nil_of_length_eq_zero g2.length.symm
        subst e0
        rw [List.append_nil] at pr
        exact pr.now hs ra
    · cases e
  · split at e
    · rename_i l m hl
      cases e
      obtain ⟨p, xs, rfl, h1, h2⟩ := ra.lst
      obtain ⟨q, ys, rfl, g1, g2⟩ := rb.lst
      refine op_cat pins s σ H _ _ v u Q I rx ry ⟨p, q, xs, ys, rfl, rfl, h1, g1, ?_, PR.newL ok hs (h2.append g2) pr⟩
      rw [h2.length, g2.length]
      exact line_of hl
    · cases e
  · cases e
omit ok hK in
theorem o_sub : OpR X (binaryOp .Sub) fun x y => rP C .sub [x, y] := by
  intro pins s σ H x y v u Q I rx ry ⟨φ, S, ds, hs, hr, pr⟩
  obtain ⟨a, b, rfl, ra, rb⟩ := rep2 hr
  obtain ⟨d, e, pr⟩ := ofO_some pr
  unfold pSub at e
  split at e
  · cases e
    rw [ra.int] at rx; rw [rb.int] at ry
    exact op_sub pins s σ H _ _ v u Q I rx ry ⟨_, _, rfl, rfl, pr.int hs⟩
  · cases e
    rw [ra.bl] at rx; rw [rb.int] at ry
    cases rx
    obtain ⟨t, rfl⟩ := ry
    exact PySem.IntBool.sub_bool_int ⟨.int _, H, I.tok _, ⟨_, rfl⟩, pr.int hs⟩
  · cases e
omit ok hK in
theorem rep_flat {φ : Lay} {H : Hp} {vs : List V} {l : List D} (h : RepL C φ H vs l) : ∀ k : Nat, RepL C φ H (List.replicate k vs).flatten (List.replicate k l).flatten
  | 0 => by simp only [List.replicate_zero, List.flatten_nil, RepL]
  | k + 1 => by
    simp only [List.replicate_succ, List.flatten_cons]
    exact h.append (rep_flat h k)
theorem o_mul : OpR X (binaryOp .Mult) fun x y => rP C .mul [x, y] := by
  intro pins s σ H x y v u Q I rx ry ⟨φ, S, ds, hs, hr, pr⟩
  obtain ⟨a, b, rfl, ra, rb⟩ := rep2 hr
  obtain ⟨d, e, pr⟩ := ofO_some pr
  unfold pMul at e
  split at e
  · split at e
    · rename_i hm
      cases e
      rw [ra.int] at rx; rw [rb.int] at ry
      rcases mulOk_of hm with hm | hm
      · exact op_mul pins s σ H _ _ v u Q I rx ry ⟨_, _, rfl, rfl, hm, pr.int hs⟩
      · exact op_mulW pins s σ H _ _ v u Q I rx ry ⟨_, _, rfl, rfl, hm, pr.int hs⟩
    · cases e
  · split at e
    · rename_i l k hm
      cases e
      rw [Bool.and_eq_true] at hm
      obtain ⟨p, xs, rfl, h1, h2⟩ := ra.lst
      rw [rb.int] at ry
      have hk := small_of hm.1
      have e62 : (2 : Int) ^ 62 = 4611686018427387904 := by decide
      have e63 : (2 : Int) ^ 63 = 9223372036854775808 := by decide
      refine op_rep pins s σ H _ _ v u Q I rx ry ⟨p, k, xs, rfl, rfl, h1, by rw [e62] at hk; rw [e63]; omega, by rw [e62] at hk; rw [e63]; omega, ?_, PR.newL ok hs (rep_flat h2 _) pr⟩
      rw [h2.length]
      exact line_of hm.2
    · cases e
  · split at e
    · rename_i l k hm
      cases e
      simp only [Bool.and_eq_true, decide_eq_true_eq, Bool.not_eq_true', List.isEmpty_eq_false_iff] at hm
      obtain ⟨⟨⟨h0, h1⟩, h2⟩, h3⟩ := hm
      obtain ⟨p, xs, rfl, g1, g2⟩ := ra.tup
      rw [hK] at g1
      rw [rb.int] at ry
      refine op_repT pins s σ H _ _ v u Q I rx ry ⟨p, k, xs, rfl, rfl, g1, fun z => ?_, h1, h2, by rw [g2.length]; exact h3, PR.newT ok hs (rep_flat g2 _) pr⟩
      subst z
      exact h0 (List.eq_nil_of_length_eq_zero g2.length.symm)
    · cases e
  · cases e
omit ok hK in
theorem o_div : OpR X (binaryOp .FloorDiv) fun x y => rP C .fdiv [x, y] := by
  intro pins s σ H x y v u Q I rx ry ⟨φ, S, ds, hs, hr, pr⟩
  obtain ⟨a, b, rfl, ra, rb⟩ := rep2 hr
  obtain ⟨d, e, pr⟩ := ofO_some pr
  unfold pDiv at e
  split at e
  · split at e
    · rename_i j hm
      cases e
      rw [Bool.and_eq_true, decide_eq_true_eq, decide_eq_true_eq] at hm
      rw [ra.int] at rx; rw [rb.int] at ry
      refine op_fdivW pins s σ H _ _ v u Q I rx ry ⟨_, _, rfl, rfl, wide_div hm.1 (b := 4000) ?_ (by decide) (by decide), pr.int hs⟩
      have e4 : ((2 ^ 4000 : Nat) : Int) = 2 ^ 4000 := by norm_cast
      omega
    · cases e
  · cases e
omit ok hK in
theorem o_mod : OpR X (binaryOp .Mod) fun x y => rP C .mod [x, y] := by
  intro pins s σ H x y v u Q I rx ry ⟨φ, S, ds, hs, hr, pr⟩
  obtain ⟨a, b, rfl, ra, rb⟩ := rep2 hr
  obtain ⟨d, e, pr⟩ := ofO_some pr
  unfold pMod at e
  split at e
  · split at e
    · rename_i hm
      cases e
      rw [ra.int] at rx; rw [rb.int] at ry
      exact op_mod pins s σ H _ _ v u Q I rx ry ⟨_, _, rfl, rfl, hm, pr.int hs⟩
    · cases e
  · cases e
omit ok hK in
theorem o_pow : OpR X (binaryOp .Pow) fun x y => rP C .pow [x, y] := by
  intro pins s σ H x y v u Q I rx ry ⟨φ, S, ds, hs, hr, pr⟩
  obtain ⟨a, b, rfl, ra, rb⟩ := rep2 hr
  obtain ⟨d, e, pr⟩ := ofO_some pr
  unfold pPow at e
  split at e
  · split at e
    · rename_i hm
      cases e
      simp only [Bool.and_eq_true, decide_eq_true_eq] at hm
      rw [ra.int] at rx; rw [rb.int] at ry
      have e63 : (2 : Nat) ^ 63 = 9223372036854775808 := by decide
      have e64 : (2 : Nat) ^ 64 = 18446744073709551616 := by decide
      exact op_pow pins s σ H _ _ v u Q I rx ry ⟨_, _, rfl, rfl, ⟨hm.1.1, by omega, by rw [e64]; rw [e63] at hm; omega⟩, pr.int hs⟩
    · cases e
  · cases e
omit ok hK in
theorem u_neg : UnR X (unaryOp .USub) fun x => rP C .neg [x] := by
  intro pins s σ H x v Q I rx ⟨φ, S, ds, hs, hr, pr⟩
  obtain ⟨a, rfl, ra⟩ := rep1 hr
  cases a with
  | int i =>
    rw [ra.int] at rx
    exact un_neg pins s σ H _ v Q I rx ⟨_, rfl, PR.int hs pr⟩
  | _ => exact pr.elim
omit ok in
theorem o_eq (hu : X.A.units + 66 < cLine) : OpR X (compareOp .Eq) fun x y => rP C .eq [x, y] := by
  intro pins s σ H x y v u Q I rx ry ⟨φ, S, ds, hs, hr, pr⟩
  obtain ⟨a, b, rfl, ra, rb⟩ := rep2 hr
  obtain ⟨d, e, pr⟩ := bO_some pr
  obtain ⟨p, q, e1, e2, s1, s2, rfl⟩ := eqD_some e
  refine op_eqD (by omega) pins s σ H _ _ v u Q I rx ry ⟨p, q, ?_, ?_, s1, s2, pr.bl hs⟩
  · rw [← hK]; exact ra.dpTop hs e1
  · rw [← hK]; exact rb.dpTop hs e2
omit ok in
theorem o_ne (hu : X.A.units + 66 < cLine) : OpR X (compareOp .NotEq) fun x y => rP C .ne [x, y] := by
  intro pins s σ H x y v u Q I rx ry ⟨φ, S, ds, hs, hr, pr⟩
  obtain ⟨a, b, rfl, ra, rb⟩ := rep2 hr
  obtain ⟨d, e, pr⟩ := bO_some pr
  obtain ⟨c, e', rfl⟩ := Option.map_eq_some_iff.mp e
  obtain ⟨p, q, e1, e2, s1, s2, rfl⟩ := eqD_some e'
  refine op_neD (by omega) pins s σ H _ _ v u Q I rx ry ⟨p, q, ?_, ?_, s1, s2, pr.bl hs⟩
  · rw [← hK]; exact ra.dpTop hs e1
  · rw [← hK]; exact rb.dpTop hs e2
omit ok in
theorem o_lt (hu : X.A.units + 66 < cLine) : OpR X (compareOp .Lt) fun x y => rP C .lt [x, y] := by
  intro pins s σ H x y v u Q I rx ry ⟨φ, S, ds, hs, hr, pr⟩
  obtain ⟨a, b, rfl, ra, rb⟩ := rep2 hr
  obtain ⟨d, e, pr⟩ := bO_some pr
  unfold ltD at e
  split at e
  · cases e
    rw [ra.int] at rx; rw [rb.int] at ry
    exact op_lt pins s σ H _ _ v u Q I rx ry ⟨_, _, rfl, rfl, pr.bl hs⟩
  · split at e
    · rename_i x1 y1 h1 h2
      cases e
      obtain ⟨p, xs, rfl, g1, g2⟩ := ra.tup
      obtain ⟨q, ys, rfl, k1, k2⟩ := rb.tup
      rw [hK, g2.ints h1] at g1
      rw [hK, k2.ints h2] at k1
      exact op_ltT (by omega) pins s σ H _ _ v u Q I rx ry ⟨p, q, x1, y1, rfl, rfl, g1, k1, pr.bl hs⟩
    · cases e
  · cases e
omit ok in
theorem o_le (hu : X.A.units + 66 < cLine) : OpR X (compareOp .LtE) fun x y => rP C .le [x, y] := by
  intro pins s σ H x y v u Q I rx ry ⟨φ, S, ds, hs, hr, pr⟩
  obtain ⟨a, b, rfl, ra, rb⟩ := rep2 hr
  obtain ⟨d, e, pr⟩ := bO_some pr
  unfold leD at e
  split at e
  · cases e
    rw [ra.int] at rx; rw [rb.int] at ry
    exact op_le pins s σ H _ _ v u Q I rx ry ⟨_, _, rfl, rfl, pr.bl hs⟩
  · rename_i i j k l
    cases e
    obtain ⟨p, xs, rfl, g1, g2⟩ := ra.tup
    obtain ⟨q, ys, rfl, k1, k2⟩ := rb.tup
    rw [hK, g2.ints (ns := [i, j]) rfl] at g1
    rw [hK, k2.ints (ns := [k, l]) rfl] at k1
    refine op_leT (by omega) pins s σ H _ _ v u Q I rx ry ⟨p, q, [i, j], [k, l], rfl, rfl, g1, k1, ?_⟩
    have q := pr.bl hs
    have e : (if i = k then decide (j ≤ l) else decide (i ≤ k)) = _root_.Ob.lexAt (fun m => decide (([i, j] : List Int).getD m 0 = ([k, l] : List Int).getD m 0)) (fun m => decide (([i, j] : List Int).getD m 0 ≤ ([k, l] : List Int).getD m 0))
        (decide (([i, j] : List Int).length ≤ ([k, l] : List Int).length)) 0 (min ([i, j] : List Int).length ([k, l] : List Int).length) := by
      show _ = (if decide (i = k) = true then (if decide (j = l) = true then true else decide (j ≤ l)) else decide (i ≤ k))
      by_cases h : i = k
      · rw [if_pos h, if_pos (decide_eq_true h)]
        by_cases h2 : j = l
        · rw [if_pos (decide_eq_true h2)]
          exact decide_eq_true (by omega)
        · rw [if_neg (by simpa using h2)]
      · rw [if_neg h, if_neg (by simpa using h)]
    rw [← e]
    exact q
  · cases e
omit ok hK in
theorem o_gt : OpR X (compareOp .Gt) fun x y => rP C .gt [x, y] := by
  intro pins s σ H x y v u Q I rx ry ⟨φ, S, ds, hs, hr, pr⟩
  obtain ⟨a, b, rfl, ra, rb⟩ := rep2 hr
  obtain ⟨d, e, pr⟩ := bO_some pr
  unfold gtI at e
  split at e
  · cases e
    rw [ra.int] at rx; rw [rb.int] at ry
    exact op_gt pins s σ H _ _ v u Q I rx ry ⟨_, _, rfl, rfl, pr.bl hs⟩
  · cases e
omit ok hK in
theorem o_ge : OpR X (compareOp .GtE) fun x y => rP C .ge [x, y] := by
  intro pins s σ H x y v u Q I rx ry ⟨φ, S, ds, hs, hr, pr⟩
  obtain ⟨a, b, rfl, ra, rb⟩ := rep2 hr
  obtain ⟨d, e, pr⟩ := bO_some pr
  unfold geI at e
  split at e
  · cases e
    rw [ra.int] at rx; rw [rb.int] at ry
    exact op_ge pins s σ H _ _ v u Q I rx ry ⟨_, _, rfl, rfl, pr.bl hs⟩
  · cases e
omit ok hK in
theorem o_isB : OpR X (compareOp .Is) fun x y => rP C .isB [x, y] := by
  intro pins s σ H x y v u Q I rx ry ⟨φ, S, ds, hs, hr, pr⟩
  obtain ⟨a, b, rfl, ra, rb⟩ := rep2 hr
  cases a with
  | bl a =>
    cases b with
    | bl b =>
      rw [ra.bl] at rx; rw [rb.bl] at ry
      refine op_isBl pins s σ H _ _ v u Q I rx ry ⟨a, b, rfl, rfl, ?_⟩
      rw [← Bool.beq_eq_decide_eq]
      exact PR.bl hs pr
    | _ => exact pr.elim
  | _ => exact pr.elim
omit ok hK in
theorem o_notB : OpR X (compareOp .IsNot) fun x y => rP C .notB [x, y] := by
  intro pins s σ H x y v u Q I rx ry ⟨φ, S, ds, hs, hr, pr⟩
  obtain ⟨a, b, rfl, ra, rb⟩ := rep2 hr
  cases a with
  | bl a =>
    cases b with
    | bl b =>
      rw [ra.bl] at rx; rw [rb.bl] at ry
      refine op_notBl pins s σ H _ _ v u Q I rx ry ⟨a, b, rfl, rfl, ?_⟩
      rw [← Bool.beq_eq_decide_eq]
      exact PR.bl hs pr
    | _ => exact pr.elim
  | _ => exact pr.elim
omit ok in
theorem o_in (hu : X.A.units + 66 < cLine) : OpR X (compareOp .In) fun x y => rP C .in_ [x, y] := by
  intro pins s σ H x y v u Q I rx ry ⟨φ, S, ds, hs, hr, pr⟩
  obtain ⟨a, b, rfl, ra, rb⟩ := rep2 hr
  obtain ⟨d, e, pr⟩ := bO_some pr
  have key : ∀ l : List D, inL S a l = some d → ∀ vs p, (SqL X.K H p vs ∨ SqT X.K H p vs) → RepL C φ H vs l → V.ref p = y → wpAny (model X.prog X.w) X.A (compareOp .In v u) (EP X pins σ Q) X.xe s := by
    intro l e vs p hq hl ep
    unfold inL at e
    split at e
    · rename_i da ps e1 e2
      split at e
      · rename_i hsh
        rw [Bool.and_eq_true] at hsh
        cases e
        obtain ⟨as, r1⟩ := Dp.reads I da x v (by rw [← hK]; exact Rep.dp hs a x da e1 ra) rx
        have hd : DpAll X.K H vs ps := by rw [← hK]; exact RepL.dp hs l vs ps e2 hl
        rcases hq with hq | hq
        · obtain ⟨bs, r2⟩ := Dp.reads I (.list ps) y u (ep ▸ .lst hq hd) ry
          exact SeqAt.in_list_reads r2 r1 (SeqAt.canLay_of_shaped hsh.2) (SeqAt.canLay_of_shaped hsh.1) (room_in_shaped hsh.1 (by omega)) ⟨.bl _, H, I, rfl, pr.bl hs⟩
        · obtain ⟨bs, r2⟩ := Dp.reads I (.tuple ps) y u (ep ▸ .tup hq hd) ry
          exact SeqAt.in_tuple_reads r2 r1 (SeqAt.canLay_of_shaped hsh.2) (SeqAt.canLay_of_shaped hsh.1) (room_in_shaped hsh.1 (by omega)) ⟨.bl _, H, I, rfl, pr.bl hs⟩
      · cases e
    · cases e
  unfold inD at e
  split at e
  · obtain ⟨p, ys, ep, g1, g2⟩ := rb.tup
    exact key _ e ys p (.inr (by rw [← hK]; exact g1)) g2 ep.symm
  · obtain ⟨p, ys, ep, g1, g2⟩ := rb.lst
    exact key _ e ys p (.inl (SqL.of g1)) g2 ep.symm
  · split at e
    · rename_i s0 _ z
      split at e
      · rename_i hl
        cases e
        have rx' := rx
        rw [ra.str] at rx'
        rw [rb.str] at ry
        have ez : z = ⟨#[z.cps.getD 0 0]⟩ := by
          obtain ⟨cps⟩ := z
          have hl : cps.size = 1 := hl
          congr 1
          apply Array.ext
          · simpa using hl
          · intro i h1 h2
            have : i = 0 := by omega
            subst this
            simp [Array.getD, hl]
        rw [ez] at rx'
        refine op_in_sign pins s σ H _ _ v u Q I rx' ry ⟨z.cps.getD 0 0, s0, rfl, rfl, pr.bl hs⟩
      · cases e
    · cases e
  · cases e
end
end SF

set_option maxHeartbeats 200000
set_option Elab.async false
set_option linter.all false
set_option maxRecDepth 100000
/-! The operations as expressions: which parts an expression has, and that it is the operation on them. -/
namespace SF
open PySem PySem.Spec PyProof.Rows L2

/-! ### weaker readings -/
section
variable {X : Cx} {e : Expr} {es : List Expr}
theorem pe_imp {t t' : TE} (h : PE X e t) (k : ∀ σ H Q, t' σ H Q → t σ H Q) : PE X e t' := ⟨fun pins s σ H Q I q => h.run pins s σ H Q I (k σ H Q q)⟩
theorem pt_imp {t t' : TT} (h : PT X e t) (k : ∀ σ H Q, t' σ H Q → t σ H Q) : PT X e t' := ⟨fun pins s σ H Q I q => h.run pins s σ H Q I (k σ H Q q)⟩
theorem pw_imp {t t' : TT} (h : PW X e t) (k : ∀ σ H Q, t' σ H Q → t σ H Q) : PW X e t' := ⟨fun wh pins s σ H Q I q => h.run wh pins s σ H Q I (k σ H Q q)⟩
theorem pa_imp {t t' : TA} (h : PA X es t) (k : ∀ σ H Q, t' σ H Q → t σ H Q) : PA X es t' := ⟨fun pos pins s σ H Q I q => h.run pos pins s σ H Q I (k σ H Q q)⟩
end
def noStar : Expr → Bool
  | .Starred _ _ => false
  | _ => true
theorem star_cons {e : Expr} (h : noStar e = true) (es : List Expr) (env : PySem.Env) : starEach (e :: es) env = (false, eval e env) :: starEach es env := by
  cases e <;> first | rfl | exact Bool.noConfusion h
theorem star_any : ∀ {es : List Expr} (env : PySem.Env), es.all noStar = true → (starEach es env).any (·.1) = false
  | [], _, _ => rfl
  | e :: es, env, h => by
    rw [List.all_cons, Bool.and_eq_true] at h
    rw [star_cons h.1, List.any_cons, star_any env h.2]
    rfl
theorem backTo_map (p : Pos) : ∀ l : List (Bool × Sem Value), (backTo p l).map (·.1) = l.map (·.1) := by
  intro l
  induction l with
  | nil => rfl
  | cons a l ih =>
    first
      | (simp only [backTo, List.map_cons, List.map_map] <;> rfl)
      | (simp [backTo])
theorem back_any (p : Pos) {es : List Expr} (env : PySem.Env) (h : es.all noStar = true) : (backTo p (starEach es env)).any (·.1) = false := by
  have e := congrArg (List.any · id) (backTo_map p (starEach es env))
  simp only [List.any_map] at e
  rw [show (fun x : Bool × Sem Value => x.1) = id ∘ (fun x => x.1) from rfl, e]
  exact star_any env h

section
variable {X : Cx} {C : Cn} {W : WX} {call : D → List D → Sto → Res D} {gl : List D}
/-- each part is read by the interpreter -/
def DL (X : Cx) (C : Cn) (W : WX) (call : D → List D → Sto → Res D) (gl : List D) : List E → List Expr → Prop
  | [], [] => True
  | x :: l, e :: es => noStar e = true ∧ PE X e (tOf C W (ev call gl x)) ∧ DL X C W call gl l es
  | _, _ => False
theorem DL.all : ∀ {l : List E} {es : List Expr}, DL X C W call gl l es → es.all noStar = true
  | [], [], _ => rfl
  | x :: l, e :: es, h => by
    rw [List.all_cons, h.1, DL.all h.2.2]
    rfl
  | [], _ :: _, h => h.elim
  | _ :: _, [], h => h.elim
theorem DL.one {l : List E} {a : Expr} (h : DL X C W call gl l [a]) : ∃ x, l = [x] ∧ PE X a (tOf C W (ev call gl x)) := by
  cases l with
  | nil => exact h.elim
  | cons x l =>
    cases l with
    | nil => exact ⟨x, rfl, h.2.1⟩
    | cons y l => exact h.2.2.elim
theorem DL.two {l : List E} {a b : Expr} (h : DL X C W call gl l [a, b]) : ∃ x y, l = [x, y] ∧ PE X a (tOf C W (ev call gl x)) ∧ PE X b (tOf C W (ev call gl y)) := by
  cases l with
  | nil => exact h.elim
  | cons x l =>
    obtain ⟨y, rfl, hy⟩ := DL.one h.2.2
    exact ⟨x, y, rfl, h.2.1, hy⟩
theorem DL.three {l : List E} {a b c : Expr} (h : DL X C W call gl l [a, b, c]) : ∃ x y z, l = [x, y, z] ∧ PE X a (tOf C W (ev call gl x)) ∧ PE X b (tOf C W (ev call gl y)) ∧ PE X c (tOf C W (ev call gl z)) := by
  cases l with
  | nil => exact h.elim
  | cons x l =>
    obtain ⟨y, z, rfl, hy, hz⟩ := DL.two h.2.2
    exact ⟨x, y, z, rfl, h.2.1, hy, hz⟩

/-! ### parts from the left -/
section
variable (ok : CnOk C) {σ : L2.St} {H : Hp}
theorem evL_nil {K : List V → Hp → Prop} (h : tOfL C W (evL call gl []) σ H K) : K [] H := by
  obtain ⟨φ, S, ρ, s, e, t⟩ := h
  exact t φ H [] (Fr.refl _ _) s (by simp only [RepL])
include ok
theorem evL_cons {x : E} {l : List E} {K : List V → Hp → Prop} (h : tOfL C W (evL call gl (x :: l)) σ H K) : tOf C W (ev call gl x) σ H fun v H1 => tOfL C W (evL call gl l) σ H1 fun vs H2 => K (v :: vs) H2 := by
  have h1 : tOfL C W (fun ρ S => (ev call gl x ρ S).bind fun d S1 => (evL call gl l ρ S1).bind fun ds S2 => .ok (d :: ds) S2) σ H K := by
    obtain ⟨φ, S, ρ, s, e, t⟩ := h
    simp only [evL] at t
    exact ⟨φ, S, ρ, s, e, t⟩
  refine (tG.bind ok h1).imp fun v H1 ⟨φ1, S1, ρ, d, s1, e1, r, t⟩ => ?_
  refine ⟨φ1, S1, ρ, s1, e1, ?_⟩
  cases hl : evL call gl l ρ S1 with
  | ok ds S2 =>
    rw [hl] at t
    exact fun φ2 H2 vs f s2 q => t φ2 H2 (v :: vs) f s2 (by simp only [RepL]; exact ⟨Rep.mono ok f d v r, q⟩)
  | exc c S2 =>
    rw [hl] at t
    exact t
  | stuck =>
    rw [hl] at t
    exact t
/-- the arguments of a call -/
theorem DL.pa : ∀ {l : List E} {es : List Expr}, DL X C W call gl l es → PA X es (tOfL C W (evL call gl l))
  | [], [], _ => pa_imp pa_nil fun σ H Q h => evL_nil h
  | x :: l, e :: es, h => pa_imp (pa_cons h.2.1 (DL.pa h.2.2) (star_cons h.1 es X.env)) fun σ H Q h => evL_cons ok h
  | [], _ :: _, h => h.elim
  | _ :: _, [], h => h.elim
omit ok in
theorem noexc {p : Pr} {ds : List D} {S : Sto} {c : Nat} {S' : Sto} : prim p ds S ≠ .exc c S' := by
  intro e
  have hO : ∀ (o : Option D) (S : Sto), ofO o S ≠ .exc c S' := fun o S => by cases o <;> (intro z; cases z)
  unfold prim at e
  repeat (first | exact hO _ _ e | (split at e) | cases e)
omit ok in
theorem TR.pr {p : Pr} {φ : Lay} {ds : List D} {S : Sto} {Q : VK} (h : TR C W (Rep C) φ H σ (prim p ds S) Q) : PR C φ H (prim p ds S) Q := by
  cases e : prim p ds S with
  | ok d S' =>
    rw [e] at h
    exact h
  | exc c S' => exact (noexc e).elim
  | stuck =>
    rw [e] at h
    exact h
/-- an operation on its parts -/
theorem strict {p : Pr} {l : List E} {Q : VK} (h : tOf C W (ev call gl (.pr p l)) σ H Q) : tOfL C W (evL call gl l) σ H fun vs H1 => rP C p vs H1 Q := by
  have h1 : tOf C W (fun ρ S => (evL call gl l ρ S).bind fun ds S1 => prim p ds S1) σ H Q := by
    obtain ⟨φ, S, ρ, s, e, t⟩ := h
    simp only [ev] at t
    exact ⟨φ, S, ρ, s, e, t⟩
  refine (tG.bind (R := RepL C) ok h1).imp fun vs H1 ⟨φ1, S1, ρ, ds, s1, e1, r, t⟩ => ?_
  exact ⟨φ1, S1, ds, s1, r, t.pr⟩
theorem strict1 {p : Pr} {x : E} {Q : VK} (h : tOf C W (ev call gl (.pr p [x])) σ H Q) : tOf C W (ev call gl x) σ H fun v H1 => rP C p [v] H1 Q :=
  (evL_cons ok (strict ok h)).imp fun _ _ h1 => evL_nil h1
theorem strict2 {p : Pr} {x y : E} {Q : VK} (h : tOf C W (ev call gl (.pr p [x, y])) σ H Q) : tOf C W (ev call gl x) σ H fun v H1 => tOf C W (ev call gl y) σ H1 fun u H2 => rP C p [v, u] H2 Q :=
  (evL_cons ok (strict ok h)).imp fun _ _ h1 => (evL_cons ok h1).imp fun _ _ h2 => evL_nil h2
theorem strict3 {p : Pr} {x y z : E} {Q : VK} (h : tOf C W (ev call gl (.pr p [x, y, z])) σ H Q) :
    tOf C W (ev call gl x) σ H fun v H1 => tOf C W (ev call gl y) σ H1 fun u H2 => tOf C W (ev call gl z) σ H2 fun w H3 => rP C p [v, u, w] H3 Q :=
  (evL_cons ok (strict ok h)).imp fun _ _ h1 => (evL_cons ok h1).imp fun _ _ h2 => (evL_cons ok h2).imp fun _ _ h3 => evL_nil h3
end

/-! ### forms -/
theorem isN_of (ok : CnOk C) {φ : Lay} {H : Hp} {v : V} {d : D} (r : Rep C φ H v d) : decide (v = .non) = isNon d := by
  cases d with
  | non => rw [r.non]; rfl
  | bl _ => rw [r.bl]; rfl
  | int _ => rw [r.int]; rfl
  | str _ => rw [r.str]; rfl
  | tup _ => obtain ⟨a, vs, rfl, _⟩ := r.tup; rfl
  | lst _ => obtain ⟨a, vs, rfl, _⟩ := r.lst; rfl
  | scr _ => obtain ⟨a, rfl, _⟩ := r.scr; rfl
  | ref _ =>
    simp only [Rep] at r
    obtain ⟨a, rfl, _⟩ := r
    rfl
  | fn _ =>
    simp only [Rep] at r
    rw [r]
    rfl
  | clo i env =>
    simp only [Rep] at r
    obtain ⟨ws, h, _⟩ := r
    obtain ⟨a, rfl⟩ := ok.ref _ _ _ _ _ _ h
    rfl
  | exc _ => simp only [Rep] at r
section
variable (ok : CnOk C) {p : Pr} {l : List E} {a b c : Expr} {pos : Pos} {i : Nat} {x : Str}
include ok
theorem f_bin {op : Operator} (ho : OpR X (binaryOp op) fun x y => rP C p [x, y]) (h : DL X C W call gl l [a, b]) : PE X (.BinOp a op b pos) (tOf C W (ev call gl (.pr p l))) := by
  obtain ⟨x, y, rfl, ha, hb⟩ := h.two
  exact pe_imp (pe_op ho ha hb) fun σ H Q q => strict2 ok q
theorem f_un {op : UnaryOp} (ho : UnR X (unaryOp op) fun x => rP C p [x]) (h : DL X C W call gl l [a]) : PE X (.UnaryOp op a pos) (tOf C W (ev call gl (.pr p l))) := by
  obtain ⟨x, rfl, ha⟩ := h.one
  exact pe_imp (pe_un ho ha) fun σ H Q q => strict1 ok q
theorem f_cmp {op : CmpOp} (hm : behindInMarks op b = false) (ho : OpR X (compareOp op) fun x y => rP C p [x, y]) (h : DL X C W call gl l [a, b]) : PE X (.Compare a [op] [b] pos) (tOf C W (ev call gl (.pr p l))) := by
  obtain ⟨x, y, rfl, ha, hb⟩ := h.two
  exact pe_imp (pe_cmpR ho ha hb hm) fun σ H Q q => strict2 ok q
/-- a built-in function, a built-in class -/
theorem f_blt {x : Str} {id : String} {e : Expr} {es : List Expr} {q : Pos} (hc : CallR X (.builtin id) (rP C p)) (hg : Gl X x) (hm : X.mg x = none) (hv : bootBuiltins x = some (.builtin id)) (hn : x ≠ "__name__") (hd : (x == ("__debug__" : Str)) = false)
    (h : DL X C W call gl l (e :: es)) : PE X (.Call (.Name x q) (e :: es) [] pos) (tOf C W (ev call gl (.pr p l))) := by
  have ha := h.all
  rw [List.all_cons, Bool.and_eq_true] at ha
  exact pe_imp (pe_callB hc hg hm hv (DL.pa ok h) hn hd (star_cons ha.1 es X.env) (back_any pos X.env ha.2)) fun σ H Q q => strict ok q
theorem f_blT {x : Str} {T : String} {e : Expr} {es : List Expr} {q : Pos} (hc : CallR X (.type T) (rP C p)) (hg : Gl X x) (hm : X.mg x = none) (hv : bootBuiltins x = some (.type T)) (hn : x ≠ "__name__") (hd : (x == ("__debug__" : Str)) = false)
    (h : DL X C W call gl l (e :: es)) : PE X (.Call (.Name x q) (e :: es) [] pos) (tOf C W (ev call gl (.pr p l))) := by
  have ha := h.all
  rw [List.all_cons, Bool.and_eq_true] at ha
  exact pe_imp (pe_callTy hc hg hm hv (DL.pa ok h) hn hd (star_cons ha.1 es X.env) (back_any pos X.env ha.2)) fun σ H Q q => strict ok q
/-- displays -/
theorem f_tup {es : List Expr} {k} (h : DL X C W call gl l es) : PE X (.Tuple es k pos) (tOf C W (ev call gl (.pr .tup l))) := by
  refine pe_imp (pe_tup (DL.pa ok h)) fun σ H Q q => (strict ok q).imp fun vs H1 ⟨φ, S, ds, hs, hr, pr⟩ => ?_
  simp only [prim] at pr
  split at pr
  · rename_i hl
    exact ⟨by rw [hr.length]; exact line_of hl, PR.newT ok hs hr pr⟩
  · exact pr.elim
theorem f_lst {es : List Expr} (h : DL X C W call gl l es) : PE X (.List es pos) (tOf C W (ev call gl (.pr .lst l))) := by
  refine pe_imp (pe_lst (DL.pa ok h)) fun σ H Q q => (strict ok q).imp fun vs H1 ⟨φ, S, ds, hs, hr, pr⟩ => ?_
  simp only [prim] at pr
  split at pr
  · rename_i hl
    exact ⟨by rw [hr.length]; exact line_of hl, PR.newL ok hs hr pr⟩
  · exact pr.elim
theorem f_newl {es : List Expr} (h : DL X C W call gl l es) : PE X (.List es pos) (tOf C W (ev call gl (.pr .newl l))) := by
  refine pe_imp (pe_lst (DL.pa ok h)) fun σ H Q q => (strict ok q).imp fun vs H1 ⟨φ, S, ds, hs, hr, pr⟩ => ?_
  simp only [prim] at pr
  split at pr
  · rename_i hl
    exact ⟨by rw [hr.length]; exact line_of hl, PR.newR ok hs hr pr⟩
  · exact pr.elim
omit ok in
theorem atI_rep {φ : Lay} {H : Hp} {vs : List V} {ds : List D} {i : Int} {d : D} (r : RepL C φ H vs ds) (h : atI ds i = some d) : ∃ v, atI vs i = some v ∧ Rep C φ H v d := by
  unfold atI at h ⊢
  rw [r.length]
  cases e : ixN ds.length i with
  | none => rw [e] at h; cases h
  | some j =>
    rw [e] at h
    exact RepL.get r h
omit ok in
theorem atI_map {α β : Type} {f : α → β} {l : List α} {i : Int} {x : α} (h : atI l i = some x) : atI (l.map f) i = some (f x) := by
  unfold atI at h ⊢
  rw [List.length_map]
  cases e : ixN l.length i with
  | none => rw [e] at h; cases h
  | some j =>
    rw [e] at h
    show (l.map f)[j]? = _
    rw [List.getElem?_map, show l[j]? = some x from h]
    rfl
omit ok in
theorem i_ix (hK : C.K = X.K) : IxR X fun x y => rP C .ix [x, y] := by
  intro value slice pins s σ H x y v u Q I rx ry ⟨φ, S, ds, hs, hr, pr⟩ hsub
  obtain ⟨a, b, rfl, ra, rb⟩ := rep2 hr
  have list_case : ∀ (p : Addr) (xs : List V) (j : Int) (z : V), x = .ref p → y = .int j → SqL X.K H p xs → atI xs j = some z → Q z H → wpAny (model X.prog X.w) X.A (subscriptTail value slice v u) (EP X pins σ Q) X.xe s :=
    fun p xs j z e1 e2 h1 h2 q => ix_list value slice pins s σ H x y v u Q I rx ry ⟨p, xs, j, z, e1, e2, h1, h2, q⟩ hsub
  unfold prim at pr
  split at pr <;> first | exact pr.elim | skip
  all_goals (rename_i hp hd; try cases hp)
  all_goals (try cases hd)
  · obtain ⟨d, e, pr⟩ := ofO_some pr
    obtain ⟨p, xs, rfl, h1, h2⟩ := ra.tup
    obtain ⟨z, h3, h4⟩ := atI_rep h2 e
    rw [hK] at h1
    exact ix_tup value slice pins s σ H _ y v u Q I rx ry ⟨p, xs, _, z, rfl, rb.int, h1, h3, pr.now hs h4⟩ hsub
  · obtain ⟨d, e, pr⟩ := ofO_some pr
    obtain ⟨p, xs, rfl, h1, h2⟩ := ra.lst
    obtain ⟨z, h3, h4⟩ := atI_rep h2 e
    exact list_case p xs _ z rfl rb.int (SqL.of h1) h3 (pr.now hs h4)
  · obtain ⟨d, e, pr⟩ := ofO_some pr
    obtain ⟨k, e', rfl⟩ := Option.map_eq_some_iff.mp e
    obtain ⟨p, rfl, h1⟩ := ra.scr
    rw [hK] at h1
    exact list_case p _ _ _ rfl rb.int h1 (atI_map e') (pr.int hs)
  · obtain ⟨d, e, pr⟩ := ofO_some pr
    obtain ⟨l, e1, e2⟩ := Option.bind_eq_some_iff.mp e
    unfold lstOf at e1
    simp only at e1
    split at e1
    · rename_i m hm
      cases e1
      obtain ⟨p, xs, rfl, _, h1, h2⟩ := ra.ref hs hm
      obtain ⟨z, h3, h4⟩ := atI_rep h2 e2
      exact list_case p xs _ z rfl rb.int (SqL.of h1) h3 (pr.now hs h4)
    · cases e1
def noSlice : Expr → Bool
  | .Slice _ _ _ _ => false
  | _ => true
omit ok in
theorem plain_ix {b : Expr} (h : noSlice b = true) : PlainIx b := by
  cases b <;> first | (intro _ _; rfl) | exact Bool.noConfusion h
theorem f_ix (hK : C.K = X.K) (hb : noSlice b = true) (h : DL X C W call gl l [a, b]) : PE X (.Subscript a b pos) (tOf C W (ev call gl (.pr .ix l))) := by
  obtain ⟨x, y, rfl, h1, h2⟩ := h.two
  exact pe_imp (pe_ix (i_ix hK) h1 h2 (plain_ix hb)) fun σ H Q q => strict2 ok q
/-- slices -/
def rS (C : Cn) (x : V) (lo hi : Option Int) (H : Hp) (Q : VK) : Prop := ∃ φ S d, SR C φ S H ∧ Rep C φ H x d ∧ PR C φ H (ofO (pSl d lo hi) S) Q
omit ok in
theorem cut_rep {φ : Lay} {H : Hp} {vs : List V} {ds : List D} {lo hi : Option Int} (r : RepL C φ H vs ds) : RepL C φ H (cutV vs lo hi) (cutD ds lo hi) := by
  unfold cutV cutD
  rw [r.length]
  exact (r.drop _).take _
theorem s_sl (hK : C.K = X.K) : SlR X (rS C) := by
  intro pins s σ H x v vl vu lo hi sl Q I rx his pl pu ⟨φ, S, d, hs, ra, pr⟩
  obtain ⟨d', e, pr⟩ := ofO_some pr
  unfold pSl at e
  split at e
  · cases e
    obtain ⟨p, xs, rfl, h1, h2⟩ := ra.tup
    rw [hK] at h1
    refine sl_tupA pins s σ H _ v vl vu lo hi sl Q I rx his pl pu ⟨p, xs, rfl, h1, fun hw => ?_, fun _ => PR.newT ok hs (cut_rep h2) pr⟩
    have e : ∀ l : List D, xs.length = l.length → cutD l lo hi = l := fun l hl => by
      unfold cutD
      rw [hl] at hw
      rw [hw.1, hw.2]
      simp
    rw [e _ h2.length] at pr
    exact pr.now hs ra
  · cases e
    obtain ⟨p, xs, rfl, h1, h2⟩ := ra.lst
    exact sl_list pins s σ H _ v vl vu lo hi sl Q I rx his pl pu ⟨p, xs, rfl, SqL.of h1, PR.newL ok hs (cut_rep h2) pr⟩
  · split at e
    · rename_i hl
      cases e
      rw [ra.str] at rx
      exact sl_str pins s σ H _ v vl vu lo hi sl Q I rx his pl pu ⟨_, rfl, line_of hl, pr.str hs⟩
    · cases e
  · cases e
/-- a bound -/
def PB (X : Cx) (C : Cn) (W : WX) (call : D → List D → Sto → Res D) (gl : List D) (l : List E) (e : Option Expr) : Prop := PO X e (tG C W (fun _ _ (b : Option Int) (a : Option Int) => b = a) (evI call gl l))
theorem pb_none : PB X C W call gl [] none := ⟨fun pins s σ H Q I h => po_none.run pins s σ H Q I (by
  obtain ⟨φ, S, ρ, hs, he, t⟩ := h
  simp only [evI] at t
  exact t φ H none (Fr.refl _ _) hs rfl)⟩
theorem pb_some {x : E} {e : Expr} (h : PE X e (tOf C W (ev call gl x))) : PB X C W call gl [x] (some e) := ⟨fun pins s σ H Q I q => (po_some h).run pins s σ H Q I (by
  have h1 : tG C W (fun _ _ (b : Option Int) (a : Option Int) => b = a) (fun ρ S => (ev call gl x ρ S).bind fun d S1 => match d with
    | .int i => .ok (some i) S1
    | _ => .stuck) σ H Q := by
    obtain ⟨φ, S, ρ, s, e, t⟩ := q
    simp only [evI] at t
    exact ⟨φ, S, ρ, s, e, t⟩
  refine (tG.bind (R := Rep C) ok h1).imp fun v H1 ⟨φ1, S1, ρ, d, s1, e1, r, t⟩ => ?_
  cases d with
  | int i => exact ⟨i, r.int, t φ1 H1 (some i) (Fr.refl _ _) s1 rfl⟩
  | _ => exact t.elim)⟩
theorem f_sl (hK : C.K = X.K) {x : E} {lo hi : List E} {l h : Option Expr} {p2 : Pos} (ha : PE X a (tOf C W (ev call gl x))) (hl : PB X C W call gl lo l) (hh : PB X C W call gl hi h) :
    PE X (.Subscript a (.Slice l h none p2) pos) (tOf C W (ev call gl (.sl x lo hi))) := by
  refine pe_imp (pe_slice (s_sl ok hK) ha hl hh) fun σ H Q q => ?_
  obtain ⟨φ, S, ρ, s, e, t⟩ := q
  simp only [ev] at t
  refine (TR.seq (R := Rep C) (f := ev call gl x) ok s e t).imp fun v H1 ⟨φ1, S1, d, _, s1, e1, r1, t1⟩ => ?_
  refine (TR.seq (R := fun _ _ (b : Option Int) (a : Option Int) => b = a) (f := evI call gl lo) ok s1 e1 t1).imp fun i H2 ⟨φ2, S2, i', f2, s2, e2, ei, t2⟩ => ?_
  refine (TR.seq (R := fun _ _ (b : Option Int) (a : Option Int) => b = a) (f := evI call gl hi) ok s2 e2 t2).imp fun j H3 ⟨φ3, S3, j', f3, s3, e3, ej, t3⟩ => ?_
  subst ei ej
  refine ⟨φ3, S3, d, s3, Rep.mono ok (f2.trans f3) d v r1, ?_⟩
  cases ho : pSl d i j with
  | none =>
    rw [ho] at t3
    exact t3
  | some z =>
    rw [ho] at t3
    exact t3
/-- x, a literal, a global name -/
theorem f_var (hN : X.N[i]? = some x) (hv : Vis X.env.scope x) (hd : (x == ("__debug__" : Str)) = false) (hcd : (x == ("__classdict__" : Str)) = false) : PE X (.Name x pos) (tOf C W (ev call gl (.var i))) :=
  pe_imp (pe_var hN hv hd hcd) fun σ H Q ⟨φ, S, ρ, s, e, t⟩ => by
    simp only [ev] at t
    cases h : ρ[i]? with
    | none => rw [h] at t; exact t.elim
    | some o =>
      cases o with
      | none => rw [h] at t; exact t.elim
      | some d =>
        rw [h] at t
        obtain ⟨v, h1, h2⟩ := e.get i d h
        exact ⟨v, h1, t φ H v (Fr.refl _ _) s h2⟩
theorem f_non {k} : PE X (.Constant .none k pos) (tOf C W (ev call gl .non)) := pe_imp pe_non fun σ H Q ⟨φ, S, ρ, s, e, t⟩ => by
  simp only [ev] at t
  exact t φ H _ (Fr.refl _ _) s rep_non
theorem f_bl {k} {b : Bool} : PE X (.Constant (.bool b) k pos) (tOf C W (ev call gl (.bl b))) := pe_imp pe_bl fun σ H Q ⟨φ, S, ρ, s, e, t⟩ => by
  simp only [ev] at t
  exact t φ H _ (Fr.refl _ _) s rep_bl
theorem f_int {k} {i : Int} : PE X (.Constant (.int i) k pos) (tOf C W (ev call gl (.int i))) := pe_imp pe_int fun σ H Q ⟨φ, S, ρ, s, e, t⟩ => by
  simp only [ev] at t
  exact t φ H _ (Fr.refl _ _) s rep_int
theorem f_str {k} {x : Str} : PE X (.Constant (.str x) k pos) (tOf C W (ev call gl (.str x))) := pe_imp pe_str fun σ H Q ⟨φ, S, ρ, s, e, t⟩ => by
  simp only [ev] at t
  exact t φ H _ (Fr.refl _ _) s rep_str
/-- what is told of the module's values -/
structure Glb (C : Cn) (mg : Str → Option Value) (x : Str) (d : D) : Prop where
  ex : ∃ v u, mg x = some u ∧ RelV v u ∧ ∀ φ H, Rep C φ H v d
theorem f_g {k : Nat} {d : D} {x : Str} (hk : gl[k]? = some d) (hg : Gl X x) (hG : Glb C X.mg x d) (hd : (x == ("__debug__" : Str)) = false) : PE X (.Name x pos) (tOf C W (ev call gl (.g k))) := by
  obtain ⟨v, u, h1, h2, h3⟩ := hG.ex
  exact pe_imp (pe_glob hg h1 h2 hd) fun σ H Q ⟨φ, S, ρ, s, e, t⟩ => by
    simp only [ev, hk, ofO] at t
    exact t φ H v (Fr.refl _ _) s (h3 φ H)
/-! #### truth -/
theorem truth_of {φ : Lay} {S : Sto} {H : Hp} {v : V} {d : D} {b : Bool} (hK : C.K = X.K) (s : SR C φ S H) (r : Rep C φ H v d) (h : truth S d = some b) : TruV X.K v H b := by
  unfold truth at h
  split at h
  · cases h; rw [r.non]; rfl
  · cases h; rw [r.bl]; rfl
  · cases h; rw [r.int]; rfl
  · split at h
    · rename_i x hl
      cases h
      rw [r.str]
      refine ⟨Evl.sz_of hl, ?_⟩
      cases hx : x.length with
      | zero => rfl
      | succ n =>
        show true = (((n + 1 : Nat) : Int) != 0)
        have h0 : ((n + 1 : Nat) : Int) ≠ 0 := by omega
        exact (bne_iff_ne.mpr h0).symm
    · cases h
  · cases h
    obtain ⟨a, vs, rfl, h1, h2⟩ := r.tup
    refine .inr (.inl ⟨vs, by rw [← hK]; exact h1, ?_⟩)
    rename_i l
    have := h2.length
    cases vs <;> cases l <;> first | rfl | cases this
  · cases h
    obtain ⟨a, vs, rfl, h1, h2⟩ := r.lst
    refine .inl ⟨vs, SqL.of h1, ?_⟩
    rename_i l
    have := h2.length
    cases vs <;> cases l <;> first | rfl | cases this
  · split at h
    · rename_i n l hl
      cases h
      obtain ⟨a, vs, rfl, _, h1, h2⟩ := r.ref s hl
      refine .inl ⟨vs, SqL.of h1, ?_⟩
      have := h2.length
      cases vs <;> cases l <;> first | rfl | cases this
    · cases h
  · cases h
/-- by truth -/
def evT (call : D → List D → Sto → Res D) (gl : List D) (e : E) (ρ : Env) (S : Sto) : Res Bool := (ev call gl e ρ S).bind fun d S1 => match truth S1 d with
  | some b => .ok b S1
  | none => .stuck
abbrev RB : Rl Bool Bool := fun _ _ b a => b = a
/-- not x as a value -/
theorem f_not (hK : C.K = X.K) (h : DL X C W call gl l [a]) : PE X (.UnaryOp .Not a pos) (tOf C W (ev call gl (.pr .not l))) := by
  obtain ⟨x, rfl, ha⟩ := h.one
  refine pe_imp (pe_notT ha) fun σ H Q q => (strict1 ok q).imp fun v H1 ⟨φ, S, ds, hs, hr, pr⟩ => ?_
  obtain ⟨d, rfl, r⟩ := rep1 hr
  obtain ⟨b, e, pr⟩ := bO_some pr
  obtain ⟨c, e', rfl⟩ := Option.map_eq_some_iff.mp e
  exact ⟨c, truth_of ok hK hs r e', pr.bl hs⟩
/-- is None -/
theorem f_isN {k} {p2 : Pos} (h : DL X C W call gl l [a]) : PE X (.Compare a [.Is] [.Constant .none k p2] pos) (tOf C W (ev call gl (.pr .isN l))) := by
  obtain ⟨x, rfl, ha⟩ := h.one
  refine pe_imp (pe_cmp (pc_isN ha) (nobehind _ (by decide) (by decide))) fun σ H Q q => (strict1 ok q).imp fun v H1 ⟨φ, S, ds, hs, hr, pr⟩ => ?_
  obtain ⟨d, rfl, r⟩ := rep1 hr
  rw [isN_of ok r]
  exact PR.bl hs pr
theorem f_notN {k} {p2 : Pos} (h : DL X C W call gl l [a]) : PE X (.Compare a [.IsNot] [.Constant .none k p2] pos) (tOf C W (ev call gl (.pr .notN l))) := by
  obtain ⟨x, rfl, ha⟩ := h.one
  refine pe_imp (pe_cmp (pc_notN ha) (nobehind _ (by decide) (by decide))) fun σ H Q q => (strict1 ok q).imp fun v H1 ⟨φ, S, ds, hs, hr, pr⟩ => ?_
  obtain ⟨d, rfl, r⟩ := rep1 hr
  rw [isN_of ok r]
  exact PR.bl hs pr
end
end
end SF

set_option maxHeartbeats 200000
set_option Elab.async false
set_option linter.all false
set_option maxRecDepth 100000
/-! Expressions whose parts are not all asked: and, or, the conditional; tests; calls; comprehensions. -/
namespace SF
open PySem PySem.Spec PyProof.Rows L2

section
variable {X : Cx} {C : Cn} {W : WX} {call : D → List D → Sto → Res D} {gl : List D} (ok : CnOk C) (hK : C.K = X.K) {a b c : Expr} {x y z : E} {pos : Pos}
/-- an expression's test -/
abbrev PTe (X : Cx) (C : Cn) (W : WX) (call : D → List D → Sto → Res D) (gl : List D) (e : Expr) (x : E) : Prop := PT X e (tOfT C W (evT call gl x))
abbrev PEe (X : Cx) (C : Cn) (W : WX) (call : D → List D → Sto → Res D) (gl : List D) (e : Expr) (x : E) : Prop := PE X e (tOf C W (ev call gl x))
include ok hK
theorem test_val (h : PEe X C W call gl a x) (he : ∀ whole, isTrue a X.env whole = (do let v ← whole; standAt a.pos; holding [v] (truthy v))) : PTe X C W call gl a x := by
  refine pt_imp (pt_truth h he) fun σ H Q ⟨φ, S, ρ, s, e, t⟩ => ?_
  refine (TR.seq (R := Rep C) (f := ev call gl x) ok s e t).imp fun v H1 ⟨φ1, S1, d, _, s1, e1, r1, t1⟩ => ?_
  cases h2 : truth S1 d with
  | none => rw [h2] at t1; exact t1.elim
  | some k =>
    rw [h2] at t1
    exact ⟨k, truth_of ok hK s1 r1 h2, t1 φ1 H1 k (Fr.refl _ _) s1 rfl⟩
/-- not -/
theorem test_not {l : List E} (hl : l = [x]) (h : PTe X C W call gl a x) : PTe X C W call gl (.UnaryOp .Not a pos) (.pr .not l) := by
  subst hl
  refine pt_imp (pt_not h) fun σ H Q ⟨φ, S, ρ, s, e, t⟩ => ?_
  simp only [evT, ev, evL] at t
  refine ⟨φ, S, ρ, s, e, ?_⟩
  unfold evT
  cases h1 : ev call gl x ρ S with
  | stuck => rw [h1] at t; exact t.elim
  | exc c S1 => rw [h1] at t; exact t
  | ok d S1 =>
    rw [h1] at t
    simp only [Res.bind, prim] at t ⊢
    cases h2 : truth S1 d with
    | none => rw [h2] at t; exact t.elim
    | some k =>
      rw [h2] at t
      simp only [nB, bO, Option.map_some, ofO, truth] at t
      intro φ' H' b' f s' e'
      rw [e']
      exact t φ' H' (!k) f s' rfl
/-- and, or by truth: as tests -/
theorem test_and {es : List Expr} (ha : PTe X C W call gl a x) (hb : PW X (.BoolOp .And (b :: es) pos) (tOfT C W (evT call gl y))) : PW X (.BoolOp .And (a :: b :: es) pos) (tOfT C W (evT call gl (.and x y))) := by
  refine pw_imp (pw_and ha hb) fun σ H Q ⟨φ, S, ρ, s, e, t⟩ => ?_
  simp only [evT, ev] at t
  refine ⟨φ, S, ρ, s, e, ?_⟩
  unfold evT
  cases h1 : ev call gl x ρ S with
  | stuck => rw [h1] at t; exact t.elim
  | exc c S1 => rw [h1] at t; exact t
  | ok d S1 =>
    rw [h1] at t
    simp only [Res.bind] at t ⊢
    cases h2 : truth S1 d with
    | none => rw [h2] at t; exact t.elim
    | some k =>
      rw [h2] at t
      intro φ' H' b' f s' e'
      cases k with
      | true =>
        subst e'
        rw [if_pos rfl]
        exact ⟨φ', S1, ρ, s', e.mono ok f, TR.fr f t⟩
      | false =>
        subst e'
        rw [if_neg Bool.false_ne_true]
        simp only [h2] at t
        exact t φ' H' false f s' rfl
theorem test_or {es : List Expr} (ha : PTe X C W call gl a x) (hb : PW X (.BoolOp .Or (b :: es) pos) (tOfT C W (evT call gl y))) : PW X (.BoolOp .Or (a :: b :: es) pos) (tOfT C W (evT call gl (.or x y))) := by
  refine pw_imp (pw_or ha hb) fun σ H Q ⟨φ, S, ρ, s, e, t⟩ => ?_
  simp only [evT, ev] at t
  refine ⟨φ, S, ρ, s, e, ?_⟩
  unfold evT
  cases h1 : ev call gl x ρ S with
  | stuck => rw [h1] at t; exact t.elim
  | exc c S1 => rw [h1] at t; exact t
  | ok d S1 =>
    rw [h1] at t
    simp only [Res.bind] at t ⊢
    cases h2 : truth S1 d with
    | none => rw [h2] at t; exact t.elim
    | some k =>
      rw [h2] at t
      intro φ' H' b' f s' e'
      cases k with
      | true =>
        subst e'
        rw [if_pos rfl]
        simp only [h2] at t
        exact t φ' H' true f s' rfl
      | false =>
        subst e'
        rw [if_neg Bool.false_ne_true]
        exact ⟨φ', S1, ρ, s', e.mono ok f, TR.fr f t⟩
omit ok hK in
theorem test_and1 (ha : PTe X C W call gl a x) : PW X (.BoolOp .And [a] pos) (tOfT C W (evT call gl x)) := pw_and1 ha
omit ok hK in
theorem test_or1 (ha : PTe X C W call gl a x) : PW X (.BoolOp .Or [a] pos) (tOfT C W (evT call gl x)) := pw_or1 ha
/-- .. as values -/
theorem val_and {es : List Expr} (ha : PEe X C W call gl a x) (hb : PEe X C W call gl (.BoolOp .And (b :: es) pos) y) : PEe X C W call gl (.BoolOp .And (a :: b :: es) pos) (.and x y) := by
  refine pe_imp (pe_andT ha hb) fun σ H Q ⟨φ, S, ρ, s, e, t⟩ => ?_
  simp only [ev] at t
  refine (TR.seq (R := Rep C) (f := ev call gl x) ok s e t).imp fun v H1 ⟨φ1, S1, d, _, s1, e1, r1, t1⟩ => ?_
  cases h2 : truth S1 d with
  | none => rw [h2] at t1; exact t1.elim
  | some k =>
    rw [h2] at t1
    refine ⟨k, truth_of ok hK s1 r1 h2, ?_⟩
    cases k with
    | true =>
      rw [if_pos rfl]
      exact ⟨φ1, S1, ρ, s1, e1, t1⟩
    | false =>
      rw [if_neg Bool.false_ne_true]
      exact t1 φ1 H1 v (Fr.refl _ _) s1 r1
theorem val_or {es : List Expr} (ha : PEe X C W call gl a x) (hb : PEe X C W call gl (.BoolOp .Or (b :: es) pos) y) : PEe X C W call gl (.BoolOp .Or (a :: b :: es) pos) (.or x y) := by
  refine pe_imp (pe_orT ha hb) fun σ H Q ⟨φ, S, ρ, s, e, t⟩ => ?_
  simp only [ev] at t
  refine (TR.seq (R := Rep C) (f := ev call gl x) ok s e t).imp fun v H1 ⟨φ1, S1, d, _, s1, e1, r1, t1⟩ => ?_
  cases h2 : truth S1 d with
  | none => rw [h2] at t1; exact t1.elim
  | some k =>
    rw [h2] at t1
    refine ⟨k, truth_of ok hK s1 r1 h2, ?_⟩
    cases k with
    | true =>
      rw [if_pos rfl]
      exact t1 φ1 H1 v (Fr.refl _ _) s1 r1
    | false =>
      rw [if_neg Bool.false_ne_true]
      exact ⟨φ1, S1, ρ, s1, e1, t1⟩
omit hK in
theorem val_ifx (hc : PTe X C W call gl c z) (ha : PEe X C W call gl a x) (hb : PEe X C W call gl b y) : PEe X C W call gl (.IfExp c a b pos) (.ifx z x y) := by
  refine pe_imp (pe_ifExp hc ha hb) fun σ H Q ⟨φ, S, ρ, s, e, t⟩ => ?_
  simp only [ev] at t
  refine ⟨φ, S, ρ, s, e, ?_⟩
  unfold evT
  cases h1 : ev call gl z ρ S with
  | stuck => rw [h1] at t; exact t.elim
  | exc c S1 => rw [h1] at t; exact t
  | ok d S1 =>
    rw [h1] at t
    simp only [Res.bind] at t ⊢
    cases h2 : truth S1 d with
    | none => rw [h2] at t; exact t.elim
    | some k =>
      rw [h2] at t
      intro φ' H' b' f s' e'
      cases k with
      | true =>
        subst e'
        rw [if_pos rfl]
        exact ⟨φ', S1, ρ, s', e.mono ok f, TR.fr f t⟩
      | false =>
        subst e'
        rw [if_neg Bool.false_ne_true]
        exact ⟨φ', S1, ρ, s', e.mono ok f, TR.fr f t⟩
/-! ### comparisons as tests, chains -/
def isCmp : Pr → Bool
  | .eq | .ne | .lt | .le | .gt | .ge | .isN | .notN | .isB | .notB | .in_ | .nin => true
  | _ => false
omit ok hK in
theorem bO_bl {o : Option Bool} {S S' : Sto} {d : D} (h : ofO (bO o) S = .ok d S') : S' = S ∧ ∃ k, d = .bl k := by
  cases o with
  | none => cases h
  | some k => cases h; exact ⟨rfl, k, rfl⟩
omit ok hK in
theorem cmp_bl {p : Pr} (hp : isCmp p = true) {ds : List D} {S S' : Sto} {d : D} (h : prim p ds S = .ok d S') : S' = S ∧ ∃ k, d = .bl k := by
  unfold prim at h
  split at h <;> first | exact bO_bl h | (exact absurd hp (by decide)) | (cases h; exact ⟨rfl, _, rfl⟩) | cases h
omit hK in
theorem test_one {l : List E} {p : Pr} {t : TE} {e : Expr} (hp : isCmp p = true) (ht : PT X e (tTest t)) (h : ∀ σ H Q, tOf C W (ev call gl (.pr p l)) σ H Q → t σ H Q) : PTe X C W call gl e (.pr p l) := by
  refine pt_imp ht fun σ H Q ⟨φ, S, ρ, s, e, t1⟩ => h σ H _ ⟨φ, S, ρ, s, e, ?_⟩
  simp only [evT, ev] at t1 ⊢
  cases h0 : evL call gl l ρ S with
  | stuck => rw [h0] at t1; exact t1.elim
  | exc c S1 => rw [h0] at t1; exact t1
  | ok ds S0 =>
    rw [h0] at t1
    simp only [Res.bind] at t1 ⊢
    cases h1 : prim p ds S0 with
    | stuck => rw [h1] at t1; exact t1.elim
    | exc c S1 => exact (noexc h1).elim
    | ok d S1 =>
      rw [h1] at t1
      obtain ⟨_, k, rfl⟩ := cmp_bl hp h1
      intro φ' H' v f s' r
      exact ⟨k, r.bl, t1 φ' H' k f s' rfl⟩
omit hK in
theorem test_cmp {l : List E} {p : Pr} (hp : isCmp p = true) {op : CmpOp} (hm : behindInMarks op b = false) (ho : OpR X (compareOp op) fun x y => rP C p [x, y]) (h : DL X C W call gl l [a, b]) : PTe X C W call gl (.Compare a [op] [b] pos) (.pr p l) := by
  obtain ⟨x, y, rfl, ha, hb⟩ := h.two
  exact test_one ok hp (pt_cmpR ho ha hb hm) fun σ H Q q => strict2 ok q
omit hK in
/-- a op1 b op2 c -/
theorem chain_of {p q : Pr} {φ : Lay} {S : Sto} {ρ : Env} {σ : L2.St} {H : Hp} {Q : VK} {c0 : E} (hp : isCmp p = true) (s : SR C φ S H) (e : ER C φ H ρ σ) (t : TR C W (Rep C) φ H σ (ev call gl (.chain p q x y c0) ρ S) Q) :
    tChain (fun u v => rP C p [u, v]) (fun u v => rP C q [u, v]) (tOf C W (ev call gl x)) (tOf C W (ev call gl y)) (tOf C W (ev call gl c0)) σ H Q := by
  simp only [ev] at t
  refine (TR.seq (R := Rep C) (f := ev call gl x) ok s e t).imp fun u H1 ⟨φ1, S1, d1, _, s1, e1, r1, t1⟩ => ?_
  refine (TR.seq (R := Rep C) (f := ev call gl y) ok s1 e1 t1).imp fun v H2 ⟨φ2, S2, d2, f2, s2, e2, r2, t2⟩ => ?_
  have ru := Rep.mono ok f2 d1 u r1
  refine ⟨φ2, S2, [d1, d2], s2, by simp only [RepL]; exact ⟨ru, r2, True.intro⟩, ?_⟩
  cases h1 : prim p [d1, d2] S2 with
  | stuck => rw [h1] at t2; exact t2.elim
  | exc c S1 => exact (noexc h1).elim
  | ok d S3 =>
    rw [h1] at t2
    obtain ⟨_, k, rfl⟩ := cmp_bl hp h1
    intro φ3 H3 w f3 s3 r3
    refine ⟨k, r3.bl, ?_⟩
    have t3 := TR.fr f3 t2
    cases k with
    | false =>
      rw [if_neg Bool.false_ne_true]
      exact t3 φ3 H3 _ (Fr.refl _ _) s3 rep_bl
    | true =>
      rw [if_pos rfl]
      refine (TR.seq (R := Rep C) (f := ev call gl c0) ok s3 (e2.mono ok f3) t3).imp fun w H4 ⟨φ4, S4, d4, f4, s4, e4, r4, t4⟩ => ?_
      exact ⟨φ4, S4, [d2, d4], s4, by simp only [RepL]; exact ⟨Rep.mono ok (f3.trans f4) d2 v r2, r4, True.intro⟩, t4.pr⟩
omit hK in
theorem val_chain {p q : Pr} {op op' : CmpOp} (hp : isCmp p = true) (ho : OpR X (compareOp op) fun x y => rP C p [x, y]) (ho' : OpR X (compareOp op') fun x y => rP C q [x, y]) (ha : PEe X C W call gl a x) (hb : PEe X C W call gl b y) (hc : PEe X C W call gl c z)
    (hm : lastMarks [op, op'] [b, c] = false) : PEe X C W call gl (.Compare a [op, op'] [b, c] pos) (.chain p q x y z) :=
  pe_imp (pe_chain ho ho' ha hb hc hm) fun σ H Q ⟨φ, S, ρ, s, e, t⟩ => chain_of ok hp s e t
omit hK in
theorem test_chain {p q : Pr} {op op' : CmpOp} (hp : isCmp p = true) (hq : isCmp q = true) (ho : OpR X (compareOp op) fun x y => rP C p [x, y]) (ho' : OpR X (compareOp op') fun x y => rP C q [x, y]) (ha : PEe X C W call gl a x) (hb : PEe X C W call gl b y) (hc : PEe X C W call gl c z)
    (hm : lastMarks [op, op'] [b, c] = false) : PTe X C W call gl (.Compare a [op, op'] [b, c] pos) (.chain p q x y z) := by
  refine pt_imp (pt_chain ho ho' ha hb hc hm) fun σ H Q ⟨φ, S, ρ, s, e, t⟩ => chain_of ok hp s e (Q := fun x H' => ∃ k, x = .bl k ∧ Q k H') ?_
  simp only [evT] at t
  have key : ∀ d S', ev call gl (.chain p q x y z) ρ S = .ok d S' → ∃ k, d = .bl k := fun d S' h => by
    simp only [ev] at h
    cases h1 : ev call gl x ρ S with
    | stuck => rw [h1] at h; cases h
    | exc c S1 => rw [h1] at h; cases h
    | ok d1 S1 =>
      rw [h1] at h
      simp only [Res.bind] at h
      cases h2 : ev call gl y ρ S1 with
      | stuck => rw [h2] at h; cases h
      | exc c S1 => rw [h2] at h; cases h
      | ok d2 S2 =>
        rw [h2] at h
        simp only at h
        cases h3 : prim p [d1, d2] S2 with
        | stuck => rw [h3] at h; cases h
        | exc c S1 => rw [h3] at h; cases h
        | ok d3 S3 =>
          rw [h3] at h
          obtain ⟨_, k, rfl⟩ := cmp_bl hp h3
          cases k with
          | false => cases h; exact ⟨false, rfl⟩
          | true =>
            simp only at h
            cases h4 : ev call gl z ρ S3 with
            | stuck => rw [h4] at h; cases h
            | exc c S1 => rw [h4] at h; cases h
            | ok d4 S4 =>
              rw [h4] at h
              exact (cmp_bl hq h).2
  cases h0 : ev call gl (.chain p q x y z) ρ S with
  | stuck => rw [h0] at t; exact t.elim
  | exc c S1 => rw [h0] at t; exact t
  | ok d S0 =>
    rw [h0] at t
    obtain ⟨k, rfl⟩ := key d S0 h0
    intro φ' H' v f s' r
    exact ⟨k, r.bl, t φ' H' k f s' rfl⟩
omit ok hK in
theorem evL_nilE {ρ : Env} {S : Sto} : evL call gl [] ρ S = .ok [] S := by simp only [evL]
end
/-! ### calls -/
/-- what a function promises -/
def spOf (C : Cn) (f : List D → Sto → Res D) : Sp := fun vs H Q E => ∃ φ S ds, SR C φ S H ∧ RepL C φ H vs ds ∧ match f ds S with
  | .ok d S' => ∀ φ' H' v, Fr φ H φ' H' → SR C φ' S' H' → Rep C φ' H' v d → Q v H'
  | .exc c S' => ∀ φ' H' (da : Dk c), Fr φ H φ' H' → SR C φ' S' H' → E (.ref (C.clA c)) da.1 H'
  | .stuck => False
/-- a function of the module -/
structure FnD (X : Cx) (C : Cn) (call : D → List D → Sto → Res D) (k : Nat) (x : Str) (i : Nat) : Prop where
  ex : ∃ fd ps, FnOk X.prog X.w X.K X.mg X.base (L2N.CX X.prog X.w) k (C.fnA i) fd ps (spOf C (call (.fn i))) ∧ Binds X.K fd ps []
  mg : X.mg x = some (.ref (C.fnA i))
  kp : PySem.W.keepIn X.K (.ref (C.fnA i)) = true
section
variable {X : Cx} {C : Cn} {W : WX} {call : D → List D → Sto → Res D} {gl : List D} (ok : CnOk C) {pos p : Pos} {x : Str} {i k : Nat}
theorem TR.sp {φ : Lay} {S : Sto} {H : Hp} {σ : L2.St} {f : List D → Sto → Res D} {ds : List D} {vs : List V} {Q : VK} (s : SR C φ S H) (r : RepL C φ H vs ds) (t : TR C W (Rep C) φ H σ (f ds S) Q) : spOf C f vs H Q (WE W σ) := by
  refine ⟨φ, S, ds, s, r, ?_⟩
  cases h : f ds S with
  | ok d S' => rw [h] at t; exact t
  | exc c S' => rw [h] at t; exact t
  | stuck => rw [h] at t; exact t
include ok
theorem val_call {l : List E} {e : Expr} {es : List Expr} (F : FnD X C call k x i) (hr : Room k X.A) (tk : L2N.Takes X W) (hg : Gl X x) (hd : (x == ("__debug__" : Str)) = false) (h : DL X C W call gl l (e :: es)) :
    PEe X C W call gl (.Call (.Name x p) (e :: es) [] pos) (.call i l) := by
  obtain ⟨fd, ps, hF, hb⟩ := F.ex
  have ha := h.all
  rw [List.all_cons, Bool.and_eq_true] at ha
  refine pe_imp (pe_callS hF hr hg F.mg F.kp hb (fun σ => L2N.passAt tk σ) (DL.pa ok h) hd (star_cons ha.1 es X.env) (back_any pos X.env ha.2)) fun σ H Q ⟨φ, S, ρ, s, e, t⟩ => ?_
  simp only [ev] at t
  exact (TR.seq (R := RepL C) (f := evL call gl l) ok s e t).imp fun vs H1 ⟨φ1, S1, ds, _, s1, e1, r1, t1⟩ => t1.sp s1 r1
theorem val_call0 (F : FnD X C call k x i) (hr : Room k X.A) (tk : L2N.Takes X W) (hg : Gl X x) (hd : (x == ("__debug__" : Str)) = false) : PEe X C W call gl (.Call (.Name x p) [] [] pos) (.call i []) := by
  obtain ⟨fd, ps, hF, hb⟩ := F.ex
  refine ⟨fun pins s σ H Q I ⟨φ, S, ρ, hs, e, t⟩ => ?_⟩
  refine wpAny_Call_Name_kw (ld_glob I hg F.mg ?_ hd)
  simp only [ev, evL, Res.bind] at t
  exact PySem.W.callWith_K0 I.kIn F.kp (run_fnS (us := []) (E := WE W) hF hr hb (L2N.passAt tk σ) I .nil (TR.sp hs (by simp only [RepL]) t))
end
end SF

set_option maxHeartbeats 200000
set_option Elab.async false
set_option linter.all false
set_option maxRecDepth 100000
/-! What is walked, what is stored to, comprehensions. -/
namespace SF
open PySem PySem.Spec PyProof.Rows L2 RZ

theorem Kp.trans {φ φ1 φ2 : Lay} {H H1 H2 : Hp} (f : Kp φ H φ1 H1) (g : Kp φ1 H1 φ2 H2) : Kp φ H φ2 H2 where
  pre := by
    obtain ⟨ψ, e⟩ := f.pre
    obtain ⟨χ, e2⟩ := g.pre
    exact ⟨ψ ++ χ, by rw [e2, e, List.append_assoc]⟩
  keep := fun b o n e t => by
    obtain ⟨h1, h2⟩ := f.keep b o n e t
    exact g.keep b o h1 h2 t

/-! ### what is walked -/
/-- J goes through xs, one after another, while what it leans on is kept -/
structure ItOk (C : Cn) (φ : Lay) (H : Hp) (J : It) (xs : List D) : Prop where
  goes : ∀ i φ1 H1, Kp φ H φ1 H1 → i < xs.length → J.go i H1
  stops : ∀ φ1 H1, Kp φ H φ1 H1 → J.stop xs.length H1
  yields : ∀ i φ1 S H1 v H2, Kp φ H φ1 H1 → SR C φ1 S H1 → i < xs.length → J.yld i H1 v H2 → Fr φ1 H1 φ1 H2 ∧ SR C φ1 S H2 ∧ ∃ d, xs[i]? = some d ∧ Rep C φ1 H2 v d
section
variable {C : Cn} (ok : CnOk C) {φ : Lay} {H : Hp}
include ok
theorem seq_keep {φ1 : Lay} {H1 : Hp} {vs : List V} {l : List D} (k : Kp φ H φ1 H1) (r : RepL C φ H vs l) {i : Nat} {v : V} (h : vs[i]? = some v) : ∃ d, l[i]? = some d ∧ Rep C φ1 H1 v d := by
  have r1 := RepL.kp ok k l vs r
  have hl := r1.length
  obtain ⟨hi, e⟩ := List.getElem?_eq_some_iff.mp h
  obtain ⟨w, h1, h2⟩ := RepL.get r1 (List.getElem?_eq_getElem (show i < l.length by omega))
  rw [h] at h1
  cases h1
  exact ⟨_, List.getElem?_eq_getElem _, h2⟩
theorem it_lst {K : PySem.W.Frag} (hK : C.K = K) {a : Addr} {vs : List V} {l : List D} (n : φ.out a) (e : H a = some (.lst vs)) (r : RepL C φ H vs l) : ItOk C φ H (Itl K a) l := by
  have q : ∀ φ1 H1, Kp φ H φ1 H1 → SqL K H1 a vs := fun φ1 H1 k => SqL.of (k.keep a _ n e fun _ z => by cases z).2
  have w := walk_list (K := K) (a := a) (xs := vs)
  refine ⟨fun i φ1 H1 k hi => w.goes i H1 (by rw [r.length]; exact hi) (q φ1 H1 k), fun φ1 H1 k => by rw [← r.length]; exact w.stops H1 (q φ1 H1 k), fun i φ1 S H1 v H2 k s hi y => ?_⟩
  obtain ⟨rfl, h⟩ := w.yields i H1 v H2 (by rw [r.length]; exact hi) (q φ1 H1 k) y
  exact ⟨Fr.refl _ _, s, seq_keep ok k r h⟩
theorem it_tup {K : PySem.W.Frag} (hK : C.K = K) {a : Addr} {vs : List V} {l : List D} (n : (φ.out a ∧ Rd H a (.tup vs)) ∨ KTup C.K a vs) (r : RepL C φ H vs l) : ItOk C φ H (Itt K a) l := by
  have q : ∀ φ1 H1, Kp φ H φ1 H1 → SqT K H1 a vs := fun φ1 H1 k => by
    rcases n with ⟨n, e⟩ | n
    · exact .inl (rd_keep k n (fun _ z => by cases z) e).2
    · exact .inr (hK ▸ n)
  have w := walk_tup (K := K) (a := a) (xs := vs)
  refine ⟨fun i φ1 H1 k hi => w.goes i H1 (by rw [r.length]; exact hi) (q φ1 H1 k), fun φ1 H1 k => by rw [← r.length]; exact w.stops H1 (q φ1 H1 k), fun i φ1 S H1 v H2 k s hi y => ?_⟩
  obtain ⟨rfl, h⟩ := w.yields i H1 v H2 (by rw [r.length]; exact hi) (q φ1 H1 k) y
  exact ⟨Fr.refl _ _, s, seq_keep ok k r h⟩
omit ok in
theorem rangeD_len (lo c : Int) (n : Nat) : (rangeD lo c n).length = n := by simp [rangeD]
omit ok in
theorem rangeD_get {lo c : Int} {n i : Nat} (h : i < n) : (rangeD lo c n)[i]? = some (.int (lo + (i : Nat) * c)) := by simp [rangeD, h]
omit ok in
theorem it_rng {lo : Int} {n : Nat} : ItOk C φ H (Itr lo n) (rangeD lo 1 n) := by
  refine ⟨fun i φ1 H1 k hi => by rw [rangeD_len] at hi; exact hi, fun φ1 H1 k => by rw [rangeD_len]; exact Nat.le_refl n, fun i φ1 S H1 v H2 k s hi y => ?_⟩
  rw [rangeD_len] at hi
  obtain ⟨rfl, rfl⟩ := y
  refine ⟨Fr.refl _ _, s, _, rangeD_get hi, ?_⟩
  rw [Int.mul_one]
  exact rep_int
/-- a new pair at each turn -/
theorem yield_pair {φ1 : Lay} {S : Sto} {H1 H2 : Hp} {v : V} {T : Addr} {x y : V} {dx dy : D} (s : SR C φ1 S H1) (ev : v = .ref T) (nT : H1 T = none) (e2 : H2 = upd H1 T (.tup [x, y])) (rx : Rep C φ1 H1 x dx) (ry : Rep C φ1 H1 y dy) :
    Fr φ1 H1 φ1 H2 ∧ SR C φ1 S H2 ∧ Rep C φ1 H2 v (.tup [dx, dy]) := by
  subst ev e2
  refine ⟨fr_new nT, s.new ok nT, ?_⟩
  simp only [Rep]
  refine ⟨T, [x, y], rfl, .inl ⟨s.free nT, .inl upd_same⟩, ?_⟩
  simp only [RepL]
  exact ⟨Rep.mono ok (fr_new nT) _ _ rx, Rep.mono ok (fr_new nT) _ _ ry, True.intro⟩
omit ok in
theorem zipD_len : ∀ l m : List D, (zipD l m).length = min l.length m.length
  | [], _ => by simp [zipD]
  | _ :: _, [] => by simp [zipD]
  | x :: l, y :: m => by
    simp only [zipD, List.length_cons, zipD_len l m]
    omega
omit ok in
theorem zipD_get : ∀ {l m : List D} {i : Nat} {x y : D}, l[i]? = some x → m[i]? = some y → (zipD l m)[i]? = some (.tup [x, y])
  | [], _, _, _, _, h, _ => by simp at h
  | _ :: _, [], _, _, _, _, h => by simp at h
  | a :: l, b :: m, 0, x, y, h, g => by
    simp at h g
    subst h g
    rfl
  | a :: l, b :: m, i + 1, x, y, h, g => by
    simp at h g
    simp only [zipD, List.getElem?_cons_succ]
    exact zipD_get h g
theorem it_zipL {K : PySem.W.Frag} (hK : C.K = K) {a b : Addr} {vs us : List V} {l m : List D} (na : φ.out a) (ea : H a = some (.lst vs)) (ra : RepL C φ H vs l) (nb : φ.out b) (eb : H b = some (.lst us)) (rb : RepL C φ H us m) : ItOk C φ H (Itz K a b) (zipD l m) := by
  have q : ∀ φ1 H1, Kp φ H φ1 H1 → SqL K H1 a vs ∧ SqL K H1 b us := fun φ1 H1 k => ⟨SqL.of (k.keep a _ na ea fun _ z => by cases z).2, SqL.of (k.keep b _ nb eb fun _ z => by cases z).2⟩
  have w := walk_zip (K := K) (a := a) (b := b) (xs := vs) (ys := us) rfl
  have en : min vs.length us.length = (zipD l m).length := by rw [zipD_len, ra.length, rb.length]
  refine ⟨fun i φ1 H1 k hi => w.goes i H1 (by rw [en]; exact hi) (q φ1 H1 k), fun φ1 H1 k => by rw [← en]; exact w.stops H1 (q φ1 H1 k), fun i φ1 S H1 v H2 k s hi y => ?_⟩
  obtain ⟨T, x, z, e1, e2, e3, h1, h2⟩ := w.yields i H1 v H2 (by rw [en]; exact hi) (q φ1 H1 k) y
  obtain ⟨dx, g1, rx⟩ := seq_keep ok k ra h1
  obtain ⟨dy, g2, ry⟩ := seq_keep ok k rb h2
  obtain ⟨f, s', r⟩ := yield_pair ok s e1 e2 e3 rx ry
  exact ⟨f, s', _, zipD_get g1 g2, r⟩
/-- zip of two tuples, one perhaps the shorter -/
theorem walk_zipT {K : PySem.W.Frag} {a b : Addr} {xs ys : List V} {n : Nat} (hn : n = min xs.length ys.length) : Walk (ItzT K a b) n (fun H => SqT K H a xs ∧ SqT K H b ys) (YPair (fun i => xs[i]?) (fun i => ys[i]?)) := by
  subst hn
  refine ⟨fun i _ hi q => ?_, fun _ q => ⟨xs, ys, q.1, q.2, by omega⟩, fun i H v H' _ q y => ?_⟩
  · have h1 : i < xs.length := by omega
    have h2 : i < ys.length := by omega
    exact ⟨xs, ys, xs[i], ys[i], q.1, q.2, by simp [h1], by simp [h2]⟩
  · obtain ⟨T, x, z, h1, h2, h3, h4, h5⟩ := y
    exact ⟨T, x, z, h1, h2, h3, h4 xs q.1, h5 ys q.2⟩
theorem it_zipT {K : PySem.W.Frag} (hK : C.K = K) {a b : Addr} {vs us : List V} {l m : List D} (na : (φ.out a ∧ Rd H a (.tup vs)) ∨ KTup C.K a vs) (ra : RepL C φ H vs l) (nb : (φ.out b ∧ Rd H b (.tup us)) ∨ KTup C.K b us) (rb : RepL C φ H us m) : ItOk C φ H (ItzT K a b) (zipD l m) := by
  have q1 : ∀ φ1 H1 (a : Addr) (vs : List V), ((φ.out a ∧ Rd H a (.tup vs)) ∨ KTup C.K a vs) → Kp φ H φ1 H1 → SqT K H1 a vs := fun φ1 H1 a vs n k => by
    rcases n with ⟨n, e⟩ | n
    · exact .inl (rd_keep k n (fun _ z => by cases z) e).2
    · exact .inr (hK ▸ n)
  have q : ∀ φ1 H1, Kp φ H φ1 H1 → SqT K H1 a vs ∧ SqT K H1 b us := fun φ1 H1 k => ⟨q1 _ _ _ _ na k, q1 _ _ _ _ nb k⟩
  have w := walk_zipT ok (K := K) (a := a) (b := b) (xs := vs) (ys := us) rfl
  have en : min vs.length us.length = (zipD l m).length := by rw [zipD_len, ra.length, rb.length]
  refine ⟨fun i φ1 H1 k hi => w.goes i H1 (by rw [en]; exact hi) (q φ1 H1 k), fun φ1 H1 k => by rw [← en]; exact w.stops H1 (q φ1 H1 k), fun i φ1 S H1 v H2 k s hi y => ?_⟩
  obtain ⟨T, x, z, e1, e2, e3, h1, h2⟩ := w.yields i H1 v H2 (by rw [en]; exact hi) (q φ1 H1 k) y
  obtain ⟨dx, g1, rx⟩ := seq_keep ok k ra h1
  obtain ⟨dy, g2, ry⟩ := seq_keep ok k rb h2
  obtain ⟨f, s', r⟩ := yield_pair ok s e1 e2 e3 rx ry
  exact ⟨f, s', _, zipD_get g1 g2, r⟩
end

/-! ### the readings of what is walked -/
def evIt (call : D → List D → Sto → Res D) (gl : List D) (k : ItK) (its : List E) (ρ : Env) (S : Sto) : Res (List D) := (evL call gl its ρ S).bind fun ds S1 => match items k ds with
  | some xs => .ok xs S1
  | none => .stuck
abbrev PIx (X : Cx) (C : Cn) (W : WX) (call : D → List D → Sto → Res D) (gl : List D) (tg e : Expr) (k : ItK) (its : List E) : Prop := PI X tg e (tG C W (ItOk C) (evIt call gl k its))
section
variable {X : Cx} {C : Cn} {W : WX} {call : D → List D → Sto → Res D} {gl : List D} (ok : CnOk C) (hK : C.K = X.K) {a b tg : Expr} {x y : E} {pos p : Pos}
theorem TR.it {φ : Lay} {S : Sto} {H : Hp} {σ : L2.St} {o : Option (List D)} {Q : It → Hp → Prop} (s : SR C φ S H) (t : TR C W (ItOk C) φ H σ (match o with
  | some xs => .ok xs S
  | none => .stuck) Q) : ∃ xs, o = some xs ∧ ∀ J, ItOk C φ H J xs → Q J H := by
  cases o with
  | none => exact t.elim
  | some xs => exact ⟨xs, rfl, fun J h => t φ H J (Fr.refl _ _) s h⟩
include ok in
theorem evIt1 {k : ItK} {σ : L2.St} {H : Hp} {Q : It → Hp → Prop} (h : tG C W (ItOk C) (evIt call gl k [x]) σ H Q) : tOf C W (ev call gl x) σ H fun v H1 => ∃ φ S d xs, SR C φ S H1 ∧ Rep C φ H1 v d ∧ items k [d] = some xs ∧ ∀ J, ItOk C φ H1 J xs → Q J H1 := by
  obtain ⟨φ, S, ρ, s, e, t⟩ := h
  refine (evL_cons ok (K := fun vs H1 => ∀ v, vs = [v] → ∃ φ S d xs, SR C φ S H1 ∧ Rep C φ H1 v d ∧ items k [d] = some xs ∧ ∀ J, ItOk C φ H1 J xs → Q J H1) ?_).imp fun v H1 h1 => evL_nil h1 v rfl
  refine (TR.seq (R := RepL C) (f := evL call gl [x]) ok s e t).imp fun vs H1 ⟨φ1, S1, ds, _, s1, e1, r1, t1⟩ v hv => ?_
  subst hv
  obtain ⟨xs, hx, q⟩ := TR.it s1 t1
  obtain ⟨d, rfl, r⟩ := rep1 r1
  exact ⟨φ1, S1, d, xs, s1, r, hx, q⟩
include ok hK in
theorem it_seq (h : PEe X C W call gl a x) : PIx X C W call gl tg a .seq [x] := by
  refine ⟨fun pins s σ H R I hq => ?_⟩
  refine thn (h.run pins s σ H _ I (evIt1 ok hq)) fun v s1 ⟨z, H1, I1, r1, φ, S, d, xs, hs, rd, hx, q1⟩ => ?_
  have fp : ∀ b ∈ [s1.heap.objs.size], FpOk X pins H1 b := fun b hb => by
    have e : b = s1.heap.objs.size := by simpa using hb
    subst e
    exact I1.fpOk (Nat.le_refl _) (I1.hok.fresh (Nat.le_refl _))
  cases d with
  | lst l =>
    cases hx
    obtain ⟨A, vs, rfl, n, e, rl⟩ := by simpa only [Rep] using rd
    cases r1
    obtain ⟨its, rv, p, hz⟩ := I1.list (SqL.of e)
    refine wpAny_pyIter_list p.isList ?_
    exact ⟨s1.heap.objs.size, [s1.heap.objs.size], _, _, H1, rfl, I1.kept (t' := s1.toks) fun b o e => Heap.get?_push_of_some _ e, turn_list A _, ⟨_, Heap.get?_push_size _ rfl, rfl, rfl⟩, fp, q1 _ (it_lst ok hK n e rl)⟩
  | tup l =>
    cases hx
    obtain ⟨A, vs, rfl, n, rl⟩ := by simpa only [Rep] using rd
    cases r1
    have hq : SqT X.K H1 A vs := by
      rcases n with ⟨_, e⟩ | n
      · exact .inl e
      · exact .inr (hK ▸ n)
    obtain ⟨its, rv, p, hz⟩ := I1.tuple hq
    refine wpAny_pyIter_tuple (show s1.heap.IsTuple A its.toArray from p) ?_
    exact ⟨s1.heap.objs.size, [s1.heap.objs.size], _, _, H1, rfl, I1.kept (t' := s1.toks) fun b o e => Heap.get?_push_of_some _ e, turn_tuple A _, ⟨_, Heap.get?_push_size _ rfl, rfl, rfl⟩, fp, q1 _ (it_tup ok hK n rl)⟩
  | _ => cases hx
theorem pi_imp {t t' : TI} (h : PI X tg a t) (k : ∀ σ H Q, t' σ H Q → t σ H Q) : PI X tg a t' := ⟨fun pins s σ H Q I q => h.run pins s σ H Q I (k σ H Q q)⟩
theorem rep1' {φ : Lay} {H : Hp} {vs : List V} {d : D} (h : RepL C φ H vs [d]) : ∃ v, vs = [v] ∧ Rep C φ H v d := by
  cases vs with
  | nil => simp only [RepL] at h
  | cons v vs =>
    simp only [RepL] at h
    cases vs with
    | nil => exact ⟨v, rfl, h.1⟩
    | cons _ _ =>
      have h2 := h.2
      simp only [RepL] at h2
theorem rep2' {φ : Lay} {H : Hp} {vs : List V} {d d' : D} (h : RepL C φ H vs [d, d']) : ∃ v u, vs = [v, u] ∧ Rep C φ H v d ∧ Rep C φ H u d' := by
  cases vs with
  | nil => simp only [RepL] at h
  | cons v vs =>
    simp only [RepL] at h
    obtain ⟨u, rfl, r⟩ := rep1' h.2
    exact ⟨v, u, rfl, h.1, r⟩
include ok in
theorem it_r1 {l : List E} (hg : Gl X "range") (hm : X.mg "range" = none) (h : DL X C W call gl l [a]) : PIx X C W call gl tg (.Call (.Name "range" p) [a] [] pos) .r1 l := by
  have ha := h.all
  rw [List.all_cons, Bool.and_eq_true] at ha
  refine pi_imp (pi_range1 hg hm (DL.pa ok h) (star_cons ha.1 [] X.env)) fun σ H Q ⟨φ, S, ρ, s, e, t⟩ => ?_
  refine (TR.seq (R := RepL C) (f := evL call gl l) ok s e t).imp fun vs H1 ⟨φ1, S1, ds, _, s1, e1, r1, t1⟩ => ?_
  obtain ⟨xs, hx, q⟩ := TR.it s1 t1
  unfold items at hx
  split at hx <;> (rename_i hk; try cases hk) <;> (try cases hx)
  rename_i j
  split at hx
  · rename_i hj
    cases hx
    obtain ⟨v, rfl, r⟩ := rep1' r1
    obtain ⟨h1, h2⟩ := small_of hj
    exact ⟨j, by rw [r.int], h1, h2, q _ it_rng⟩
  · cases hx
include ok in
theorem it_r2 {l : List E} (hg : Gl X "range") (hm : X.mg "range" = none) (h : DL X C W call gl l [a, b]) : PIx X C W call gl tg (.Call (.Name "range" p) [a, b] [] pos) .r2 l := by
  have ha := h.all
  rw [List.all_cons, Bool.and_eq_true, List.all_cons, Bool.and_eq_true] at ha
  have e2 : starEach [b] X.env = [(false, eval b X.env)] := star_cons ha.2.1 [] X.env
  refine pi_imp (pi_range2 hg hm (DL.pa ok h) (by rw [star_cons ha.1 [b] X.env, e2]) e2) fun σ H Q ⟨φ, S, ρ, s, e, t⟩ => ?_
  refine (TR.seq (R := RepL C) (f := evL call gl l) ok s e t).imp fun vs H1 ⟨φ1, S1, ds, _, s1, e1, r1, t1⟩ => ?_
  obtain ⟨xs, hx, q⟩ := TR.it s1 t1
  unfold items at hx
  split at hx <;> (rename_i hk; try cases hk) <;> (try cases hx)
  rename_i i j
  split at hx
  · rename_i hj
    cases hx
    obtain ⟨v, u, rfl, r, r'⟩ := rep2' r1
    rw [Bool.and_eq_true] at hj
    obtain ⟨h1, h2⟩ := small_of hj.1
    obtain ⟨h3, h4⟩ := small_of hj.2
    exact ⟨i, j, by rw [r.int, r'.int], ⟨h1, h2, h3, h4⟩, q _ it_rng⟩
  · cases hx
include ok hK in
theorem it_zip {l : List E} {elts : List Expr} {kk : Nat} {tpos : Pos} (hg : Gl X "zip") (hm : X.mg "zip" = none) (h : DL X C W call gl l [a, b]) : PIx X C W call gl (.Tuple elts kk tpos) (.Call (.Name "zip" p) [a, b] [] pos) .zip l := by
  have ha := h.all
  rw [List.all_cons, Bool.and_eq_true] at ha
  refine pi_imp (pi_zipA hg hm (DL.pa ok h) (star_cons ha.1 [b] X.env) (back_any pos X.env ha.2)) fun σ H Q ⟨φ, S, ρ, s, e, t⟩ => ?_
  refine (TR.seq (R := RepL C) (f := evL call gl l) ok s e t).imp fun vs H1 ⟨φ1, S1, ds, _, s1, e1, r1, t1⟩ => ?_
  obtain ⟨xs, hx, q⟩ := TR.it s1 t1
  unfold items at hx
  split at hx <;> (rename_i hk; try cases hk) <;> (try cases hx)
  · obtain ⟨v, u, rfl, r, r'⟩ := rep2' r1
    simp only [Rep] at r r'
    obtain ⟨A, us, rfl, n, e3, rl⟩ := r
    obtain ⟨B, ws, rfl, n', e4, rl'⟩ := r'
    exact ⟨A, B, us, ws, rfl, .inl ⟨SqL.of e3, SqL.of e4, q _ (it_zipL ok hK n e3 rl n' e4 rl')⟩⟩
  · obtain ⟨v, u, rfl, r, r'⟩ := rep2' r1
    simp only [Rep] at r r'
    obtain ⟨A, us, rfl, n, rl⟩ := r
    obtain ⟨B, ws, rfl, n', rl'⟩ := r'
    refine ⟨A, B, us, ws, rfl, .inr ⟨?_, ?_, q _ (it_zipT ok hK n rl n' rl')⟩⟩
    · rcases n with ⟨_, z⟩ | z
      · exact .inl z
      · exact .inr (hK ▸ z)
    · rcases n' with ⟨_, z⟩ | z
      · exact .inl z
      · exact .inr (hK ▸ z)
end
end SF

set_option maxHeartbeats 200000
set_option Elab.async false
set_option linter.all false
set_option maxRecDepth 100000
set_option maxHeartbeats 1000000
/-! enumerate over a list or a tuple. -/
namespace SF
open PySem PySem.Spec PyProof.Rows L2 RZ

theorem enum_new {v : Value} {o : Obj} {H : Heap → Prop} (B : Begins v o H) :
    Meets (Builtin.«enumerate.__new__» ⟨[.type "enumerate", v], []⟩) (fun _ R s => H s.heap ∧ R (.ok (.ret (.ref (s.heap.push o).objs.size))) { s with heap := (s.heap.push o).push { cls := .type "enumerate", data := .fields #[.none, .bool false, .ref s.heap.objs.size, rawInt 0, .none, .none] } }) := by
  refine .of_wp fun prog w A R s hh => ?_
  obtain ⟨H0, gg, dd, tt, oo⟩ := s
  obtain ⟨hH, hR⟩ := hh
  have sub := sub_enumerate
  have begin' : ∀ {A' : Around} {E Q : Value → Shared → Prop}, Q (.ref H0.objs.size) ⟨H0.push o, gg, dd, tt, oo⟩ → wpAny (model prog w) A' (pyIter v) Q E ⟨H0, gg, dd, tt, oo⟩ := fun q => B.iter _ _ _ _ ⟨H0, gg, dd, tt, oo⟩ _ hH q
  wp_walk using begin'
  refine wpAny_stack_any fun _ => wpAny_pure ?_
  split
  · rename_i cc _ _ _ _ _
    cases (cc == Value.type "enumerate") <;> (wp_walk using begin'; exact ⟨_, rfl, hR⟩)
  · (wp_walk using begin'; exact ⟨_, rfl, hR⟩)
theorem enum_call {prog : Program} {w : World} {A : Around} {E Q : Value → Shared → Prop} {s : Shared} {v : Value} {o : Obj} {H : Heap → Prop} (B : Begins v o H) (hH : H s.heap)
    (q : ∀ h', IsEnum h' (s.heap.objs.size + 1) s.heap.objs.size 0 .none → h'.get? s.heap.objs.size = some o → (∀ b u, s.heap.get? b = some u → h'.get? b = some u) → Q (.ref (s.heap.objs.size + 1)) { s with heap := h' }) :
    wpAny (model prog w) A (call (.type "enumerate") [v]) Q E s := by
  refine callType_new F.called_enumerate (by decide) (F.typeCall_enumerate_1 _) (F.newCall_enumerate_1 _) (fun obj => F.args_object_init_2 obj _) F.entry_enumerate_new (enum_new B) ⟨hH, ?_⟩
  have sz : (s.heap.push o).objs.size = s.heap.objs.size + 1 := Heap.size_push ..
  show _ ∧ _
  rw [sz]
  have at2 := Heap.get?_push_size (s.heap.push o) (o := { cls := .type "enumerate", data := .fields #[.none, .bool false, .ref s.heap.objs.size, rawInt 0, .none, .none] }) rfl
  rw [sz] at at2
  have he : IsEnum ((s.heap.push o).push { cls := .type "enumerate", data := .fields #[.none, .bool false, .ref s.heap.objs.size, rawInt 0, .none, .none] }) (s.heap.objs.size + 1) s.heap.objs.size 0 .none := at2
  exact ⟨⟨_, he, rfl⟩, q _ he (Heap.get?_push_of_some _ (Heap.get?_push_size _ B.free)) fun b u x => Heap.get?_push_of_some _ (Heap.get?_push_of_some _ x)⟩
/-- the tuple at a, each item in a new pair with its number -/
def IteT (K : PySem.W.Frag) (a : Addr) : It where
  go := fun i H => ∃ (xs : List V) (x : V), SqT K H a xs ∧ xs[i]? = some x
  yld := fun i H v H' => ∃ T x, v = .ref T ∧ H T = none ∧ H' = upd H T (.tup [.int (i : Nat), x]) ∧ ∀ xs, SqT K H a xs → xs[i]? = some x
  stop := fun i H => ∃ xs : List V, SqT K H a xs ∧ xs.length = i
theorem turn_enumT {P : Program} {w : World} {K : PySem.W.Frag} {elts : List Expr} {kk : Nat} {tpos : Pos} (a e it : Addr) :
    Turn P w K (.Tuple elts kk tpos) (IteT K a) [e, it] e (fun i h => (∃ old, IsEnum h e it ((i : Nat) : Int) old) ∧ h.IsTupleIter it a i ∧ e ≠ it ∧ a ≠ e ∧ a ≠ it) where
  mem := by simp
  obj := fun i h st b hb => by
    obtain ⟨⟨old, he⟩, ⟨o, ho, hc, hd⟩, _⟩ := st
    rcases List.mem_cons.mp hb with rfl | hb
    · exact ⟨_, he, fun v q => nomatch q⟩
    · obtain rfl := List.mem_singleton.mp hb
      exact ⟨o, ho, fun v q => by rw [hd] at q; cases q⟩
  keep := fun i h h' st k => by
    obtain ⟨⟨old, he⟩, hi, hne⟩ := st
    exact ⟨⟨old, k e (by simp) _ he⟩, hi.at fun o q => k it (by simp) o q, hne⟩
  item := by
    intro X hP hw hK hc i pins s σ H E I hf st hg
    subst hP hw hK
    obtain ⟨⟨old, he⟩, hit, hne, hae, hai⟩ := st
    obtain ⟨xs, x, hq, hx⟩ := hg
    obtain ⟨its, rv, p, hz⟩ := I.tuple hq
    obtain ⟨u, hu, ru⟩ := rv.get hx
    have p' : s.heap.IsTuple a its.toArray := p
    have elt : e < s.heap.objs.size := Heap.lt_size he
    have ilt : it < s.heap.objs.size := by
      obtain ⟨_, q, _⟩ := hit
      exact Heap.lt_size q
    have hl := rv.length
    have hxl := (List.getElem?_eq_some_iff.mp hx).1
    have DD : Draws X.prog X.w X.A.in1 it [it, a] its.toArray.size (fun i v => its.toArray[i]? = some v) (fun i h => h.IsTupleIter it a i ∧ h.IsTuple a its.toArray) := Draws.tuple (A := X.A.in1) (show X.A.in1.handled = none from I.ok.hd hc) it a hai its.toArray
    refine wpAny_pyNext_enum_itemD DD he ⟨hit, p'⟩ (by simp; omega) hne (by simp; exact ⟨hne, fun z => hae z.symm⟩) fun y h' tk hy ho hst hT hsz hk => ?_
    have ey : y = u := by
      have hy : its.toArray[i]? = some y := hy
      have hu2 : its.toArray[i]? = some u := by simpa using hu
      exact Option.some.inj (hy.symm.trans hu2)
    subst ey
    refine ⟨_, rfl, wpAny_letOwnedTupleGo_enum (s := { s with heap := h', toks := tk + 1 }) ho fun h'' he' sb => ?_⟩
    have at2 : h''.get? s.heap.objs.size = some { cls := .type "tuple", data := .seq #[.int i tk, y] } := (sb.2 _ (Nat.ne_of_gt elt)).trans hT
    have new : ObjOk X.prog X.w (upd H s.heap.objs.size (.tup [.int (i : Nat), x])) h'' s.heap.objs.size (.tup [.int (i : Nat), x]) :=
      ⟨by show 2 ≤ sizeLine; decide, [.int i tk, y], .cons ⟨_, rfl⟩ (.cons ru .nil), ⟨_, at2, rfl, _, rfl⟩⟩
    have I1 : L2.Inv X pins σ (upd H s.heap.objs.size (.tup [.int (i : Nat), x])) { s with heap := h'', toks := tk + 1 } :=
      I.turnedNew (ch := [e, it]) (fun b ob hb q => (sb.2 b (fun z => hb (by simp [z]))).trans (hk b ob (fun z => hb (by simp [z])) (fun z => hb (by simp [z])) q)) hf (Nat.le_refl _) new
    refine ⟨.ref s.heap.objs.size, _, I1, rfl, ⟨_, x, rfl, I.hok.fresh (Nat.le_refl _), rfl, fun ys hy => by rw [I.tuple_inj hy hq]; exact hx⟩, ⟨⟨y, ?_⟩, hst.1.at fun o q => (sb.2 it (Ne.symm hne)).trans q, hne, hae, hai⟩, fun b hb => ?_⟩
    · rw [show ((i + 1 : Nat) : Int) = (i : Int) + 1 by omega]
      exact he'
    · have hlt : b < s.heap.objs.size := by
        rcases List.mem_cons.mp hb with rfl | hb
        · exact elt
        · obtain rfl := List.mem_singleton.mp hb
          exact ilt
      rw [upd_ne (Nat.ne_of_lt hlt)]
      exact (hf b hb).1
  done := by
    intro X hP hw hK hc i pins s σ H E I hf st hg
    subst hP hw hK
    obtain ⟨⟨old, he⟩, hit, hne, hae, hai⟩ := st
    obtain ⟨xs, hq, hx⟩ := hg
    obtain ⟨its, rv, p, hz⟩ := I.tuple hq
    obtain ⟨f0, f1, f2, f3, f4, f5⟩ := hf it (by simp)
    have hl := rv.length
    have p' : s.heap.IsTuple a its.toArray := p
    have DD : Draws X.prog X.w X.A.in1 it [it, a] its.toArray.size (fun i v => its.toArray[i]? = some v) (fun i h => h.IsTupleIter it a i ∧ h.IsTuple a its.toArray) := Draws.tuple (A := X.A.in1) (show X.A.in1.handled = none from I.ok.hd hc) it a hai its.toArray
    have hi : i = its.toArray.size := by simp; omega
    exact wpAny_pyNext_enum_endD DD he ⟨by rw [← hi]; exact hit, p'⟩ fun h' eb => ⟨rfl, I.turned (t' := s.toks) (fun b o hb q => eb b o hb q) f0 f1 f3 f4 f5⟩
  self := fun A i s Q E st h => by
    obtain ⟨⟨_, he⟩, _⟩ := st
    exact wpAny_pyIter_enum he h
/-! ### what is yielded -/
theorem enumFrom_len : ∀ (n : Nat) (l : List D), (enumFrom n l).length = l.length
  | _, [] => rfl
  | n, x :: l => by simp only [enumFrom, List.length_cons, enumFrom_len (n + 1) l]
theorem enumFrom_get : ∀ {l : List D} {n i : Nat} {x : D}, l[i]? = some x → (enumFrom n l)[i]? = some (.tup [.int ((n + i : Nat) : Int), x])
  | [], _, _, _, h => by simp at h
  | a :: l, n, 0, x, h => by
    simp at h
    subst h
    simp [enumFrom]
  | a :: l, n, i + 1, x, h => by
    simp at h
    simp only [enumFrom, List.getElem?_cons_succ]
    rw [enumFrom_get h, show n + 1 + i = n + (i + 1) by omega]
section
variable {C : Cn} (ok : CnOk C) {φ : Lay} {H : Hp}
include ok
theorem it_enumL {K : PySem.W.Frag} {a : Addr} {vs : List V} {l : List D} (n : φ.out a) (e : H a = some (.lst vs)) (r : RepL C φ H vs l) : ItOk C φ H (Ite K a) (enumFrom 0 l) := by
  have q : ∀ φ1 H1, Kp φ H φ1 H1 → SqL K H1 a vs := fun φ1 H1 k => SqL.of (k.keep a _ n e fun _ z => by cases z).2
  have hl := r.length
  refine ⟨fun i φ1 H1 k hi => ?_, fun φ1 H1 k => ⟨vs, q φ1 H1 k, by rw [enumFrom_len]; omega⟩, fun i φ1 S H1 v H2 k s hi y => ?_⟩
  · rw [enumFrom_len] at hi
    exact ⟨vs, vs[i], q φ1 H1 k, List.getElem?_eq_getElem (by omega)⟩
  · obtain ⟨T, x, e1, e2, e3, h1⟩ := y
    obtain ⟨dx, g1, rx⟩ := seq_keep ok k r (h1 vs (q φ1 H1 k))
    obtain ⟨f, s', r'⟩ := yield_pair ok s e1 e2 e3 (rep_int (i := (i : Nat))) rx
    refine ⟨f, s', _, enumFrom_get g1, ?_⟩
    rw [Nat.zero_add]
    exact r'
theorem it_enumT {K : PySem.W.Frag} (hK : C.K = K) {a : Addr} {vs : List V} {l : List D} (n : (φ.out a ∧ Rd H a (.tup vs)) ∨ KTup C.K a vs) (r : RepL C φ H vs l) : ItOk C φ H (IteT K a) (enumFrom 0 l) := by
  have q : ∀ φ1 H1, Kp φ H φ1 H1 → SqT K H1 a vs := fun φ1 H1 k => by
    rcases n with ⟨n, e⟩ | n
    · exact .inl (rd_keep k n (fun _ z => by cases z) e).2
    · exact .inr (hK ▸ n)
  have hl := r.length
  refine ⟨fun i φ1 H1 k hi => ?_, fun φ1 H1 k => ⟨vs, q φ1 H1 k, by rw [enumFrom_len]; omega⟩, fun i φ1 S H1 v H2 k s hi y => ?_⟩
  · rw [enumFrom_len] at hi
    exact ⟨vs, vs[i], q φ1 H1 k, List.getElem?_eq_getElem (by omega)⟩
  · obtain ⟨T, x, e1, e2, e3, h1⟩ := y
    obtain ⟨dx, g1, rx⟩ := seq_keep ok k r (h1 vs (q φ1 H1 k))
    obtain ⟨f, s', r'⟩ := yield_pair ok s e1 e2 e3 (rep_int (i := (i : Nat))) rx
    refine ⟨f, s', _, enumFrom_get g1, ?_⟩
    rw [Nat.zero_add]
    exact r'
end
section
variable {X : Cx} {C : Cn} {W : WX} {call : D → List D → Sto → Res D} {gl : List D} (ok : CnOk C) (hK : C.K = X.K) {a : Expr} {pos p : Pos}
include ok hK
theorem it_enum {l : List E} {elts : List Expr} {kk : Nat} {tpos : Pos} (hg : Gl X "enumerate") (hm : X.mg "enumerate" = none) (h : DL X C W call gl l [a]) : PIx X C W call gl (.Tuple elts kk tpos) (.Call (.Name "enumerate" p) [a] [] pos) .enum l := by
  have ha := h.all
  rw [List.all_cons, Bool.and_eq_true] at ha
  refine ⟨fun pins s σ H R I hq => ?_⟩
  obtain ⟨φ, S, ρ, s0, e0, t⟩ := hq
  have q := (TR.seq (R := RepL C) (f := evL call gl l) ok s0 e0 t)
  refine Call_ (ld_blt I hg hm boot_enumerate (PyProof.Rows.callWith_type1 (thn ((DL.pa ok h).run pos pins s σ H _ I q) fun us s1 ⟨vs, H1, I1, r1, φ1, S1, ds, _, s1', e1, rr, t1⟩ => ?_) (star_cons ha.1 [] X.env) rfl))
  obtain ⟨xs, hx, qJ⟩ := TR.it s1' t1
  have sub : ∀ {h' : Heap}, (∀ b u, s1.heap.get? b = some u → h'.get? b = some u) → L2.Inv X pins σ H1 { s1 with heap := h' } := fun hk => I1.kept (t' := s1.toks) hk
  have fp : ∀ b ∈ [s1.heap.objs.size + 1, s1.heap.objs.size], FpOk X pins H1 b := fun b hb => by
    have hle : s1.heap.objs.size ≤ b := by
      rcases List.mem_cons.mp hb with rfl | hb
      · exact Nat.le_add_right _ _
      · rw [List.mem_singleton.mp hb]; exact Nat.le_refl _
    exact I1.fpOk hle (I1.hok.fresh hle)
  unfold items at hx
  split at hx <;> (rename_i hk; try cases hk) <;> (try cases hx)
  · obtain ⟨v, rfl, r⟩ := rep1' rr
    simp only [Rep] at r
    obtain ⟨A, ws, rfl, n, e, rl⟩ := r
    cases r1 with
    | cons ru rz =>
      cases rz
      cases ru
      obtain ⟨its, rv, p', hz⟩ := I1.list (SqL.of e)
      refine enum_call (begins_list A its.toArray) p'.isList fun h' he hit hk => wpAny_pyIter_enum he ?_
      exact ⟨s1.heap.objs.size + 1, [s1.heap.objs.size + 1, s1.heap.objs.size], _, _, H1, rfl, sub hk, turn_enum A (s1.heap.objs.size + 1) s1.heap.objs.size, ⟨⟨.none, he⟩, ⟨_, hit, rfl, rfl⟩, Nat.succ_ne_self _⟩, fp, qJ _ (it_enumL ok n e rl)⟩
  · obtain ⟨v, rfl, r⟩ := rep1' rr
    simp only [Rep] at r
    obtain ⟨A, ws, rfl, n, rl⟩ := r
    have hq : SqT X.K H1 A ws := by
      rcases n with ⟨_, z⟩ | z
      · exact .inl z
      · exact .inr (hK ▸ z)
    cases r1 with
    | cons ru rz =>
      cases rz
      cases ru
      obtain ⟨its, rv, p', hz⟩ := I1.tuple hq
      have p2 : s1.heap.IsTuple A its.toArray := p'
      have alt : A < s1.heap.objs.size := by
        obtain ⟨o, ho, _⟩ := p2
        exact Heap.lt_size ho
      refine enum_call (begins_tuple A its.toArray) p2 fun h' he hit hk => wpAny_pyIter_enum he ?_
      exact ⟨s1.heap.objs.size + 1, [s1.heap.objs.size + 1, s1.heap.objs.size], _, _, H1, rfl, sub hk, turn_enumT A (s1.heap.objs.size + 1) s1.heap.objs.size, ⟨⟨.none, he⟩, ⟨_, hit, rfl, rfl⟩, Nat.succ_ne_self _, Nat.ne_of_lt (Nat.lt_succ_of_lt alt), Nat.ne_of_lt alt⟩, fp, qJ _ (it_enumT ok hK n rl)⟩
end
end SF

set_option maxHeartbeats 200000
set_option Elab.async false
set_option linter.all false
set_option maxRecDepth 100000
/-! What is stored to; comprehensions. -/
namespace SF
open PySem PySem.Spec PyProof.Rows L2 RZ

/-! ### targets -/
/-- only slots of l changed -/
structure Off (l : List Nat) (σ σ' : L2.St) : Prop where
  len : σ'.length = σ.length
  get : ∀ i, i ∉ l → σ'[i]? = σ[i]?
theorem Off.refl {l : List Nat} {σ : L2.St} : Off l σ σ := ⟨rfl, fun _ _ => rfl⟩
theorem Off.trans {l m : List Nat} {a b c : L2.St} (h : Off l a b) (g : Off m b c) : Off (l ++ m) a c :=
  ⟨g.len.trans h.len, fun i hi => by
    rw [List.mem_append, not_or] at hi
    exact (g.get i hi.2).trans (h.get i hi.1)⟩
theorem Off.sub {l m : List Nat} {a b : L2.St} (h : Off l a b) (k : ∀ i ∈ l, i ∈ m) : Off m a b := ⟨h.len, fun i hi => h.get i fun z => hi (k i z)⟩
mutual
def tvs : Tg → List Nat
  | .v i => [i]
  | .t l => tvsL l
  | .u l => tvsL l
def tvsL : List Tg → List Nat
  | [] => []
  | t :: l => tvs t ++ tvsL l
end
theorem wipe_in {σ : L2.St} {i : Nat} : ∀ {vs : List Nat}, i ∈ vs → i < σ.length → (L2.wipe σ vs)[i]? = some none
  | v :: vs, h, hi => by
    unfold L2.wipe
    by_cases e : v = i
    · subst e
      rw [List.getElem?_set_self (by rw [L2.wipe_length]; exact hi)]
    · rw [List.getElem?_set_ne e]
      rcases List.mem_cons.mp h with z | z
      · exact absurd z.symm e
      · exact wipe_in z hi
theorem wipe_off {σ : L2.St} {i : Nat} : ∀ {vs : List Nat}, i ∉ vs → (L2.wipe σ vs)[i]? = σ[i]?
  | [], _ => rfl
  | v :: vs, h => by
    unfold L2.wipe
    rw [List.mem_cons, not_or] at h
    rw [List.getElem?_set_ne (Ne.symm h.1)]
    exact wipe_off h.2
theorem Off.wipe {l vs : List Nat} {σ σ2 : L2.St} (h : Off l (L2.wipe σ vs) σ2) (k : ∀ i ∈ l, i ∈ vs) : L2.wipe σ2 vs = L2.wipe σ vs := by
  have hl : σ2.length = σ.length := h.len.trans (L2.wipe_length σ vs)
  apply List.ext_getElem?
  intro i
  by_cases hi : i ∈ vs
  · by_cases hb : i < σ.length
    · rw [wipe_in hi (by rw [hl]; exact hb), wipe_in hi hb]
    · rw [List.getElem?_eq_none (by rw [L2.wipe_length]; omega), List.getElem?_eq_none (by rw [L2.wipe_length]; omega)]
  · rw [wipe_off hi, h.get i fun z => hi (k i z)]
theorem wipeE_len (ρ : Env) : ∀ vs : List Nat, (wipe ρ vs).length = ρ.length
  | [] => rfl
  | v :: vs => by
    unfold wipe
    rw [List.length_set, wipeE_len ρ vs]
theorem wipeE_some {ρ : Env} {i : Nat} {x : D} : ∀ {vs : List Nat}, (wipe ρ vs)[i]? = some (some x) → ρ[i]? = some (some x) ∧ i ∉ vs
  | [], h => ⟨h, by simp⟩
  | v :: vs, h => by
    unfold wipe at h
    by_cases e : v = i
    · subst e
      by_cases hv : v < (wipe ρ vs).length
      · rw [List.getElem?_set_self hv] at h; cases h
      · rw [List.getElem?_eq_none (by simpa using hv)] at h; cases h
    · rw [List.getElem?_set_ne e] at h
      obtain ⟨h1, h2⟩ := wipeE_some h
      exact ⟨h1, by rw [List.mem_cons, not_or]; exact ⟨fun z => e z.symm, h2⟩⟩
theorem ER.wipe {C : Cn} {φ : Lay} {H : Hp} {ρ : Env} {σ : L2.St} (e : ER C φ H ρ σ) (vs : List Nat) : ER C φ H (wipe ρ vs) (L2.wipe σ vs) := by
  refine ⟨by rw [wipeE_len, L2.wipe_length]; exact e.len, fun i d h => ?_⟩
  obtain ⟨h1, h2⟩ := wipeE_some h
  obtain ⟨v, h3, h4⟩ := e.get i d h1
  exact ⟨v, by rw [wipe_off h2]; exact h3, h4⟩
theorem ER.kp {C : Cn} (ok : CnOk C) {φ φ' : Lay} {H H' : Hp} {ρ : Env} {σ : L2.St} (f : Kp φ H φ' H') (e : ER C φ H ρ σ) : ER C φ' H' ρ σ :=
  ⟨e.len, fun i d h => let ⟨v, h1, h2⟩ := e.get i d h; ⟨v, h1, Rep.kp ok f d v h2⟩⟩
theorem ER.set {C : Cn} {φ : Lay} {H : Hp} {ρ : Env} {σ : L2.St} (e : ER C φ H ρ σ) {i : Nat} {v : V} {d : D} (r : Rep C φ H v d) : ER C φ H (ρ.set i (some d)) (σ.set i (some v)) := by
  refine ⟨by simp [e.len], fun j x h => ?_⟩
  by_cases hj : i = j
  · subst hj
    by_cases hi : i < ρ.length
    · rw [List.getElem?_set_self hi] at h
      cases h
      exact ⟨v, by rw [List.getElem?_set_self (by rw [← e.len]; exact hi)], r⟩
    · rw [List.getElem?_eq_none (by simpa using hi)] at h
      cases h
  · rw [List.getElem?_set_ne hj] at h ⊢
    exact e.get j x h
def gOf (C : Cn) (t : Tg) : TG := fun v σ H Q => ∃ φ ρ d ρ', ER C φ H ρ σ ∧ Rep C φ H v d ∧ bindT t d ρ = some ρ' ∧ ∀ σ', ER C φ H ρ' σ' → Off (tvs t) σ σ' → Q σ' H
def gsOf (C : Cn) (ts : List Tg) : TGs := fun vs σ H Q => ∃ φ ρ ds ρ', ER C φ H ρ σ ∧ RepL C φ H vs ds ∧ bindL ts ds ρ = some ρ' ∧ ∀ σ', ER C φ H ρ' σ' → Off (tvsL ts) σ σ' → Q σ' H
section
variable {X : Cx} {C : Cn} (hK : C.K = X.K) {pos : Pos}
theorem pg_imp {e : Expr} {t t' : TG} (h : PG X e t) (k : ∀ v σ H Q, t' v σ H Q → t v σ H Q) : PG X e t' := ⟨fun pins s σ H v u Q I r q => h.run pins s σ H v u Q I r (k v σ H Q q)⟩
theorem pgs_imp {e : List Expr} {t t' : TGs} (h : PGs X e t) (k : ∀ v σ H Q, t' v σ H Q → t v σ H Q) : PGs X e t' := ⟨fun pins s σ H v u Q I r q => h.run pins s σ H v u Q I r (k v σ H Q q)⟩
theorem t_name {i : Nat} {x : Str} (hN : X.N.Nodup) (hi : X.N[i]? = some x) (hx : Loc X.env.scope x) (hf : X.fn x = true ∨ X.env.scope.names.lookup x = some .local) : PG X (.Name x pos) (gOf C (.v i)) :=
  pg_imp (pg_name hN hi hx hf) fun v σ H Q ⟨φ, ρ, d, ρ', e, r, hb, q⟩ => by
    simp only [bindT] at hb
    split at hb
    · cases hb
      exact q _ (e.set r) ⟨by simp, fun j hj => by
        simp only [tvs, List.mem_singleton] at hj
        rw [List.getElem?_set_ne (Ne.symm hj)]⟩
    · cases hb
theorem ts_nil : PGs X [] (gsOf C []) := pgs_imp pgs_nil fun v σ H Q ⟨φ, ρ, ds, ρ', e, r, hb, q⟩ => by
  cases ds with
  | nil =>
    cases v with
    | nil =>
      simp only [bindL] at hb
      cases hb
      exact ⟨rfl, q σ e Off.refl⟩
    | cons _ _ => simp only [RepL] at r
  | cons _ _ =>
    simp only [bindL] at hb
    cases hb
theorem ts_cons {e : Expr} {es : List Expr} {t : Tg} {ts : List Tg} (h : PG X e (gOf C t)) (hs : PGs X es (gsOf C ts)) (ha : (assignEach (e :: es) X.env).map (·.2) = assign e X.env :: (assignEach es X.env).map (·.2)) : PGs X (e :: es) (gsOf C (t :: ts)) :=
  pgs_imp (pgs_cons h hs ha) fun vs σ H Q ⟨φ, ρ, ds, ρ', e, r, hb, q⟩ => by
    cases ds with
    | nil =>
      simp only [bindL] at hb
      cases hb
    | cons d ds =>
      cases vs with
      | nil => simp only [RepL] at r
      | cons v vs =>
        simp only [RepL] at r
        simp only [bindL] at hb
        split at hb
        · rename_i ρ1 h1
          refine ⟨v, vs, rfl, φ, ρ, d, ρ1, e, r.1, h1, fun σ1 e1 o1 => ⟨φ, ρ1, ds, ρ', e1, r.2, hb, fun σ2 e2 o2 => q σ2 e2 ?_⟩⟩
          simp only [tvsL]
          exact o1.trans o2
        · cases hb
include hK in
theorem t_tup {es : List Expr} {k : Nat} {ts : List Tg} (hc : X.calm = true) (h : PGs X es (gsOf C ts)) (hl : es.length = ts.length) (hn : (assignEach es X.env).length = es.length) (hst : (assignEach es X.env).findIdx? (·.1) = none) : PG X (.Tuple es k pos) (gOf C (.t ts)) :=
  pg_imp (pg_tup hc h (n := es.length) hn hst) fun v σ H Q ⟨φ, ρ, d, ρ', e, r, hb, q⟩ => by
    cases d with
    | tup l =>
      simp only [bindT] at hb
      obtain ⟨a, vs, rfl, hq, rl⟩ := by simpa only [Rep] using r
      refine ⟨a, vs, rfl, ?_, ?_, φ, ρ, l, ρ', e, rl, hb, fun σ' e' o => q σ' e' (by simp only [tvs]; exact o)⟩
      · rcases hq with ⟨_, z⟩ | z
        · exact .inl z
        · exact .inr (hK ▸ z)
      · rw [rl.length, hl]
        have key : ∀ (ts : List Tg) (l : List D) (ρ ρ' : Env), bindL ts l ρ = some ρ' → l.length = ts.length := fun ts => by
          induction ts with
          | nil =>
            intro l ρ ρ' h
            cases l with
            | nil => rfl
            | cons _ _ => simp only [bindL] at h; cases h
          | cons t ts ih =>
            intro l ρ ρ' h
            cases l with
            | nil => simp only [bindL] at h; cases h
            | cons d l =>
              simp only [bindL] at h
              split at h
              · rw [List.length_cons, List.length_cons, ih _ _ _ h]
              · cases h
        exact key _ _ _ _ hb
    | _ =>
      simp only [bindT] at hb
      cases hb
theorem bindL_len : ∀ (ts : List Tg) (l : List D) (ρ ρ' : Env), bindL ts l ρ = some ρ' → l.length = ts.length := fun ts => by
  induction ts with
  | nil =>
    intro l ρ ρ' h
    cases l with
    | nil => rfl
    | cons _ _ => simp only [bindL] at h; cases h
  | cons t ts ih =>
    intro l ρ ρ' h
    cases l with
    | nil => simp only [bindL] at h; cases h
    | cons d l =>
      simp only [bindL] at h
      split at h
      · rw [List.length_cons, List.length_cons, ih _ _ _ h]
      · cases h
theorem t_unl {es : List Expr} {k : Nat} {ts : List Tg} (hc : X.calm = true) (h : PGs X es (gsOf C ts)) (hl : es.length = ts.length) (hn : (assignEach es X.env).length = es.length) (hst : (assignEach es X.env).findIdx? (·.1) = none) : PG X (.Tuple es k pos) (gOf C (.u ts)) :=
  pg_imp (pg_unl hc h (n := es.length) hn hst) fun v σ H Q ⟨φ, ρ, d, ρ', e, r, hb, q⟩ => by
    cases d with
    | lst l =>
      simp only [bindT] at hb
      obtain ⟨a, vs, rfl, hq, z, rl⟩ := by simpa only [Rep] using r
      exact ⟨a, vs, rfl, SqL.of z, by rw [rl.length, hl]; exact bindL_len _ _ _ _ hb, φ, ρ, l, ρ', e, rl, hb, fun σ' e' o => q σ' e' (by simp only [tvs]; exact o)⟩
    | _ =>
      simp only [bindT] at hb
      cases hb
end

/-! ### a list that is being made -/
section
variable {C : Cn} (ok : CnOk C) {φ φ' φ1 : Lay} {S : Sto} {H H1 H' : Hp} {P : Addr}
/-- the list's place is hidden -/
theorem kp_hide {o : HO} (hp : H P = none) : Kp φ H (φ.hide P) (upd H P o) where
  pre := ⟨[], by simp [Lay.hide]⟩
  keep := fun b o n e _ => by
    have hb : b ≠ P := ne_of_none e hp
    refine ⟨⟨n.1, fun m => ?_⟩, by rw [upd_ne hb]; exact e⟩
    rcases List.mem_cons.mp m with z | z
    · exact hb z
    · exact n.2 z
theorem ObR.kp (ok : CnOk C) {o : Ob} {a : Addr} (k : Kp φ H φ' H') (ha : ∀ u, H a = some u → H' a = some u) (h : ObR C φ H a o) : ObR C φ' H' a o := by
  cases o with
  | lst l =>
    obtain ⟨vs, e, r⟩ := h
    exact ⟨vs, ha _ e, RepL.kp ok k l vs r⟩
  | ins c fs => exact h
include ok in
theorem SR.hide (s : SR C φ S H) {vs : List V} (hp : H P = none) : SR C (φ.hide P) S (upd H P (.lst vs)) where
  len := s.len
  nd := s.nd
  obj := fun i ob a h1 h2 => (s.obj i ob a h1 h2).kp ok (kp_hide hp) fun u e => by rw [upd_ne (ne_of_none e hp)]; exact e
  tab := ok.tab H _ s.tab fun b o e _ _ _ => by rw [upd_ne (ne_of_none e hp)]; exact e
  hid := fun b hb => by
    rcases List.mem_cons.mp hb with z | z
    · exact ⟨vs, by rw [z, upd_same]⟩
    · obtain ⟨ws, q⟩ := s.hid b z
      exact ⟨ws, by rw [upd_ne (ne_of_none q hp)]; exact q⟩
/-- and written to -/
theorem kp_mask {o : HO} (hm : P ∈ φ.msk) : Kp φ H φ (upd H P o) where
  pre := ⟨[], by simp⟩
  keep := fun b o n e _ => ⟨n, by rw [upd_ne (fun z => n.2 (by rw [z]; exact hm))]; exact e⟩
include ok in
theorem SR.mask (s : SR C φ S H) {vs us : List V} (hm : P ∈ φ.msk) (hr : P ∉ φ.refs) (hp : H P = some (.lst us)) : SR C φ S (upd H P (.lst vs)) where
  len := s.len
  nd := s.nd
  obj := fun i ob a h1 h2 => (s.obj i ob a h1 h2).kp ok (kp_mask hm) fun u e => by
    rw [upd_ne]
    · exact e
    · rintro rfl
      exact hr (List.mem_of_getElem? h2)
  tab := ok.tab H _ s.tab fun b o e h1 _ _ => by
    rw [upd_ne]
    · exact e
    · rintro rfl
      rw [hp] at e
      cases e
      exact h1 _ rfl
  hid := fun b hb => by
    by_cases e : b = P
    · exact ⟨vs, by rw [e, upd_same]⟩
    · obtain ⟨ws, q⟩ := s.hid b hb
      exact ⟨ws, by rw [upd_ne e]; exact q⟩
/-- .. and shown again -/
def Lay.show (φ : Lay) (m : List Addr) : Lay := ⟨φ.refs, m⟩
theorem kp_show {m : List Addr} (hm : ∀ b ∈ m, b ∈ φ.msk) : Kp φ H (φ.show m) H where
  pre := ⟨[], by simp [Lay.show]⟩
  keep := fun b o n e _ => ⟨⟨n.1, fun q => n.2 (hm b q)⟩, e⟩
include ok in
theorem SR.show {m : List Addr} (s : SR C φ S H) (hm : ∀ b ∈ m, b ∈ φ.msk) : SR C (φ.show m) S H where
  len := s.len
  nd := s.nd
  obj := fun i ob a h1 h2 => (s.obj i ob a h1 h2).kp ok (kp_show hm) fun u e => e
  tab := s.tab
  hid := fun b hb => s.hid b (hm b hb)
/-- while the list at P is made: the state behind is a frame of the state ahead, but for P -/
structure Mk (C : Cn) (P : Addr) (φ1 : Lay) (H1 : Hp) (φ : Lay) (S : Sto) (H : Hp) (rs : List D) : Prop where
  fr : Fr φ1 H1 (φ.show φ1.msk) H
  sr : SR C φ S H
  msk : φ.msk = P :: φ1.msk
  nin : P ∉ φ.refs
  acc : ∃ vs, H P = some (.lst vs) ∧ RepL C φ H vs rs
variable {rs : List D}
include ok in
theorem Mk.start (s : SR C φ1 S H1) (hp : H1 P = none) : Mk C P φ1 H1 (φ1.hide P) S (upd H1 P (.lst [])) [] where
  fr := (fr_new hp : Fr φ1 H1 φ1 _)
  sr := s.hide ok hp
  msk := rfl
  nin := fun z => (s.free hp).1 z
  acc := ⟨[], upd_same, by simp only [RepL]⟩
theorem Mk.kp (m : Mk C P φ1 H1 φ S H rs) (hp : H1 P = none) : Kp φ1 H1 φ H where
  pre := m.fr.pre
  keep := fun b o n e t => by
    refine ⟨⟨fun z => ?_, fun z => ?_⟩, m.fr.keep b o n.1 e t⟩
    · rcases m.fr.new b z with q | q
      · exact n.1 q
      · rw [e] at q; cases q
    · rw [m.msk] at z
      rcases List.mem_cons.mp z with q | q
      · rw [q, hp] at e; cases e
      · exact n.2 q
theorem Mk.hidden (m : Mk C P φ1 H1 φ S H rs) : P ∈ φ.msk := by rw [m.msk]; exact List.mem_cons_self
include ok in
theorem Mk.step {S' : Sto} (m : Mk C P φ1 H1 φ S H rs) (f : Fr φ H φ' H') (s : SR C φ' S' H') : Mk C P φ1 H1 φ' S' H' rs where
  fr := by
    have g : Fr (φ.show φ1.msk) H (φ'.show φ1.msk) H' := ⟨f.pre, rfl, f.keep, f.new, f.back⟩
    exact m.fr.trans g
  sr := s
  msk := f.msk.trans m.msk
  nin := fun z => by
    rcases f.new P z with q | q
    · exact m.nin q
    · obtain ⟨vs, e, _⟩ := m.acc
      rw [e] at q; cases q
  acc := by
    obtain ⟨vs, e, r⟩ := m.acc
    exact ⟨vs, f.keep P _ m.nin e (fun _ z => by cases z), RepL.mono ok f rs vs r⟩
include ok in
theorem Mk.add {vs : List V} {v : V} {d : D} (m : Mk C P φ1 H1 φ S H rs) (hp : H1 P = none) (e : H P = some (.lst vs)) (r : Rep C φ H v d) : Mk C P φ1 H1 φ S (upd H P (.lst (vs ++ [v]))) (rs ++ [d]) where
  fr := by
    refine ⟨m.fr.pre, m.fr.msk, fun b o n e t => ?_, m.fr.new, fun b q => ?_⟩
    · rw [upd_ne (ne_of_none e hp)]
      exact m.fr.keep b o n e t
    · by_cases hb : b = P
      · rw [hb]; exact hp
      · rw [upd_ne hb] at q
        exact m.fr.back b q
  sr := m.sr.mask ok m.hidden m.nin e
  msk := m.msk
  nin := m.nin
  acc := by
    obtain ⟨us, e', r'⟩ := m.acc
    rw [e] at e'
    cases e'
    refine ⟨_, upd_same, ?_⟩
    have k : Kp φ H φ (upd H P (.lst (vs ++ [v]))) := kp_mask m.hidden
    exact RepL.append (RepL.kp ok k rs vs r') (by simp only [RepL]; exact ⟨Rep.kp ok k d v r, True.intro⟩)
include ok in
theorem Mk.fin (m : Mk C P φ1 H1 φ S H rs) (s1 : SR C φ1 S' H1) (hp : H1 P = none) : SR C (φ.show φ1.msk) S H ∧ Rep C (φ.show φ1.msk) H (.ref P) (.lst rs) := by
  have hm : ∀ b ∈ φ1.msk, b ∈ φ.msk := fun b hb => by rw [m.msk]; exact List.mem_cons_of_mem _ hb
  refine ⟨m.sr.show ok hm, ?_⟩
  obtain ⟨vs, e, r⟩ := m.acc
  simp only [Rep]
  exact ⟨P, vs, rfl, ⟨m.nin, fun z => by
    obtain ⟨us, q⟩ := s1.hid P z
    rw [hp] at q
    cases q⟩, e, RepL.kp ok (kp_show hm) rs vs r⟩
end

/-! ### comprehensions -/
abbrev W0 : WX := fun _ _ _ _ => False
def turnF (call : D → List D → Sto → Res D) (gl : List D) (ow : List Nat) (t : Tg) (cond : List E) (el : E) (ρ : Env) (x : D) (S : Sto) : Res (Option D) := match bindT t x (wipe ρ ow) with
  | none => .stuck
  | some ρ1 => (evC call gl cond ρ1 S).calm.bind fun b S1 => if b then (ev call gl el ρ1 S1).calm.bind fun d S2 => .ok (some d) S2 else .ok none S1
theorem calm_ok {α : Type} {r : Res α} {a : α} {S : Sto} (h : r.calm = .ok a S) : r = .ok a S := by
  cases r with
  | ok b T => exact h
  | exc c T => cases h
  | stuck => cases h
theorem calm_noexc {α : Type} {r : Res α} {c : Nat} {S : Sto} : r.calm ≠ .exc c S := by
  cases r <;> (intro h; cases h)
theorem turnF_noexc {call : D → List D → Sto → Res D} {gl : List D} {ow : List Nat} {t : Tg} {cond : List E} {el : E} {ρ : Env} {x : D} {S S' : Sto} {c : Nat} : turnF call gl ow t cond el ρ x S ≠ .exc c S' := by
  unfold turnF
  cases bindT t x (wipe ρ ow) with
  | none => exact fun h => nomatch h
  | some ρ1 =>
    simp only
    cases h1 : (evC call gl cond ρ1 S).calm with
    | stuck => exact fun h => nomatch h
    | exc _ _ => exact absurd h1 calm_noexc
    | ok b S1 =>
      simp only [Res.bind]
      cases b with
      | false => exact fun h => nomatch h
      | true =>
        simp only [if_true]
        cases h2 : (ev call gl el ρ1 S1).calm with
        | stuck => exact fun h => nomatch h
        | exc _ _ => exact absurd h2 calm_noexc
        | ok d S2 => exact fun h => nomatch h
theorem lcLoop_noexc {turn : D → Sto → Res (Option D)} (h : ∀ x S c S', turn x S ≠ .exc c S') : ∀ (xs : List D) (S : Sto) (c : Nat) (S' : Sto), lcLoop turn xs S ≠ .exc c S'
  | [], _, _, _ => fun z => nomatch z
  | x :: xs, S, c, S' => by
    unfold lcLoop
    cases h1 : turn x S with
    | stuck => exact fun z => nomatch z
    | exc _ _ => exact absurd h1 (h _ _ _ _)
    | ok o S1 =>
      simp only [Res.bind]
      cases h2 : lcLoop turn xs S1 with
      | stuck => exact fun z => nomatch z
      | exc _ _ => exact absurd h2 (lcLoop_noexc h _ _ _ _)
      | ok r S2 => exact fun z => nomatch z
section
variable {X : Cx} {C : Cn} {W : WX} {call : D → List D → Sto → Res D} {gl : List D} (ok : CnOk C)
include ok
theorem lc_rd {k : ItK} {its cond : List E} {t : Tg} {el : E} {ow : List Nat} (htv : ∀ i ∈ tvs t, i ∈ ow) {σ : L2.St} {H : Hp} {Q : VK} (h : tOf C W (ev call gl (.lc ow k its t cond el)) σ H Q) :
    tLc (tG C W (ItOk C) (evIt call gl k its)) (gOf C t) (tOfT C W0 (evC call gl cond)) (tOf C W0 (ev call gl el)) ow σ H Q := by
  obtain ⟨φ, S, ρ, s, e, t0⟩ := h
  have t1 : TR C W (Rep C) φ H σ ((evIt call gl k its ρ S).bind fun xs S1 => (lcLoop (turnF call gl ow t cond el ρ) xs S1).bind fun r S2 => if line r.length then .ok (.lst r) S2 else .stuck) Q := by
    simp only [ev] at t0
    unfold evIt
    cases h0 : evL call gl its ρ S with
    | stuck => rw [h0] at t0; exact t0
    | exc c S1 => rw [h0] at t0; exact t0
    | ok ds S1 =>
      rw [h0] at t0
      simp only [Res.bind] at t0 ⊢
      cases h1 : items k ds with
      | none => rw [h1] at t0; exact t0
      | some xs => rw [h1] at t0; exact t0
  refine (TR.seq (R := ItOk C) (f := evIt call gl k its) ok s e t1).imp fun J H1 ⟨φ1, S1, xs, _, s1, e1, hJ, t2⟩ => ?_
  intro P hP
  cases hL : lcLoop (turnF call gl ow t cond el ρ) xs S1 with
  | stuck => rw [hL] at t2; exact t2.elim
  | exc c S2 => exact absurd hL (lcLoop_noexc (fun _ _ _ _ => turnF_noexc) _ _ _ _)
  | ok R S9 =>
    rw [hL] at t2
    simp only [Res.bind] at t2
    split at t2
    case isFalse => exact t2.elim
    rename_i hln
    have hR : R.length ≤ sizeLine := line_of hln
    refine ⟨fun i m H => m = xs.length - i ∧ i ≤ xs.length ∧ ∃ φ S rs rest, Mk C P φ1 H1 φ S H rs ∧ lcLoop (turnF call gl ow t cond el ρ) (xs.drop i) S = .ok rest S9 ∧ rs ++ rest = R,
      ⟨xs.length, rfl, Nat.zero_le _, φ1.hide P, S1, [], R, Mk.start ok s1 hP, hL, rfl⟩, ?_⟩
    rintro i m H2 ⟨rfl, hi, φ2, S2, rs, rest, mk, hl, hr⟩
    by_cases hlt : i < xs.length
    · rw [List.drop_eq_getElem_cons hlt] at hl
      unfold lcLoop at hl
      cases hT : turnF call gl ow t cond el ρ xs[i] S2 with
      | stuck => rw [hT] at hl; cases hl
      | exc c S3 => exact absurd hT turnF_noexc
      | ok o S3 =>
        rw [hT] at hl
        simp only [Res.bind] at hl
        cases hl2 : lcLoop (turnF call gl ow t cond el ρ) (xs.drop (i + 1)) S3 with
        | stuck => rw [hl2] at hl; cases hl
        | exc c S4 => rw [hl2] at hl; cases hl
        | ok rest' S4 =>
          rw [hl2] at hl
          cases hl
          refine .inr ⟨hJ.goes i φ2 H2 (mk.kp hP) hlt, fun H => i + 1 ≤ xs.length ∧ ∃ φ S rs rest, Mk C P φ1 H1 φ S H rs ∧ lcLoop (turnF call gl ow t cond el ρ) (xs.drop (i + 1)) S = .ok rest S9 ∧ rs ++ rest = R,
            fun H' p' => ⟨xs.length - (i + 1), by omega, rfl, p'⟩, fun v H3 y => ?_⟩
          obtain ⟨f3, s3, d, hd, rd⟩ := hJ.yields i φ2 S2 H2 v H3 (mk.kp hP) mk.sr hlt y
          rw [List.getElem?_eq_getElem hlt] at hd
          cases hd
          have mk3 := mk.step ok f3 s3
          unfold turnF at hT
          cases hb : bindT t xs[i] (wipe ρ ow) with
          | none => rw [hb] at hT; cases hT
          | some ρ1 =>
            rw [hb] at hT
            simp only at hT
            refine ⟨φ2, wipe ρ ow, xs[i], ρ1, ER.wipe (ER.kp ok (mk3.kp hP) e1) ow, rd, hb, fun σ2 e2 o2 => ⟨o2.wipe htv, ?_⟩⟩
            cases hC : (evC call gl cond ρ1 S2).calm with
            | stuck => rw [hC] at hT; cases hT
            | exc _ _ => exact absurd hC calm_noexc
            | ok b S4 =>
              rw [hC] at hT
              simp only [Res.bind] at hT
              refine ⟨φ2, S2, ρ1, s3, e2, ?_⟩
              rw [calm_ok hC]
              intro φ4 H4 b' f4 s4 eb
              subst eb
              have mk4 := mk3.step ok f4 s4
              cases b' with
              | false =>
                rw [if_neg Bool.false_ne_true]
                rw [if_neg Bool.false_ne_true] at hT
                cases hT
                exact ⟨hlt, φ4, _, rs, rest', mk4, hl2, hr⟩
              | true =>
                rw [if_pos rfl]
                rw [if_pos rfl] at hT
                cases hE : (ev call gl el ρ1 S4).calm with
                | stuck => rw [hE] at hT; cases hT
                | exc _ _ => exact absurd hE calm_noexc
                | ok d5 S5 =>
                  rw [hE] at hT
                  cases hT
                  refine ⟨φ4, S4, ρ1, s4, e2.mono ok f4, ?_⟩
                  rw [calm_ok hE]
                  intro φ5 H5 w f5 s5 r5
                  have mk5 := mk4.step ok f5 s5
                  obtain ⟨vs, ev, rv⟩ := mk5.acc
                  refine ⟨vs, ev, ?_, hlt, φ5, _, rs ++ [d5], rest', mk5.add ok hP ev r5, hl2, ?_⟩
                  · rw [rv.length]
                    rw [← hr] at hR
                    simp only [List.length_append, Option.toList_some, List.length_cons] at hR
                    omega
                  · rw [List.append_assoc]
                    exact hr
    · have ei : i = xs.length := by omega
      subst ei
      rw [List.drop_length] at hl
      cases hl
      rw [List.append_nil] at hr
      subst hr
      refine .inl ⟨hJ.stops φ2 H2 (mk.kp hP), ?_⟩
      obtain ⟨q1, q2⟩ := mk.fin ok s1 hP
      exact t2 _ H2 _ mk.fr q1 q2
end
end SF

set_option maxHeartbeats 200000
set_option Elab.async false
set_option linter.all false
set_option maxRecDepth 100000
/-! Statements. -/
namespace SF
open PySem PySem.Spec PyProof.Rows L2 RZ

def TO (C : Cn) (W : WX) (N : Ends) (φ : Lay) (H : Hp) : Out → Prop
  | .nx ρ S => ∀ φ' H' σ', Fr φ H φ' H' → SR C φ' S H' → ER C φ' H' ρ σ' → N.nx σ' H'
  | .rt d S => ∀ φ' H' v, Fr φ H φ' H' → SR C φ' S H' → Rep C φ' H' v d → N.rt v H'
  | .exc c _ S => ∀ φ' H' σ' (da : Dk c), Fr φ H φ' H' → SR C φ' S H' → W (.ref (C.clA c)) da.1 σ' H'
  | .stuck => False
def sOf (C : Cn) (W : WX) (f : Env → Sto → Out) : TS := fun N σ H => ∃ φ S ρ, SR C φ S H ∧ ER C φ H ρ σ ∧ TO C W N φ H (f ρ S)
section
variable {X : Cx} {C : Cn} {W : WX} {call : D → List D → Sto → Res D} {gl : List D} (ok : CnOk C) {pos : Pos} {st : Stmt} {a b e : Expr} {x y z : E}
abbrev PSe (X : Cx) (C : Cn) (W : WX) (call : D → List D → Sto → Res D) (gl : List D) (st : Stmt) (s : Sm) : Prop := PS X st (sOf C W (ex call gl s))
abbrev PSse (X : Cx) (C : Cn) (W : WX) (call : D → List D → Sto → Res D) (gl : List D) (st : List Stmt) (s : List Sm) : Prop := PSs X st (sOf C W (exL call gl s))
theorem ps_imp {t t' : TS} (h : PS X st t) (k : ∀ N σ H, t' N σ H → t N σ H) : PS X st t' := ⟨fun pins s σ H N I q => h.run pins s σ H N I (k N σ H q)⟩
theorem pss_imp {sts : List Stmt} {t t' : TS} (h : PSs X sts t) (k : ∀ N σ H, t' N σ H → t N σ H) : PSs X sts t' := ⟨fun pins s σ H N I q => h.run pins s σ H N I (k N σ H q)⟩
theorem TO.fr {N : Ends} {φ φ1 : Lay} {H H1 : Hp} {o : Out} (f : Fr φ H φ1 H1) (h : TO C W N φ H o) : TO C W N φ1 H1 o := by
  cases o with
  | nx ρ S => exact fun φ2 H2 σ2 g s e => h φ2 H2 σ2 (f.trans g) s e
  | rt d S => exact fun φ2 H2 v g s r => h φ2 H2 v (f.trans g) s r
  | exc c ρ S => exact fun φ2 H2 σ2 da g s => h φ2 H2 σ2 da (f.trans g) s
  | stuck => exact h
theorem TO.ends {N N' : Ends} {φ : Lay} {H : Hp} {o : Out} (h : TO C W N φ H o) (h1 : ∀ σ H, N.nx σ H → N'.nx σ H) (h2 : ∀ v H, N.rt v H → N'.rt v H) : TO C W N' φ H o := by
  cases o with
  | nx ρ S => exact fun φ2 H2 σ2 g s e => h1 _ _ (h φ2 H2 σ2 g s e)
  | rt d S => exact fun φ2 H2 v g s r => h2 _ _ (h φ2 H2 v g s r)
  | exc c ρ S => exact h
  | stuck => exact h
include ok in
/-- an expression, then the rest -/
theorem lift_rd {α β : Type} {R : Rl α β} {f : Env → Sto → Res α} {g : Env → α → Sto → Out} {N : Ends} {σ : L2.St} {H : Hp} {φ : Lay} {S : Sto} {ρ : Env} (s : SR C φ S H) (e : ER C φ H ρ σ) (t : TO C W N φ H (lift (f ρ S) ρ (g ρ))) :
    tG C W R f σ H fun b H1 => ∃ φ1 S1 a, SR C φ1 S1 H1 ∧ ER C φ1 H1 ρ σ ∧ R φ1 H1 b a ∧ TO C W N φ1 H1 (g ρ a S1) := by
  refine ⟨φ, S, ρ, s, e, ?_⟩
  cases hf : f ρ S with
  | ok a S1 =>
    rw [hf] at t
    exact fun φ1 H1 b f1 s1 r => ⟨φ1, S1, a, s1, e.mono ok f1, r, t.fr f1⟩
  | exc c S1 =>
    rw [hf] at t
    exact fun φ1 H1 da f1 s1 => t φ1 H1 σ da f1 s1
  | stuck =>
    rw [hf] at t
    exact t.elim
theorem TO.now {N : Ends} {φ : Lay} {H : Hp} {ρ : Env} {S : Sto} {σ : L2.St} (h : TO C W N φ H (.nx ρ S)) (s : SR C φ S H) (e : ER C φ H ρ σ) : N.nx σ H := h φ H σ (Fr.refl _ _) s e

/-! ### small ones -/
include ok in
theorem s_asg {tg : Expr} {t : Tg} (he : PEe X C W call gl e x) (hg : PG X tg (gOf C t)) (hs : swapsWithSole [tg] e pos.line X.env = pure false) (hw : swappedStores [tg] e X.env = pure none) (h1 : (assignEach [tg] X.env).map (·.2) = [assign tg X.env]) : PSe X C W call gl (.Assign [tg] e pos) (.asg t x) :=
  ps_imp (ps_asg he hg hs hw h1) fun N σ H ⟨φ, S, ρ, s, e, t⟩ => by
    simp only [ex] at t
    refine (lift_rd (R := Rep C) (f := ev call gl x) (g := fun ρ d S1 => match bindT _ d ρ with
      | some ρ1 => .nx ρ1 S1
      | none => .stuck) ok s e t).imp fun v H1 ⟨φ1, S1, d, s1, e1, r1, t1⟩ => ?_
    revert t1
    cases hb : bindT _ d ρ with
    | none => exact fun t1 => t1.elim
    | some ρ1 => exact fun t1 => ⟨φ1, ρ, d, ρ1, e1, r1, hb, fun σ' e' _ => t1.now s1 e'⟩
include ok in
theorem s_setLc {i : Nat} {n : Str} {py lp : Pos} {elt tg iter : Expr} {ifs : List Expr} {scope : Scope} {own : List (Str × Nat)} {k : ItK} {its cond : List E} {t : Tg} {el : E} {ow : List Nat} (hc : X.calm = true) (hN : X.N.Nodup) (hy : X.N[i]? = some n) (hyl : X.env.scope.names.lookup n = some .local)
    (hsw : swapsWith (.ListComp elt [⟨tg, iter, ifs, 0⟩] scope lp) (some (.Name n py)) pos.line X.env = pure true)
    (hi : PIx X C W call gl tg iter k its) (bo : BlkOk X.N X.env.scope scope own) (ho : own.map (·.2) = ow) (htv : ∀ i ∈ tvs t, i ∈ ow)
    (hg : ∀ (s : Shared) (H : Hp) (A : Addr) (cl : List (Str × Addr)) (fp : List Addr), PG (X.blk s H scope (compEnvC scope cl A X.env) fp) tg (gOf C t))
    (ht : ∀ (s : Shared) (H : Hp) (A : Addr) (cl : List (Str × Addr)) (fp : List Addr), PTs (X.blk s H scope (compEnvC scope cl A X.env) fp) ifs (tOfT C W0 (evC call gl cond)))
    (he : ∀ (s : Shared) (H : Hp) (A : Addr) (cl : List (Str × Addr)) (fp : List Addr), PEe (X.blk s H scope (compEnvC scope cl A X.env) fp) C W0 call gl elt el) (hs : ∀ x, foldedSetIterable iter X.env x = pure x) :
    PSe X C W call gl (.Assign [.Name n py] (.ListComp elt [⟨tg, iter, ifs, 0⟩] scope lp) pos) (.asg (.v i) (.lc ow k its t cond el)) := by
  subst ho
  refine ps_imp (ps_setLc hc hN hy hyl hsw hi bo hg ht he hs) fun N σ H ⟨φ, S, ρ, s, e, t⟩ => ?_
  simp only [ex] at t
  refine lc_rd ok htv ((lift_rd (R := Rep C) (f := ev call gl (.lc _ k its _ cond el)) (g := fun ρ d S1 => match bindT _ d ρ with
      | some ρ1 => .nx ρ1 S1
      | none => .stuck) ok s e t).imp fun v H1 ⟨φ1, S1, d, s1, e1, r1, t1⟩ => ?_)
  simp only [bindT] at t1
  split at t1
  · rename_i ρ1 hb
    split at hb
    · cases hb
      exact t1.now s1 (e1.set r1)
    · cases hb
  · exact t1.elim
include ok in
theorem s_ex (he : PEe X C W call gl e x) (hs : swapsWith e none pos.line X.env = pure false) : PSe X C W call gl (.Expr e pos) (.ex x) :=
  ps_imp (ps_expr he hs) fun N σ H ⟨φ, S, ρ, s, e, t⟩ => by
    simp only [ex] at t
    exact (lift_rd (R := Rep C) (f := ev call gl x) (g := fun ρ _ S1 => .nx ρ S1) ok s e t).imp fun v H1 ⟨φ1, S1, d, s1, e1, r1, t1⟩ => t1.now s1 e1
include ok in
theorem s_ret (he : PEe X C W call gl e x) : PSe X C W call gl (.Return (some e) pos) (.ret x) :=
  ps_imp (ps_ret he) fun N σ H ⟨φ, S, ρ, s, e, t⟩ => by
    simp only [ex] at t
    exact (lift_rd (R := Rep C) (f := ev call gl x) (g := fun ρ d S1 => .rt d S1) ok s e t).imp fun v H1 ⟨φ1, S1, d, s1, e1, r1, t1⟩ => t1 φ1 H1 v (Fr.refl _ _) s1 r1
theorem s_retn : PSe X C W call gl (.Return none pos) .retn :=
  ps_imp ps_retN fun N σ H ⟨φ, S, ρ, s, e, t⟩ => by
    simp only [ex] at t
    exact t φ H _ (Fr.refl _ _) s rep_non
theorem s_pass : PSe X C W call gl (.Pass pos) .pass :=
  ps_imp ps_pass fun N σ H ⟨φ, S, ρ, s, e, t⟩ => by
    simp only [ex] at t
    exact t.now s e
theorem s_doc {n : Str} {j : Nat} {p2 : Pos} : PSe X C W call gl (.Expr (.Constant (.str n) j p2) pos) .pass :=
  ps_imp ps_doc fun N σ H ⟨φ, S, ρ, s, e, t⟩ => by
    simp only [ex] at t
    exact t.now s e
include ok in
theorem s_par2 {i j : Nat} {n m : Str} {px py pt : Pos} {kt k2 : Nat} {pt2 : Pos} (hc : X.calm = true) (hN : X.N.Nodup) (hi : X.N[i]? = some n) (hj : X.N[j]? = some m) (hij : i ≠ j)
    (hx : X.env.scope.names.lookup n = some .local) (hy : X.env.scope.names.lookup m = some .local) (h : DL X C W call gl [x, y] [a, b])
    (hw : swappedStores [.Tuple [.Name n px, .Name m py] kt pt] (.Tuple [a, b] k2 pt2) X.env = pure (some [n, m])) :
    PSe X C W call gl (.Assign [.Tuple [.Name n px, .Name m py] kt pt] (.Tuple [a, b] k2 pt2) pos) (.par2 i j x y) :=
  ps_imp (ps_par hc hN hi hj hij hx hy (DL.pa ok h) hw) fun N σ H ⟨φ, S, ρ, s, e, t⟩ => by
    simp only [ex] at t
    refine (lift_rd (R := RepL C) (f := evL call gl [x, y]) (g := fun ρ ds S1 => match ds with
      | [x, y] => if decide (i < ρ.length) && decide (j < ρ.length) then .nx ((ρ.set i (some x)).set j (some y)) S1 else .stuck
      | _ => .stuck) ok s e t).imp fun vs H1 ⟨φ1, S1, ds, s1, e1, r1, t1⟩ => ?_
    revert t1
    split
    · rename_i u w
      split
      · intro t1
        obtain ⟨v, z, rfl, q1, q2⟩ := rep2' r1
        exact ⟨v, z, rfl, t1.now s1 ((e1.set q1).set q2)⟩
      · exact fun t1 => t1.elim
    · exact fun t1 => t1.elim
theorem rep3' {φ : Lay} {H : Hp} {vs : List V} {d d' d2 : D} (h : RepL C φ H vs [d, d', d2]) : ∃ v u w, vs = [v, u, w] ∧ Rep C φ H v d ∧ Rep C φ H u d' ∧ Rep C φ H w d2 := by
  cases vs with
  | nil => simp only [RepL] at h
  | cons v vs =>
    simp only [RepL] at h
    obtain ⟨u, w, rfl, r⟩ := rep2' h.2
    exact ⟨v, u, w, rfl, h.1, r⟩
include ok in
theorem s_par3 {i j k : Nat} {n m o : Str} {c : Expr} {px py pz pt : Pos} {kt k2 : Nat} {pt2 : Pos} (hc : X.calm = true) (hN : X.N.Nodup) (hi : X.N[i]? = some n) (hj : X.N[j]? = some m) (hk : X.N[k]? = some o) (hij : i ≠ j) (hik : i ≠ k) (hjk : j ≠ k)
    (hx : X.env.scope.names.lookup n = some .local) (hy : X.env.scope.names.lookup m = some .local) (hz : X.env.scope.names.lookup o = some .local) (h : DL X C W call gl [x, y, z] [a, b, c])
    (hw : swappedStores [.Tuple [.Name n px, .Name m py, .Name o pz] kt pt] (.Tuple [a, b, c] k2 pt2) X.env = pure (some [n, m, o])) :
    PSe X C W call gl (.Assign [.Tuple [.Name n px, .Name m py, .Name o pz] kt pt] (.Tuple [a, b, c] k2 pt2) pos) (.par3 i j k x y z) :=
  ps_imp (ps_par3 hc hN hi hj hk hij hik hjk hx hy hz (DL.pa ok h) hw) fun N σ H ⟨φ, S, ρ, s, e, t⟩ => by
    simp only [ex] at t
    refine (lift_rd (R := RepL C) (f := evL call gl [x, y, z]) (g := fun ρ ds S1 => match ds with
      | [x, y, z] => if decide (i < ρ.length) && decide (j < ρ.length) && decide (k < ρ.length) then .nx (((ρ.set i (some x)).set j (some y)).set k (some z)) S1 else .stuck
      | _ => .stuck) ok s e t).imp fun vs H1 ⟨φ1, S1, ds, s1, e1, r1, t1⟩ => ?_
    revert t1
    split
    · rename_i u w o
      split
      · intro t1
        obtain ⟨v, z, q, rfl, q1, q2, q3⟩ := rep3' r1
        exact ⟨v, z, q, rfl, t1.now s1 (((e1.set q1).set q2).set q3)⟩
      · exact fun t1 => t1.elim
    · exact fun t1 => t1.elim
/-! ### o[i] = v -/
include ok in
theorem s_setix {o i : Expr} {p2 : Pos} (h : DL X C W call gl [x, y, z] [e, o, i]) (hs : swapsWithSole [.Subscript o i p2] e pos.line X.env = pure false) (ha : ∀ v, assign (.Subscript o i p2) X.env v = (do
      let ov ← holding [v] (eval o X.env)
      let iv ← holding [v, ov] (eval i X.env)
      standAt p2
      holding [v, ov, iv] (setItem ov iv v)
      release [v, ov, iv] [])) : PSe X C W call gl (.Assign [.Subscript o i p2] e pos) (.setix y z x) := by
  obtain ⟨_, _, _, hz, h1, h2, h3⟩ := h.three
  cases hz
  refine ps_imp (ps_asg h1 (pg_sub h2 h3 set_list ha) hs) fun N σ H ⟨φ, S, ρ, s, e, t⟩ => ?_
  simp only [ex] at t
  have t2 := lift_rd (R := RepL C) (f := evL call gl [x, y, z]) (g := fun ρ ds S1 => match ds with
      | [v, o, k] => (match setLst S1 o k v with
        | some S2 => .nx ρ S2
        | none => .stuck)
      | _ => .stuck) ok s e t
  refine (evL_cons ok t2).imp fun v H1 h1 => (evL_cons ok h1).imp fun u H2 h2 => (evL_cons ok h2).imp fun w H3 h3 => ?_
  obtain ⟨φ1, S1, ds, s1, e1, r1, t1⟩ := evL_nil h3
  obtain ⟨d1, d2, d3, rfl, q1, q2, q3⟩ := rep3 r1
  simp only at t1
  revert t1
  cases hS : setLst S1 d2 d3 d1 with
  | none => exact fun t1 => t1.elim
  | some S2 =>
    intro t1
    unfold setLst at hS
    split at hS
    · rename_i n k
      split at hS
      · rename_i l hl
        obtain ⟨j, hj, rfl⟩ := Option.map_eq_some_iff.mp hS
        obtain ⟨p, xs, rfl, hn, hp, hr⟩ := q2.ref s1 hl
        refine ⟨p, xs, k, j, rfl, q3.int, hp, by rw [hr.length]; exact hj, ?_⟩
        have hm : p ∈ φ1.refs := List.mem_of_getElem? hn
        have f : Fr φ1 H3 φ1 (upd H3 p (.lst (xs.set j v))) := fr_chg hm hp
        exact t1 φ1 _ σ f (s1.chg ok hn hp (hr.set j q1)) (e1.mono ok f)
      · cases hS
    · cases hS
/-! ### blocks, if, for, while -/
theorem ss_nil : PSse X C W call gl [] [] :=
  pss_imp pss_nil fun N σ H ⟨φ, S, ρ, s, e, t⟩ => by
    simp only [exL] at t
    exact t.now s e
theorem ss_cons {rest : List Stmt} {s1 : Sm} {sr : List Sm} (h : PSe X C W call gl st s1) (hr : PSse X C W call gl rest sr) : PSse X C W call gl (st :: rest) (s1 :: sr) :=
  pss_imp (pss_cons h hr) fun N σ H ⟨φ, S, ρ, s, e, t⟩ => by
    simp only [exL] at t
    refine ⟨φ, S, ρ, s, e, ?_⟩
    revert t
    cases ex call gl s1 ρ S with
    | nx ρ1 S1 => exact fun t φ1 H1 σ1 f s1 e1 => ⟨φ1, S1, ρ1, s1, e1, TO.fr f t⟩
    | rt d S1 => exact fun t => t
    | exc c ρ1 S1 => exact fun t => t
    | stuck => exact fun t => t
include ok in
theorem s_if {c : Expr} {l m : List Stmt} {sa sb : List Sm} (hc : PTe X C W call gl c x) (ha : PSse X C W call gl l sa) (hb : PSse X C W call gl m sb) : PSe X C W call gl (.If c l m pos) (.ifs x sa sb) :=
  ps_imp (ps_if hc ha hb) fun N σ H ⟨φ, S, ρ, s, e, t⟩ => by
    simp only [ex] at t
    have t' : TO C W N φ H (lift (evT call gl x ρ S) ρ fun b S1 => if b then exL call gl sa ρ S1 else exL call gl sb ρ S1) := by
      unfold evT
      revert t
      cases ev call gl x ρ S with
      | stuck => exact fun t => t
      | exc _ _ => exact fun t => t
      | ok d S1 =>
        simp only [lift, Res.bind]
        cases truth S1 d with
        | none => exact fun t => t
        | some b => cases b <;> exact fun t => t
    refine (lift_rd (R := RB) (f := evT call gl x) (g := fun ρ b S1 => if b then exL call gl sa ρ S1 else exL call gl sb ρ S1) ok s e t').imp fun b H1 ⟨φ1, S1, b', s1, e1, r1, t1⟩ => ?_
    have r1 : b = b' := r1
    subst r1
    cases b with
    | true => exact ⟨φ1, S1, ρ, s1, e1, t1⟩
    | false => exact ⟨φ1, S1, ρ, s1, e1, t1⟩
include ok in
theorem s_for {tg iter : Expr} {k : ItK} {its : List E} {t : Tg} {body : List Stmt} {sb : List Sm} (hp : PassesOwn (model X.prog X.w) X.A X.env X.xe) (hc : X.calm = true) (hi : PIx X C W call gl tg iter k its) (hg : PG X tg (gOf C t)) (hb : PSse X C W call gl body sb)
    (hs : ∀ x, foldedSetIterable iter X.env x = pure x) : PSe X C W call gl (.For tg iter body [] pos) (.for_ t k its sb) :=
  ps_imp (ps_for hp hc hi hg hb hs) fun N σ H ⟨φ, S, ρ, s, e, t0⟩ => by
    have t' : TO C W N φ H (lift (evIt call gl k its ρ S) ρ fun xs S1 => forLoop t (exL call gl sb) xs ρ S1) := by
      simp only [ex] at t0
      unfold evIt
      revert t0
      cases evL call gl its ρ S with
      | stuck => exact fun t => t
      | exc _ _ => exact fun t => t
      | ok ds S1 =>
        simp only [lift, Res.bind]
        cases items k ds with
        | none => exact fun t => t
        | some xs => exact fun t => t
    refine (lift_rd (R := ItOk C) (f := evIt call gl k its) (g := fun ρ xs S1 => forLoop t (exL call gl sb) xs ρ S1) ok s e t').imp fun J H1 ⟨φ1, S1, xs, s1, e1, hJ, t1⟩ => ?_
    refine ⟨fun i m σ H => m = xs.length - i ∧ i ≤ xs.length ∧ ∃ φ S ρ, Fr φ1 H1 φ H ∧ SR C φ S H ∧ ER C φ H ρ σ ∧ TO C W N φ H (forLoop t (exL call gl sb) (xs.drop i) ρ S),
      ⟨xs.length, rfl, Nat.zero_le _, φ1, S1, ρ, Fr.refl _ _, s1, e1, t1⟩, ?_⟩
    rintro i m σ2 H2 ⟨rfl, hi, φ2, S2, ρ2, f2, s2, e2, t2⟩
    by_cases hlt : i < xs.length
    · rw [List.drop_eq_getElem_cons hlt] at t2
      unfold forLoop at t2
      refine .inr ⟨hJ.goes i φ2 H2 f2.kp hlt, fun σ H => i + 1 ≤ xs.length ∧ ∃ φ S ρ, Fr φ1 H1 φ H ∧ SR C φ S H ∧ ER C φ H ρ σ ∧ TO C W N φ H (forLoop t (exL call gl sb) (xs.drop (i + 1)) ρ S),
        fun σ' H' p' => ⟨xs.length - (i + 1), by omega, rfl, p'⟩, fun v H3 y => ?_⟩
      obtain ⟨f3, s3, d, hd, rd⟩ := hJ.yields i φ2 S2 H2 v H3 f2.kp s2 hlt y
      rw [List.getElem?_eq_getElem hlt] at hd
      cases hd
      revert t2
      cases hb : bindT t xs[i] ρ2 with
      | none => exact fun t2 => t2.elim
      | some ρ3 =>
        intro t2
        refine ⟨φ2, ρ2, xs[i], ρ3, e2.mono ok f3, rd, hb, fun σ3 e3 _ => ⟨φ2, S2, ρ3, s3, e3, ?_⟩⟩
        have t3 := TO.fr f3 t2
        simp only at t3
        revert t3
        cases exL call gl sb ρ3 S2 with
        | nx ρ4 S4 => exact fun t3 φ4 H4 σ4 f4 s4 e4 => ⟨hlt, φ4, S4, ρ4, (f2.trans f3).trans f4, s4, e4, TO.fr f4 t3⟩
        | rt d S4 => exact fun t3 => t3
        | exc c ρ4 S4 => exact fun t3 => t3
        | stuck => exact fun t3 => t3
    · have ei : i = xs.length := by omega
      subst ei
      rw [List.drop_length] at t2
      unfold forLoop at t2
      exact .inl ⟨hJ.stops φ2 H2 f2.kp, t2.now s2 e2⟩
include ok in
theorem s_wh {c : Expr} {body : List Stmt} {sb : List Sm} (hp : PassesOwn (model X.prog X.w) X.A X.env X.xe) (hc : PTe X C W call gl c x) (hb : PSse X C W call gl body sb) : PSe X C W call gl (.While c body [] pos) (.wh x sb) :=
  ps_imp (ps_while hp hc hb) fun N σ H ⟨φ, S, ρ, s, e, t0⟩ => by
    simp only [ex] at t0
    refine ⟨fun m σ H => ∃ φ S ρ, SR C φ S H ∧ ER C φ H ρ σ ∧ TO C W N φ H (whLoop (ev call gl x) (exL call gl sb) m ρ S), ⟨fuelW, φ, S, ρ, s, e, t0⟩, ?_⟩
    rintro m σ2 H2 ⟨φ2, S2, ρ2, s2, e2, t2⟩
    cases m with
    | zero => exact t2.elim
    | succ n =>
      have t' : TO C W N φ2 H2 (lift (evT call gl x ρ2 S2) ρ2 fun b S1 => if b then (match exL call gl sb ρ2 S1 with
          | .nx ρ3 S3 => whLoop (ev call gl x) (exL call gl sb) n ρ3 S3
          | o => o) else .nx ρ2 S1) := by
        unfold evT
        unfold whLoop at t2
        revert t2
        cases ev call gl x ρ2 S2 with
        | stuck => exact fun t => t
        | exc _ _ => exact fun t => t
        | ok d S1 =>
          simp only [lift, Res.bind]
          cases truth S1 d with
          | none => exact fun t => t
          | some b => cases b <;> exact fun t => t
      refine (lift_rd (R := RB) (f := evT call gl x) (g := fun ρ2 b S1 => if b then (match exL call gl sb ρ2 S1 with
          | .nx ρ3 S3 => whLoop (ev call gl x) (exL call gl sb) n ρ3 S3
          | o => o) else .nx ρ2 S1) ok s2 e2 t').imp fun b H3 ⟨φ3, S3, b', s3, e3, r3, t3⟩ => ?_
      have r3 : b = b' := r3
      subst r3
      cases b with
      | false => exact t3.now s3 e3
      | true =>
        rw [if_pos rfl] at t3 ⊢
        refine ⟨fun σ' H' => ∃ φ S ρ, SR C φ S H' ∧ ER C φ H' ρ σ' ∧ TO C W N φ H' (whLoop (ev call gl x) (exL call gl sb) n ρ S), fun σ' H' q => ⟨n, Nat.lt_succ_self n, q⟩, φ3, S3, ρ2, s3, e3, ?_⟩
        revert t3
        cases exL call gl sb ρ2 S3 with
        | nx ρ4 S4 => exact fun t3 φ4 H4 σ4 f4 s4 e4 => ⟨φ4, S4, ρ4, s4, e4, TO.fr f4 t3⟩
        | rt d S4 => exact fun t3 => t3
        | exc c ρ4 S4 => exact fun t3 => t3
        | stuck => exact fun t3 => t3
end
end SF

set_option maxHeartbeats 200000
set_option Elab.async false
set_option linter.all false
set_option maxRecDepth 100000
/-! Closures: what a closure is in the abstract heap, how one is made, tracked while a def runs, called. -/
namespace SF
open PySem PySem.Spec PyProof.Rows L2 RZ LamX

abbrev LamC := Nat → Arguments → Expr → Scope → Bool
/-- v is the lambda number i: its object at f, its code object at c', its cells, all kept as they are -/
structure CloAt (LC : LamC) (caps : Nat → List Str) (φ : Lay) (H : Hp) (v : V) (i r : Nat) (ws : List V) (f c' : Addr) (pm ctv : Value) (q : Str) (params : Arguments) (body : Expr) (scope : Scope) (cl : List (Str × Addr)) : Prop where
  v : v = .ref f
  lc : LC i params body scope = true
  of : φ.out f
  oc : φ.out c'
  ff : H f = some (.frz (PySem.W.kla_obj "<lambda>" q params body scope cl pm c' ctv) (.own r))
  fc : H c' = some (CodeO c' q)
  len : ws.length = (caps i).length
  inj : ∀ y z c, cl.lookup y = some c → cl.lookup z = some c → y = z
  cel : ∀ y c, (y, c) ∈ cl → φ.out c ∧ ∃ o x, H c = some (.frz o (.own r)) ∧ o.data = .cell x
  free : ∀ y ∈ scope.names, y.2 = .free → ∃ c, cl.lookup y.1 = some c
  cap : ∀ (j : Nat) (y : Str) (w : V), (caps i)[j]? = some y → ws[j]? = some w → ∃ c o u, cl.lookup y = some c ∧ H c = some (.frz o (.own r)) ∧ o.data = .cell (some u) ∧ RelV w u
def CloR (LC : LamC) (caps : Nat → List Str) (φ : Lay) (H : Hp) (v : V) (i r : Nat) (ws : List V) : Prop := ∃ f c' pm ctv q params body scope cl, CloAt LC caps φ H v i r ws f c' pm ctv q params body scope cl
theorem codeO_frz {c : Addr} {q : Str} {x : Obj} {u : HO} : CodeO c q ≠ .frz x u := fun z => by
  unfold CodeO at z
  cases z
theorem CloAt.move {LC : LamC} {caps : Nat → List Str} {φ φ' : Lay} {H H' : Hp} {v : V} {i r : Nat} {ws : List V} {f c' : Addr} {pm ctv : Value} {q : Str} {params : Arguments} {body : Expr} {scope : Scope} {cl : List (Str × Addr)}
    (h : CloAt LC caps φ H v i r ws f c' pm ctv q params body scope cl) (k1 : ∀ o b, φ.out b → H b = some (.frz o (.own r)) → φ'.out b ∧ H' b = some (.frz o (.own r))) (k2 : ∀ b, φ.out b → H b = some (CodeO b q) → φ'.out b ∧ H' b = some (CodeO b q)) :
    CloAt LC caps φ' H' v i r ws f c' pm ctv q params body scope cl where
  v := h.v
  lc := h.lc
  of := (k1 _ _ h.of h.ff).1
  oc := (k2 _ h.oc h.fc).1
  ff := (k1 _ _ h.of h.ff).2
  fc := (k2 _ h.oc h.fc).2
  len := h.len
  inj := h.inj
  cel := fun y c e => by
    obtain ⟨h1, o, x, h2, h3⟩ := h.cel y c e
    obtain ⟨h4, h5⟩ := k1 _ _ h1 h2
    exact ⟨h4, o, x, h5, h3⟩
  free := h.free
  cap := fun j y w e1 e2 => by
    obtain ⟨c, o, u, h1, h2, h3⟩ := h.cap j y w e1 e2
    exact ⟨c, o, u, h1, (k1 _ _ (h.cel y c (PySem.mem_of_lookup h1)).1 h2).2, h3⟩
/-- the module: its part, its tables, its lambdas -/
def mkC (K : PySem.W.Frag) (fnA clA : Nat → Addr) (T : List (Addr × Str)) (LC : LamC) (caps : Nat → List Str) : Cn where
  K := K
  fnA := fnA
  clA := clA
  tab := Tabs T
  clo := CloR LC caps
theorem mkC_ok {K : PySem.W.Frag} {fnA clA : Nat → Addr} {T : List (Addr × Str)} {LC : LamC} {caps : Nat → List Str} : CnOk (mkC K fnA clA T LC caps) where
  tab := fun H H' h k p hp => by
    obtain ⟨ps, h1, h2, h3⟩ := h p hp
    refine ⟨ps, k _ _ h1 (fun _ z => by cases z) (fun _ _ _ z => by cases z) (fun _ _ z => by cases z), h2, fun pos cv hc => ?_⟩
    obtain ⟨c, e1, e2⟩ := h3 pos cv hc
    exact ⟨c, e1, k _ _ e2 (fun _ z => by unfold CodeO at z; cases z) (fun _ _ _ z => by unfold CodeO at z; cases z) (fun _ _ z => by unfold CodeO at z; cases z)⟩
  clo := fun φ H φ' H' v i r ws k ⟨f, c', pm, ctv, q, params, body, scope, cl, h⟩ => ⟨f, c', pm, ctv, q, params, body, scope, cl, h.move (fun o b n e => k.keep b _ n e fun _ z => by cases z) fun b n e => k.keep b _ n e codeO_ne⟩
  low := fun φ H H' v i r ws n k hr ⟨f, c', pm, ctv, q, params, body, scope, cl, h⟩ => ⟨f, c', pm, ctv, q, params, body, scope, cl, h.move (fun o b m e => ⟨m, k b _ e fun x z => by
    cases z
    exact Nat.lt_irrefl _ hr⟩) fun b m e => ⟨m, k b _ e fun x z => codeO_frz z⟩⟩
  ref := fun φ H v i r ws ⟨f, c', pm, ctv, q, params, body, scope, cl, h⟩ => ⟨f, h.v⟩

/-! ### data below a rank do not lean on that rank's cells -/
section
variable {C : Cn} (ok : CnOk C) {φ : Lay} {H H' : Hp} {n : Nat}
include ok
mutual
theorem Rep.low (k : ∀ b o, H b = some o → (∀ x, o ≠ .frz x (.own n)) → H' b = some o) : ∀ (d : D) (v : V), rk d < n → Rep C φ H v d → Rep C φ H' v d
  | .non, _, _, h => by simpa only [Rep] using h
  | .bl _, _, _, h => by simpa only [Rep] using h
  | .int _, _, _, h => by simpa only [Rep] using h
  | .str _, _, _, h => by simpa only [Rep] using h
  | .tup l, _, hn, h => by
    simp only [Rep] at h ⊢
    simp only [rk] at hn
    obtain ⟨a, vs, e, h1, h2⟩ := h
    refine ⟨a, vs, e, ?_, RepL.low k l vs hn h2⟩
    rcases h1 with ⟨m, r | ⟨o, r⟩⟩ | r
    · exact .inl ⟨m, .inl (k _ _ r fun _ z => by cases z)⟩
    · exact .inl ⟨m, .inr ⟨o, k _ _ r fun _ z => by cases z⟩⟩
    · exact .inr r
  | .lst l, _, hn, h => by
    simp only [Rep] at h ⊢
    simp only [rk] at hn
    obtain ⟨a, vs, e, m, h1, h2⟩ := h
    exact ⟨a, vs, e, m, k _ _ h1 (fun _ z => by cases z), RepL.low k l vs hn h2⟩
  | .scr l, _, _, h => by
    simp only [Rep] at h ⊢
    obtain ⟨a, e, h1⟩ := h
    refine ⟨a, e, ?_⟩
    rcases h1 with ⟨m, r | ⟨o, r⟩⟩ | r
    · exact .inl ⟨m, .inl (k _ _ r fun _ z => by cases z)⟩
    · exact .inl ⟨m, .inr ⟨o, k _ _ r fun _ z => by cases z⟩⟩
    · exact .inr r
  | .ref _, _, _, h => by simpa only [Rep] using h
  | .fn _, _, _, h => by simpa only [Rep] using h
  | .clo i env, _, hn, h => by
    simp only [Rep] at h ⊢
    simp only [rk] at hn
    obtain ⟨ws, h1, h2⟩ := h
    exact ⟨ws, ok.low _ _ _ _ _ _ _ n k hn h1, RepL.low k env ws (by omega) h2⟩
  | .exc _, _, _, h => by simp only [Rep] at h
theorem RepL.low (k : ∀ b o, H b = some o → (∀ x, o ≠ .frz x (.own n)) → H' b = some o) : ∀ (l : List D) (vs : List V), rkL l < n → RepL C φ H vs l → RepL C φ H' vs l
  | [], [], _, _ => by simp only [RepL]
  | d :: l, v :: vs, hn, h => by
    simp only [RepL] at h ⊢
    simp only [rkL] at hn
    exact ⟨Rep.low k d v (by omega) h.1, RepL.low k l vs (by omega) h.2⟩
  | [], _ :: _, _, h => by simp only [RepL] at h
  | _ :: _, [], _, h => by simp only [RepL] at h
end
theorem SR.low {S : Sto} (s : SR C φ S H) (hn : 0 < n) (hS : plainS S = true) (k : ∀ b o, H b = some o → (∀ x, o ≠ .frz x (.own n)) → H' b = some o) (ht : C.tab H') : SR C φ S H' where
  len := s.len
  nd := s.nd
  obj := fun i o a h1 h2 => by
    have q := s.obj i o a h1 h2
    cases o with
    | lst l =>
      obtain ⟨vs, e, r⟩ := q
      have hp : rkL l = 0 := by
        have := List.all_eq_true.mp hS _ (List.mem_of_getElem? h1)
        simpa [rkO] using this
      exact ⟨vs, k _ _ e (fun _ z => by cases z), RepL.low ok k l vs (by omega) r⟩
    | ins _ _ => exact q
  tab := ht
  hid := fun b hb => let ⟨vs, e⟩ := s.hid b hb; ⟨vs, k _ _ e fun _ z => by cases z⟩
end
/-- more is tracked -/
theorem SR.more {C : Cn} (ok : CnOk C) {φ : Lay} {S : Sto} {H H' : Hp} (s : SR C φ S H) (k : ∀ b o, H b = some o → H' b = some o) : SR C φ S H' where
  len := s.len
  nd := s.nd
  obj := fun i o a h1 h2 => (s.obj i o a h1 h2).kp ok ⟨⟨[], by simp⟩, fun b o n e _ => ⟨n, k b o e⟩⟩ fun u e => k _ _ e
  tab := ok.tab H _ s.tab fun b o e _ _ _ => k b o e
  hid := fun b hb => let ⟨vs, e⟩ := s.hid b hb; ⟨vs, k _ _ e⟩

/-! ### a lambda is made -/
section
variable {X : Cx} {pins : List (Addr × Obj)} {σ : L2.St} {H : Hp} {s : Shared}
theorem lam_make3 {T : List (Addr × Str)} {c P : Addr} {params : Arguments} {body : Expr} {scope : Scope} {pos : Pos} {E : Value → Shared → Prop} {Q : Value → Shared → Prop} (I : L2.Inv X pins σ H s) (TB : TabB X.base X.mg c P) (hcode : X.env.code = .ref c)
    (hm : (P, X.env.qual ++ "<lambda>") ∈ T) (hu : ∀ p ∈ T, p.1 = P → p.2 = X.env.qual ++ "<lambda>") (hT : Tabs T H) (hdef : defaultsOf params X.env = ([], [])) (hfree : ∀ y ∈ scope.names, y.2 = .free → ∃ c, X.env.cells.lookup y.1 = some c)
    (h : ∀ (f c' : Addr) (pm ctv : Value) (H1 : Hp) (s' : Shared), L2.Inv X pins σ H1 s' → ExtN H H1 → (∀ b, H1 b = none → H b = none) → Tabs T H1 → s.heap.objs.size ≤ f →
      s'.heap.get? f = some (PySem.W.kla_obj "<lambda>" (X.env.qual ++ "<lambda>") params body scope (cloFrom X.env.cells scope.names []) pm c' ctv) → H1 f = none → f ∉ frs X.stack → H1 c' = some (CodeO c' (X.env.qual ++ "<lambda>")) → Q (.ref f) s') :
    wpAny (model X.prog X.w) X.A (eval (.Lambda params body scope pos) X.env) Q E s := by
  obtain ⟨ps, hP, ht, ha⟩ := hT _ hm
  refine PySem.W.kla_eval hdef ?_
  have bP : s.heap.BuiltinsAt X.mg P := TB.bm.keeps I.bk
  have hP' : s.heap.get? P = some { cls := .none, data := .fields ps } := I.hok P _ hP
  have nofr : ∀ f, s.heap.objs.size ≤ f → f ∉ frs X.stack := fun f hf z => by
    rcases List.mem_cons.mp (I.stkSub _ z) with e | e
    · exact Nat.lt_irrefl _ (Nat.lt_of_lt_of_le (e ▸ I.lt) hf)
    · exact I.nofs hf e
  cases hc : codeAmong pos ps.toList with
  | none =>
    refine PySem.W.kla_makeFunction (mg := X.mg) (c := c) (P := P) (ps := ps) (closure_ok hfree) I.ok.glob (I.mod.glob.keeps I.bk) hcode (TB.code.keeps I.bk) hP' ht hc TB.gP bP fun c' ctv h' tk hx hge hlt hrec htb => ?_
    obtain ⟨c2, oc, vs, t, e2, hoc, hd, hv⟩ := hrec
    cases e2
    have hsz : s.heap.objs.size ≤ h'.objs.size := Nat.le_trans hge (Nat.le_of_lt hlt)
    have nC : H c' = none := I.hok.fresh hge
    have I1 := inv_table (t' := tk) (more := #[rawInt pos.line, rawInt pos.col, .ref c']) (h' := h'.push (PySem.W.kla_obj "<lambda>" (X.env.qual ++ "<lambda>") params body scope (cloFrom X.env.cells scope.names []) ((X.mg "__name__").getD .none) c' ctv)) I hP
      (fun b o hb e => Heap.get?_push_of_some _ (hx b o hb e)) (Heap.get?_push_of_some _ htb) hge ⟨oc, vs, t, Heap.get?_push_of_some _ hoc, hd, hv⟩
    have hE : ExtN H (upd (upd H P (.tbl (ps ++ #[rawInt pos.line, rawInt pos.col, .ref c']))) c' (CodeO c' (X.env.qual ++ "<lambda>"))) := fun b o e n => by
      rw [upd_ne (ne_of_none e nC), upd_ne (fun z => n ps (Option.some.inj (e.symm.trans (by rw [z]; exact hP))))]
      exact e
    have hBk : ∀ b, upd (upd H P (.tbl (ps ++ #[rawInt pos.line, rawInt pos.col, .ref c']))) c' (CodeO c' (X.env.qual ++ "<lambda>")) b = none → H b = none := fun b e => by
      by_cases h1 : b = c'
      · rw [h1, upd_same] at e; cases e
      · rw [upd_ne h1] at e
        by_cases h2 : b = P
        · rw [h2, upd_same] at e; cases e
        · rwa [upd_ne h2] at e
    have eL : (ps ++ #[rawInt pos.line, rawInt pos.col, .ref c']).toList = ps.toList ++ [rawInt pos.line, rawInt pos.col, .ref c'] := by simp
    have n1 : h'.objs.size ≠ c' := Nat.ne_of_gt hlt
    have n2 : h'.objs.size ≠ P := Nat.ne_of_gt (Nat.lt_of_lt_of_le (Heap.lt_size hP') hsz)
    refine h h'.objs.size c' ((X.mg "__name__").getD .none) ctv _ _ I1 hE hBk (fun p hp => ?_) hsz (Heap.get?_push_size _ rfl) (by rw [upd_ne n1, upd_ne n2]; exact I.hok.fresh hsz) (nofr _ hsz) upd_same
    by_cases hb : p.1 = P
    · rw [hu p hp hb, hb]
      refine ⟨_, by rw [upd_ne (ne_of_none hP nC), upd_same], by rw [eL]; exact PySem.TriplesOk_snoc _ _ _ _ ht, fun p' cv hcv => ?_⟩
      rw [eL] at hcv
      rcases among_app _ ht hcv with z | z
      · obtain ⟨c0, e1, e2⟩ := ha p' cv z
        exact ⟨c0, e1, hE _ _ e2 codeO_ne⟩
      · exact ⟨c', z, upd_same⟩
    · obtain ⟨ps', a1, a2, a3⟩ := hT p hp
      refine ⟨ps', by rw [upd_ne (ne_of_none a1 nC), upd_ne hb]; exact a1, a2, fun p' cv hcv => ?_⟩
      obtain ⟨c0, e1, e2⟩ := a3 p' cv hcv
      exact ⟨c0, e1, hE _ _ e2 codeO_ne⟩
  | some cv =>
    obtain ⟨c', e, hco⟩ := ha pos cv hc
    subst e
    refine PySem.W.kla_makeFunctionHit (mg := X.mg) (c := c) (P := P) (ps := ps) (closure_ok hfree) I.ok.glob (I.mod.glob.keeps I.bk) hcode (TB.code.keeps I.bk) hP' ht hc bP fun ctv h' tk hx hsz => ?_
    have I1 : L2.Inv X pins σ H { s with heap := h'.push (PySem.W.kla_obj "<lambda>" (X.env.qual ++ "<lambda>") params body scope (cloFrom X.env.cells scope.names []) ((X.mg "__name__").getD .none) c' ctv), toks := tk } := I.kept fun b o e => Heap.get?_push_of_some _ (hx b o e)
    exact h h'.objs.size c' ((X.mg "__name__").getD .none) ctv H _ I1 (ExtN.refl H) (fun _ e => e) hT hsz (Heap.get?_push_size _ rfl) (I.hok.fresh hsz) (nofr _ hsz) hco
end

/-! ### tracked while a def runs -/
def cset (f : Addr) (cl : List (Str × Addr)) (b : Addr) : Bool := decide (b = f) || decide (b ∈ cl.map (·.2))
def trk (h : Heap) (f : Addr) (cl : List (Str × Addr)) (r : Nat) (H : Hp) : Hp := fun b => if cset f cl b then (h.get? b).map fun o => .frz o (.own r) else H b
def untrk (f : Addr) (cl : List (Str × Addr)) (H : Hp) : Hp := fun b => if cset f cl b then none else H b
theorem trk_in {h : Heap} {f : Addr} {cl : List (Str × Addr)} {r : Nat} {H : Hp} {b : Addr} {o : Obj} (hb : cset f cl b = true) (e : h.get? b = some o) : trk h f cl r H b = some (.frz o (.own r)) := by
  unfold trk
  rw [if_pos hb, e]
  rfl
theorem trk_out {h : Heap} {f : Addr} {cl : List (Str × Addr)} {r : Nat} {H : Hp} {b : Addr} (hb : cset f cl b = false) : trk h f cl r H b = H b := by
  unfold trk
  rw [if_neg (by rw [hb]; exact Bool.false_ne_true)]
theorem untrk_in {f : Addr} {cl : List (Str × Addr)} {H : Hp} {b : Addr} (hb : cset f cl b = true) : untrk f cl H b = none := by
  unfold untrk
  rw [if_pos hb]
theorem untrk_out {f : Addr} {cl : List (Str × Addr)} {H : Hp} {b : Addr} (hb : cset f cl b = false) : untrk f cl H b = H b := by
  unfold untrk
  rw [if_neg (by rw [hb]; exact Bool.false_ne_true)]
theorem cset_f {f : Addr} {cl : List (Str × Addr)} : cset f cl f = true := by simp [cset]
theorem cset_m {f : Addr} {cl : List (Str × Addr)} {y : Str} {c : Addr} (h : (y, c) ∈ cl) : cset f cl c = true := by
  have : c ∈ cl.map (·.2) := List.mem_map.mpr ⟨_, h, rfl⟩
  simp [cset, this]
theorem cset_c {f : Addr} {cl : List (Str × Addr)} {y : Str} {c : Addr} (h : cl.lookup y = some c) : cset f cl c = true := by
  have : c ∈ cl.map (·.2) := List.mem_map.mpr ⟨_, PySem.mem_of_lookup h, rfl⟩
  simp [cset, this]
section
variable {X : Cx} {pins : List (Addr × Obj)} {σ : L2.St} {H : Hp} {s : Shared} {f : Addr} {fo : Obj} {cl : List (Str × Addr)} {r : Nat}
/-- what may be tracked: nothing of it is, it is not the frames', not the base's -/
structure Trk (X : Cx) (H : Hp) (h : Heap) (f : Addr) (cl : List (Str × Addr)) : Prop where
  no : ∀ b, cset f cl b = true → H b = none
  get : ∀ b, cset f cl b = true → ∃ o, h.get? b = some o
  base : ∀ b, cset f cl b = true → X.base.get? b = none
  fr : ∀ b, cset f cl b = true → b ∉ frs X.stack
theorem Trk.keep (t : Trk X H s.heap f cl) {b : Addr} {o : HO} (e : H b = some o) : trk s.heap f cl r H b = some o := by
  cases hb : cset f cl b with
  | false => rw [trk_out hb]; exact e
  | true => rw [t.no b hb] at e; cases e
theorem Trk.hok (t : Trk X H s.heap f cl) (h : HOk X.prog X.w H s.heap) : HOk X.prog X.w (trk s.heap f cl r H) s.heap := fun b o e => by
  cases hb : cset f cl b with
  | true =>
    obtain ⟨ob, e1⟩ := t.get b hb
    rw [trk_in hb e1] at e
    cases e
    exact ⟨e1, ob, e1⟩
  | false =>
    rw [trk_out hb] at e
    exact (h b o e).stay (fun c v _ q => q) (fun c q => t.keep q) fun c xs q => t.keep q
theorem Trk.env0 (t : Trk X H s.heap f cl) (I : L2.Inv X pins σ H s) : Env0 X.prog X.w X.K X.mg X.base X.A X.stack s (trk s.heap f cl r H) := by
  have e := I.env0
  refine ⟨e.frames, e.mod, fun b o h => ?_, e.bsz, e.funs, fun b h => ?_, t.hok I.hok, e.bare⟩
  · obtain ⟨h1, h2⟩ := e.bs b o h
    refine ⟨h1, ?_⟩
    cases hb : cset f cl b with
    | false => rw [trk_out hb]; exact h2
    | true => rw [t.base b hb] at h; cases h
  · cases hb : cset f cl b with
    | false => rw [trk_out hb]; exact e.frf b h
    | true => exact absurd h (t.fr b hb)
/-- the def has run -/
theorem Trk.back {s' : Shared} {H4 : Hp} (t : Trk X H s.heap f cl) (I : L2.Inv X pins σ H s) (un : Un (frs X.stack) [] (trk s.heap f cl r H) H4 s.heap s'.heap) (hok : HOk X.prog X.w H4 s'.heap) (ho : s'.os = s.os) (hb : AllBare s'.gens) :
    L2.Inv X pins σ (untrk f cl H4) s' := by
  obtain ⟨h4, g, d, tk, os⟩ := s'
  cases ho
  have at4 : ∀ b, cset f cl b = true → ∃ o, s.heap.get? b = some o ∧ H4 b = some (.frz o (.own r)) ∧ h4.get? b = some o := fun b hb => by
    obtain ⟨o, e⟩ := t.get b hb
    have q := un.frzs b o (.own r) (trk_in hb e)
    exact ⟨o, e, q, (hok b _ q).1⟩
  refine I.call (ch := []) (h' := h4) (g' := g) (d' := d) (t' := tk) ⟨fun b o e n hf hx => ?_, fun b o e n hf hx => ?_, fun b o e n hx => ?_, fun b o e hx => ?_, fun b xs e => ?_, fun b o u e => ?_, fun b ps e => ?_⟩ (fun b o e => ?_) hb (fun b z => nomatch z)
  · cases hb : cset f cl b with
    | true =>
      obtain ⟨o', e1, _, e2⟩ := at4 b hb
      have e1 : s.heap.get? b = some o' := e1
      rw [e] at e1
      cases e1
      exact e2
    | false => exact un.keep b o e (by rw [trk_out hb]; exact n) hf hx
  · cases hb : cset f cl b with
    | true => exact absurd hf (t.fr b hb)
    | false => exact un.slot b o e (by rw [trk_out hb]; exact n) hf hx
  · cases hb : cset f cl b with
    | true => exact untrk_in hb
    | false => rw [untrk_out hb]; exact un.free b o e (by rw [trk_out hb]; exact n) hx
  · exact un.there b o e hx
  · have hb : cset f cl b = false := by
      cases hb : cset f cl b with
      | false => rfl
      | true => rw [t.no b hb] at e; cases e
    rw [untrk_out hb]
    exact un.tups b xs (t.keep e)
  · have hb : cset f cl b = false := by
      cases hb : cset f cl b with
      | false => rfl
      | true => rw [t.no b hb] at e; cases e
    rw [untrk_out hb]
    exact un.frzs b o u (t.keep e)
  · have hb : cset f cl b = false := by
      cases hb : cset f cl b with
      | false => rfl
      | true => rw [t.no b hb] at e; cases e
    rw [untrk_out hb]
    exact un.tbls b ps (t.keep e)
  · cases hb : cset f cl b with
    | true => rw [untrk_in hb] at e; cases e
    | false =>
      rw [untrk_out hb] at e
      refine (hok b o e).stay (fun c v _ q => q) (fun c q => ?_) fun c xs q => ?_
      · cases hc : cset f cl c with
        | false => rw [untrk_out hc]; exact q
        | true =>
          obtain ⟨_, _, q', _⟩ := at4 c hc
          rw [q'] at q
          cases q
      · cases hc : cset f cl c with
        | false => rw [untrk_out hc]; exact q
        | true =>
          obtain ⟨_, _, q', _⟩ := at4 c hc
          rw [q'] at q
          cases q
theorem Trk.low {H4 : Hp} (t : Trk X H s.heap f cl) (fz : ∀ b o u, trk s.heap f cl r H b = some (.frz o u) → H4 b = some (.frz o u)) : ∀ b o, H4 b = some o → (∀ x, o ≠ .frz x (.own r)) → untrk f cl H4 b = some o := fun b o e h => by
  cases hb : cset f cl b with
  | false => rw [untrk_out hb]; exact e
  | true =>
    obtain ⟨ob, e1⟩ := t.get b hb
    have q := fz b ob (.own r) (trk_in hb e1)
    rw [e] at q
    exact absurd (Option.some.inj q) (h ob)
/-- what has run, as a frame -/
theorem Trk.frame {φ φ' : Lay} {H4 : Hp} (t : Trk X H s.heap f cl) (g : SF.Fr φ (trk s.heap f cl r H) φ' H4) : SF.Fr φ H φ' (untrk f cl H4) where
  pre := g.pre
  msk := g.msk
  keep := fun b o n e tb => by
    have hb : cset f cl b = false := by
      cases hb : cset f cl b with
      | false => rfl
      | true => rw [t.no b hb] at e; cases e
    rw [untrk_out hb]
    exact g.keep b o n (t.keep e) tb
  new := fun b m => by
    rcases g.new b m with z | z
    · exact .inl z
    · refine .inr ?_
      cases hb : cset f cl b with
      | false => rw [trk_out hb] at z; exact z
      | true => exact t.no b hb
  back := fun b e => by
    cases hb : cset f cl b with
    | true => exact t.no b hb
    | false =>
      rw [untrk_out hb] at e
      have q := g.back b e
      rwa [trk_out hb] at q
end
end SF

set_option maxHeartbeats 200000
set_option Elab.async false
set_option linter.all false
set_option maxRecDepth 100000
/-! More operations: built-in functions and classes by name. -/
namespace SF
open PySem PySem.Spec PyProof.Rows L2 RZ
theorem cr_imp {X : Cx} {f : Value} {r r' : List V → Hp → VK → Prop} (h : CallR X f r) (k : ∀ xs H Q, r' xs H Q → r xs H Q) : CallR X f r' := fun pins s σ H xs us Q I rx q => h pins s σ H xs us Q I rx (k xs H Q q)
section
variable {X : Cx} {C : Cn} (ok : CnOk C) (hK : C.K = X.K) {φ : Lay} {S : Sto} {H : Hp} {Q : VK}
theorem ds1 {P : List D → Prop} (h0 : ¬ P []) (h2 : ∀ a b l, ¬ P (a :: b :: l)) : ∀ {ds : List D}, P ds → ∃ d, ds = [d]
  | [], h => (h0 h).elim
  | [d], _ => ⟨d, rfl⟩
  | _ :: _ :: _, h => (h2 _ _ _ h).elim
theorem ds2 {P : List D → Prop} (h0 : ¬ P []) (h1 : ∀ a, ¬ P [a]) (h2 : ∀ a b c l, ¬ P (a :: b :: c :: l)) : ∀ {ds : List D}, P ds → ∃ d e, ds = [d, e]
  | [], h => (h0 h).elim
  | [d], h => (h1 _ h).elim
  | [d, e], _ => ⟨d, e, rfl⟩
  | _ :: _ :: _ :: _, h => (h2 _ _ _ _ h).elim
theorem c_abs : CallR X (.builtin "abs") (rP C .abs) := cr_imp call_abs fun xs H Q ⟨φ, S, ds, hs, hr, pr⟩ => by
  rcases ds with _ | ⟨d, l⟩
  · exact pr.elim
  cases d <;> (try exact pr.elim) <;> (rcases l with _ | ⟨e, l⟩ <;> try exact pr.elim)
  obtain ⟨v, rfl, r⟩ := rep1' hr
  exact ⟨_, by rw [r.int], pr.int hs⟩
theorem c_max2 (hc : X.calm = true) : CallR X (.builtin "max") (rP C .max2) := cr_imp (call_max2 hc) fun xs H Q ⟨φ, S, ds, hs, hr, pr⟩ => by
  rcases ds with _ | ⟨d, l⟩
  · exact pr.elim
  cases d <;> try exact pr.elim
  rcases l with _ | ⟨e, l⟩
  · exact pr.elim
  cases e <;> try exact pr.elim
  rcases l with _ | ⟨f, l⟩ <;> try exact pr.elim
  obtain ⟨v, u, rfl, r, r'⟩ := rep2' hr
  exact ⟨_, _, by rw [r.int, r'.int], pr.int hs⟩
theorem c_min2 (hc : X.calm = true) : CallR X (.builtin "min") (rP C .min2) := cr_imp (call_min2 hc) fun xs H Q ⟨φ, S, ds, hs, hr, pr⟩ => by
  rcases ds with _ | ⟨d, l⟩
  · exact pr.elim
  cases d <;> try exact pr.elim
  rcases l with _ | ⟨e, l⟩
  · exact pr.elim
  cases e <;> try exact pr.elim
  rcases l with _ | ⟨f, l⟩ <;> try exact pr.elim
  obtain ⟨v, u, rfl, r, r'⟩ := rep2' hr
  exact ⟨_, _, by rw [r.int, r'.int], pr.int hs⟩
theorem c_int : CallR X (.type "int") (rP C .int_) := cr_imp (CallR.or call_int1 call_int_str) fun xs H Q ⟨φ, S, ds, hs, hr, pr⟩ => by
  rcases ds with _ | ⟨d, l⟩
  · exact pr.elim
  cases d <;> (try exact pr.elim) <;> (rcases l with _ | ⟨e, l⟩ <;> try exact pr.elim) <;> obtain ⟨v, rfl, r⟩ := rep1' hr
  · exact .inl (.inl ⟨_, by rw [r.int], pr.int hs⟩)
  · simp only [prim] at pr
    split at pr
    · rename_i hl
      obtain ⟨d, e, pr⟩ := ofO_some pr
      obtain ⟨n, e', rfl⟩ := Option.map_eq_some_iff.mp e
      exact .inr ⟨_, n, by rw [r.str], e', hl, pr.int hs⟩
    · exact pr.elim
include hK in
theorem seq_of {v : V} {l : List D} (r : Rep C φ H v (.tup l)) : ∃ p ys, v = .ref p ∧ SqT X.K H p ys ∧ RepL C φ H ys l := by
  obtain ⟨p, ys, e, h1, h2⟩ := r.tup
  exact ⟨p, ys, e, hK ▸ h1, h2⟩
include hK in
theorem c_len : CallR X (.builtin "len") (rP C .len) := cr_imp (CallR.or call_len_seq call_len_str) fun xs H Q ⟨φ, S, ds, hs, hr, pr⟩ => by
  rcases ds with _ | ⟨d, l⟩
  · exact pr.elim
  cases d <;> (try exact pr.elim) <;> (rcases l with _ | ⟨e, l⟩ <;> try exact pr.elim) <;> obtain ⟨v, rfl, r⟩ := rep1' hr
  · simp only [prim] at pr
    split at pr
    · rename_i hl
      exact .inr ⟨_, by rw [r.str], line_of hl, pr.int hs⟩
    · exact pr.elim
  · obtain ⟨p, ys, rfl, h1, h2⟩ := seq_of hK r
    exact .inl ⟨p, ys, rfl, .inr h1, by rw [h2.length]; exact pr.int hs⟩
  · obtain ⟨p, ys, rfl, h1, h2⟩ := r.lst
    exact .inl ⟨p, ys, rfl, .inl (SqL.of h1), by rw [h2.length]; exact pr.int hs⟩
  · rename_i l
    obtain ⟨p, rfl, h1⟩ := r.scr
    exact .inl ⟨p, _, rfl, .inl (hK ▸ h1), by rw [List.length_map]; exact pr.int hs⟩
include ok hK in
theorem c_list : CallR X (.type "list") (rP C .list_) := cr_imp call_list_of fun xs H Q ⟨φ, S, ds, hs, hr, pr⟩ => by
  rcases ds with _ | ⟨d, l⟩
  · exact pr.elim
  cases d <;> (try exact pr.elim) <;> (rcases l with _ | ⟨e, l⟩ <;> try exact pr.elim) <;> obtain ⟨v, rfl, r⟩ := rep1' hr
  · obtain ⟨p, ys, rfl, h1, h2⟩ := seq_of hK r
    exact ⟨p, ys, rfl, .inr h1, PR.newL ok hs h2 pr⟩
  · obtain ⟨p, ys, rfl, h1, h2⟩ := r.lst
    exact ⟨p, ys, rfl, .inl (SqL.of h1), PR.newL ok hs h2 pr⟩
include ok hK in
theorem c_tuple : CallR X (.type "tuple") (rP C .tuple_) := cr_imp call_tuple_of fun xs H Q ⟨φ, S, ds, hs, hr, pr⟩ => by
  rcases ds with _ | ⟨d, l⟩
  · exact pr.elim
  cases d <;> (try exact pr.elim) <;> (rcases l with _ | ⟨e, l⟩ <;> try exact pr.elim) <;> obtain ⟨v, rfl, r⟩ := rep1' hr
  · obtain ⟨p, ys, rfl, h1, h2⟩ := seq_of hK r
    exact ⟨p, ys, rfl, .inr ⟨h1, pr.now hs r⟩⟩
  · obtain ⟨p, ys, rfl, h1, h2⟩ := r.lst
    exact ⟨p, ys, rfl, .inl ⟨SqL.of h1, PR.newT ok hs h2 pr⟩⟩
theorem log_of {n : Nat} (h : n < 2 ^ 1900) : n.log2 < 1920 := by
  by_cases h0 : n = 0
  · rw [h0]; decide
  · have : n.log2 < 1900 := (Nat.log2_lt h0).mpr h
    omega
theorem c_str : CallR X (.type "str") (rP C .str_) := cr_imp (CallR.or call_str_int (show CallR X (.type "str") (fun xs H Q => ∃ b, xs = [.bl b] ∧ Q (.str (if b then "True" else "False")) H) from fun pins s σ H xs us Q I rx ⟨b, e, q⟩ => by
    subst e
    obtain ⟨u, rfl, r⟩ := vals1 rx
    cases (show u = Value.bool b from r)
    exact PySem.P.str_of_bool ⟨.str _, H, I.tok _, ⟨_, rfl⟩, q⟩)) fun xs H Q ⟨φ, S, ds, hs, hr, pr⟩ => by
  rcases ds with _ | ⟨d, l⟩
  · exact pr.elim
  cases d <;> (try exact pr.elim) <;> (rcases l with _ | ⟨e, l⟩ <;> try exact pr.elim) <;> obtain ⟨v, rfl, r⟩ := rep1' hr
  · exact .inr ⟨_, by rw [r.bl], pr.str hs⟩
  · simp only [prim] at pr
    split at pr
    · rename_i hl
      exact .inl ⟨_, by rw [r.int], log_of hl, pr.str hs⟩
    · exact pr.elim
theorem RepL.blsV : ∀ {l : List D} {ns : List Bool} {vs : List V}, blsOf l = some ns → RepL C φ H vs l → vs = ns.map V.bl
  | [], _, [], e, _ => by cases e; rfl
  | .bl i :: l, ns, v :: vs, e, h => by
    simp only [blsOf, Option.map_eq_some_iff] at e
    obtain ⟨ms, e1, rfl⟩ := e
    simp only [RepL] at h
    rw [h.1.bl, RepL.blsV e1 h.2]
    rfl
  | [], _, _ :: _, _, h => by simp only [RepL] at h
  | _ :: _, _, [], _, h => by simp only [RepL] at h
  | .non :: _, _, _ :: _, e, _ => by simp [blsOf] at e
  | .int _ :: _, _, _ :: _, e, _ => by simp [blsOf] at e
  | .str _ :: _, _, _ :: _, e, _ => by simp [blsOf] at e
  | .tup _ :: _, _, _ :: _, e, _ => by simp [blsOf] at e
  | .lst _ :: _, _, _ :: _, e, _ => by simp [blsOf] at e
  | .scr _ :: _, _, _ :: _, e, _ => by simp [blsOf] at e
  | .ref _ :: _, _, _ :: _, e, _ => by simp [blsOf] at e
  | .fn _ :: _, _, _ :: _, e, _ => by simp [blsOf] at e
  | .clo _ _ :: _, _, _ :: _, e, _ => by simp [blsOf] at e
  | .exc _ :: _, _, _ :: _, e, _ => by simp [blsOf] at e
theorem c_all (hc : X.calm = true) : CallR X (.builtin "all") (rP C .all) := cr_imp (cr_all hc) fun xs H Q ⟨φ, S, ds, hs, hr, pr⟩ => by
  rcases ds with _ | ⟨d, l⟩
  · exact pr.elim
  cases d <;> (try exact pr.elim) <;> (rcases l with _ | ⟨e, l⟩ <;> try exact pr.elim) <;> obtain ⟨v, rfl, r⟩ := rep1' hr
  obtain ⟨d, e, pr⟩ := ofO_some pr
  obtain ⟨bs, e', rfl⟩ := Option.map_eq_some_iff.mp e
  obtain ⟨p, ys, rfl, h1, h2⟩ := r.lst
  exact ⟨p, bs, rfl, SqL.of (by rw [h1, h2.blsV e']), pr.bl hs⟩
theorem c_any (hc : X.calm = true) : CallR X (.builtin "any") (rP C .any) := cr_imp (cr_any hc) fun xs H Q ⟨φ, S, ds, hs, hr, pr⟩ => by
  rcases ds with _ | ⟨d, l⟩
  · exact pr.elim
  cases d <;> (try exact pr.elim) <;> (rcases l with _ | ⟨e, l⟩ <;> try exact pr.elim) <;> obtain ⟨v, rfl, r⟩ := rep1' hr
  obtain ⟨d, e, pr⟩ := ofO_some pr
  obtain ⟨bs, e', rfl⟩ := Option.map_eq_some_iff.mp e
  obtain ⟨p, ys, rfl, h1, h2⟩ := r.lst
  exact ⟨p, bs, rfl, SqL.of (by rw [h1, h2.blsV e']), pr.bl hs⟩
theorem c_sum (hc : X.calm = true) : CallR X (.builtin "sum") (rP C .sum) := cr_imp (cr_sum hc) fun xs H Q ⟨φ, S, ds, hs, hr, pr⟩ => by
  rcases ds with _ | ⟨d, l⟩
  · exact pr.elim
  cases d <;> (try exact pr.elim) <;> (rcases l with _ | ⟨e, l⟩ <;> try exact pr.elim) <;> obtain ⟨v, rfl, r⟩ := rep1' hr
  obtain ⟨d, e, pr⟩ := ofO_some pr
  obtain ⟨bs, e', rfl⟩ := Option.map_eq_some_iff.mp e
  obtain ⟨p, ys, rfl, h1, h2⟩ := r.lst
  exact ⟨p, bs, rfl, SqL.of (by rw [h1, h2.ints e']), pr.int hs⟩
theorem maxL_unique : ∀ {l : List Int} {m : Int}, m ∈ l → (∀ y ∈ l, y ≤ m) → maxL l = m
  | [x], m, h, _ => by rw [List.mem_singleton.mp h]; rfl
  | x :: y :: l, m, h, k => by
    show max x (maxL (y :: l)) = m
    have top : ∀ l : List Int, l ≠ [] → maxL l ∈ l ∧ ∀ z ∈ l, z ≤ maxL l := fun l => by
      induction l with
      | nil => exact fun h => absurd rfl h
      | cons a l ih =>
        intro _
        cases l with
        | nil => exact ⟨by simp [maxL], by simp [maxL]⟩
        | cons b l =>
          obtain ⟨i1, i2⟩ := ih (by simp)
          have e : maxL (a :: b :: l) = max a (maxL (b :: l)) := rfl
          rw [e]
          refine ⟨?_, fun z hz => ?_⟩
          · by_cases c : a ≤ maxL (b :: l)
            · rw [Int.max_eq_right c]; exact List.mem_cons_of_mem _ i1
            · rw [Int.max_eq_left (by omega)]; exact List.mem_cons_self
          · rcases List.mem_cons.mp hz with q | q
            · rw [q]; omega
            · have := i2 z q; omega
    obtain ⟨h1, h2⟩ := top (x :: y :: l) (by simp)
    have e : maxL (x :: y :: l) = max x (maxL (y :: l)) := rfl
    rw [e] at h1 h2
    have a1 := k _ h1
    have a2 := h2 _ h
    omega
theorem minL_unique : ∀ {l : List Int} {m : Int}, m ∈ l → (∀ y ∈ l, m ≤ y) → minL l = m
  | [x], m, h, _ => by rw [List.mem_singleton.mp h]; rfl
  | x :: y :: l, m, h, k => by
    show min x (minL (y :: l)) = m
    have top : ∀ l : List Int, l ≠ [] → minL l ∈ l ∧ ∀ z ∈ l, minL l ≤ z := fun l => by
      induction l with
      | nil => exact fun h => absurd rfl h
      | cons a l ih =>
        intro _
        cases l with
        | nil => exact ⟨by simp [minL], by simp [minL]⟩
        | cons b l =>
          obtain ⟨i1, i2⟩ := ih (by simp)
          have e : minL (a :: b :: l) = min a (minL (b :: l)) := rfl
          rw [e]
          refine ⟨?_, fun z hz => ?_⟩
          · by_cases c : a ≤ minL (b :: l)
            · rw [Int.min_eq_left c]; exact List.mem_cons_self
            · rw [Int.min_eq_right (by omega)]; exact List.mem_cons_of_mem _ i1
          · rcases List.mem_cons.mp hz with q | q
            · rw [q]; omega
            · have := i2 z q; omega
    obtain ⟨h1, h2⟩ := top (x :: y :: l) (by simp)
    have e : minL (x :: y :: l) = min x (minL (y :: l)) := rfl
    rw [e] at h1 h2
    have a1 := k _ h1
    have a2 := h2 _ h
    omega
theorem c_max1 (hc : X.calm = true) : CallR X (.builtin "max") (rP C .max1) := cr_imp (cr_max hc) fun xs H Q ⟨φ, S, ds, hs, hr, pr⟩ => by
  rcases ds with _ | ⟨d, l⟩
  · exact pr.elim
  cases d <;> (try exact pr.elim) <;> (rcases l with _ | ⟨e, l⟩ <;> try exact pr.elim) <;> obtain ⟨v, rfl, r⟩ := rep1' hr
  obtain ⟨d, e, pr⟩ := ofO_some pr
  obtain ⟨bs, e', e2⟩ := Option.bind_eq_some_iff.mp e
  split at e2
  · cases e2
  · rename_i hne
    cases e2
    obtain ⟨p, ys, rfl, h1, h2⟩ := r.lst
    refine ⟨p, bs, rfl, SqL.of (by rw [h1, h2.ints e']), ?_, fun m h k => ?_⟩
    · cases bs with
      | nil => exact absurd rfl hne
      | cons _ _ => exact Nat.succ_pos _
    · rw [← maxL_unique h k]; exact pr.int hs
theorem c_min1 (hc : X.calm = true) : CallR X (.builtin "min") (rP C .min1) := cr_imp (cr_min hc) fun xs H Q ⟨φ, S, ds, hs, hr, pr⟩ => by
  rcases ds with _ | ⟨d, l⟩
  · exact pr.elim
  cases d <;> (try exact pr.elim) <;> (rcases l with _ | ⟨e, l⟩ <;> try exact pr.elim) <;> obtain ⟨v, rfl, r⟩ := rep1' hr
  obtain ⟨d, e, pr⟩ := ofO_some pr
  obtain ⟨bs, e', e2⟩ := Option.bind_eq_some_iff.mp e
  split at e2
  · cases e2
  · rename_i hne
    cases e2
    obtain ⟨p, ys, rfl, h1, h2⟩ := r.lst
    refine ⟨p, bs, rfl, SqL.of (by rw [h1, h2.ints e']), ?_, fun m h k => ?_⟩
    · cases bs with
      | nil => exact absurd rfl hne
      | cons _ _ => exact Nat.succ_pos _
    · rw [← minL_unique h k]; exact pr.int hs
end
end SF

set_option maxHeartbeats 200000
set_option Elab.async false
set_option linter.all false
set_option maxRecDepth 100000
/-! not in. -/
namespace SF
open PySem PySem.Spec PyProof.Rows L2 RZ
section
variable {X : Cx} {C : Cn} (ok : CnOk C) (hK : C.K = X.K)
include ok hK
theorem o_nin (hu : X.A.units + 66 < cLine) : OpR X (compareOp .NotIn) fun x y => rP C .nin [x, y] := by
  intro pins s σ H x y v u Q I rx ry ⟨φ, S, ds, hs, hr, pr⟩
  obtain ⟨a, b, rfl, ra, rb⟩ := rep2 hr
  obtain ⟨d, e9, pr⟩ := bO_some pr
  obtain ⟨d0, e, ed⟩ := Option.map_eq_some_iff.mp e9
  subst ed
  clear e9
  have key : ∀ l : List D, inL S a l = some d0 → ∀ vs p, (SqL X.K H p vs ∨ SqT X.K H p vs) → RepL C φ H vs l → V.ref p = y → wpAny (model X.prog X.w) X.A (compareOp .NotIn v u) (EP X pins σ Q) X.xe s := by
    intro l e vs p hq hl ep
    unfold inL at e
    split at e
    · rename_i da ps e1 e2
      split at e
      · rename_i hsh
        rw [Bool.and_eq_true] at hsh
        cases e
        obtain ⟨as, r1⟩ := Dp.reads I da x v (by rw [← hK]; exact Rep.dp hs a x da e1 ra) rx
        have hd : DpAll X.K H vs ps := by rw [← hK]; exact RepL.dp hs l vs ps e2 hl
        rcases hq with hq | hq
        · obtain ⟨bs, r2⟩ := Dp.reads I (.list ps) y u (ep ▸ .lst hq hd) ry
          exact SeqAt.notIn_list_reads r2 r1 (SeqAt.canLay_of_shaped hsh.2) (SeqAt.canLay_of_shaped hsh.1) (room_in_shaped hsh.1 (by omega)) ⟨.bl _, H, I, rfl, pr.bl hs⟩
        · obtain ⟨bs, r2⟩ := Dp.reads I (.tuple ps) y u (ep ▸ .tup hq hd) ry
          exact SeqAt.notIn_tuple_reads r2 r1 (SeqAt.canLay_of_shaped hsh.2) (SeqAt.canLay_of_shaped hsh.1) (room_in_shaped hsh.1 (by omega)) ⟨.bl _, H, I, rfl, pr.bl hs⟩
      · cases e
    · cases e
  unfold inD at e
  split at e
  · obtain ⟨p, ys, ep, g1, g2⟩ := rb.tup
    exact key _ e ys p (.inr (by rw [← hK]; exact g1)) g2 ep.symm
  · obtain ⟨p, ys, ep, g1, g2⟩ := rb.lst
    exact key _ e ys p (.inl (SqL.of g1)) g2 ep.symm
  · split at e
    · rename_i s0 _ z
      split at e
      · rename_i hl
        cases e
        have rx' := rx
        rw [ra.str] at rx'
        rw [rb.str] at ry
        have ez : z = ⟨#[z.cps.getD 0 0]⟩ := by
          obtain ⟨cps⟩ := z
          have hl : cps.size = 1 := hl
          congr 1
          apply Array.ext
          · simpa using hl
          · intro i h1 h2
            have : i = 0 := by omega
            subst this
            simp [Array.getD, hl]
        rw [ez] at rx'
        refine op_notIn_sign pins s σ H _ _ v u Q I rx' ry ⟨z.cps.getD 0 0, s0, rfl, rfl, pr.bl hs⟩
      · cases e
    · cases e
  · cases e
end
end SF

set_option maxHeartbeats 200000
set_option Elab.async false
set_option linter.all false
set_option maxRecDepth 100000
/-! sorted(set(t)), t a tuple of pairs. -/
namespace SF
open PySem PySem.Spec PyProof.Rows L2

/-! ### lists of pairs -/
abbrev LtP (p q : Int × Int) : Prop := ltP p q = true
theorem ltP_iff (p q : Int × Int) : LtP p q ↔ p.1 < q.1 ∨ (p.1 = q.1 ∧ p.2 < q.2) := by
  simp [LtP, ltP]
theorem ltP_trans {p q r : Int × Int} (h : LtP p q) (g : LtP q r) : LtP p r := by
  rw [ltP_iff] at *; omega
theorem ltP_irrefl (p : Int × Int) : ¬ LtP p p := by
  rw [ltP_iff]; omega
theorem ltP_tri {p q : Int × Int} (h : ¬ LtP p q) (g : ¬ LtP q p) : p = q := by
  rw [ltP_iff] at *
  have : p.1 = q.1 := by omega
  have : p.2 = q.2 := by omega
  exact Prod.ext ‹_› ‹_›
theorem ltP_ne {p q : Int × Int} (h : LtP p q) : p ≠ q := fun e => ltP_irrefl q (e ▸ h)
theorem mem_insP (x : Int × Int) : ∀ (l : List (Int × Int)) (z : Int × Int), z ∈ insP x l ↔ z = x ∨ z ∈ l
  | [], z => by simp [insP]
  | y :: l, z => by
    unfold insP
    by_cases h : ltP x y = true
    · rw [if_pos h]; simp
    · rw [if_neg h]
      by_cases g : ltP y x = true
      · rw [if_pos g, List.mem_cons, mem_insP x l z, List.mem_cons]
        constructor
        · rintro (a | a | a)
          · exact .inr (.inl a)
          · exact .inl a
          · exact .inr (.inr a)
        · rintro (a | a | a)
          · exact .inr (.inl a)
          · exact .inl a
          · exact .inr (.inr a)
      · rw [if_neg g]
        have e : x = y := ltP_tri h g
        rw [List.mem_cons]
        constructor
        · exact .inr
        · rintro (a | a)
          · exact .inl (a.trans e)
          · exact a
theorem insP_sorted (x : Int × Int) : ∀ (l : List (Int × Int)), l.Pairwise LtP → (insP x l).Pairwise LtP
  | [], _ => by simp [insP]
  | y :: l, h => by
    unfold insP
    rw [List.pairwise_cons] at h
    by_cases c : ltP x y = true
    · rw [if_pos c]
      refine List.pairwise_cons.mpr ⟨fun z hz => ?_, List.pairwise_cons.mpr h⟩
      rcases List.mem_cons.mp hz with q | q
      · exact q ▸ c
      · exact ltP_trans c (h.1 z q)
    · rw [if_neg c]
      by_cases g : ltP y x = true
      · rw [if_pos g]
        refine List.pairwise_cons.mpr ⟨fun z hz => ?_, insP_sorted x l h.2⟩
        rcases (mem_insP x l z).mp hz with q | q
        · exact q ▸ g
        · exact h.1 z q
      · rw [if_neg g]
        exact List.pairwise_cons.mpr h
theorem sortP_sorted : ∀ l : List (Int × Int), (sortP l).Pairwise LtP
  | [] => List.Pairwise.nil
  | x :: l => insP_sorted x _ (sortP_sorted l)
theorem mem_sortP : ∀ (l : List (Int × Int)) (z : Int × Int), z ∈ sortP l ↔ z ∈ l
  | [], z => by simp [sortP]
  | x :: l, z => by
    show z ∈ insP x (sortP l) ↔ _
    rw [mem_insP, mem_sortP l z, List.mem_cons]
theorem sorted_unique : ∀ {l m : List (Int × Int)}, l.Pairwise LtP → m.Pairwise LtP → (∀ x, x ∈ l ↔ x ∈ m) → l = m
  | [], [], _, _, _ => rfl
  | [], b :: m, _, _, h => absurd ((h b).mpr List.mem_cons_self) (by simp)
  | a :: l, [], _, _, h => absurd ((h a).mp List.mem_cons_self) (by simp)
  | a :: l, b :: m, hl, hm, h => by
    rw [List.pairwise_cons] at hl hm
    have e : a = b := by
      rcases List.mem_cons.mp ((h a).mp List.mem_cons_self) with q | q
      · exact q
      · rcases List.mem_cons.mp ((h b).mpr List.mem_cons_self) with r | r
        · exact r.symm
        · exact absurd (ltP_trans (hm.1 a q) (hl.1 b r)) (ltP_irrefl _)
    subst e
    refine congrArg (a :: ·) (sorted_unique hl.2 hm.2 fun x => ⟨fun hx => ?_, fun hx => ?_⟩)
    · rcases List.mem_cons.mp ((h x).mp (List.mem_cons_of_mem _ hx)) with q | q
      · exact absurd (hl.1 x hx) (by rw [q]; exact ltP_irrefl _)
      · exact q
    · rcases List.mem_cons.mp ((h x).mpr (List.mem_cons_of_mem _ hx)) with q | q
      · exact absurd (hm.1 x hx) (by rw [q]; exact ltP_irrefl _)
      · exact q
theorem perm_map_inv {α β : Type} {f : α → β} {vs ms : List β} (h : vs.Perm ms) : ∀ {L : List α}, ms = L.map f → ∃ L1 : List α, L1.Perm L ∧ vs = L1.map f := by
  induction h with
  | nil =>
    intro L e
    cases L with
    | nil => exact ⟨[], .nil, rfl⟩
    | cons _ _ => cases e
  | @cons x l1 l2 p ih =>
    intro L e
    cases L with
    | nil => cases e
    | cons a L =>
      rw [List.map_cons] at e
      injection e with e1 e2
      obtain ⟨L1, p1, e3⟩ := ih e2
      exact ⟨a :: L1, p1.cons a, by rw [List.map_cons, e1, e3]⟩
  | swap x y l =>
    intro L e
    cases L with
    | nil => cases e
    | cons a L =>
      cases L with
      | nil => cases e
      | cons b L =>
        rw [List.map_cons, List.map_cons] at e
        injection e with e1 e2
        injection e2 with e2 e3
        exact ⟨b :: a :: L, .swap _ _ _, by rw [List.map_cons, List.map_cons, e1, e2, e3]⟩
  | trans _ _ i1 i2 =>
    intro L e
    obtain ⟨L2, p2, e2⟩ := i2 e
    obtain ⟨L1, p1, e1⟩ := i1 e2
    exact ⟨L1, p1.trans p2, e1⟩

/-! ### set(t) -/
section
variable {P : Program} {w : World} {A : Around} {E : Value → Shared → Prop} {s : Shared}
/-- the empty set as it is laid -/
abbrev Set0 (w : World) : Obj := { cls := .type "set", dict := none, data := .set #[] 0 (.fresh 0 0 (!w.params.followText "set-order")) }
theorem set_tup_init {ax : Addr} {its : Array Value} (ks : List (Addr × List Int)) (hh : A.handled = none) (ht : s.heap.IsTuple ax its) (hit : its.toList = ks.map fun p => Value.ref p.1) (hk : ∀ p ∈ ks, IsT P w s.heap p.2 p.1) (hfew : ks.length < 64) (hu : A.units + 3 < cLine)
    (R : Result → Shared → Prop) (hR : ∀ h' tk L es ep t, SetTR P w h' s.heap.objs.size L es ep t → Got ks ks.length L → (∀ b o, s.heap.get? b = some o → h'.get? b = some o) → R (.ok (.ret .none)) { s with heap := h', toks := tk }) :
    codeAny (model P w) A.in1.in1 (.builtin "set.update.loop" ⟨[.ref s.heap.objs.size, .ref (s.heap.objs.size + 1)], []⟩) R { s with heap := (s.heap.push (Set0 w)).push { cls := .type "tuple_iterator", data := .fields #[.ref ax, .int 0 0] } } := by
  have hlt : ax < s.heap.objs.size := by
    obtain ⟨o, e, _⟩ := id ht
    exact Heap.lt_size e
  have hz : (s.heap.push (Set0 w)).objs.size = s.heap.objs.size + 1 := Heap.size_push ..
  have hl : its.size = ks.length := by
    have q := congrArg List.length hit
    rwa [Array.length_toList, List.length_map] at q
  have gone : ∀ b, s.heap.objs.size ≤ b → s.heap.get? b = none := fun b hb => by
    cases q : s.heap.get? b with
    | none => rfl
    | some o => exact absurd (Nat.lt_of_lt_of_le (Heap.lt_size q) hb) (Nat.lt_irrefl _)
  have kp : ∀ b o, s.heap.get? b = some o → ((s.heap.push (Set0 w)).push { cls := .type "tuple_iterator", data := .fields #[.ref ax, .int 0 0] }).get? b = some o := fun b o e => Heap.get?_push_of_some _ (Heap.get?_push_of_some _ e)
  have hS : ((s.heap.push (Set0 w)).push { cls := .type "tuple_iterator", data := .fields #[.ref ax, .int 0 0] }).get? s.heap.objs.size = some (Set0 w) := Heap.get?_push_of_some _ (Heap.get?_push_size _ rfl)
  have hI : ((s.heap.push (Set0 w)).push { cls := .type "tuple_iterator", data := .fields #[.ref ax, .int 0 0] }).get? (s.heap.objs.size + 1) = some { cls := .type "tuple_iterator", data := .fields #[.ref ax, .int 0 0] } := by
    rw [← hz]; exact Heap.get?_push_size _ rfl
  have W := (Walks.tuple (prog := P) (w := w) (A := A.in1.in1.in1) (by simpa using hh) (s.heap.objs.size + 1) ax (Nat.ne_of_lt (Nat.lt_succ_of_lt hlt)) its).toS
  refine set_update_tups W s.heap.objs.size (by
      simp only [List.mem_cons, List.not_mem_nil, or_false, not_or]
      exact ⟨Nat.ne_of_lt (Nat.lt_succ_self _), Nat.ne_of_gt hlt⟩) ks hl hfew (fun i v hv => ?_) s.heap hk (gone _ (Nat.le_refl _)) (fun b hb => gone b ?_) hu its.size 0 _ rfl (Nat.zero_le _)
    ⟨⟨_, hI, rfl, rfl⟩, (ht.push _).push _⟩ kp ⟨[], #[], 0, _, setTR_fresh hS, Got.zero ks⟩ fun s' L es ep t hm hs g hkp => ?_
  · have q : its.toList[i]? = some v := by rw [Array.getElem?_toList]; exact hv
    rw [hit, List.getElem?_map] at q
    obtain ⟨p, h1, h2⟩ := Option.map_eq_some_iff.mp q
    exact ⟨p, h1, h2.symm⟩
  · rw [List.mem_singleton.mp hb]
    exact Nat.le_succ _
  · obtain ⟨h', g2, d2, tk, os⟩ := s'
    have e1 : g2 = s.gens := hm.gens
    have e2 : d2 = s.drawn := hm.drawn
    have e3 : os = s.os := hm.os
    subst e1 e2 e3
    rw [hl] at g
    exact hR h' tk L es ep t hs g hkp
set_option maxHeartbeats 3200000 in
theorem set_tup {ax : Addr} {its : Array Value} (ks : List (Addr × List Int)) {Q : Value → Shared → Prop} (hh : A.handled = none) (ht : s.heap.IsTuple ax its) (hit : its.toList = ks.map fun p => Value.ref p.1) (hk : ∀ p ∈ ks, IsT P w s.heap p.2 p.1) (hfew : ks.length < 64) (hu : A.units + 3 < cLine)
    (hQ : ∀ (h' : Heap) (tk : Nat) L es ep t, SetTR P w h' s.heap.objs.size L es ep t → Got ks ks.length L → (∀ b o, s.heap.get? b = some o → h'.get? b = some o) → Q (.ref s.heap.objs.size) { s with heap := h', toks := tk }) : wpAny (model P w) A (call (.type "set") [.ref ax]) Q E s := by
  obtain ⟨c, tl, hmro⟩ := F.called_set.mro
  have hmade := F.called_set.made
  have hsub := F.called_set.sub
  refine wpAny_call (codeAny_of_tree ?_)
  show wpAny _ _ (callAny (.type "set") _) _ _ _
  refine wpAny_pure ⟨Code.quiet_builtin _ (by decide +kernel), codeAny_builtin F.entry_type_call ?_⟩
  rw [Around.under_plain (weight_type_call_type "set" [.ref ax] []) rfl]
  have k1 := F.called_set.notType
  have k2 := F.called_set.canCreate
  have k3 := F.typeCall_set_1 (.ref ax)
  repeat (any_goals (first | assumption | wp_step))
  refine codeAny_mono (code_set_led1 (.ref ax) (E := E) (Q₁ := fun obj s₁ => obj = .ref s.heap.objs.size ∧ s₁ = { s with heap := s.heap.push (Set0 w) }) ⟨rfl, rfl⟩) fun r s₁ hr => ?_
  rcases r with e | fl
  · exact hr
  cases fl with
  | ret obj =>
    obtain ⟨rfl, rfl⟩ := hr
    have hS : (s.heap.push (Set0 w)).get? s.heap.objs.size = some (Set0 w) := Heap.get?_push_size _ rfl
    have hT : Shared.TypeIs { s with heap := s.heap.push (Set0 w) } (.ref s.heap.objs.size) "set" := ⟨_, hS, rfl⟩
    have k4 := F.called_set.init.lookup
    have k5 := F.called_set.init.bind (.ref s.heap.objs.size)
    repeat (any_goals (first | assumption | wp_step))
    refine codeAny_mono (codeAny_call_builtin (R := wants (fun r s₂ => r = .none ∧ ∃ h' tk L es ep t, s₂ = { s with heap := h', toks := tk } ∧ SetTR P w h' s.heap.objs.size L es ep t ∧ Got ks ks.length L ∧ ∀ b o, s.heap.get? b = some o → h'.get? b = some o) E)
      F.called_set.init.plain F.entry_set_init (check_set_init_1 hT ?_)) fun r s₂ hr => ?_
    · have ht1 : (s.heap.push (Set0 w)).IsTuple ax its := ht.push _
      obtain ⟨⟨ocls, odict, odata, oslots⟩, hot, hcl, nl, hdl⟩ := id ht1
      simp only at hcl hdl
      subst hcl hdl
      have k6 := F.sub_tuple_set
      have k7 := F.sub_tuple_frozenset
      have k8 : (Value.type "tuple" == Value.type "dict") = false := by decide
      unfold Builtin.«set.__init__» noKeywords Builtin.Frozenset.updateFrom
      generalize hPI : pyIter = PI
      wp_walk
      subst hPI
      refine wpAny_pyIter_tuple ht1 ?_
      refine wpAny_bind (wpAny_runValue ?_)
      rw [show (s.heap.push (Set0 w)).objs.size = s.heap.objs.size + 1 from Heap.size_push ..]
      exact set_tup_init ks hh ht hit hk hfew hu _ fun h' tk L es ep t h1 h2 h3 => wpAny_pure (wpAny_pure ⟨rfl, h', tk, L, es, ep, t, rfl, h1, h2, h3⟩)
    · rcases r with e | fl
      · exact hr
      cases fl with
      | ret r =>
        obtain ⟨rfl, h', tk, L, es, ep, t, rfl, h1, h2, h3⟩ := hr
        repeat (any_goals (first | assumption | wp_step))
        exact hQ _ _ _ _ _ _ h1 h2 h3
      | _ => exact hr.elim
  | _ => exact hr.elim

theorem set_lst_init {ax : Addr} {its : Array Value} (ks : List (Addr × List Int)) (hh : A.handled = none) (ht : s.heap.IsList ax its) (hit : its.toList = ks.map fun p => Value.ref p.1) (hk : ∀ p ∈ ks, IsT P w s.heap p.2 p.1) (hfew : ks.length < 64) (hu : A.units + 3 < cLine)
    (R : Result → Shared → Prop) (hR : ∀ h' tk L es ep t, SetTR P w h' s.heap.objs.size L es ep t → Got ks ks.length L → (∀ b o, s.heap.get? b = some o → h'.get? b = some o) → R (.ok (.ret .none)) { s with heap := h', toks := tk }) :
    codeAny (model P w) A.in1.in1 (.builtin "set.update.loop" ⟨[.ref s.heap.objs.size, .ref (s.heap.objs.size + 1)], []⟩) R { s with heap := (s.heap.push (Set0 w)).push { cls := .type "list_iterator", data := .fields #[.ref ax, .int 0 0] } } := by
  have hlt : ax < s.heap.objs.size := by
    obtain ⟨o, e, _⟩ := id ht
    exact Heap.lt_size e
  have hz : (s.heap.push (Set0 w)).objs.size = s.heap.objs.size + 1 := Heap.size_push ..
  have hl : its.size = ks.length := by
    have q := congrArg List.length hit
    rwa [Array.length_toList, List.length_map] at q
  have gone : ∀ b, s.heap.objs.size ≤ b → s.heap.get? b = none := fun b hb => by
    cases q : s.heap.get? b with
    | none => rfl
    | some o => exact absurd (Nat.lt_of_lt_of_le (Heap.lt_size q) hb) (Nat.lt_irrefl _)
  have kp : ∀ b o, s.heap.get? b = some o → ((s.heap.push (Set0 w)).push { cls := .type "list_iterator", data := .fields #[.ref ax, .int 0 0] }).get? b = some o := fun b o e => Heap.get?_push_of_some _ (Heap.get?_push_of_some _ e)
  have hS : ((s.heap.push (Set0 w)).push { cls := .type "list_iterator", data := .fields #[.ref ax, .int 0 0] }).get? s.heap.objs.size = some (Set0 w) := Heap.get?_push_of_some _ (Heap.get?_push_size _ rfl)
  have hI : ((s.heap.push (Set0 w)).push { cls := .type "list_iterator", data := .fields #[.ref ax, .int 0 0] }).get? (s.heap.objs.size + 1) = some { cls := .type "list_iterator", data := .fields #[.ref ax, .int 0 0] } := by
    rw [← hz]; exact Heap.get?_push_size _ rfl
  have W := (Walks.list (prog := P) (w := w) (A := A.in1.in1.in1) (by simpa using hh) (s.heap.objs.size + 1) ax (Nat.ne_of_lt (Nat.lt_succ_of_lt hlt)) its).toS
  refine set_update_tups W s.heap.objs.size (by
      simp only [List.mem_cons, List.not_mem_nil, or_false, not_or]
      exact ⟨Nat.ne_of_lt (Nat.lt_succ_self _), Nat.ne_of_gt hlt⟩) ks hl hfew (fun i v hv => ?_) s.heap hk (gone _ (Nat.le_refl _)) (fun b hb => gone b ?_) hu its.size 0 _ rfl (Nat.zero_le _)
    ⟨⟨_, hI, rfl, rfl⟩, (ht.push _).push _⟩ kp ⟨[], #[], 0, _, setTR_fresh hS, Got.zero ks⟩ fun s' L es ep t hm hs g hkp => ?_
  · have q : its.toList[i]? = some v := by rw [Array.getElem?_toList]; exact hv
    rw [hit, List.getElem?_map] at q
    obtain ⟨p, h1, h2⟩ := Option.map_eq_some_iff.mp q
    exact ⟨p, h1, h2.symm⟩
  · rw [List.mem_singleton.mp hb]
    exact Nat.le_succ _
  · obtain ⟨h', g2, d2, tk, os⟩ := s'
    have e1 : g2 = s.gens := hm.gens
    have e2 : d2 = s.drawn := hm.drawn
    have e3 : os = s.os := hm.os
    subst e1 e2 e3
    rw [hl] at g
    exact hR h' tk L es ep t hs g hkp
set_option maxHeartbeats 3200000 in
theorem set_lst {ax : Addr} {its : Array Value} (ks : List (Addr × List Int)) {Q : Value → Shared → Prop} (hh : A.handled = none) (ht : s.heap.IsList ax its) (hit : its.toList = ks.map fun p => Value.ref p.1) (hk : ∀ p ∈ ks, IsT P w s.heap p.2 p.1) (hfew : ks.length < 64) (hu : A.units + 3 < cLine)
    (hQ : ∀ (h' : Heap) (tk : Nat) L es ep t, SetTR P w h' s.heap.objs.size L es ep t → Got ks ks.length L → (∀ b o, s.heap.get? b = some o → h'.get? b = some o) → Q (.ref s.heap.objs.size) { s with heap := h', toks := tk }) : wpAny (model P w) A (call (.type "set") [.ref ax]) Q E s := by
  obtain ⟨c, tl, hmro⟩ := F.called_set.mro
  have hmade := F.called_set.made
  have hsub := F.called_set.sub
  refine wpAny_call (codeAny_of_tree ?_)
  show wpAny _ _ (callAny (.type "set") _) _ _ _
  refine wpAny_pure ⟨Code.quiet_builtin _ (by decide +kernel), codeAny_builtin F.entry_type_call ?_⟩
  rw [Around.under_plain (weight_type_call_type "set" [.ref ax] []) rfl]
  have k1 := F.called_set.notType
  have k2 := F.called_set.canCreate
  have k3 := F.typeCall_set_1 (.ref ax)
  repeat (any_goals (first | assumption | wp_step))
  refine codeAny_mono (code_set_led1 (.ref ax) (E := E) (Q₁ := fun obj s₁ => obj = .ref s.heap.objs.size ∧ s₁ = { s with heap := s.heap.push (Set0 w) }) ⟨rfl, rfl⟩) fun r s₁ hr => ?_
  rcases r with e | fl
  · exact hr
  cases fl with
  | ret obj =>
    obtain ⟨rfl, rfl⟩ := hr
    have hS : (s.heap.push (Set0 w)).get? s.heap.objs.size = some (Set0 w) := Heap.get?_push_size _ rfl
    have hT : Shared.TypeIs { s with heap := s.heap.push (Set0 w) } (.ref s.heap.objs.size) "set" := ⟨_, hS, rfl⟩
    have k4 := F.called_set.init.lookup
    have k5 := F.called_set.init.bind (.ref s.heap.objs.size)
    repeat (any_goals (first | assumption | wp_step))
    refine codeAny_mono (codeAny_call_builtin (R := wants (fun r s₂ => r = .none ∧ ∃ h' tk L es ep t, s₂ = { s with heap := h', toks := tk } ∧ SetTR P w h' s.heap.objs.size L es ep t ∧ Got ks ks.length L ∧ ∀ b o, s.heap.get? b = some o → h'.get? b = some o) E)
      F.called_set.init.plain F.entry_set_init (check_set_init_1 hT ?_)) fun r s₂ hr => ?_
    · have ht1 : (s.heap.push (Set0 w)).IsList ax its := ht.push _
      obtain ⟨⟨ocls, odict, odata, oslots⟩, hot, hcl, nl, hdl⟩ := id ht1
      simp only at hcl hdl
      subst hcl hdl
      have k6 := F.sub_list_set
      have k7 := F.sub_list_frozenset
      have k8 : (Value.type "list" == Value.type "dict") = false := by decide
      unfold Builtin.«set.__init__» noKeywords Builtin.Frozenset.updateFrom
      generalize hPI : pyIter = PI
      wp_walk
      subst hPI
      refine wpAny_pyIter_list ht1 ?_
      refine wpAny_bind (wpAny_runValue ?_)
      rw [show (s.heap.push (Set0 w)).objs.size = s.heap.objs.size + 1 from Heap.size_push ..]
      exact set_lst_init ks hh ht hit hk hfew hu _ fun h' tk L es ep t h1 h2 h3 => wpAny_pure (wpAny_pure ⟨rfl, h', tk, L, es, ep, t, rfl, h1, h2, h3⟩)
    · rcases r with e | fl
      · exact hr
      cases fl with
      | ret r =>
        obtain ⟨rfl, h', tk, L, es, ep, t, rfl, h1, h2, h3⟩ := hr
        repeat (any_goals (first | assumption | wp_step))
        exact hQ _ _ _ _ _ _ h1 h2 h3
      | _ => exact hr.elim
  | _ => exact hr.elim

/-! ### sorted(set) -/
def key2 (p : Addr × List Int) : Int × Int := (p.2.getD 0 0, p.2.getD 1 0)
def leK (p q : Addr × List Int) : Bool := decide ((key2 p).1 < (key2 q).1 ∨ ((key2 p).1 = (key2 q).1 ∧ (key2 p).2 ≤ (key2 q).2))
theorem each_eq {out : List Value} {M : List (Addr × List Int)} (h : PySem.W.EachIs (fun v (q : Addr × List Int) => v = Value.ref q.1) out M) : out = M.map fun q => Value.ref q.1 := by
  induction h with
  | nil => rfl
  | cons h1 _ ih => rw [List.map_cons, h1, ih]
theorem sorted_set {a : Addr} {L : List (Addr × List Int)} {es : Array (Int × Value)} {ep : Nat} {t : SetTable} {Q : Value → Shared → Prop} (R : SetTR P w s.heap a L es ep t) (hh : A.handled = none) (h2 : ∀ p ∈ L, ∃ i j, p.2 = [i, j]) (hu : A.units + 60 < cLine)
    (hQ : ∀ s' p (out : Array Value) (c : Nat) (L1 : List (Addr × List Int)), (∀ b o, s.heap.get? b = some o → s'.heap.get? b = some o) → s'.gens = s.gens → s'.os = s.os → s.heap.objs.size ≤ p → s'.heap.get? p = some (seqObj "list" out c) → L1.Perm L → out.toList = (L1.mergeSort leK).map (fun q => Value.ref q.1) → Q (.ref p) s') :
    wpAny (model P w) A (call (.builtin "sorted") [.ref a]) Q E s := by
  obtain ⟨o, ho, hex, hd⟩ := R.ob
  have hsz := R.size
  have hfew := R.few
  refine Calls.call_function_entry kind_sorted plain_sorted entry_sorted (args_sorted1 _) ?_
  unfold Builtin.«sorted»
  refine wpAny_bind (m := checkCount "sorted" 1 1 _) (wpAny_pure ?_)
  refine wpAny_bind (collect_set (A := A.in1) hh ⟨o, ho, hex.1, hd⟩ R.fits (by unfold scanBound; omega) R.tab.ris R.led fun s1 vs k1 hz g1 o1 pm => ?_)
  have hes : es.toList.map (·.2) = L.map fun q => Value.ref q.1 := by
    rw [R.rows]
    unfold rowsOf
    rw [List.map_map] <;> rfl
  rw [hes] at pm
  obtain ⟨L1, p1, rfl⟩ := perm_map_inv pm rfl
  have hvl : L1.length < 64 := by rw [p1.length_eq]; exact hfew
  refine wpAny_bind (wpAny_newList ?_ (by rw [sizeLine_eq, List.length_map]; omega))
  have hoL : (s1.heap.push (seqObj "list" (L1.map fun q => Value.ref q.1).toArray 0)).get? s1.heap.objs.size = some (seqObj "list" (L1.map fun q => Value.ref q.1).toArray 0) := Heap.get?_push_size _ rfl
  let enc : Addr × List Int → PyData := fun p => .tuple [.int (key2 p).1, .int (key2 p).2]
  have hle : PySem.W.dataLe false enc = leK := PySem.W.dataLe_ii (fun p => (key2 p).1) (fun p => (key2 p).2)
  have rd : ∀ q ∈ L1, Reads (s1.heap.push (seqObj "list" (L1.map fun q => Value.ref q.1).toArray 0)) (.ref q.1) (enc q) [] := fun q hq => by
    have hqL := p1.mem_iff.mp hq
    obtain ⟨i, j, e⟩ := h2 q hqL
    obtain ⟨ob, its, n, h3, h4, h5, h6⟩ := isT_keep (R.tup q hqL) fun b u e => Heap.get?_push_of_some (seqObj "list" (L1.map fun q => Value.ref q.1).toArray 0) (k1 b u e)
    have hi := ints_of_items h6
    refine .tuple h3 h4 h5 ?_
    simp only [key2, e]
    rw [e] at hi
    generalize its.toList = l at hi
    cases hi with
    | cons _ t1 hi =>
      cases hi with
      | cons _ t2 hi =>
        cases hi
        exact .cons (as := []) (bs := []) (.int _ _) (.cons (as := []) (bs := []) (.int _ _) .nil)
  have each : ∀ (R : Value → Addr × List Int → Prop) (l : List (Addr × List Int)), (∀ q ∈ l, R (.ref q.1) q) → PySem.W.EachIs R (l.map fun q => Value.ref q.1) l := fun R l => by
    induction l with
    | nil => exact fun _ => .nil
    | cons q l ih => exact fun h => .cons (h q List.mem_cons_self) (ih fun r hr => h r (List.mem_cons_of_mem _ hr))
  refine wpAny_bind (wpAny_holding (PySem.W.list_sort_data (s := { s1 with heap := s1.heap.push (seqObj "list" (L1.map fun q => Value.ref q.1).toArray 0) }) (R := fun v q => v = Value.ref q.1) (bs := L1) (enc := enc) hoL (each _ _ fun q _ => rfl) (each _ _ fun q hq => ⟨[], rd q hq, by simp⟩)
    (PySem.W.AllAlike.of fun b b' => by simp [enc, PySem.W.alike, PySem.W.alikeAll]) (PySem.W.Sortable.tuples fun b => ⟨_, _, rfl⟩) (by rw [sizeLine_eq]; omega) (fun b _ => ?_) fun out hlen hout => ?_))
  · have : (enc b).depth = (enc b).depth := rfl
    simp [enc, PyData.depth, PyData.depthAll]
    omega
  obtain ⟨c, hc⟩ := sortedHeap_at (vs := L1.map fun q => Value.ref q.1) (out := out.toArray) hoL
  have ho2 : out = (L1.mergeSort leK).map fun q => Value.ref q.1 := by
    rw [hle] at hout
    exact each_eq hout
  refine wpAny_pure ⟨_, rfl, hQ _ s1.heap.objs.size out.toArray c L1 (fun b u e => ?_) g1 o1 hz hc p1 (by simpa using ho2)⟩
  have q := k1 b u e
  have hlt := Heap.lt_size q
  show (sortedHeap (s1.heap.push (seqObj "list" (L1.map fun q => Value.ref q.1).toArray 0)) s1.heap.objs.size _ out.toArray).get? b = some u
  rw [sortedHeap_old (Nat.ne_of_lt hlt) (by rw [size_push']; exact Nat.lt_succ_of_lt hlt)]
  exact Heap.get?_push_of_some _ q
end

/-! ### as an expression -/
section
variable {C : Cn} {φ : Lay} {H : Hp}
/-- a tuple of pairs: their places and what they are -/
theorem rep_pairs : ∀ {l : List D} {x : List (Int × Int)} {vs : List V}, pairs l = some x → RepL C φ H vs l →
    ∃ ks : List (Addr × List Int), vs = ks.map (fun p => V.ref p.1) ∧ x = ks.map key2 ∧ ∀ p ∈ ks, p.2 = [(key2 p).1, (key2 p).2] ∧ Rep C φ H (.ref p.1) (.tup [.int (key2 p).1, .int (key2 p).2]) := by
  intro l
  induction l with
  | nil =>
    intro x vs e r
    cases e
    cases vs with
    | nil => exact ⟨[], rfl, rfl, fun _ h => by cases h⟩
    | cons _ _ => simp only [RepL] at r
  | cons d l ih =>
    intro x vs e r
    unfold pairs at e
    split at e
    · rename_i h
      cases h
    · rename_i i j l' h
      cases h
      obtain ⟨y, e1, rfl⟩ := Option.map_eq_some_iff.mp e
      cases vs with
      | nil => simp only [RepL] at r
      | cons v vs =>
        simp only [RepL] at r
        obtain ⟨ks, rfl, rfl, hk⟩ := ih e1 r.2
        have r1 := r.1
        obtain ⟨a, us, rfl, _⟩ := r1.tup
        refine ⟨(a, [i, j]) :: ks, rfl, rfl, fun p hp => ?_⟩
        rcases List.mem_cons.mp hp with q | q
        · subst q
          exact ⟨rfl, r.1⟩
        · exact hk p q
    · cases e
theorem RepL.mapR {α : Type} {f : α → V} {g : α → D} : ∀ {l : List α}, (∀ x ∈ l, Rep C φ H (f x) (g x)) → RepL C φ H (l.map f) (l.map g)
  | [], _ => by simp only [List.map_nil, RepL]
  | x :: l, h => by
    simp only [List.map_cons, RepL]
    exact ⟨h x List.mem_cons_self, RepL.mapR fun y hy => h y (List.mem_cons_of_mem _ hy)⟩
theorem leK_sorted {L1 : List (Addr × List Int)} (hn : (L1.map key2).Nodup) : ((L1.mergeSort leK).map key2).Pairwise LtP := by
  have tr : ∀ a b c : Addr × List Int, leK a b = true → leK b c = true → leK a c = true := fun a b c h1 h2 => by
    simp only [leK, decide_eq_true_eq] at *
    omega
  have to : ∀ a b : Addr × List Int, (leK a b || leK b a) = true := fun a b => by
    simp only [leK, Bool.or_eq_true, decide_eq_true_eq]
    omega
  have p := List.pairwise_mergeSort tr to L1
  have nd : ((L1.mergeSort leK).map key2).Nodup := ((List.mergeSort_perm L1 leK).map key2).nodup_iff.mpr hn
  rw [List.pairwise_map]
  have nd' : (L1.mergeSort leK).Pairwise fun a b => key2 a ≠ key2 b := List.pairwise_map.mp nd
  refine (p.and nd').imp fun {a b} h => ?_
  rw [ltP_iff]
  have h1 := h.1
  simp only [leK, decide_eq_true_eq] at h1
  have h2 : ¬ ((key2 a).1 = (key2 b).1 ∧ (key2 a).2 = (key2 b).2) := fun q => h.2 (Prod.ext q.1 q.2)
  omega
variable {X : Cx} {W : WX} {call : D → List D → Sto → Res D} {gl : List D} (ok : CnOk C) (hK : C.K = X.K) {a : Expr} {l : List E} {p p2 q pos : Pos}
include ok hK in
theorem f_sortset (hc : X.calm = true) (hu : X.A.units + 66 < cLine) (hg : Gl X "sorted") (hm : X.mg "sorted" = none) (hg2 : Gl X "set") (hm2 : X.mg "set" = none) (h : DL X C W call gl l [a]) : PEe X C W call gl (.Call (.Name "sorted" p) [.Call (.Name "set" p2) [a] [] q] [] pos) (.pr .sortset l) := by
  have ha := h.all
  rw [List.all_cons, Bool.and_eq_true] at ha
  have na : starEach [a] X.env = (false, eval a X.env) :: starEach [] X.env := star_cons ha.1 [] X.env
  obtain ⟨x, rfl, he⟩ := h.one
  refine ⟨fun pins s σ H Q I h => ?_⟩
  refine Call_ (ld_blt I hg hm boot_sorted ?_)
  refine PyProof.Rows.callWith_builtin1 (PyProof.Rows.args_cons ?_ rfl) rfl rfl
  refine Call_ (ld_blt I hg2 hm2 PyProof.Rows.boot_set ?_)
  refine PyProof.Rows.callWith_type1 (PyProof.Rows.args_cons (thn (he.run pins s σ H _ I (strict1 ok h)) fun v s1 ⟨x, H1, I1, r1, φ, S, ds, hs, hr, pr⟩ => PyProof.Rows.args_nil ?_) na) na rfl
  obtain ⟨d, rfl, rd⟩ := rep1 hr
  cases d with
  | tup l =>
    simp only [prim] at pr
    split at pr
    · rename_i hl
      obtain ⟨d, e, pr⟩ := ofO_some pr
      obtain ⟨y, e1, rfl⟩ := Option.map_eq_some_iff.mp e
      obtain ⟨ax, vs, rfl, hq, hv⟩ := rd.tup
      cases r1
      rw [hK] at hq
      obtain ⟨ks, rfl, rfl, hk⟩ := rep_pairs e1 hv
      obtain ⟨its, rv, ht, _⟩ := I1.tuple hq
      have hks : ks.length = l.length := by
        have := hv.length
        rwa [List.length_map] at this
      have isk : ∀ p ∈ ks, IsT X.prog X.w s1.heap p.2 p.1 := fun p hp => by
        obtain ⟨h1, h2⟩ := hk p hp
        obtain ⟨b, us, e2, h3, h4⟩ := h2.tup
        injection e2 with e2
        subst e2
        refine I1.isT ?_
        rw [hK] at h3
        rw [h1]
        obtain ⟨u1, u2, rfl, q1, q2⟩ := rep2' h4
        rw [q1.int, q2.int] at h3
        exact h3
      refine set_tup (P := X.prog) (w := X.w) ks (I1.ok.hd hc) ht (by simpa using refs_of_vals rv) isk (by omega) (by omega) fun h' tk L es ep t R g k => PyProof.Rows.args_nil ?_
      have hL2 : ∀ p ∈ L, p ∈ ks := fun p hp => List.mem_of_mem_take (g.sub p hp)
      refine sorted_set R (I1.ok.hd hc) (fun p hp => ⟨_, _, (hk p (hL2 p hp)).1⟩) (by omega) fun s' pp out c L1 k2 g2 o2 hp hg2 p1 hout => ?_
      obtain ⟨so, hso, _⟩ := R.ob
      have hpp : s1.heap.objs.size ≤ pp := Nat.le_trans (Nat.le_of_lt (Heap.lt_size hso)) hp
      have hn : H1 pp = none := I1.hok.fresh hpp
      have kall : ∀ b o, s1.heap.get? b = some o → s'.heap.get? b = some o := fun b o e => k2 b o (k b o e)
      have hmem : ∀ p ∈ L1.mergeSort leK, p ∈ ks := fun p hp => hL2 p (p1.mem_iff.mp (List.mem_mergeSort.mp hp))
      have hlen : ((L1.mergeSort leK).map fun q => V.ref q.1).length ≤ sizeLine := by
        rw [List.length_map, List.length_mergeSort, p1.length_eq, sizeLine_eq]
        have := R.few
        omega
      have hvals : Vals ((L1.mergeSort leK).map fun q => V.ref q.1) out.toList := by rw [hout]; exact vals_of_refs _
      have J : L2.Inv X pins σ (upd H1 pp (.lst ((L1.mergeSort leK).map fun q => V.ref q.1))) { s1 with heap := s'.heap, gens := s'.gens, drawn := s'.drawn, toks := s'.toks } :=
        I1.call (ch := []) (Un.laid kall hpp hn) (I1.hok.laid kall hpp ⟨hlen, out.toList, c, hvals, hg2⟩) (by rw [g2]; exact I1.bare) (fun _ z => nomatch z)
      have e9 : s' = { s1 with heap := s'.heap, gens := s'.gens, drawn := s'.drawn, toks := s'.toks } := by
        cases s'
        cases s1
        cases o2
        rfl
      have nd : (L1.map key2).Nodup := by
        refine (p1.map key2).nodup_iff.mpr ?_
        have e8 : L.map (·.2) = (L.map key2).map fun k => [k.1, k.2] := by
          rw [List.map_map]
          exact List.map_congr_left fun p hp => (hk p (hL2 p hp)).1
        have q := R.nd
        rw [e8] at q
        exact (List.pairwise_map.mp q).imp fun {x y} h e => h (by rw [e])
      have eq : sortP (ks.map key2) = (L1.mergeSort leK).map key2 := by
        refine sorted_unique (sortP_sorted _) (leK_sorted nd) fun x => ?_
        rw [mem_sortP]
        constructor
        · intro hx
          obtain ⟨p, hp, rfl⟩ := List.mem_map.mp hx
          have q := g.all p (by rw [List.take_length]; exact hp)
          obtain ⟨r, hr, er⟩ := List.mem_map.mp q
          refine List.mem_map.mpr ⟨r, List.mem_mergeSort.mpr (p1.mem_iff.mpr hr), ?_⟩
          unfold key2
          rw [er]
        · intro hx
          obtain ⟨p, hp, rfl⟩ := List.mem_map.mp hx
          exact List.mem_map.mpr ⟨p, hmem p hp, rfl⟩
      rw [e9]
      refine ⟨.ref pp, _, J, rfl, PR.newL ok hs ?_ pr pp hn⟩
      rw [eq]
      unfold unpairs
      rw [List.map_map]
      exact RepL.mapR fun p hp => (hk p (hmem p hp)).2
    · exact pr.elim
  | lst l =>
    simp only [prim] at pr
    split at pr
    · rename_i hl
      obtain ⟨d, e, pr⟩ := ofO_some pr
      obtain ⟨y, e1, rfl⟩ := Option.map_eq_some_iff.mp e
      obtain ⟨ax, vs, rfl, hq0, hv⟩ := rd.lst
      have hq := SqL.of (K := X.K) hq0
      cases r1
      obtain ⟨ks, rfl, rfl, hk⟩ := rep_pairs e1 hv
      obtain ⟨its, rv, ht, _⟩ := I1.list hq
      have hks : ks.length = l.length := by
        have := hv.length
        rwa [List.length_map] at this
      have isk : ∀ p ∈ ks, IsT X.prog X.w s1.heap p.2 p.1 := fun p hp => by
        obtain ⟨h1, h2⟩ := hk p hp
        obtain ⟨b, us, e2, h3, h4⟩ := h2.tup
        injection e2 with e2
        subst e2
        refine I1.isT ?_
        rw [hK] at h3
        rw [h1]
        obtain ⟨u1, u2, rfl, q1, q2⟩ := rep2' h4
        rw [q1.int, q2.int] at h3
        exact h3
      refine set_lst (P := X.prog) (w := X.w) ks (I1.ok.hd hc) ht.isList (by simpa using refs_of_vals rv) isk (by omega) (by omega) fun h' tk L es ep t R g k => PyProof.Rows.args_nil ?_
      have hL2 : ∀ p ∈ L, p ∈ ks := fun p hp => List.mem_of_mem_take (g.sub p hp)
      refine sorted_set R (I1.ok.hd hc) (fun p hp => ⟨_, _, (hk p (hL2 p hp)).1⟩) (by omega) fun s' pp out c L1 k2 g2 o2 hp hg2 p1 hout => ?_
      obtain ⟨so, hso, _⟩ := R.ob
      have hpp : s1.heap.objs.size ≤ pp := Nat.le_trans (Nat.le_of_lt (Heap.lt_size hso)) hp
      have hn : H1 pp = none := I1.hok.fresh hpp
      have kall : ∀ b o, s1.heap.get? b = some o → s'.heap.get? b = some o := fun b o e => k2 b o (k b o e)
      have hmem : ∀ p ∈ L1.mergeSort leK, p ∈ ks := fun p hp => hL2 p (p1.mem_iff.mp (List.mem_mergeSort.mp hp))
      have hlen : ((L1.mergeSort leK).map fun q => V.ref q.1).length ≤ sizeLine := by
        rw [List.length_map, List.length_mergeSort, p1.length_eq, sizeLine_eq]
        have := R.few
        omega
      have hvals : Vals ((L1.mergeSort leK).map fun q => V.ref q.1) out.toList := by rw [hout]; exact vals_of_refs _
      have J : L2.Inv X pins σ (upd H1 pp (.lst ((L1.mergeSort leK).map fun q => V.ref q.1))) { s1 with heap := s'.heap, gens := s'.gens, drawn := s'.drawn, toks := s'.toks } :=
        I1.call (ch := []) (Un.laid kall hpp hn) (I1.hok.laid kall hpp ⟨hlen, out.toList, c, hvals, hg2⟩) (by rw [g2]; exact I1.bare) (fun _ z => nomatch z)
      have e9 : s' = { s1 with heap := s'.heap, gens := s'.gens, drawn := s'.drawn, toks := s'.toks } := by
        cases s'
        cases s1
        cases o2
        rfl
      have nd : (L1.map key2).Nodup := by
        refine (p1.map key2).nodup_iff.mpr ?_
        have e8 : L.map (·.2) = (L.map key2).map fun k => [k.1, k.2] := by
          rw [List.map_map]
          exact List.map_congr_left fun p hp => (hk p (hL2 p hp)).1
        have q := R.nd
        rw [e8] at q
        exact (List.pairwise_map.mp q).imp fun {x y} h e => h (by rw [e])
      have eq : sortP (ks.map key2) = (L1.mergeSort leK).map key2 := by
        refine sorted_unique (sortP_sorted _) (leK_sorted nd) fun x => ?_
        rw [mem_sortP]
        constructor
        · intro hx
          obtain ⟨p, hp, rfl⟩ := List.mem_map.mp hx
          have q := g.all p (by rw [List.take_length]; exact hp)
          obtain ⟨r, hr, er⟩ := List.mem_map.mp q
          refine List.mem_map.mpr ⟨r, List.mem_mergeSort.mpr (p1.mem_iff.mpr hr), ?_⟩
          unfold key2
          rw [er]
        · intro hx
          obtain ⟨p, hp, rfl⟩ := List.mem_map.mp hx
          exact List.mem_map.mpr ⟨p, hmem p hp, rfl⟩
      rw [e9]
      refine ⟨.ref pp, _, J, rfl, PR.newL ok hs ?_ pr pp hn⟩
      rw [eq]
      unfold unpairs
      rw [List.map_map]
      exact RepL.mapR fun p hp => (hk p (hmem p hp)).2
    · exact pr.elim
  | _ => exact pr.elim
end
end SF

set_option maxHeartbeats 200000
set_option Elab.async false
set_option linter.all false
set_option maxRecDepth 100000
/-! The forms of operations: which expression is which operation, with which parts. -/
namespace SF
open PySem PySem.Spec PyProof.Rows L2 RZ

/-- what the checker knows: names of built-ins that the module leaves as they are, of defs, of exception classes, of the module's other values -/
structure Gd where
  blt : List Str
  fns : List Str
  exs : List Str
  gn : List Str
  lc : LamC
  caps : Nat → List Str
  ml : Bool
def isGl (sc : Scope) (x : Str) : Bool := decide (sc.names.lookup x = some .globalImplicit)
/-- closures run as the interpreter says -/
def CloRun (P : Program) (w : World) (K : PySem.W.Frag) (mg : Str → Option Value) (base : Heap) (C : Cn) (call : D → List D → Sto → Res D) (k : Nat) : Prop :=
  ∀ (A : Around) (outer : List PySem.Env) (s : Shared) (H : Hp) (f : Addr) (i : Nat) (env ds : List D) (φ : Lay) (S : Sto) (us : List Value) (vs : List V) (Q : VK) (E : XK), Room k A → Env0 P w K mg base A outer s H → SR C φ S H → Rep C φ H (.ref f) (.clo i env) → RepL C φ H vs ds → Vals vs us →
    (match call (.clo i env) ds S with
    | .ok d S' => ∀ φ' H' v, Fr φ H φ' H' → SR C φ' S' H' → Rep C φ' H' v d → Q v H'
    | .exc c S' => ∀ φ' H' (da : Dk c), Fr φ H φ' H' → SR C φ' S' H' → E (.ref (C.clA c)) da.1 H'
    | .stuck => False) →
    codeAny (model P w) A (.call (.ref f) ⟨us, []⟩) (CR (L2N.CX P w) outer P w H s Q E) s
/-- the object at f is a function -/
def CloFn (C : Cn) : Prop := ∀ φ H f i env, Rep C φ H (.ref f) (.clo i env) → ∃ fo fd u, H f = some (.frz fo u) ∧ fo.cls = .type "function" ∧ fo.data = .func fd ∧ fo.dict = none
/-- what holds of a place in the code -/
structure XOk (X : Cx) (C : Cn) (W : WX) (call : D → List D → Sto → Res D) (gl : List D) (G : Gd) (N : List Str) (sc : Scope) (k : Nat) : Prop where
  eS : X.env.scope = sc
  eN : X.N = N
  nd : N.Nodup
  calm : X.calm = true
  ok : CnOk C
  hK : C.K = X.K
  rm : Room k X.A
  tk : L2N.Takes X W
  mg : ∀ x ∈ G.blt, X.mg x = none
  fns : ∀ (i : Nat) (x : Str), G.fns[i]? = some x → FnD X C call k x i
  glb : ∀ (i : Nat) (x : Str), G.gn[i]? = some x → ∃ d, gl[i]? = some d ∧ Glb C X.mg x d
  gdb : ("__debug__" : Str) ∉ G.fns ∧ ("__debug__" : Str) ∉ G.gn
  clos : CloRun X.prog X.w X.K X.mg X.base C call k
  cfn : CloFn C
  cal : ∀ d ds S, (∀ (i : Nat) (x : Str), d = .fn i → G.fns[i]? ≠ some x) → (∀ i e, d ≠ .clo i e) → call d ds S = .stuck
  cb : G.ml = true → ∀ x c, X.env.cells.lookup x = some c → X.base.get? c = none ∧ c ∉ frs X.stack
  lam : G.ml = true → ∃ fnA clA T c P, C = mkC X.K fnA clA T G.lc G.caps ∧ X.env.code = .ref c ∧ LamX.TabB X.base X.mg c P ∧ (P, X.env.qual ++ "<lambda>") ∈ T ∧ ∀ p ∈ T, p.1 = P → p.2 = X.env.qual ++ "<lambda>"

section
variable {X : Cx} {C : Cn} {W : WX} {call : D → List D → Sto → Res D} {gl : List D} {G : Gd} {N : List Str} {sc : Scope} {k : Nat} (O : XOk X C W call gl G N sc k)
include O
theorem XOk.un : X.A.units + 66 < cLine := by have := O.rm.un; omega
theorem XOk.isGl {x : Str} (h : isGl sc x = true) : Gl X x := by
  have h := of_decide_eq_true h
  show X.env.scope.names.lookup x = _
  rw [O.eS]
  exact h
end
def binOk : Pr → Operator → Bool
  | .add, .Add | .sub, .Sub | .mul, .Mult | .fdiv, .FloorDiv | .mod, .Mod | .pow, .Pow => true
  | _, _ => false
def cmpOk : Pr → CmpOp → Bool
  | .eq, .Eq | .ne, .NotEq | .lt, .Lt | .le, .LtE | .gt, .Gt | .ge, .GtE | .in_, .In | .nin, .NotIn | .isB, .Is | .notB, .IsNot => true
  | _, _ => false
def isNone : Expr → Bool
  | .Constant .none _ _ => true
  | _ => false
def bltF (G : Gd) (sc : Scope) (p : Pr) (x : Str) (args : List Expr) : Option (List Expr) := match p, args with
  | .abs, [a] => if x = "abs" then some [a] else none
  | .len, [a] => if x = "len" then some [a] else none
  | .sum, [a] => if x = "sum" then some [a] else none
  | .any, [a] => if x = "any" then some [a] else none
  | .all, [a] => if x = "all" then some [a] else none
  | .max1, [a] => if x = "max" then some [a] else none
  | .min1, [a] => if x = "min" then some [a] else none
  | .max2, [a, b] => if x = "max" then some [a, b] else none
  | .min2, [a, b] => if x = "min" then some [a, b] else none
  | .int_, [a] => if x = "int" then some [a] else none
  | .str_, [a] => if x = "str" then some [a] else none
  | .tuple_, [a] => if x = "tuple" then some [a] else none
  | .list_, [a] => if x = "list" then some [a] else none
  | .sortset, [.Call (.Name y _) [a] [] _] => if x = "sorted" ∧ y = "set" ∧ isGl sc "set" = true ∧ ("set" : Str) ∈ G.blt then some [a] else none
  | .isi .int, [a, .Name y _] => if x = "isinstance" ∧ y = "int" ∧ isGl sc "int" = true ∧ ("int" : Str) ∈ G.blt then some [a] else none
  | .isi .bool, [a, .Name y _] => if x = "isinstance" ∧ y = "bool" ∧ isGl sc "bool" = true ∧ ("bool" : Str) ∈ G.blt then some [a] else none
  | .isi .str, [a, .Name y _] => if x = "isinstance" ∧ y = "str" ∧ isGl sc "str" = true ∧ ("str" : Str) ∈ G.blt then some [a] else none
  | .isi .tuple, [a, .Name y _] => if x = "isinstance" ∧ y = "tuple" ∧ isGl sc "tuple" = true ∧ ("tuple" : Str) ∈ G.blt then some [a] else none
  | _, _ => none
def notCall : Expr → Bool
  | .Call _ _ _ _ => false
  | _ => true
theorem base_of {e : Expr} (h : notCall e = true) (m : Str) (env : PySem.Env) : attributeBase e m env (eval e env) = eval e env := by
  cases e <;> first | rfl | exact Bool.noConfusion h
def metF (p : Pr) (o : Expr) (m : Str) (args : List Expr) (ap cp : Pos) : Option (List Expr) := match p, args with
  | .upper, [] => if m = "upper" ∧ notCall o = true ∧ (ap.endLine == cp.line) = true then some [o] else none
  | _, _ => none
def prF (G : Gd) (sc : Scope) (p : Pr) (e : Expr) : Option (List Expr) := match e with
  | .BinOp a op b _ => if binOk p op then some [a, b] else none
  | .UnaryOp .USub a _ => if p = .neg then some [a] else none
  | .Compare a [op] [b] _ => if (p = .isN ∧ op = .Is) ∨ (p = .notN ∧ op = .IsNot) then (if isNone b then some [a] else none) else if cmpOk p op && !behindInMarks op b then some [a, b] else none
  | .Tuple es _ _ => if p = .tup then some es else none
  | .List es _ => if p = .lst ∨ p = .newl then some es else none
  | .Subscript a b _ => if p = .ix ∧ noSlice b = true then some [a, b] else none
  | .Call (.Name x _) args [] _ => if isGl sc x = true ∧ x ∈ G.blt then bltF G sc p x args else none
  | .Call (.Attribute o m ap) args [] cp => metF p o m args ap cp
  | _ => none
theorem ite_some {α : Type} {c : Prop} [Decidable c] {x y : α} (h : (if c then some x else none) = some y) : c ∧ x = y := by
  split at h
  · exact ⟨‹c›, Option.some.inj h⟩
  · cases h
/-! ### isinstance -/
section
variable {X : Cx} {C : Cn} {W : WX} {call : D → List D → Sto → Res D} {gl : List D} (ok : CnOk C) (hK : C.K = X.K) {a : Expr} {l : List E} {p p2 pos : Pos}
theorem pe_tyName {x : Str} {T : String} (hg : Gl X x) (hm : X.mg x = none) (hv : bootBuiltins x = some (.type T)) (hn : x ≠ "__name__" := by decide) (hd : (x == ("__debug__" : Str)) = false := by decide) : PE X (.Name x p) (tC (.ty T)) :=
  ⟨fun pins s σ H Q I h => ld_blt I hg hm hv ⟨.ty T, H, I, rfl, h⟩ hn hd⟩
def tyName : Ty → String
  | .int => "int"
  | .bool => "bool"
  | .str => "str"
  | .tuple => "tuple"
  | _ => ""
def tyBase : Ty → Bool
  | .int | .bool | .str | .tuple => true
  | _ => false
include hK in
theorem isTy_of {φ : Lay} {H : Hp} {v : V} {d : D} {t : Ty} {b : Bool} (ht : tyBase t = true) (r : Rep C φ H v d) (h : isTy t d = some b) : ∃ u, TyX X.K H v u ∧ PySem.W.kitOne X.K u (.type (tyName t)) = some b := by
  cases d with
  | non => cases r.non; cases h; exact ⟨_, .base .non, by cases t <;> first | rfl | exact Bool.noConfusion ht⟩
  | bl x => cases r.bl; cases h; exact ⟨_, .base (.bl x), by cases t <;> first | rfl | exact Bool.noConfusion ht⟩
  | int x => cases r.int; cases h; exact ⟨_, .base (.int x), by cases t <;> first | rfl | exact Bool.noConfusion ht⟩
  | str x => cases r.str; cases h; exact ⟨_, .base (.str x), by cases t <;> first | rfl | exact Bool.noConfusion ht⟩
  | tup l =>
    have q : PySem.W.kitOne X.K (.type "tuple") (.type (tyName t)) = some b := by
      cases h
      cases t <;> first | rfl | exact Bool.noConfusion ht
    obtain ⟨A, vs, rfl, hq, _⟩ := r.tup
    rw [hK] at hq
    rcases hq with hq | ⟨o, _, _, e, c, _⟩
    · rcases hq with hq | ⟨o, hq⟩
      · exact ⟨_, .base (.tup hq), q⟩
      · exact ⟨_, .fTuple hq, q⟩
    · exact ⟨_, .kTuple e c, q⟩
  | lst l =>
    obtain ⟨A, vs, rfl, hq, _⟩ := r.lst
    cases h
    exact ⟨_, .base (.lst hq), by cases t <;> first | rfl | exact Bool.noConfusion ht⟩
  | _ => cases h
include ok hK in
theorem f_isi {t : Ty} {x y : Str} (ht : tyBase t = true) (hx : x = "isinstance") (hg : Gl X x) (hm : X.mg x = none) (hgy : Gl X y) (hmy : X.mg y = none) (hv : bootBuiltins y = some (.type (tyName t))) (hn : y ≠ "__name__") (hd : (y == ("__debug__" : Str)) = false) (h : DL X C W call gl l [a]) :
    PEe X C W call gl (.Call (.Name x p) [a, .Name y p2] [] pos) (.pr (.isi t) l) := by
  subst hx
  have ha := h.all
  rw [List.all_cons, Bool.and_eq_true] at ha
  obtain ⟨z, rfl, he⟩ := h.one
  have na : starEach [a, .Name y p2] X.env = (false, eval a X.env) :: starEach [.Name y p2] X.env := star_cons ha.1 _ X.env
  refine pe_imp (pe_callB call_isi hg hm PyProof.Rows.boot_isinstance (pa_cons he (pa_cons (pe_tyName hgy hmy hv hn hd) pa_nil rfl) na) (by decide) (by decide) na rfl) fun σ H Q q => ?_
  refine (strict1 ok q).imp fun v H1 ⟨φ, S, ds, hs, hr, pr⟩ => ?_
  obtain ⟨d, rfl, r⟩ := rep1 hr
  obtain ⟨b, e, pr⟩ := bO_some pr
  obtain ⟨u, h1, h2⟩ := isTy_of hK ht r e
  exact ⟨v, .ty (tyName t), u, .type (tyName t), b, rfl, .ty _, h1, h2, pr.bl hs⟩
include ok in
theorem f_upper {o : Expr} {ap cp : Pos} (hb : notCall o = true) (hline : (ap.endLine == cp.line) = true) (h : DL X C W call gl l [o]) : PEe X C W call gl (.Call (.Attribute o "upper" ap) [] [] cp) (.pr .upper l) := by
  obtain ⟨z, rfl, he⟩ := h.one
  refine pe_imp (pe_bm0 PySem.F.plainAttrs_str PySem.F.slot_str_upper PySem.F.type_str_upper mt_upper he (base_of hb _ _) hline) fun σ H Q q => ?_
  refine (strict1 ok q).imp fun v H1 ⟨φ, S, ds, hs, hr, pr⟩ => ?_
  obtain ⟨d, rfl, r⟩ := rep1 hr
  cases d with
  | str x =>
    simp only [prim] at pr
    split at pr
    · rename_i hl
      rw [r.str]
      have : x.length ≤ 100000 := of_decide_eq_true hl
      exact ⟨rfl, x, rfl, rfl, by omega, pr.str hs⟩
    · exact pr.elim
  | _ => exact pr.elim
end
/-! ### soundness of the forms -/
section
variable {X : Cx} {C : Cn} {W : WX} {call : D → List D → Sto → Res D} {gl : List D} {G : Gd} {N : List Str} {sc : Scope} {k : Nat} (O : XOk X C W call gl G N sc k) {p : Pr} {l : List E} {es : List Expr}
include O
theorem bltF_ok {x : Str} {args : List Expr} {q pos : Pos} (hg : isGl sc x = true) (hx : x ∈ G.blt) (h : bltF G sc p x args = some es) (d : DL X C W call gl l es) : PEe X C W call gl (.Call (.Name x q) args [] pos) (.pr p l) := by
  have g := O.isGl hg
  have m := O.mg x hx
  have ok := O.ok
  have hK := O.hK
  have hc := O.calm
  unfold bltF at h
  split at h
  · obtain ⟨rfl, rfl⟩ := ite_some h
    exact f_blt ok c_abs g m boot_abs (by decide) (by decide) d
  · obtain ⟨rfl, rfl⟩ := ite_some h
    exact f_blt ok (c_len hK) g m PySem.boot_len (by decide) (by decide) d
  · obtain ⟨rfl, rfl⟩ := ite_some h
    exact f_blt ok (c_sum hc) g m boot_sum (by decide) (by decide) d
  · obtain ⟨rfl, rfl⟩ := ite_some h
    exact f_blt ok (c_any hc) g m boot_any (by decide) (by decide) d
  · obtain ⟨rfl, rfl⟩ := ite_some h
    exact f_blt ok (c_all hc) g m boot_all (by decide) (by decide) d
  · obtain ⟨rfl, rfl⟩ := ite_some h
    exact f_blt ok (c_max1 hc) g m boot_max (by decide) (by decide) d
  · obtain ⟨rfl, rfl⟩ := ite_some h
    exact f_blt ok (c_min1 hc) g m boot_min (by decide) (by decide) d
  · obtain ⟨rfl, rfl⟩ := ite_some h
    exact f_blt ok (c_max2 hc) g m boot_max (by decide) (by decide) d
  · obtain ⟨rfl, rfl⟩ := ite_some h
    exact f_blt ok (c_min2 hc) g m boot_min (by decide) (by decide) d
  · obtain ⟨rfl, rfl⟩ := ite_some h
    exact f_blT ok c_int g m PyProof.Rows.boot_int (by decide) (by decide) d
  · obtain ⟨rfl, rfl⟩ := ite_some h
    exact f_blT ok c_str g m PyProof.Rows.boot_str (by decide) (by decide) d
  · obtain ⟨rfl, rfl⟩ := ite_some h
    exact f_blT ok (c_tuple ok hK) g m PyProof.Rows.boot_tuple (by decide) (by decide) d
  · obtain ⟨rfl, rfl⟩ := ite_some h
    exact f_blT ok (c_list ok hK) g m PyProof.Rows.boot_list (by decide) (by decide) d
  · obtain ⟨⟨rfl, rfl, e1, e2⟩, rfl⟩ := ite_some h
    exact f_sortset ok hK hc O.un g m (O.isGl e1) (O.mg _ e2) d
  · obtain ⟨⟨rfl, rfl, e1, e2⟩, rfl⟩ := ite_some h
    exact f_isi ok hK rfl rfl g m (O.isGl e1) (O.mg _ e2) PyProof.Rows.boot_int (by decide) (by decide) d
  · obtain ⟨⟨rfl, rfl, e1, e2⟩, rfl⟩ := ite_some h
    exact f_isi ok hK rfl rfl g m (O.isGl e1) (O.mg _ e2) PyProof.Rows.boot_bool (by decide) (by decide) d
  · obtain ⟨⟨rfl, rfl, e1, e2⟩, rfl⟩ := ite_some h
    exact f_isi ok hK rfl rfl g m (O.isGl e1) (O.mg _ e2) PyProof.Rows.boot_str (by decide) (by decide) d
  · obtain ⟨⟨rfl, rfl, e1, e2⟩, rfl⟩ := ite_some h
    exact f_isi ok hK rfl rfl g m (O.isGl e1) (O.mg _ e2) PyProof.Rows.boot_tuple (by decide) (by decide) d
  · cases h
theorem metF_ok {o : Expr} {m : Str} {args : List Expr} {ap cp : Pos} (h : metF p o m args ap cp = some es) (d : DL X C W call gl l es) : PEe X C W call gl (.Call (.Attribute o m ap) args [] cp) (.pr p l) := by
  unfold metF at h
  split at h
  · obtain ⟨⟨rfl, e1, e2⟩, rfl⟩ := ite_some h
    exact f_upper O.ok e1 e2 d
  · cases h
theorem nobehind' {op : CmpOp} {b : Expr} (h : (!behindInMarks op b) = true) : behindInMarks op b = false := by simpa using h
theorem bin_ok {op : Operator} {a b : Expr} {pos : Pos} (h : binOk p op = true) (d : DL X C W call gl l [a, b]) : PEe X C W call gl (.BinOp a op b pos) (.pr p l) := by
  have ok := O.ok
  have hK := O.hK
  unfold binOk at h
  split at h
  · exact f_bin ok (o_add ok hK) d
  · exact f_bin ok o_sub d
  · exact f_bin ok (o_mul ok hK) d
  · exact f_bin ok o_div d
  · exact f_bin ok o_mod d
  · exact f_bin ok o_pow d
  · cases h
theorem cmp_op {op : CmpOp} (h : cmpOk p op = true) : isCmp p = true ∧ OpR X (compareOp op) fun x y => rP C p [x, y] := by
  have ok := O.ok
  have hK := O.hK
  have hu := O.un
  unfold cmpOk at h
  split at h
  · exact ⟨rfl, o_eq hK hu⟩
  · exact ⟨rfl, o_ne hK hu⟩
  · exact ⟨rfl, o_lt hK hu⟩
  · exact ⟨rfl, o_le hK hu⟩
  · exact ⟨rfl, o_gt⟩
  · exact ⟨rfl, o_ge⟩
  · exact ⟨rfl, o_in hK hu⟩
  · exact ⟨rfl, o_nin ok hK hu⟩
  · exact ⟨rfl, o_isB⟩
  · exact ⟨rfl, o_notB⟩
  · cases h
theorem isNone_of {b : Expr} (h : isNone b = true) : ∃ k p, b = .Constant .none k p := by
  unfold isNone at h
  split at h
  · exact ⟨_, _, rfl⟩
  · cases h
theorem prF_ok {e : Expr} (h : prF G sc p e = some es) (d : DL X C W call gl l es) : PEe X C W call gl e (.pr p l) := by
  have ok := O.ok
  have hK := O.hK
  unfold prF at h
  split at h
  · obtain ⟨e1, rfl⟩ := ite_some h
    exact bin_ok O e1 d
  · obtain ⟨rfl, rfl⟩ := ite_some h
    exact f_un ok u_neg d
  · split at h
    · rename_i hp
      obtain ⟨e1, rfl⟩ := ite_some h
      obtain ⟨k, q, rfl⟩ := isNone_of O e1
      rcases hp with ⟨rfl, rfl⟩ | ⟨rfl, rfl⟩
      · exact f_isN ok d
      · exact f_notN ok d
    · obtain ⟨e1, rfl⟩ := ite_some h
      rw [Bool.and_eq_true] at e1
      exact f_cmp ok (nobehind' O e1.2) (cmp_op O e1.1).2 d
  · obtain ⟨rfl, rfl⟩ := ite_some h
    exact f_tup ok d
  · obtain ⟨e1, rfl⟩ := ite_some h
    rcases e1 with rfl | rfl
    · exact f_lst ok d
    · exact f_newl ok d
  · obtain ⟨⟨rfl, e1⟩, rfl⟩ := ite_some h
    exact f_ix ok hK e1 d
  · split at h
    · rename_i e1
      exact bltF_ok O e1.1 e1.2 h d
    · cases h
  · exact metF_ok O h d
  · cases h
/-- a comparison's test -/
theorem prF_test {e : Expr} {q : Pos} {a b : Expr} {op : CmpOp} (he : e = .Compare a [op] [b] q) (h : prF G sc p e = some es) (d : DL X C W call gl l es) : PTe X C W call gl e (.pr p l) := by
  subst he
  have ok := O.ok
  simp only [prF] at h
  split at h
  · rename_i hp
    obtain ⟨e1, rfl⟩ := ite_some h
    obtain ⟨k, q, rfl⟩ := isNone_of O e1
    rcases hp with ⟨rfl, rfl⟩ | ⟨rfl, rfl⟩
    · refine test_one ok rfl (pt_cmp (pc_isN d.one.choose_spec.2) (nobehind _ (by decide) (by decide))) fun σ H Q q => ?_
      obtain ⟨hl, _⟩ := d.one.choose_spec
      rw [hl] at q
      refine (strict1 ok q).imp fun v H1 ⟨φ, S, ds, hs, hr, pr⟩ => ?_
      obtain ⟨d, rfl, r⟩ := rep1 hr
      rw [isN_of ok r]
      exact PR.bl hs pr
    · refine test_one ok rfl (pt_cmp (pc_notN d.one.choose_spec.2) (nobehind _ (by decide) (by decide))) fun σ H Q q => ?_
      obtain ⟨hl, _⟩ := d.one.choose_spec
      rw [hl] at q
      refine (strict1 ok q).imp fun v H1 ⟨φ, S, ds, hs, hr, pr⟩ => ?_
      obtain ⟨d, rfl, r⟩ := rep1 hr
      rw [isN_of ok r]
      exact PR.bl hs pr
  · obtain ⟨e1, rfl⟩ := ite_some h
    rw [Bool.and_eq_true] at e1
    exact test_cmp ok (cmp_op O e1.1).1 (nobehind' O e1.2) (cmp_op O e1.1).2 d
end
end SF

set_option maxHeartbeats 200000
set_option Elab.async false
set_option linter.all false
set_option maxRecDepth 100000
/-! A call whose first argument is a lambda. -/
namespace SF
open PySem PySem.Spec PyProof.Rows L2 RZ LamX

def noDfl (a : Arguments) : Bool := a.defaults.isEmpty && a.kw_defaults.isEmpty
theorem noDfl_of {a : Arguments} (h : noDfl a = true) (env : PySem.Env) : defaultsOf a env = ([], []) := by
  obtain ⟨p1, p2, p3, p4, p5, p6, p7⟩ := a
  unfold noDfl at h
  simp only [Bool.and_eq_true, List.isEmpty_iff] at h
  obtain ⟨h1, h2⟩ := h
  subst h1 h2
  rfl
theorem SR.outO {C : Cn} {φ : Lay} {S : Sto} {H : Hp} (s : SR C φ S H) {b : Addr} {o : HO} (e : H b = some o) (n : ∀ l, o ≠ .lst l) : φ.out b := by
  refine ⟨fun m => ?_, fun m => ?_⟩
  · obtain ⟨i, hi⟩ := List.mem_iff_getElem?.mp m
    obtain ⟨hl, _⟩ := List.getElem?_eq_some_iff.mp hi
    have hl' : i < List.length S := by rw [← s.len]; exact hl
    have q := s.obj i S[i] b (List.getElem?_eq_getElem hl') hi
    cases e2 : S[i] with
    | lst l =>
      rw [e2] at q
      obtain ⟨vs, z, _⟩ := q
      rw [e] at z
      exact n vs (Option.some.inj z)
    | ins c fs =>
      rw [e2] at q
      exact q
  · obtain ⟨vs, z⟩ := s.hid b m
    rw [e] at z
    exact n vs (Option.some.inj z)
theorem fr_tabs {φ : Lay} {H H1 : Hp} (eN : ExtN H H1) (bk : ∀ b, H1 b = none → H b = none) : Fr φ H φ H1 := ⟨⟨[], by simp⟩, rfl, fun b o _ e t => eN b o e t, fun _ h => .inl h, bk⟩
theorem SR.tabs {C : Cn} (ok : CnOk C) {φ : Lay} {S : Sto} {H H1 : Hp} (s : SR C φ S H) (eN : ExtN H H1) (bk : ∀ b, H1 b = none → H b = none) (ht : C.tab H1) : SR C φ S H1 where
  len := s.len
  nd := s.nd
  obj := fun i o a h1 h2 => by
    have q := s.obj i o a h1 h2
    cases o with
    | lst l =>
      obtain ⟨vs, e, r⟩ := q
      exact ⟨vs, eN _ _ e (fun _ z => by cases z), RepL.mono ok (fr_tabs eN bk) l vs r⟩
    | ins _ _ => exact q
  tab := ht
  hid := fun b hb => let ⟨vs, e⟩ := s.hid b hb; ⟨vs, eN _ _ e fun _ z => by cases z⟩
theorem caps_ws {C : Cn} {φ : Lay} {H : Hp} {ρ : Env} {σ : L2.St} (e : ER C φ H ρ σ) : ∀ {caps : List Nat} {env : List D}, (caps.mapM fun j => ρ[j]?.join) = some env → ∃ ws : List V, ws.length = caps.length ∧ RepL C φ H ws env ∧ ∀ (j m : Nat) (w : V), caps[j]? = some m → ws[j]? = some w → σ[m]? = some (some w)
  | [], env, h => by
    have h : some ([] : List D) = some env := h
    cases h
    refine ⟨[], rfl, by simp only [RepL], fun j m w h _ => ?_⟩
    have h : (none : Option Nat) = some m := h
    cases h
  | c :: caps, env, h => by
    rw [List.mapM_cons] at h
    cases h1 : ρ[c]?.join with
    | none => rw [h1] at h; cases h
    | some d =>
      rw [h1] at h
      cases h2 : caps.mapM fun j => ρ[j]?.join with
      | none => rw [h2] at h; cases h
      | some ds =>
        rw [h2] at h
        cases h
        obtain ⟨ws, l1, r1, k1⟩ := caps_ws e h2
        have h3 : ρ[c]? = some (some d) := by
          cases q : ρ[c]? with
          | none => rw [q] at h1; cases h1
          | some o =>
            rw [q] at h1
            cases o with
            | none => cases h1
            | some d' => cases h1; rfl
        obtain ⟨v, g1, g2⟩ := e.get c d h3
        refine ⟨v :: ws, by rw [List.length_cons, List.length_cons, l1], by simp only [RepL]; exact ⟨g2, r1⟩, fun j m w a b => ?_⟩
        cases j with
        | zero =>
          have a : some c = some m := a
          have b : some v = some w := b
          cases a
          cases b
          exact g1
        | succ j => exact k1 j m w (by simpa using a) (by simpa using b)
/-- what a lambda's making asks of the place -/
structure LamP (sc scope : Scope) (N : List Str) (caps : List Nat) (cn : List Str) : Prop where
  len : caps.length = cn.length
  ix : ∀ (j m : Nat) (y : Str), caps[j]? = some m → cn[j]? = some y → N[m]? = some y ∧ scope.names.lookup y = some .free
  free : ∀ y ∈ scope.names, y.2 = .free → sc.names.lookup y.1 = some .cell ∨ sc.names.lookup y.1 = some .free
def lamPB (sc scope : Scope) (N : List Str) (caps : List Nat) (cn : List Str) : Bool :=
  decide (caps.length = cn.length) && (caps.zip cn).all (fun p => decide (N[p.1]? = some p.2) && decide (scope.names.lookup p.2 = some .free)) && scope.names.all fun y => !decide (y.2 = .free) || decide (sc.names.lookup y.1 = some .cell) || decide (sc.names.lookup y.1 = some .free)
theorem lamP_by {sc scope : Scope} {N : List Str} {caps : List Nat} {cn : List Str} (h : lamPB sc scope N caps cn = true) : LamP sc scope N caps cn := by
  unfold lamPB at h
  simp only [Bool.and_eq_true, Bool.or_eq_true, Bool.not_eq_true', decide_eq_true_eq, decide_eq_false_iff_not, List.all_eq_true] at h
  obtain ⟨⟨h1, h2⟩, h3⟩ := h
  refine ⟨h1, fun j m y a b => ?_, fun y hy e => ?_⟩
  · exact h2 (m, y) (List.mem_iff_getElem?.mpr ⟨j, by rw [List.getElem?_zip_eq_some]; exact ⟨a, b⟩⟩)
  · rcases h3 y hy with (z | z) | z
    · exact absurd e z
    · exact .inl z
    · exact .inr z
section
variable {X : Cx} {C : Cn} {W : WX} {call : D → List D → Sto → Res D} {gl : List D} {G : Gd} {N : List Str} {sc : Scope} {k : Nat} (O : XOk X C W call gl G N sc k)
include O
theorem val_callL {g i : Nat} {caps : List Nat} {l : List E} {es : List Expr} {x : Str} {p lp pos : Pos} {params : Arguments} {body : Expr} {scope : Scope} (hml : G.ml = true) (hx : G.fns[g]? = some x) (hgl : isGl sc x = true) (hd : (x == ("__debug__" : Str)) = false) (hlc : G.lc i params body scope = true) (hdf : noDfl params = true)
    (hP : LamP sc scope N caps (G.caps i)) (d : DL X C W call gl l es) : PEe X C W call gl (.Call (.Name x p) (.Lambda params body scope lp :: es) [] pos) (.callL g i caps l) := by
  have ok := O.ok
  obtain ⟨fnA, clA, T, c, P, eC, hcode, TB, hm, hu⟩ := O.lam hml
  have F := O.fns g x hx
  obtain ⟨fd, ps, hF, hb⟩ := F.ex
  refine ⟨fun pins s σ H Q I ⟨φ, S, ρ, hs, he, t⟩ => ?_⟩
  simp only [ev] at t
  cases hcap : caps.mapM fun j => ρ[j]?.join with
  | none => rw [hcap] at t; exact t.elim
  | some env =>
    rw [hcap] at t
    have hfree : ∀ y ∈ scope.names, y.2 = .free → ∃ c, X.env.cells.lookup y.1 = some c := fun y hy e => by
      rcases hP.free y hy e with q | q
      · exact I.ok.has _ (.inl (by show X.env.scope.names.lookup _ = _; rw [O.eS]; exact q))
      · exact I.ok.has _ (.inr (by show X.env.scope.names.lookup _ = _; rw [O.eS]; exact q))
    have cm : ∀ {y c}, (y, c) ∈ cloFrom X.env.cells scope.names [] → X.env.cells.lookup y = some c := fun {y c} hm => by
      rcases cloFrom_mem hm with hm | ⟨h1, h2⟩
      · cases hm
      · obtain ⟨c1, hc⟩ := hfree _ h1 rfl
        have hc : X.env.cells.lookup y = some c1 := hc
        rw [h2, hc]
        rfl
    refine wpAny_Call_Name_kw (ld_glob I (O.isGl hgl) F.mg ?_ hd)
    refine PySem.W.callWith_K (h₀ := X.base) I.ok.mod.kin F.kp ?_ rfl (back_any pos X.env d.all)
    show wpAny _ _ (spliced ((false, eval (.Lambda params body scope lp) X.env) :: backTo pos (starEach es X.env))) _ _ s
    have hT : Tabs T H := by
      have q := hs.tab
      rw [eC] at q
      exact q
    refine Calls.spliced_cons (lam_make3 I TB hcode hm hu hT (noDfl_of hdf _) hfree fun f c' pm ctv H1 s1 I1 eN bk T1 hsz hf hfn hfr hco => ?_)
    have fr1 : Fr φ H φ H1 := fr_tabs eN bk
    have s1R : SR C φ S H1 := hs.tabs ok eN bk (by rw [eC]; exact T1)
    have I1' : L2.Inv X ((f, PySem.W.kla_obj "<lambda>" (X.env.qual ++ "<lambda>") params body scope (cloFrom X.env.cells scope.names []) pm c' ctv) :: pins) σ H1 s1 := I1.pins_of fun q hq => by
      rcases List.mem_cons.mp hq with z | z
      · subst z
        exact ⟨hf, hfn, Nat.ne_of_gt (Nat.lt_of_lt_of_le I.lt hsz), I.nofs hsz, fun v z => nomatch z⟩
      · exact I1.pin q (List.mem_append_right _ z)
    refine thn ((DL.pa ok d).run pos _ s1 σ H1 _ I1' (TR.seq (R := RepL C) (f := evL call gl l) ok s1R (he.mono ok fr1) (TR.fr fr1 t))) fun us s2 ⟨vs, H2, I2, r2, φ2, S2, ds, fr2, s2R, e2, rds, t2⟩ => ?_
    refine ⟨I2.kIn, ?_⟩
    cases hcall : call (.fn g) (.clo i env :: ds) S2 with
    | stuck => rw [hcall] at t2; exact t2.elim
    | exc c S3 => rw [hcall] at t2; exact t2.elim
    | ok d3 S3 =>
      rw [hcall] at t2
      simp only at t2
      split at t2
      case isFalse => exact t2.elim
      rename_i hpl
      simp only [Bool.and_eq_true, beq_iff_eq] at hpl
      have hpin := I2.pin (f, _) (List.mem_append_right _ List.mem_cons_self)
      obtain ⟨ws, wl, wr, wk⟩ := caps_ws e2 hcap
      have cin : ∀ {b}, cset f (cloFrom X.env.cells scope.names []) b = true → b = f ∨ ∃ y, X.env.cells.lookup y = some b := fun {b} h => by
        simp only [cset, Bool.or_eq_true, decide_eq_true_eq] at h
        rcases h with h | h
        · exact .inl h
        · obtain ⟨⟨y, c⟩, hm, rfl⟩ := List.mem_map.mp h
          exact .inr ⟨y, cm hm⟩
      have t0 : Trk X H2 s2.heap f (cloFrom X.env.cells scope.names []) := {
        no := fun b h => by
          rcases cin h with rfl | ⟨y, e⟩
          · exact hpin.2.1
          · exact I2.freeC y b e
        get := fun b h => by
          rcases cin h with rfl | ⟨y, e⟩
          · exact ⟨_, hpin.1⟩
          · obtain ⟨v, o, ho, _⟩ := I2.cell y b e
            exact ⟨o, ho⟩
        base := fun b h => by
          rcases cin h with rfl | ⟨y, e⟩
          · exact Heap.get?_none_of_le (Nat.le_trans I.ok.bsz (Nat.le_trans I.sz hsz))
          · exact (O.cb hml y b e).1
        fr := fun b h => by
          rcases cin h with rfl | ⟨y, e⟩
          · exact hfr
          · exact (O.cb hml y b e).2 }
      have look : ∀ {y}, scope.names.lookup y = some .free → ∃ c, (cloFrom X.env.cells scope.names []).lookup y = some c := fun {y} hl => mem_lookup (cloFrom_has (cells := X.env.cells) (acc := []) (PySem.mem_of_lookup hl))
      have rep : Rep C φ2 (trk s2.heap f (cloFrom X.env.cells scope.names []) (rkL env + 1) H2) (.ref f) (.clo i env) := by
        simp only [Rep]
        refine ⟨ws, ?_, RepL.kp ok ⟨⟨[], by simp⟩, fun b o n e _ => ⟨n, t0.keep e⟩⟩ env ws wr⟩
        rw [eC]
        have hco2 : H2 c' = some (CodeO c' (X.env.qual ++ "<lambda>")) := fr2.keep c' _ (s1R.outO hco fun l z => by unfold CodeO at z; cases z).1 hco codeO_ne
        refine ⟨f, c', pm, ctv, X.env.qual ++ "<lambda>", params, body, scope, cloFrom X.env.cells scope.names [], rfl, hlc, s2R.free hpin.2.1, s2R.outO hco2 (fun l z => by unfold CodeO at z; cases z), trk_in cset_f hpin.1, t0.keep hco2, by rw [wl]; exact hP.len, fun y z c e1 e2 => I2.ok.inj y z c (cm (PySem.mem_of_lookup e1)) (cm (PySem.mem_of_lookup e2)),
          fun y c e => ?_, fun y hy e => ?_, fun j y w e1 e3 => ?_⟩
        · have ec := cm e
          obtain ⟨v, o, ho, hdt⟩ := I2.cell y c ec
          exact ⟨s2R.free (I2.freeC y c ec), o, v, trk_in (cset_m e) ho, hdt⟩
        · exact mem_lookup (cloFrom_has (cells := X.env.cells) (acc := []) (show (y.1, NameKind.free) ∈ scope.names by rw [← e]; exact hy))
        · have hj : j < caps.length := by
            rw [hP.len]
            exact (List.getElem?_eq_some_iff.mp e1).1
          have hm2 : caps[j]? = some caps[j] := List.getElem?_eq_getElem hj
          obtain ⟨h1, h2⟩ := hP.ix j _ y hm2 e1
          have h3 := wk j _ w hm2 e3
          obtain ⟨mm, hn, hl⟩ := I2.loc
          have hvis : Vis X.env.scope y := by
            rw [O.eS]
            rcases hP.free (y, .free) (PySem.mem_of_lookup h2) rfl with q | q
            · exact .inr (.inl q)
            · exact .inr (.inr q)
          obtain ⟨u, ru, lk⟩ := hl _ y w (by rw [O.eN]; exact h1) h3 hvis
          obtain ⟨c2, hc2⟩ := look h2
          have ec := cm (PySem.mem_of_lookup hc2)
          rcases lk with ⟨k1, _⟩ | ⟨_, c3, e4, o, ho, hdt⟩
          · have k1 : X.env.scope.names.lookup y = some .local := k1
            rw [O.eS] at k1
            rcases hP.free (y, .free) (PySem.mem_of_lookup h2) rfl with q | q <;> rw [show sc.names.lookup y = _ from q] at k1 <;> cases k1
          · rw [ec] at e4
            cases e4
            exact ⟨c2, o, u, hc2, trk_in (cset_c hc2) ho, hdt, ru⟩
      have s3R : SR C φ2 S2 (trk s2.heap f (cloFrom X.env.cells scope.names []) (rkL env + 1) H2) := s2R.more ok fun b o e => t0.keep e
      have sp : spOf C (call (.fn g)) (.ref f :: vs) (trk s2.heap f (cloFrom X.env.cells scope.names []) (rkL env + 1) H2) (fun v H4 => ∃ φ4, Fr φ2 (trk s2.heap f (cloFrom X.env.cells scope.names []) (rkL env + 1) H2) φ4 H4 ∧ SR C φ4 S3 H4 ∧ Rep C φ4 H4 v d3) (fun _ _ _ => False) := by
        refine ⟨φ2, S2, .clo i env :: ds, s3R, by simp only [RepL]; exact ⟨rep, RepL.kp ok ⟨⟨[], by simp⟩, fun b o n e _ => ⟨n, t0.keep e⟩⟩ ds vs rds⟩, ?_⟩
        rw [hcall]
        exact fun φ4 H4 v g4 s4 r4 => ⟨φ4, g4, s4, r4⟩
      have hl := hF.len _ _ _ _ sp
      have hl2 : (Value.ref f :: us).length = ps.length := by
        rw [← hl, List.length_cons, List.length_cons, r2.length]
      refine wpAny_call (codeAny_mono (hF.run X.A X.stack s2 _ ⟨.ref f :: us, []⟩ (.ref f :: us) (.ref f :: vs) _ _ O.rm (t0.env0 I2) (by
        have b := hb s2 (.ref f :: us) I2.kIn (by rw [List.append_nil]; exact hl2)
        rwa [List.append_nil] at b) (.cons rfl r2) sp) fun r s' hq => ?_)
      cases r with
      | error e =>
        obtain ⟨_, _, _, _, _, _, _, _, _, _, _, _, z⟩ := hq
        exact z.elim
      | ok fl =>
        cases fl with
        | ret u =>
          obtain ⟨v, H4, os, bare, un, hok, rv, φ4, g4, s4, r4⟩ := hq
          have I3 := (t0.back I2 un hok os bare).pins_of (pins' := pins) fun q hq => (t0.back I2 un hok os bare).pin q (List.mem_append_right _ (List.mem_cons_of_mem _ hq))
          have lw := t0.low (r := rkL env + 1) (H4 := H4) fun b o u e => un.frzs b o u e
          have tb : C.tab (untrk f (cloFrom X.env.cells scope.names []) H4) := ok.tab _ _ s4.tab fun b o e _ _ n => lw b o e fun x => n x _
          exact ⟨v, _, I3, rv, t2 φ4 _ v (t0.frame g4) (s4.low ok (Nat.succ_pos _) hpl.2 lw tb) (Rep.low ok lw d3 v (by rw [hpl.1]; exact Nat.succ_pos _) r4)⟩
        | next => exact False.elim hq
        | brk => exact False.elim hq
        | cont => exact False.elim hq
end
end SF

set_option maxHeartbeats 200000
set_option Elab.async false
set_option linter.all false
set_option maxRecDepth 100000
/-! Calls of what a name holds: defs, closures. -/
namespace SF
open PySem PySem.Spec PyProof.Rows L2 RZ LamX

/-- the cells alone -/
def celB (cl : List (Str × Addr)) (b : Addr) : Bool := decide (b ∈ cl.map (·.2))
def ucl (cl : List (Str × Addr)) (H : Hp) : Hp := fun b => if celB cl b then none else H b
/-- and back -/
def rcl (cl : List (Str × Addr)) (H H' : Hp) : Hp := fun b => if celB cl b then H b else H' b
theorem ucl_in {cl : List (Str × Addr)} {H : Hp} {b : Addr} (h : celB cl b = true) : ucl cl H b = none := by unfold ucl; rw [if_pos h]
theorem ucl_out {cl : List (Str × Addr)} {H : Hp} {b : Addr} (h : celB cl b = false) : ucl cl H b = H b := by unfold ucl; rw [if_neg (by rw [h]; exact Bool.false_ne_true)]
theorem rcl_in {cl : List (Str × Addr)} {H H' : Hp} {b : Addr} (h : celB cl b = true) : rcl cl H H' b = H b := by unfold rcl; rw [if_pos h]
theorem rcl_out {cl : List (Str × Addr)} {H H' : Hp} {b : Addr} (h : celB cl b = false) : rcl cl H H' b = H' b := by unfold rcl; rw [if_neg (by rw [h]; exact Bool.false_ne_true)]
/-- the cells of a closure that is at hand -/
structure Cel (H : Hp) (cl : List (Str × Addr)) (r : Nat) : Prop where
  at_ : ∀ b, celB cl b = true → ∃ o x, H b = some (.frz o (.own r)) ∧ o.data = .cell x
theorem Cel.low {H : Hp} {cl : List (Str × Addr)} {r : Nat} (c : Cel H cl r) : ∀ b o, H b = some o → (∀ x, o ≠ .frz x (.own r)) → ucl cl H b = some o := fun b o e h => by
  cases hb : celB cl b with
  | false => rw [ucl_out hb]; exact e
  | true =>
    obtain ⟨o', x, q, _⟩ := c.at_ b hb
    rw [e] at q
    exact absurd (Option.some.inj q) (h o')
section
variable {P : Program} {w : World} {K : PySem.W.Frag} {mg : Str → Option Value} {base : Heap} {A : Around} {outer : List PySem.Env} {s s' : Shared} {H H' : Hp} {cl : List (Str × Addr)} {r : Nat}
theorem Cel.hok (c : Cel H cl r) {h : Heap} (x : HOk P w H h) : HOk P w (ucl cl H) h := fun b o e => by
  cases hb : celB cl b with
  | true => rw [ucl_in hb] at e; cases e
  | false =>
    rw [ucl_out hb] at e
    refine (x b o e).stay (fun c v _ q => q) (fun d q => ?_) fun d xs q => ?_
    · exact c.low _ _ q fun _ z => by cases z
    · exact c.low _ _ q fun _ z => by cases z
theorem Cel.env0 (c : Cel H cl r) (e : Env0 P w K mg base A outer s H) : Env0 P w K mg base A outer s (ucl cl H) := by
  have no : ∀ b, H b = none → ucl cl H b = none := fun b h => by
    cases hb : celB cl b with
    | true => exact ucl_in hb
    | false => rw [ucl_out hb]; exact h
  exact ⟨e.frames, e.mod, fun b o h => ⟨(e.bs b o h).1, no b (e.bs b o h).2⟩, e.bsz, e.funs, fun b h => no b (e.frf b h), c.hok e.hok, e.bare⟩
/-- where the cells are none: they stand in the state, out of the frames, out of the base -/
theorem Cel.get (c : Cel H cl r) (e : Env0 P w K mg base A outer s H) {b : Addr} (hb : celB cl b = true) : ∃ o x, H b = some (.frz o (.own r)) ∧ o.data = .cell x ∧ s.heap.get? b = some o ∧ b ∉ frs outer ∧ base.get? b = none := by
  obtain ⟨o, x, h1, h2⟩ := c.at_ b hb
  refine ⟨o, x, h1, h2, (e.hok b _ h1).1, fun m => ?_, ?_⟩
  · rw [e.frf b m] at h1; cases h1
  · cases q : base.get? b with
    | none => rfl
    | some ob => rw [(e.bs b ob q).2] at h1; cases h1
theorem Cel.back (c : Cel H cl r) (e : Env0 P w K mg base A outer s H) (u : Un (frs outer) [] (ucl cl H) H' s.heap s'.heap) (hok : HOk P w H' s'.heap) : Un (frs outer) [] H (rcl cl H H') s.heap s'.heap ∧ HOk P w (rcl cl H H') s'.heap := by
  have none' : ∀ b, H b = none → ucl cl H b = none ∧ celB cl b = false := fun b h => by
    cases hb : celB cl b with
    | true =>
      obtain ⟨o, x, q, _⟩ := c.at_ b hb
      rw [h] at q; cases q
    | false => exact ⟨by rw [ucl_out hb]; exact h, rfl⟩
  have cell' : ∀ b, celB cl b = true → ∃ o, H b = some (.frz o (.own r)) ∧ s'.heap.get? b = some o ∧ H' b = none := fun b hb => by
    obtain ⟨o, x, h1, _, h2, h3, _⟩ := c.get e hb
    exact ⟨o, h1, u.keep b o h2 (ucl_in hb) h3 (by simp), u.free b o h2 (ucl_in hb) (by simp)⟩
  have nocell : ∀ {b : Addr} {o : HO}, H b = some o → (∀ x, o ≠ .frz x (.own r)) → celB cl b = false := fun {b o} q h => by
    cases hb : celB cl b with
    | false => rfl
    | true =>
      obtain ⟨o', x, q', _⟩ := c.at_ b hb
      rw [q] at q'
      exact absurd (Option.some.inj q') (h o')
  refine ⟨⟨fun b o q n hf hx => u.keep b o q (none' b n).1 hf hx, fun b o q n hf hx => u.slot b o q (none' b n).1 hf hx, fun b o q n hx => ?_, u.there, fun b xs q => ?_, fun b o v q => ?_, fun b ps q => ?_⟩, fun b o q => ?_⟩
  · rw [rcl_out (none' b n).2]
    exact u.free b o q (none' b n).1 hx
  · rw [rcl_out (nocell q fun _ z => by cases z)]
    exact u.tups b xs (c.low _ _ q fun _ z => by cases z)
  · cases hb : celB cl b with
    | true => rw [rcl_in hb]; exact q
    | false => rw [rcl_out hb]; exact u.frzs b o v (by rw [ucl_out hb]; exact q)
  · rw [rcl_out (nocell q fun _ z => by cases z)]
    exact u.tbls b ps (c.low _ _ q fun _ z => by cases z)
  · cases hb : celB cl b with
    | true =>
      obtain ⟨o', h1, h2, _⟩ := cell' b hb
      rw [rcl_in hb, h1] at q
      cases q
      exact ⟨h2, o', h2⟩
    | false =>
      rw [rcl_out hb] at q
      have up : ∀ {d : Addr} {v : HO}, H' d = some v → rcl cl H H' d = some v := fun {d v} q => by
        cases hd : celB cl d with
        | false => rw [rcl_out hd]; exact q
        | true =>
          obtain ⟨_, _, _, z⟩ := cell' d hd
          rw [q] at z; cases z
      exact (hok b o q).stay (fun d v _ q => q) (fun d q => up q) fun d xs q => up q
/-- .. with an exception -/
theorem Cel.backE (c : Cel H cl r) (e : Env0 P w K mg base A outer s H) {E E' : XK} {u : Value} (x : L2N.CX P w outer (ucl cl H) s E u s') (h : ∀ cls d H', (∀ b, celB cl b = true → H' b = none) → (∀ b o x, ucl cl H b = some (.frz o x) → H' b = some (.frz o x)) → E cls d H' → E' cls d (rcl cl H H')) : L2N.CX P w outer H s E' u s' := by
  obtain ⟨a, B, H', cls, d, rfl, fl, hok, ub, na, os, ag, q⟩ := x
  have none' : ∀ b, H b = none → ucl cl H b = none ∧ celB cl b = false := fun b h => by
    cases hb : celB cl b with
    | true =>
      obtain ⟨o, x, q, _⟩ := c.at_ b hb
      rw [h] at q; cases q
    | false => exact ⟨by rw [ucl_out hb]; exact h, rfl⟩
  have cell' : ∀ b, celB cl b = true → ∃ o, H b = some (.frz o (.own r)) ∧ B.get? b = some o ∧ H' b = none := fun b hb => by
    obtain ⟨o, x, h1, _, h2, h3, _⟩ := c.get e hb
    exact ⟨o, h1, ub.keep b o h2 (ucl_in hb) h3, ub.free b o h2 (ucl_in hb)⟩
  have nocell : ∀ {b : Addr} {o : HO}, H b = some o → (∀ x, o ≠ .frz x (.own r)) → celB cl b = false := fun {b o} q h => by
    cases hb : celB cl b with
    | false => rfl
    | true =>
      obtain ⟨o', x, q', _⟩ := c.at_ b hb
      rw [q] at q'
      exact absurd (Option.some.inj q') (h o')
  refine ⟨a, B, rcl cl H H', cls, d, rfl, fl, fun b o q => ?_, ⟨fun b o q n hf => ub.keep b o q (none' b n).1 hf, ub.slot, fun b o q n => ?_, ub.there, fun b xs q => ?_, fun b o v q => ?_, fun b ps q => ?_⟩, ?_, os, ag, h cls d H' (fun b hb => (cell' b hb).choose_spec.2.2) (fun b o x q => ub.frzs b o x q) q⟩
  · cases hb : celB cl b with
    | true =>
      obtain ⟨o', h1, h2, _⟩ := cell' b hb
      rw [rcl_in hb, h1] at q
      cases q
      exact ⟨h2, o', h2⟩
    | false =>
      rw [rcl_out hb] at q
      have up : ∀ {d : Addr} {v : HO}, H' d = some v → rcl cl H H' d = some v := fun {d v} q => by
        cases hd : celB cl d with
        | false => rw [rcl_out hd]; exact q
        | true =>
          obtain ⟨_, _, _, z⟩ := cell' d hd
          rw [q] at z; cases z
      exact (hok b o q).stay (fun d v _ q => q) (fun d q => up q) fun d xs q => up q
  · rw [rcl_out (none' b n).2]
    exact ub.free b o q (none' b n).1
  · rw [rcl_out (nocell q fun _ z => by cases z)]
    exact ub.tups b xs (c.low _ _ q fun _ z => by cases z)
  · cases hb : celB cl b with
    | true => rw [rcl_in hb]; exact q
    | false => rw [rcl_out hb]; exact ub.frzs b o v (by rw [ucl_out hb]; exact q)
  · rw [rcl_out (nocell q fun _ z => by cases z)]
    exact ub.tbls b ps (c.low _ _ q fun _ z => by cases z)
  · cases hb : celB cl a with
    | false => rw [rcl_out hb]; exact na
    | true =>
      obtain ⟨o', _, h2, _⟩ := cell' a hb
      rw [fl.2.1] at h2
      cases h2
end

/-! ### a call of what a name holds -/
section
variable {X : Cx} {C : Cn} {W : WX} {call : D → List D → Sto → Res D} {gl : List D} {G : Gd} {N : List Str} {sc : Scope} {k : Nat} (O : XOk X C W call gl G N sc k)
include O
theorem rep_fn {φ : Lay} {H : Hp} {v : V} {i : Nat} (r : Rep C φ H v (.fn i)) : v = .ref (C.fnA i) := by simpa only [Rep] using r
theorem rep_clo {φ : Lay} {H : Hp} {v : V} {i : Nat} {env : List D} (r : Rep C φ H v (.clo i env)) : ∃ f, v = .ref f := by
  simp only [Rep] at r
  obtain ⟨ws, h, _⟩ := r
  exact O.ok.ref _ _ _ _ _ _ h
theorem run_clo {pins : List (Addr × Obj)} {σ : L2.St} {H : Hp} {s : Shared} {Q : VK} {f : Addr} {i : Nat} {env ds : List D} {φ : Lay} {S : Sto} {us : List Value} {vs : List V} (I : L2.Inv X pins σ H s) (hs : SR C φ S H) (r : Rep C φ H (.ref f) (.clo i env)) (rd : RepL C φ H vs ds) (rv : Vals vs us)
    (t : TR C W (Rep C) φ H σ (call (.clo i env) ds S) Q) : wpAny (model X.prog X.w) X.A (PySem.call (.ref f) us) (EP X pins σ Q) X.xe s := by
  refine wpAny_call (codeAny_mono (O.clos X.A X.stack s H f i env ds φ S us vs Q (WE W σ) O.rm I.env0 hs r rd rv ?_) fun r' s' hq => ?_)
  · cases h : call (.clo i env) ds S with
    | ok d S' => rw [h] at t; exact t
    | exc c S' => rw [h] at t; exact t
    | stuck => rw [h] at t; exact t
  · cases r' with
    | error e => exact L2N.passAt O.tk σ pins H s e s' I hq
    | ok fl =>
      cases fl with
      | ret u => exact I.after hq
      | next => exact False.elim hq
      | brk => exact False.elim hq
      | cont => exact False.elim hq
theorem val_cv {x : Str} {p pos : Pos} {y : E} {l : List E} {es : List Expr} (he : PEe X C W call gl (.Name x p) y) (d : DL X C W call gl l es) : PEe X C W call gl (.Call (.Name x p) es [] pos) (.cv y l) := by
  have ok := O.ok
  refine ⟨fun pins s σ H Q I ⟨φ, S, ρ, hs, e, t⟩ => ?_⟩
  simp only [ev] at t
  refine wpAny_Call_Name_kw (thn (he.run pins s σ H _ I (TR.seq (R := Rep C) (f := ev call gl y) ok hs e t)) fun u s1 ⟨v, H1, I1, r1, φ1, S1, dv, fr1, s1R, e1, rv, t1⟩ => ?_)
  have t0 := t1
  have t1 : TR C W (Rep C) φ1 H1 σ ((evL call gl l ρ S1).bind fun ds S2 => call dv ds S2) Q := by
    cases hl : evL call gl l ρ S1 with
    | ok ds S2 => rw [hl] at t1; exact t1
    | exc c S2 => rw [hl] at t1; exact t1.elim
    | stuck => rw [hl] at t1; exact t1
  have calm : ∀ c S2, evL call gl l ρ S1 ≠ .exc c S2 := fun c S2 hl => by
    rw [hl] at t0
    exact t0
  have hno : ∀ P : Prop, (∀ ds S, call dv ds S = .stuck) → P := fun P hst => by
    exfalso
    cases hl : evL call gl l ρ S1 with
    | stuck => rw [hl] at t1; exact t1
    | exc c S2 => exact calm _ _ hl
    | ok ds S2 =>
      rw [hl] at t1
      simp only [Res.bind, hst] at t1
      exact t1
  have args := fun (K : List V → Hp → Prop) => (DL.pa ok d).run pos pins s1 σ H1 K I1
  cases dv with
  | fn i =>
    have ev := rep_fn O rv
    subst ev
    cases r1
    cases hx : G.fns[i]? with
    | none => exact hno _ fun ds S => O.cal _ _ _ (fun j x h => by cases h; rw [hx]; exact fun z => nomatch z) (fun _ _ z => nomatch z)
    | some nm =>
      have F := O.fns i nm hx
      obtain ⟨fd, ps, hF, hb⟩ := F.ex
      cases es with
      | nil =>
        cases l with
        | cons _ _ => exact d.elim
        | nil =>
          simp only [evL, Res.bind] at t1
          exact PySem.W.callWith_K0 I1.kIn F.kp (run_fnS (us := []) (E := WE W) hF O.rm hb (L2N.passAt O.tk σ) I1 .nil (TR.sp s1R (by simp only [RepL]) t1))
      | cons a es =>
        have ha := d.all
        rw [List.all_cons, Bool.and_eq_true] at ha
        refine PySem.W.callWith_K (h₀ := X.base) I1.ok.mod.kin F.kp (thn (args _ (TR.seq (R := RepL C) (f := evL call gl l) ok s1R e1 t1)) fun us s2 ⟨vs, H2, I2, r2, φ2, S2, ds, fr2, s2R, e2, rds, t2⟩ => ⟨I2.kIn, ?_⟩) (star_cons ha.1 es X.env) (back_any pos X.env ha.2)
        exact run_fnS (E := WE W) hF O.rm hb (L2N.passAt O.tk σ) I2 r2 (TR.sp s2R rds t2)
  | clo i env =>
    obtain ⟨f, ev⟩ := rep_clo O rv
    subst ev
    cases r1
    have fnat : ∀ {H2 : Hp} {φ2 : Lay} {s2 : Shared}, L2.Inv X pins σ H2 s2 → Rep C φ2 H2 (.ref f) (.clo i env) → PySem.W.FnAt f s2.heap := fun {H2 φ2 s2} I2 r => by
      obtain ⟨⟨oc, od, dt, sl⟩, fd, u, h1, h2, h3, h4⟩ := O.cfn _ _ _ _ _ r
      have q := (I2.hok f _ h1).1
      simp only at h2 h3 h4
      subst h2 h3 h4
      exact ⟨_, _, _, _, q⟩
    cases es with
    | nil =>
      cases l with
      | cons _ _ => exact d.elim
      | nil =>
        simp only [evL, Res.bind] at t1
        exact PySem.W.callWith_F0 (fnat I1 rv) (run_clo O I1 s1R rv (vs := []) (by simp only [RepL]) .nil t1)
    | cons a es =>
      have ha := d.all
      rw [List.all_cons, Bool.and_eq_true] at ha
      refine PySem.W.callWith_F (fnat I1 rv) (thn (args _ (TR.seq (R := RepL C) (f := evL call gl l) ok s1R e1 t1)) fun us s2 ⟨vs, H2, I2, r2, φ2, S2, ds, fr2, s2R, e2, rds, t2⟩ => ⟨fnat I2 (Rep.mono ok fr2 _ _ rv), ?_⟩) (star_cons ha.1 es X.env) (back_any pos X.env ha.2)
      exact run_clo O I2 s2R (Rep.mono ok fr2 _ _ rv) rds r2 t2
  | _ => exact hno _ fun ds S => O.cal _ _ _ (fun i x z => nomatch z) (fun i x z => nomatch z)
end
end SF

set_option maxHeartbeats 200000
set_option Elab.async false
set_option linter.all false
set_option maxRecDepth 100000
/-! Comprehensions whose block is known to hold the cells of the place around, and new ones. -/
namespace SF
open PySem PySem.Spec PyProof.Rows L2 RZ

/-- a block's cells -/
structure BlkC (X : Cx) (s : Shared) (cl : List (Str × Addr)) : Prop where
  cel : ∀ x c, cl.lookup x = some c → X.env.cells.lookup x = some c ∨ s.heap.objs.size ≤ c
  sz : X.base.objs.size ≤ s.heap.objs.size
  fr : ∀ b ∈ frs X.stack, b < s.heap.objs.size
section
variable {X : Cx}
/-- the loop of a block -/
theorem blk_loop {Z : Cx} {R : Result → Shared → Prop} {elt tg iter : Expr} {ifs : List Expr} {scope : Scope} {pos : Pos} {it P : Addr} {fp : List Addr} {tn : Nat → Heap → Prop} {J : It} {g : TG} {tt : TT} {te : TE} {ow : List Nat} {σ : L2.St} {Qd : Hp → Prop} {W : Nat → Nat → Hp → Prop} (hc : Z.calm = true) (hpn : Z.pn = []) (hxe : Z.xe = fun _ _ => False) (T : Turn Z.prog Z.w Z.K tg J fp it tn)
    (fpok : ∀ {σ' : L2.St} {H' : Hp} {s' : Shared}, L2.Inv Z [] σ' H' s' → (∀ b ∈ fp, H' b = none) → ∀ b ∈ fp, FpOk Z [] H' b)
    (pg : PG Z tg g) (pt : PTs Z ifs tt) (pe : PE Z elt te)
    (turn : ∀ i m H, W i m H → (J.stop i H ∧ Qd H) ∨ (J.go i H ∧ ∃ Nx : Hp → Prop, (∀ H', Nx H' → ∃ m', m' < m ∧ W (i + 1) m' H') ∧ ∀ x H', J.yld i H x H' → g x (L2.wipe σ ow) H' fun σ2 H2 => L2.wipe σ2 ow = L2.wipe σ ow ∧ tt σ2 H2 fun b H3 =>
      if b = true then te σ2 H3 fun y H4 => ∃ acc, H4 P = some (.lst acc) ∧ acc.length < sizeLine ∧ Nx (upd H4 P (.lst (acc ++ [y]))) else Nx H3))
    (fin : ∀ (H' : Hp) (s' : Shared), L2.Inv Z [] (L2.wipe σ ow) H' s' → (∀ b ∈ fp, H' b = none) → Qd H' → R (.ok .next) s') :
    ∀ n i H s, L2.Inv Z [] (L2.wipe σ ow) H s → tn i s.heap → (∀ b ∈ fp, H b = none) → W i n H → codeAny (model Z.prog Z.w) Z.A (.compLoop (.ListComp elt [⟨tg, iter, ifs, 0⟩] scope pos) 0 (.ref it) (.ref P) Z.env) R s := by
  intro n i H s I st nf w0
  refine compLoop_any (fun n s' => ∃ i H', L2.Inv Z [] (L2.wipe σ ow) H' s' ∧ tn i s'.heap ∧ (∀ b ∈ fp, H' b = none) ∧ W i n H') ?_ n ⟨i, H, I, st, nf, w0⟩
  rintro n s1 ⟨i, H1, I1, st1, nf1, w1⟩
  rcases turn i n H1 w1 with ⟨stop, qq⟩ | ⟨go, Nx, hNx, step⟩
  · refine thnF (T.done Z rfl rfl rfl hc i [] s1 _ H1 (fun _ _ => False) I1 (fpok I1 nf1) st1 stop) fun r s2 ⟨hr, I2⟩ => ?_
    subst hr
    exact fin H1 s2 I2 nf1 qq
  · refine thnF (T.item Z rfl rfl rfl hc i [] s1 _ H1 (fun _ _ => False) I1 (fpok I1 nf1) st1 go) fun r s2 ⟨u, hr, h2⟩ => ?_
    subst hr
    refine thnF h2 fun _ s3 ⟨x, H3, I3, r3, y3, st3, nf3⟩ => ?_
    have no : ∀ {α : Type} {m : Sem α} {q : α → Shared → Prop} {s : Shared}, wpAny (model Z.prog Z.w) Z.A m q Z.xe s → wpAny (model Z.prog Z.w) Z.A m q (fun _ _ => False) s := fun h => by rwa [hxe] at h
    refine thnF (no (pg.run _ s3 _ H3 x u _ (I3.pinned (fpok I3 nf3) (T.obj _ _ st3)) r3 (step x H3 y3))) fun _ s4 ⟨σ4, H4, I4, hw4, q4⟩ => ?_
    refine thnF (no (pt.run _ s4 σ4 H4 _ I4 q4)) fun b s5 ⟨H5, I5, q5⟩ => ?_
    have again : ∀ {s' : Shared} {H' : Hp}, L2.Inv Z ([] ++ pinsAt fp s3.heap) σ4 H' s' → Nx H' → ∃ m, m < n ∧ ∃ i H', L2.Inv Z [] (L2.wipe σ ow) H' s' ∧ tn i s'.heap ∧ (∀ b ∈ fp, H' b = none) ∧ W i m H' := fun {s' H'} I' nx => by
      obtain ⟨m', hm, w'⟩ := hNx H' nx
      have at' : ∀ b ∈ fp, ∀ o, s3.heap.get? b = some o → s'.heap.get? b = some o ∧ H' b = none := fun b hb o e =>
        ⟨(I'.pin (b, o) (List.mem_append_right _ (List.mem_append_right _ (mem_pinsAt hb e)))).1, (I'.pin (b, o) (List.mem_append_right _ (List.mem_append_right _ (mem_pinsAt hb e)))).2.1⟩
      refine ⟨m', hm, i + 1, H', (I'.unpinned (pins := [])).weak (by rw [← hw4, L2.wipe_length]) (fun j v e => by rw [← hw4] at e; exact (wipe_some e).1), T.keep _ _ _ st3 fun b hb o e => (at' b hb o e).1, fun b hb => ?_, w'⟩
      obtain ⟨o, e, _⟩ := T.obj _ _ st3 b hb
      exact (at' b hb o e).2
    cases b with
    | false =>
      rw [if_neg Bool.false_ne_true]
      rw [if_neg Bool.false_ne_true] at q5
      exact again I5 q5
    | true =>
      rw [if_pos rfl]
      rw [if_pos rfl] at q5
      exact thnF (no (pe.run _ s5 σ4 H5 _ I5 q5)) fun z s6 ⟨yv, H6, I6, r6, acc, hD6, hz6, nx⟩ => app_ok (X := Z) I6 hD6 hz6 r6 fun s7 I7 => again I7 nx
theorem lc_own {pins : List (Addr × Obj)} {s : Shared} {σ : L2.St} {H : Hp} {Q : VK} {elt tg iter : Expr} {ifs : List Expr} {scope : Scope} {own : List (Str × Nat)} {pos pos' : Pos} {wi : TI} {g : TG} {tt : TT} {te : TE} {use : Option (Value → Sem Unit)} {Qf : Value → Shared → Prop}
    (hc : X.calm = true) (hN : X.N.Nodup) (I : L2.Inv X pins σ H s) (hi : PI X tg iter wi) (bo : BlkOk X.N X.env.scope scope own)
    (hb : ∀ (s : Shared) (H : Hp) (C : Addr) (cl : List (Str × Addr)) (fp : List Addr), BlkC X s cl → PG (X.blk s H scope (compEnvC scope cl C X.env) fp) tg g ∧ PTs (X.blk s H scope (compEnvC scope cl C X.env) fp) ifs tt ∧ PE (X.blk s H scope (compEnvC scope cl C X.env) fp) elt te)
    (hs : ∀ x, foldedSetIterable iter X.env x = pure x) (h : tLc wi g tt te (own.map (·.2)) σ H Q)
    (hRR : ∀ D C s' m H', L2.Inv X pins σ H' s' → Q (.ref D) H' → s'.heap.Ns C m → FpOk X pins H' C → compPost (model X.prog X.w) X.A X.xe use Qf (.ref D) C (.ok .next) s') :
    wpAny (model X.prog X.w) X.A (comprehension (.ListComp elt [⟨tg, iter, ifs, 0⟩] scope pos) scope X.env pos' (newList []) false (eval iter X.env) use) Qf X.xe s := by
  have hfree : ∀ y ∈ scope.names, y.2 = .free → ∃ c, X.env.cells.lookup y.1 = some c := fun y hy e => by
    rcases bo.free y hy e with k | k
    · exact I.ok.has _ (.inl k)
    · exact I.ok.has _ (.inr k)
  refine wpAny_comprehension_free (use := use) rfl hs (closure_ok hfree) bo.kind (fun y hy e => by rw [bo.uniq y hy, e])
    (thn (hi.run pins s σ H _ I h) fun xv s1 hx => thn hx fun itv s2 ⟨it, fp, tn, J, H2, e, I2, T, st2, f2, q⟩ => ?_)
  subst e
  refine wpAny_newObj_type (newEnv_comp ?_) (by show 0 ≤ sizeLine; decide)
  have hPn : H2 s2.heap.objs.size = none := I2.hok.fresh (Nat.le_refl _)
  obtain ⟨W, ⟨m0, w0⟩, turn⟩ := q _ hPn
  have I3 : L2.Inv X pins σ (upd H2 s2.heap.objs.size (.lst [])) { s2 with heap := s2.heap.push { cls := .type "list", data := .seq ([] : List Value).toArray } } :=
    I2.laid (t' := s2.toks) (fun b o e => Heap.get?_push_of_some _ e) (Nat.le_refl _) ⟨Nat.zero_le _, [], 0, .nil, Heap.get?_push_size _ rfl⟩
  have hfp : ∀ b ∈ fp, FpOk X pins (upd H2 s2.heap.objs.size (.lst [])) b ∧ b < (s2.heap.push { cls := .type "list", data := .seq ([] : List Value).toArray }).objs.size := fun b hb => by
    obtain ⟨o, e, _⟩ := T.obj _ _ st2 b hb
    have hlt := Heap.lt_size e
    refine ⟨⟨?_, (f2 b hb).2⟩, by rw [Heap.size_push]; exact Nat.lt_succ_of_lt hlt⟩
    rw [upd_ne (Nat.ne_of_lt hlt)]
    exact (f2 b hb).1
  generalize hs3 : ({ s2 with heap := s2.heap.push { cls := .type "list", data := .seq ([] : List Value).toArray } } : Shared) = s3 at I3
  have e3 : s3.heap = s2.heap.push { cls := .type "list", data := .seq ([] : List Value).toArray } := by rw [← hs3]
  rw [← e3] at hfp
  have st3 : tn 0 s3.heap := T.keep _ _ _ st2 fun b _ o e => by rw [e3]; exact Heap.get?_push_of_some _ e
  have I4 := block_start I3 bo hN hfp
  have bc : BlkC X s3 (cellsFrom (s3.heap.objs.size + 1) scope.names (cloFrom X.env.cells scope.names [])) := {
    cel := fun x c e => by
      have e' : (cellsFrom (s3.heap.push { cls := .type "dict", data := .dict #[] }).objs.size scope.names (cloFrom X.env.cells scope.names [])).lookup x = some c := by rw [Heap.size_push]; exact e
      rcases cells_mem (PySem.mem_of_lookup e') with hm | ⟨_, h2, _⟩
      · rcases cloFrom_mem hm with hm | ⟨h1, h2⟩
        · cases hm
        · obtain ⟨c1, hc1⟩ := hfree _ h1 rfl
          have hc1 : X.env.cells.lookup x = some c1 := hc1
          left
          rw [h2, hc1]
          rfl
      · right
        rw [Heap.size_push] at h2
        exact Nat.le_of_succ_le h2
    sz := Nat.le_trans I3.ok.bsz I3.sz
    fr := fun b hb => by
      rcases List.mem_cons.mp (I3.stkSub b hb) with z | z
      · rw [z]; exact I3.lt
      · exact Nat.lt_of_not_le fun hle => I3.nofs hle z }
  obtain ⟨pg, pt, pe⟩ := hb s3 (upd H2 s2.heap.objs.size (.lst [])) s3.heap.objs.size _ fp bc
  show codeAny _ _ (.compStart (.ListComp elt [⟨tg, iter, ifs, 0⟩] scope pos) 0 (.ref it) (.ref s2.heap.objs.size) (compEnvC scope (cellsFrom (s3.heap.objs.size + 1) scope.names (cloFrom X.env.cells scope.names [])) s3.heap.objs.size X.env)) (compPost (model X.prog X.w) X.A X.xe use Qf (.ref s2.heap.objs.size) s3.heap.objs.size) { s3 with heap := pushCells (s3.heap.push { cls := .type "dict", data := .dict #[] }) scope.names }
  have st4 : tn 0 (pushCells (s3.heap.push { cls := .type "dict", data := .dict #[] }) scope.names) := T.keep _ _ _ st3 fun b _ o e => pushCells_keeps _ _ _ _ (Heap.get?_push_of_some _ e)
  have loop : codeAny (model X.prog X.w) X.A (.compLoop (.ListComp elt [⟨tg, iter, ifs, 0⟩] scope pos) 0 (.ref it) (.ref s2.heap.objs.size) (compEnvC scope (cellsFrom (s3.heap.objs.size + 1) scope.names (cloFrom X.env.cells scope.names [])) s3.heap.objs.size X.env)) (compPost (model X.prog X.w) X.A X.xe use Qf (.ref s2.heap.objs.size) s3.heap.objs.size) { s3 with heap := pushCells (s3.heap.push { cls := .type "dict", data := .dict #[] }) scope.names } :=
    blk_loop (Z := X.blk s3 (upd H2 s2.heap.objs.size (.lst [])) scope (compEnvC scope (cellsFrom (s3.heap.objs.size + 1) scope.names (cloFrom X.env.cells scope.names [])) s3.heap.objs.size X.env) fp) (Qd := fun H => Q (.ref s2.heap.objs.size) H) (ow := own.map (·.2)) (σ := σ) (W := W) (P := s2.heap.objs.size) hc rfl rfl T
      (fun {σ' H' s'} I' hn b hb => ⟨hn b hb, (I'.ok.exf b hb).1, I'.ok.exfs b hb, .inl hb, fun x c e => (I'.ok.exf b hb).2 x c e, fun p hp => absurd (show p ∈ ([] : List (Addr × Obj)) ++ [] from hp) (by simp)⟩) pg pt pe turn
      (fun H5 s6 I6 nf qq => by
        have I7 : L2.Inv X pins σ H5 s6 := I3.call' (ch := fp) I6.os I6.base I6.hok I6.bare fun b hb => ⟨(hfp b hb).1.2.2.2.1, (hfp b hb).1.2.1, (hfp b hb).1.2.2.2.2.1, (hfp b hb).1.2.2.2.2.2⟩
        obtain ⟨m, hn, _⟩ := I6.loc
        exact hRR _ s3.heap.objs.size s6 m H5 I7 qq hn (I3.fpOk (Nat.le_refl _) I6.free)) m0 0 _ _ I4 st4 (fun b hb => (hfp b hb).1.1) w0
  exact codeAny_compStart_list loop (T.self X.A 0 _ _ _ st4 loop)
/-- as a value -/
theorem pe_lcO {elt tg iter : Expr} {ifs : List Expr} {scope : Scope} {own : List (Str × Nat)} {pos : Pos} {wi : TI} {g : TG} {tt : TT} {te : TE} (hc : X.calm = true) (hN : X.N.Nodup) (hi : PI X tg iter wi) (bo : BlkOk X.N X.env.scope scope own)
    (hb : ∀ (s : Shared) (H : Hp) (C : Addr) (cl : List (Str × Addr)) (fp : List Addr), BlkC X s cl → PG (X.blk s H scope (compEnvC scope cl C X.env) fp) tg g ∧ PTs (X.blk s H scope (compEnvC scope cl C X.env) fp) ifs tt ∧ PE (X.blk s H scope (compEnvC scope cl C X.env) fp) elt te)
    (hs : ∀ x, foldedSetIterable iter X.env x = pure x) : PE X (.ListComp elt [⟨tg, iter, ifs, 0⟩] scope pos) (tLc wi g tt te (own.map (·.2))) := by
  refine ⟨fun pins s σ H Q I h => ?_⟩
  rw [eval_ListComp]
  refine lc_own hc hN I hi bo hb hs h fun D C s' m H' I' q hn ⟨f0, f1, f2, f3, f4, f5⟩ => ⟨m, hn, fun h'' sb => ?_⟩
  exact ⟨.ref D, H', I'.turned (t' := s'.toks) (fun b o hb e => (sb.2 b hb).trans e) f0 f1 f3 f4 f5, rfl, q⟩
theorem ps_setLcO {i : Nat} {y : Str} {py : Pos} {elt tg iter : Expr} {ifs : List Expr} {scope : Scope} {own : List (Str × Nat)} {pos spos : Pos} {wi : TI} {g : TG} {tt : TT} {te : TE} (hc : X.calm = true) (hN : X.N.Nodup) (hy : X.N[i]? = some y) (hyl : X.env.scope.names.lookup y = some .local)
    (hsw : swapsWith (.ListComp elt [⟨tg, iter, ifs, 0⟩] scope pos) (some (.Name y py)) spos.line X.env = pure true) (hi : PI X tg iter wi) (bo : BlkOk X.N X.env.scope scope own)
    (hb : ∀ (s : Shared) (H : Hp) (C : Addr) (cl : List (Str × Addr)) (fp : List Addr), BlkC X s cl → PG (X.blk s H scope (compEnvC scope cl C X.env) fp) tg g ∧ PTs (X.blk s H scope (compEnvC scope cl C X.env) fp) ifs tt ∧ PE (X.blk s H scope (compEnvC scope cl C X.env) fp) elt te)
    (hs : ∀ x, foldedSetIterable iter X.env x = pure x) : PS X (.Assign [.Name y py] (.ListComp elt [⟨tg, iter, ifs, 0⟩] scope pos) spos) (tAsg (tLc wi g tt te (own.map (·.2))) (gName i)) := by
  refine ⟨fun pins s σ H D I h => ?_⟩
  rw [exec_Assign_Name_used _ _ _ _ hsw]
  refine wpAny_bind (wpAny_standAt (wpAny_bind ?_))
  show wpAny _ X.A (do let _ ← comprehension (.ListComp elt [⟨tg, iter, ifs, 0⟩] scope pos) scope X.env (firstIterPos [⟨tg, iter, ifs, 0⟩] pos) (newList []) false (eval iter X.env) (some (assign (.Name y py) X.env))) _ _ s
  refine wpAny_bind (thn (lc_own (Qf := fun _ s' => SP X pins D .next s') hc hN I hi bo hb hs (Q := fun x H1 => gName i x σ H1 D.nx) h fun L C s' m H' I' q hn ⟨f0, f1, f2, f3, f4, f5⟩ => ?_) fun _ s' hq => wpAny_pure (wpAny_pure hq))
  show wpAny _ _ (assign (.Name y py) X.env (.ref L)) _ _ _
  refine wpAny_assign_Name (store_ok2 (v := V.ref L) I' hN hy (.inl hyl) rfl (fun s2 I2 ⟨a, sb, ha⟩ => ?_) (.inr hyl))
  have haC : C ≠ a := by
    rcases ha with z | z
    · rw [z]; exact f1
    · exact fun e => f4 y a z e.symm
  exact ⟨m, hn.sameBut sb haC, fun h3 sb3 => ⟨_, H', I2.turned (t' := s2.toks) (fun b o hb e => (sb3.2 b hb).trans e) f0 f1 f3 f4 f5, q⟩⟩
end
section
variable {X : Cx} {C : Cn} {W : WX} {call : D → List D → Sto → Res D} {gl : List D} (ok : CnOk C) {pos : Pos}
include ok in
theorem s_setLcO {i : Nat} {n : Str} {py lp : Pos} {elt tg iter : Expr} {ifs : List Expr} {scope : Scope} {own : List (Str × Nat)} {k : ItK} {its cond : List E} {t : Tg} {el : E} {ow : List Nat} (hc : X.calm = true) (hN : X.N.Nodup) (hy : X.N[i]? = some n) (hyl : X.env.scope.names.lookup n = some .local)
    (hsw : swapsWith (.ListComp elt [⟨tg, iter, ifs, 0⟩] scope lp) (some (.Name n py)) pos.line X.env = pure true)
    (hi : PIx X C W call gl tg iter k its) (bo : BlkOk X.N X.env.scope scope own) (ho : own.map (·.2) = ow) (htv : ∀ i ∈ tvs t, i ∈ ow)
    (hb : ∀ (s : Shared) (H : Hp) (A : Addr) (cl : List (Str × Addr)) (fp : List Addr), BlkC X s cl → PG (X.blk s H scope (compEnvC scope cl A X.env) fp) tg (gOf C t) ∧ PTs (X.blk s H scope (compEnvC scope cl A X.env) fp) ifs (tOfT C W0 (evC call gl cond)) ∧ PEe (X.blk s H scope (compEnvC scope cl A X.env) fp) C W0 call gl elt el)
    (hs : ∀ x, foldedSetIterable iter X.env x = pure x) :
    PSe X C W call gl (.Assign [.Name n py] (.ListComp elt [⟨tg, iter, ifs, 0⟩] scope lp) pos) (.asg (.v i) (.lc ow k its t cond el)) := by
  subst ho
  refine ps_imp (ps_setLcO hc hN hy hyl hsw hi bo hb hs) fun N σ H ⟨φ, S, ρ, s, e, t⟩ => ?_
  simp only [ex] at t
  refine lc_rd ok htv ((lift_rd (R := Rep C) (f := ev call gl (.lc _ k its _ cond el)) (g := fun ρ d S1 => match bindT _ d ρ with
      | some ρ1 => .nx ρ1 S1
      | none => .stuck) ok s e t).imp fun v H1 ⟨φ1, S1, d, s1, e1, r1, t1⟩ => ?_)
  simp only [bindT] at t1
  split at t1
  · rename_i ρ1 hb
    split at hb
    · cases hb
      exact t1.now s1 (e1.set r1)
    · cases hb
  · exact t1.elim
end
end SF

set_option maxHeartbeats 200000
set_option Elab.async false
set_option linter.all false
set_option maxRecDepth 100000
/-! Comprehensions of two clauses. -/
namespace SF
open PySem PySem.Spec PyProof.Rows L2 RZ

def turn2 (call : D → List D → Sto → Res D) (gl : List D) (ow ow1 : List Nat) (t : Tg) (cond : List E) (k1 : ItK) (its1 : List E) (t1 : Tg) (cond1 : List E) (el : E) (ρ : Env) (x : D) (S : Sto) : Res (List D) := match bindT t x (wipe ρ ow) with
  | none => .stuck
  | some ρ1 => (evC call gl cond ρ1 S).calm.bind fun b S1 => if b then (evL call gl its1 ρ1 S1).calm.bind fun ds S2 => (match items k1 ds with
      | none => .stuck
      | some ys => lcLoop (turnF call gl ow1 t1 cond1 el ρ1) ys S2) else .ok [] S1
section
variable {X : Cx} {C : Cn} {W : WX} {call : D → List D → Sto → Res D} {gl : List D} (ok : CnOk C)
theorem turn2_noexc {ow ow1 : List Nat} {t : Tg} {cond : List E} {k1 : ItK} {its1 : List E} {t1 : Tg} {cond1 : List E} {el : E} {ρ : Env} {x : D} {S S' : Sto} {c : Nat} : turn2 call gl ow ow1 t cond k1 its1 t1 cond1 el ρ x S ≠ .exc c S' := by
  unfold turn2
  cases bindT t x (wipe ρ ow) with
  | none => exact fun h => nomatch h
  | some ρ1 =>
    simp only
    cases h1 : (evC call gl cond ρ1 S).calm with
    | stuck => exact fun h => nomatch h
    | exc _ _ => exact absurd h1 calm_noexc
    | ok b S1 =>
      simp only [Res.bind]
      cases b with
      | false => exact fun h => nomatch h
      | true =>
        simp only [if_true]
        cases h2 : (evL call gl its1 ρ1 S1).calm with
        | stuck => exact fun h => nomatch h
        | exc _ _ => exact absurd h2 calm_noexc
        | ok ds S2 =>
          simp only
          cases items k1 ds with
          | none => exact fun h => nomatch h
          | some ys => exact lcLoop_noexc (fun _ _ _ _ => turnF_noexc) _ _ _ _
theorem lc2Loop_noexc {turn : D → Sto → Res (List D)} (h : ∀ x S c S', turn x S ≠ .exc c S') : ∀ (xs : List D) (S : Sto) (c : Nat) (S' : Sto), lc2Loop turn xs S ≠ .exc c S'
  | [], _, _, _ => fun z => nomatch z
  | x :: xs, S, c, S' => by
    unfold lc2Loop
    cases h1 : turn x S with
    | stuck => exact fun z => nomatch z
    | exc _ _ => exact absurd h1 (h _ _ _ _)
    | ok o S1 =>
      simp only [Res.bind]
      cases h2 : lc2Loop turn xs S1 with
      | stuck => exact fun z => nomatch z
      | exc _ _ => exact absurd h2 (lc2Loop_noexc h _ _ _ _)
      | ok r S2 => exact fun z => nomatch z
include ok
theorem lc2_rd {k k1 : ItK} {its cond its1 cond1 : List E} {t t1 : Tg} {el : E} {ow ow1 : List Nat} (htv : ∀ i ∈ tvs t, i ∈ ow) (htv1 : ∀ i ∈ tvs t1, i ∈ ow1) {σ : L2.St} {H : Hp} {Q : VK} (h : tOf C W (ev call gl (.lc2 ow ow1 k its t cond k1 its1 t1 cond1 el)) σ H Q) :
    tLc2 (tG C W (ItOk C) (evIt call gl k its)) (gOf C t) (tOfT C W0 (evC call gl cond)) (tG C W0 (ItOk C) (evIt call gl k1 its1)) (gOf C t1) (tOfT C W0 (evC call gl cond1)) (tOf C W0 (ev call gl el)) ow ow1 σ H Q := by
  obtain ⟨φ, S, ρ, s, e, t0⟩ := h
  have t2 : TR C W (Rep C) φ H σ ((evIt call gl k its ρ S).bind fun xs S1 => (lc2Loop (turn2 call gl ow ow1 t cond k1 its1 t1 cond1 el ρ) xs S1).bind fun r S2 => if line r.length then .ok (.lst r) S2 else .stuck) Q := by
    simp only [ev] at t0
    unfold evIt
    cases h0 : evL call gl its ρ S with
    | stuck => rw [h0] at t0; exact t0
    | exc c S1 => rw [h0] at t0; exact t0
    | ok ds S1 =>
      rw [h0] at t0
      simp only [Res.bind] at t0 ⊢
      cases h1 : items k ds with
      | none => rw [h1] at t0; exact t0
      | some xs => rw [h1] at t0; exact t0
  refine (TR.seq (R := ItOk C) (f := evIt call gl k its) ok s e t2).imp fun J H1 ⟨φ1, S1, xs, _, s1, e1, hJ, t3⟩ => ?_
  intro P hP
  cases hL : lc2Loop (turn2 call gl ow ow1 t cond k1 its1 t1 cond1 el ρ) xs S1 with
  | stuck => rw [hL] at t3; exact t3.elim
  | exc c S2 => exact absurd hL (lc2Loop_noexc (fun _ _ _ _ => turn2_noexc) _ _ _ _)
  | ok R S9 =>
    rw [hL] at t3
    simp only [Res.bind] at t3
    split at t3
    case isFalse => exact t3.elim
    rename_i hln
    have hR : R.length ≤ sizeLine := line_of hln
    refine ⟨fun i m H => m = xs.length - i ∧ i ≤ xs.length ∧ ∃ φ S rs rest, Mk C P φ1 H1 φ S H rs ∧ lc2Loop (turn2 call gl ow ow1 t cond k1 its1 t1 cond1 el ρ) (xs.drop i) S = .ok rest S9 ∧ rs ++ rest = R,
      ⟨xs.length, rfl, Nat.zero_le _, φ1.hide P, S1, [], R, Mk.start ok s1 hP, hL, rfl⟩, ?_⟩
    rintro i m H2 ⟨rfl, hi, φ2, S2, rs, rest, mk, hl, hr⟩
    by_cases hlt : i < xs.length
    · rw [List.drop_eq_getElem_cons hlt] at hl
      unfold lc2Loop at hl
      cases hT : turn2 call gl ow ow1 t cond k1 its1 t1 cond1 el ρ xs[i] S2 with
      | stuck => rw [hT] at hl; cases hl
      | exc c S3 => exact absurd hT turn2_noexc
      | ok o S3 =>
        rw [hT] at hl
        simp only [Res.bind] at hl
        cases hl2 : lc2Loop (turn2 call gl ow ow1 t cond k1 its1 t1 cond1 el ρ) (xs.drop (i + 1)) S3 with
        | stuck => rw [hl2] at hl; cases hl
        | exc c S4 => rw [hl2] at hl; cases hl
        | ok rest' S4 =>
          rw [hl2] at hl
          cases hl
          refine .inr ⟨hJ.goes i φ2 H2 (mk.kp hP) hlt, fun H => i + 1 ≤ xs.length ∧ ∃ φ rs, Mk C P φ1 H1 φ S3 H rs ∧ rs ++ rest' = R,
            fun H' ⟨p1, φ', rs', p2, p3⟩ => ⟨xs.length - (i + 1), by omega, rfl, p1, φ', S3, rs', rest', p2, hl2, p3⟩, fun v H3 y => ?_⟩
          obtain ⟨f3, s3, d, hd, rd⟩ := hJ.yields i φ2 S2 H2 v H3 (mk.kp hP) mk.sr hlt y
          rw [List.getElem?_eq_getElem hlt] at hd
          cases hd
          have mk3 := mk.step ok f3 s3
          unfold turn2 at hT
          cases hb : bindT t xs[i] (wipe ρ ow) with
          | none => rw [hb] at hT; cases hT
          | some ρ1 =>
            rw [hb] at hT
            simp only at hT
            refine ⟨φ2, wipe ρ ow, xs[i], ρ1, ER.wipe (ER.kp ok (mk3.kp hP) e1) ow, rd, hb, fun σ2 e2 o2 => ⟨o2.wipe htv, ?_⟩⟩
            cases hC : (evC call gl cond ρ1 S2).calm with
            | stuck => rw [hC] at hT; cases hT
            | exc _ _ => exact absurd hC calm_noexc
            | ok b S4 =>
              rw [hC] at hT
              simp only [Res.bind] at hT
              refine ⟨φ2, S2, ρ1, s3, e2, ?_⟩
              rw [calm_ok hC]
              intro φ4 H4 b' f4 s4 eb
              subst eb
              have mk4 := mk3.step ok f4 s4
              cases b' with
              | false =>
                rw [if_neg Bool.false_ne_true]
                rw [if_neg Bool.false_ne_true] at hT
                cases hT
                exact ⟨hlt, φ4, rs, mk4, hr⟩
              | true =>
                rw [if_pos rfl]
                rw [if_pos rfl] at hT
                cases hE : (evL call gl its1 ρ1 S4).calm with
                | stuck => rw [hE] at hT; cases hT
                | exc _ _ => exact absurd hE calm_noexc
                | ok ds5 S5 =>
                  rw [hE] at hT
                  simp only at hT
                  cases hY : items k1 ds5 with
                  | none => rw [hY] at hT; cases hT
                  | some ys =>
                    rw [hY] at hT
                    simp only at hT
                    refine ⟨φ4, S4, ρ1, s4, e2.mono ok f4, ?_⟩
                    have hev : evIt call gl k1 its1 ρ1 S4 = .ok ys S5 := by
                      unfold evIt
                      rw [calm_ok hE]
                      simp only [Res.bind, hY]
                    rw [hev]
                    intro φ5 H5 J1 f5 s5 hJ1
                    have mk5 := mk4.step ok f5 s5
                    have e5 : ER C φ5 H5 ρ1 σ2 := (e2.mono ok f4).mono ok f5
                    refine ⟨fun j m H => m = ys.length - j ∧ j ≤ ys.length ∧ ∃ φ S rs rest, Mk C P φ1 H1 φ S H rs ∧ Kp φ5 H5 φ H ∧ lcLoop (turnF call gl ow1 t1 cond1 el ρ1) (ys.drop j) S = .ok rest S3 ∧ rs ++ (rest ++ rest') = R,
                      ⟨ys.length, rfl, Nat.zero_le _, φ5, S5, rs, o, mk5, (Fr.refl φ5 H5).kp, hT, hr⟩, ?_⟩
                    rintro j m H6 ⟨rfl, hj, φ6, S6, rs6, rest6, mk6, kp6, hl6, hr6⟩
                    by_cases hjlt : j < ys.length
                    · rw [List.drop_eq_getElem_cons hjlt] at hl6
                      unfold lcLoop at hl6
                      cases hT1 : turnF call gl ow1 t1 cond1 el ρ1 ys[j] S6 with
                      | stuck => rw [hT1] at hl6; cases hl6
                      | exc c S7 => exact absurd hT1 turnF_noexc
                      | ok o1 S7 =>
                        rw [hT1] at hl6
                        simp only [Res.bind] at hl6
                        cases hl7 : lcLoop (turnF call gl ow1 t1 cond1 el ρ1) (ys.drop (j + 1)) S7 with
                        | stuck => rw [hl7] at hl6; cases hl6
                        | exc c S8 => rw [hl7] at hl6; cases hl6
                        | ok rest7 S8 =>
                          rw [hl7] at hl6
                          cases hl6
                          refine .inr ⟨hJ1.goes j φ6 H6 kp6 hjlt, fun H => j + 1 ≤ ys.length ∧ ∃ φ rs, Mk C P φ1 H1 φ S7 H rs ∧ Kp φ5 H5 φ H ∧ rs ++ (rest7 ++ rest') = R,
                            fun H' ⟨p1, φ', rs', p2, p3, p4⟩ => ⟨ys.length - (j + 1), by omega, rfl, p1, φ', S7, rs', rest7, p2, p3, hl7, p4⟩, fun v7 H7 y7 => ?_⟩
                          obtain ⟨f7, s7, d7, hd7, rd7⟩ := hJ1.yields j φ6 S6 H6 v7 H7 kp6 mk6.sr hjlt y7
                          rw [List.getElem?_eq_getElem hjlt] at hd7
                          cases hd7
                          have mk7 := mk6.step ok f7 s7
                          have kp7 := kp6.trans f7.kp
                          unfold turnF at hT1
                          cases hb1 : bindT t1 ys[j] (wipe ρ1 ow1) with
                          | none => rw [hb1] at hT1; cases hT1
                          | some ρ2 =>
                            rw [hb1] at hT1
                            simp only at hT1
                            refine ⟨φ6, wipe ρ1 ow1, ys[j], ρ2, ER.wipe (ER.kp ok kp7 e5) ow1, rd7, hb1, fun σ3 e3 o3 => ⟨o3.wipe htv1, ?_⟩⟩
                            cases hC1 : (evC call gl cond1 ρ2 S6).calm with
                            | stuck => rw [hC1] at hT1; cases hT1
                            | exc _ _ => exact absurd hC1 calm_noexc
                            | ok b1 S10 =>
                              rw [hC1] at hT1
                              simp only [Res.bind] at hT1
                              refine ⟨φ6, S6, ρ2, s7, e3, ?_⟩
                              rw [calm_ok hC1]
                              intro φ8 H8 b8 f8 s8 eb8
                              subst eb8
                              have mk8 := mk7.step ok f8 s8
                              have kp8 := kp7.trans f8.kp
                              cases b8 with
                              | false =>
                                rw [if_neg Bool.false_ne_true]
                                rw [if_neg Bool.false_ne_true] at hT1
                                cases hT1
                                exact ⟨hjlt, φ8, rs6, mk8, kp8, hr6⟩
                              | true =>
                                rw [if_pos rfl]
                                rw [if_pos rfl] at hT1
                                cases hE1 : (ev call gl el ρ2 S10).calm with
                                | stuck => rw [hE1] at hT1; cases hT1
                                | exc _ _ => exact absurd hE1 calm_noexc
                                | ok d11 S11 =>
                                  rw [hE1] at hT1
                                  cases hT1
                                  refine ⟨φ8, S10, ρ2, s8, e3.mono ok f8, ?_⟩
                                  rw [calm_ok hE1]
                                  intro φ9 H9 w9 f9 s9 r9
                                  have mk9 := mk8.step ok f9 s9
                                  have kp9 := kp8.trans f9.kp
                                  obtain ⟨vs9, ev9, rv9⟩ := mk9.acc
                                  refine ⟨vs9, ev9, ?_, hjlt, φ9, rs6 ++ [d11], mk9.add ok hP ev9 r9, kp9.trans (kp_mask mk9.hidden), ?_⟩
                                  · rw [rv9.length]
                                    rw [← hr6] at hR
                                    simp only [List.length_append, Option.toList_some, List.length_cons] at hR
                                    omega
                                  · rw [List.append_assoc]
                                    exact hr6
                    · have ej : j = ys.length := by omega
                      subst ej
                      rw [List.drop_length] at hl6
                      cases hl6
                      rw [List.nil_append] at hr6
                      exact .inl ⟨hJ1.stops φ6 H6 kp6, hlt, φ6, rs6, mk6, hr6⟩
    · have ei : i = xs.length := by omega
      subst ei
      rw [List.drop_length] at hl
      cases hl
      rw [List.append_nil] at hr
      subst hr
      refine .inl ⟨hJ.stops φ2 H2 (mk.kp hP), ?_⟩
      obtain ⟨q1, q2⟩ := mk.fin ok s1 hP
      exact t3 _ H2 _ mk.fr q1 q2
theorem s_setLc2 {i : Nat} {n : Str} {py lp pos : Pos} {elt tg iter tg1 iter1 : Expr} {ifs ifs1 : List Expr} {scope : Scope} {own : List (Str × Nat)} {k k1 : ItK} {its cond its1 cond1 : List E} {t t1 : Tg} {el : E} {ow ow1 : List Nat} (hc : X.calm = true) (hN : X.N.Nodup) (hy : X.N[i]? = some n) (hyl : X.env.scope.names.lookup n = some .local)
    (hsw : swapsWith (.ListComp elt [⟨tg, iter, ifs, 0⟩, ⟨tg1, iter1, ifs1, 0⟩] scope lp) (some (.Name n py)) pos.line X.env = pure true)
    (hi : PIx X C W call gl tg iter k its) (bo : BlkOk X.N X.env.scope scope own) (ho : own.map (·.2) = ow) (hv : ∀ i ∈ ow1, i ∈ ow) (htv : ∀ i ∈ tvs t, i ∈ ow) (htv1 : ∀ i ∈ tvs t1, i ∈ ow1)
    (hg : ∀ (s : Shared) (H : Hp) (A : Addr) (cl : List (Str × Addr)) (fp : List Addr), PG (X.blk s H scope (compEnvC scope cl A X.env) fp) tg (gOf C t)) (ht : ∀ (s : Shared) (H : Hp) (A : Addr) (cl : List (Str × Addr)) (fp : List Addr), PTs (X.blk s H scope (compEnvC scope cl A X.env) fp) ifs (tOfT C W0 (evC call gl cond)))
    (hi1 : ∀ (s : Shared) (H : Hp) (A : Addr) (cl : List (Str × Addr)) (fp : List Addr), PIx (X.blk s H scope (compEnvC scope cl A X.env) fp) C W0 call gl tg1 iter1 k1 its1)
    (hg1 : ∀ (s : Shared) (H : Hp) (A : Addr) (cl : List (Str × Addr)) (fp : List Addr), PG (X.blk s H scope (compEnvC scope cl A X.env) fp) tg1 (gOf C t1)) (ht1 : ∀ (s : Shared) (H : Hp) (A : Addr) (cl : List (Str × Addr)) (fp : List Addr), PTs (X.blk s H scope (compEnvC scope cl A X.env) fp) ifs1 (tOfT C W0 (evC call gl cond1)))
    (he : ∀ (s : Shared) (H : Hp) (A : Addr) (cl : List (Str × Addr)) (fp : List Addr), PEe (X.blk s H scope (compEnvC scope cl A X.env) fp) C W0 call gl elt el) (hs : ∀ x, foldedSetIterable iter X.env x = pure x) (hs1 : ∀ env x, foldedSetIterable iter1 env x = pure x) :
    PSe X C W call gl (.Assign [.Name n py] (.ListComp elt [⟨tg, iter, ifs, 0⟩, ⟨tg1, iter1, ifs1, 0⟩] scope lp) pos) (.asg (.v i) (.lc2 ow ow1 k its t cond k1 its1 t1 cond1 el)) := by
  subst ho
  refine ps_imp (ps_setLc2 hc hN hy hyl hsw hi bo hv hg ht hi1 hg1 ht1 he hs hs1) fun N σ H ⟨φ, S, ρ, s, e, t⟩ => ?_
  simp only [ex] at t
  refine lc2_rd ok htv htv1 ((lift_rd (R := Rep C) (f := ev call gl (.lc2 _ ow1 k its _ cond k1 its1 _ cond1 el)) (g := fun ρ d S1 => match bindT _ d ρ with
      | some ρ1 => .nx ρ1 S1
      | none => .stuck) ok s e t).imp fun v H1 ⟨φ1, S1, d, s1, e1, r1, t1⟩ => ?_)
  simp only [bindT] at t1
  split at t1
  · rename_i ρ1 hb
    split at hb
    · cases hb
      exact t1.now s1 (e1.set r1)
    · cases hb
  · exact t1.elim
end
end SF

set_option maxHeartbeats 200000
set_option Elab.async false
set_option linter.all false
set_option maxRecDepth 100000
/-! The checker: whether a tree of the interpreter's is an expression of the text; that it is read by the interpreter then. -/
namespace SF
open PySem PySem.Spec PyProof.Rows L2 RZ

def visB (sc : Scope) (x : Str) : Bool := match sc.names.lookup x with
  | some .local => true
  | some .cell => true
  | some .free => true
  | _ => false
def locB (sc : Scope) (x : Str) : Bool := match sc.names.lookup x with
  | some .local => true
  | some .cell => true
  | _ => false
def loclB (sc : Scope) (x : Str) : Bool := decide (sc.names.lookup x = some .local)
def notSet : Expr → Bool
  | .Set _ _ _ => false
  | _ => true
def isTup : Expr → Bool
  | .Tuple _ _ _ => true
  | _ => false
def itF (G : Gd) (sc : Scope) (k : ItK) (tg iter : Expr) : Option (List Expr) := match k, iter with
  | .seq, e => some [e]
  | .r1, .Call (.Name x _) [a] [] _ => if x = "range" ∧ isGl sc "range" = true ∧ ("range" : Str) ∈ G.blt then some [a] else none
  | .r2, .Call (.Name x _) [a, b] [] _ => if x = "range" ∧ isGl sc "range" = true ∧ ("range" : Str) ∈ G.blt then some [a, b] else none
  | .zip, .Call (.Name x _) [a, b] [] _ => if x = "zip" ∧ isGl sc "zip" = true ∧ ("zip" : Str) ∈ G.blt ∧ isTup tg = true then some [a, b] else none
  | .enum, .Call (.Name x _) [a] [] _ => if x = "enumerate" ∧ isGl sc "enumerate" = true ∧ ("enumerate" : Str) ∈ G.blt ∧ isTup tg = true then some [a] else none
  | _, _ => none
mutual
/-- a target: cl the names that this place holds in cells of its own -/
def tgC (N : List Str) (cl : Str → Bool) (sc : Scope) : Tg → Expr → Bool
  | .v i, e => (match e with
    | .Name x _ => decide (N[i]? = some x) && locB sc x && (cl x || loclB sc x)
    | _ => false)
  | .t ts, e => (match e with
    | .Tuple es _ _ => tgsC N cl sc ts es
    | _ => false)
  | .u ts, e => (match e with
    | .Tuple es _ _ => tgsC N cl sc ts es
    | _ => false)
def tgsC (N : List Str) (cl : Str → Bool) (sc : Scope) : List Tg → List Expr → Bool
  | [], es => es.isEmpty
  | t :: ts, es => (match es with
    | [] => false
    | e :: r => noStar e && tgC N cl sc t e && tgsC N cl sc ts r)
end
def ownOf (N : List Str) (ow : List Nat) : List (Str × Nat) := ow.filterMap fun i => N[i]?.map fun x => (x, i)
/-- a comprehension's own part -/
def lcOk (N : List Str) (sc scope : Scope) (ow : List Nat) (t : Tg) (tg iter : Expr) : Bool :=
  blkC N sc scope (ownOf N ow) && decide ((ownOf N ow).map (·.2) = ow) && (tvs t).all (fun i => decide (i ∈ ow)) && tgC N (fun x => decide (scope.names.lookup x = some .cell)) (relS scope sc) t tg && notSet iter
mutual
def chk (G : Gd) (N : List Str) : E → Bool → Scope → Expr → Bool
  | .var i, _, sc, e => (match e with
    | .Name x _ => decide (N[i]? = some x) && visB sc x && !(x == "__debug__") && !(x == "__classdict__")
    | _ => false)
  | .non, _, _, e => isNone e
  | .bl b, _, _, e => (match e with
    | .Constant (.bool c) _ _ => b == c
    | _ => false)
  | .int i, _, _, e => (match e with
    | .Constant (.int c) _ _ => decide (i = c)
    | _ => false)
  | .str s, _, _, e => (match e with
    | .Constant (.str c) _ _ => decide (s = c)
    | _ => false)
  | .g k, _, sc, e => (match e with
    | .Name x _ => decide (G.gn[k]? = some x) && isGl sc x
    | _ => false)
  | .pr p l, t, sc, e => (match e with
    | .UnaryOp .Not a _ => decide (p = .not) && chkN G N l t sc a
    | _ => (match prF G sc p e with
      | some es => chkL G N l sc es
      | none => false))
  | .sl a lo hi, _, sc, e => (match e with
    | .Subscript x (.Slice l h none _) _ => chk G N a false sc x && chkI G N lo sc l && chkI G N hi sc h
    | _ => false)
  | .and a b, t, sc, e => (match e with
    | .BoolOp .And (x :: y :: r) p => chk G N a t sc x && chk G N b t sc (match r with
      | [] => y
      | _ => .BoolOp .And (y :: r) p)
    | _ => false)
  | .or a b, t, sc, e => (match e with
    | .BoolOp .Or (x :: y :: r) p => chk G N a t sc x && chk G N b t sc (match r with
      | [] => y
      | _ => .BoolOp .Or (y :: r) p)
    | _ => false)
  | .ifx c a b, t, sc, e => (match e with
    | .IfExp x y z _ => !t && chk G N c true sc x && chk G N a false sc y && chk G N b false sc z
    | _ => false)
  | .chain p q a b c, _, sc, e => (match e with
    | .Compare x [o, o'] [y, z] _ => cmpOk p o && cmpOk q o' && !lastMarks [o, o'] [y, z] && chk G N a false sc x && chk G N b false sc y && chk G N c false sc z
    | _ => false)
  | .call f l, _, sc, e => (match e with
    | .Call (.Name x _) es [] _ => decide (G.fns[f]? = some x) && isGl sc x && chkL G N l sc es
    | _ => false)
  | .callL g i caps l, _, sc, e => (match e with
    | .Call (.Name x _) (.Lambda params body scope _ :: es) [] _ => G.ml && decide (G.fns[g]? = some x) && isGl sc x && G.lc i params body scope && noDfl params && lamPB sc scope N caps (G.caps i) && chkL G N l sc es
    | _ => false)
  | .cv f l, _, sc, e => (match e with
    | .Call (.Name x p) es [] _ => chk G N f false sc (.Name x p) && chkL G N l sc es
    | _ => false)
  | .lc ow k its t cond el, _, sc, e => (match e with
    | .ListComp elt [⟨tg, iter, ifs, 0⟩] scope _ => (match itF G sc k tg iter with
      | some es => chkL G N its sc es && lcOk N sc scope ow t tg iter && chkC G N cond (relS scope sc) ifs && chk G N el false (relS scope sc) elt
      | none => false)
    | _ => false)
  | .lc2 ow ow1 k its t cond k1 its1 t1 cond1 el, _, sc, e => (match e with
    | .ListComp elt [⟨tg, iter, ifs, 0⟩, ⟨tg1, iter1, ifs1, 0⟩] scope _ => (match itF G sc k tg iter with
      | some es => (match itF G (relS scope sc) k1 tg1 iter1 with
        | some es1 => !G.ml && chkL G N its sc es && lcOk N sc scope ow t tg iter && chkC G N cond (relS scope sc) ifs && chkL G N its1 (relS scope sc) es1 && (ow1.all (fun i => decide (i ∈ ow)) && (tvs t1).all (fun i => decide (i ∈ ow1)) && tgC N (fun x => decide (scope.names.lookup x = some .cell)) (relS scope sc) t1 tg1 && notSet iter1) && chkC G N cond1 (relS scope sc) ifs1 && chk G N el false (relS scope sc) elt
        | none => false)
      | none => false)
    | _ => false)
  | _, _, _, _ => false
def chkN (G : Gd) (N : List Str) : List E → Bool → Scope → Expr → Bool
  | [x], t, sc, e => noStar e && chk G N x t sc e
  | _, _, _, _ => false
def chkL (G : Gd) (N : List Str) : List E → Scope → List Expr → Bool
  | [], _, es => es.isEmpty
  | x :: l, sc, es => (match es with
    | [] => false
    | e :: r => noStar e && chk G N x false sc e && chkL G N l sc r)
def chkI (G : Gd) (N : List Str) : List E → Scope → Option Expr → Bool
  | [], _, o => o.isNone
  | [x], sc, o => (match o with
    | some e => chk G N x false sc e
    | none => false)
  | _, _, _ => false
def chkC (G : Gd) (N : List Str) : List E → Scope → List Expr → Bool
  | [], _, es => es.isEmpty
  | [x], sc, es => (match es with
    | [e] => chk G N x true sc e
    | _ => false)
  | _, _, _ => false
end

/-! ### soundness -/
def PX (t : Bool) (X : Cx) (C : Cn) (W : WX) (call : D → List D → Sto → Res D) (gl : List D) (e : Expr) (x : E) : Prop := match t with
  | true => PTe X C W call gl e x
  | false => PEe X C W call gl e x
theorem visB_of {sc : Scope} {x : Str} (h : visB sc x = true) : Vis sc x := by
  unfold visB at h
  split at h
  · exact .inl ‹_›
  · exact .inr (.inl ‹_›)
  · exact .inr (.inr ‹_›)
  · cases h
theorem locB_of {sc : Scope} {x : Str} (h : locB sc x = true) : Loc sc x := by
  unfold locB at h
  split at h
  · exact .inl ‹_›
  · exact .inr ‹_›
  · cases h
theorem asg_cons {e : Expr} (h : noStar e = true) (es : List Expr) (env : PySem.Env) : assignEach (e :: es) env = (false, assign e env) :: assignEach es env := by
  cases e <;> first | rfl | exact Bool.noConfusion h
theorem asg_len : ∀ {es : List Expr} (env : PySem.Env), es.all noStar = true → (assignEach es env).length = es.length ∧ (assignEach es env).findIdx? (·.1) = none
  | [], _, _ => ⟨rfl, rfl⟩
  | e :: es, env, h => by
    rw [List.all_cons, Bool.and_eq_true] at h
    obtain ⟨h1, h2⟩ := asg_len env h.2
    rw [asg_cons h.1]
    refine ⟨by rw [List.length_cons, List.length_cons, h1], ?_⟩
    rw [List.findIdx?_cons, h2]
    rfl
theorem pts_no {X : Cx} {C : Cn} {W : WX} {call : D → List D → Sto → Res D} {gl : List D} : PTs X [] (tOfT C W (evC call gl [])) := ⟨fun pins s σ H Q I q => pts_nil.run pins s σ H Q I (by
  obtain ⟨φ, S, ρ, hs, e, t⟩ := q
  simp only [evC] at t
  exact t φ H true (Fr.refl _ _) hs rfl)⟩
theorem pts_yes {X : Cx} {C : Cn} {W : WX} {call : D → List D → Sto → Res D} {gl : List D} {e : Expr} {x : E} (h : PTe X C W call gl e x) : PTs X [e] (tOfT C W (evC call gl [x])) := ⟨fun pins s σ H Q I q => (pts_one h).run pins s σ H Q I (by
  obtain ⟨φ, S, ρ, hs, e, t⟩ := q
  simp only [evC] at t
  exact ⟨φ, S, ρ, hs, e, t⟩)⟩
section
variable {C : Cn} {call : D → List D → Sto → Res D} {gl : List D} {G : Gd} {N : List Str} {k : Nat}
theorem tgsC_len {cl : Str → Bool} {sc : Scope} : ∀ {ts : List Tg} {es : List Expr}, tgsC N cl sc ts es = true → es.length = ts.length ∧ es.all noStar = true
  | [], es, h => by
    simp only [tgsC] at h
    cases es with
    | nil => exact ⟨rfl, rfl⟩
    | cons _ _ => cases h
  | t :: ts, es, h => by
    cases es with
    | nil => simp [tgsC] at h
    | cons e es =>
      simp only [tgsC, Bool.and_eq_true] at h
      obtain ⟨h1, h2⟩ := tgsC_len h.2
      exact ⟨by rw [List.length_cons, List.length_cons, h1], by rw [List.all_cons, h.1.1, h2]; rfl⟩
section
variable {X : Cx} {W : WX} {sc : Scope} (O : XOk X C W call gl G N sc k) {cl : Str → Bool} (hcl : ∀ x, cl x = true → X.fn x = true)
include O hcl
mutual
theorem tgC_ok : ∀ (t : Tg) (e : Expr), tgC N cl sc t e = true → PG X e (gOf C t)
  | .v i, e, h => by
    simp only [tgC] at h
    split at h
    · rename_i x p
      simp only [Bool.and_eq_true, decide_eq_true_eq, Bool.or_eq_true] at h
      refine t_name (by rw [O.eN]; exact O.nd) (by rw [O.eN]; exact h.1.1) (by rw [O.eS]; exact locB_of h.1.2) ?_
      rcases h.2 with q | q
      · exact .inl (hcl x q)
      · exact .inr (by rw [O.eS]; exact of_decide_eq_true q)
    · cases h
  | .t ts, e, h => by
    simp only [tgC] at h
    split at h
    · rename_i es _ _
      obtain ⟨h1, h2⟩ := tgsC_len h
      obtain ⟨h3, h4⟩ := asg_len X.env h2
      exact t_tup O.hK O.calm (tgsC_ok ts es h) h1 h3 h4
    · cases h
  | .u ts, e, h => by
    simp only [tgC] at h
    split at h
    · rename_i es _ _
      obtain ⟨h1, h2⟩ := tgsC_len h
      obtain ⟨h3, h4⟩ := asg_len X.env h2
      exact t_unl O.calm (tgsC_ok ts es h) h1 h3 h4
    · cases h
theorem tgsC_ok : ∀ (ts : List Tg) (es : List Expr), tgsC N cl sc ts es = true → PGs X es (gsOf C ts)
  | [], es, h => by
    simp only [tgsC] at h
    cases es with
    | nil => exact ts_nil
    | cons _ _ => cases h
  | t :: ts, es, h => by
    cases es with
    | nil => simp [tgsC] at h
    | cons e es =>
      simp only [tgsC, Bool.and_eq_true] at h
      exact ts_cons (tgC_ok t e h.1.2) (tgsC_ok ts es h.2) (by rw [asg_cons h.1.1]; rfl)
end
end
section
variable {X : Cx} {W : WX} {sc : Scope} (O : XOk X C W call gl G N sc k)
include O
theorem itF_ok {kk : ItK} {tg iter : Expr} {es : List Expr} {l : List E} (h : itF G sc kk tg iter = some es) (d : DL X C W call gl l es) : PIx X C W call gl tg iter kk l := by
  have ok := O.ok
  have hK := O.hK
  unfold itF at h
  split at h
  · cases h
    obtain ⟨x, rfl, hx⟩ := d.one
    exact it_seq ok hK hx
  · obtain ⟨⟨rfl, e1, e2⟩, rfl⟩ := ite_some h
    exact it_r1 ok (O.isGl e1) (O.mg _ e2) d
  · obtain ⟨⟨rfl, e1, e2⟩, rfl⟩ := ite_some h
    exact it_r2 ok (O.isGl e1) (O.mg _ e2) d
  · obtain ⟨⟨rfl, e1, e2, e3⟩, rfl⟩ := ite_some h
    cases tg with
    | Tuple es kk pp => exact it_zip ok hK (O.isGl e1) (O.mg _ e2) d
    | _ => cases e3
  · obtain ⟨⟨rfl, e1, e2, e3⟩, rfl⟩ := ite_some h
    cases tg with
    | Tuple es kk pp => exact it_enum ok hK (O.isGl e1) (O.mg _ e2) d
    | _ => cases e3
  · cases h
theorem XOk.blk (s : Shared) (H : Hp) (scope : Scope) (A : Addr) (cls : List (Str × Addr)) (fp : List Addr) (bc : BlkC X s cls) : XOk (X.blk s H scope (compEnvC scope cls A X.env) fp) C W0 call gl G N (relS scope sc) k where
  eS := by
    rw [← O.eS]
    rfl
  eN := O.eN
  nd := O.nd
  calm := O.calm
  ok := O.ok
  hK := O.hK
  rm := O.rm
  tk := fun _ _ ⟨_, _, _, _, _, _, _, _, _, _, _, _, _, _, _, _, w⟩ => w.elim
  mg := O.mg
  fns := fun i x h => ⟨(O.fns i x h).ex, (O.fns i x h).mg, (O.fns i x h).kp⟩
  glb := O.glb
  gdb := O.gdb
  clos := O.clos
  cfn := O.cfn
  cal := O.cal
  cb := fun hml x c e => by
    rcases bc.cel x c e with z | z
    · exact O.cb hml x c z
    · exact ⟨Heap.get?_none_of_le (Nat.le_trans bc.sz z), fun m => Nat.lt_irrefl _ (Nat.lt_of_lt_of_le (bc.fr c m) z)⟩
  lam := O.lam
/-- the same of any block, where no lambda stands -/
theorem XOk.blkN (hml : G.ml = false) (s : Shared) (H : Hp) (scope : Scope) (A : Addr) (cls : List (Str × Addr)) (fp : List Addr) : XOk (X.blk s H scope (compEnvC scope cls A X.env) fp) C W0 call gl G N (relS scope sc) k where
  eS := by
    rw [← O.eS]
    rfl
  eN := O.eN
  nd := O.nd
  calm := O.calm
  ok := O.ok
  hK := O.hK
  rm := O.rm
  tk := fun _ _ ⟨_, _, _, _, _, _, _, _, _, _, _, _, _, _, _, _, w⟩ => w.elim
  mg := O.mg
  fns := fun i x h => ⟨(O.fns i x h).ex, (O.fns i x h).mg, (O.fns i x h).kp⟩
  glb := O.glb
  gdb := O.gdb
  clos := O.clos
  cfn := O.cfn
  cal := O.cal
  cb := fun z => by rw [hml] at z; cases z
  lam := fun z => by rw [hml] at z; cases z
theorem set_no {iter : Expr} (h : notSet iter = true) (env : PySem.Env) (x : Value) : foldedSetIterable iter env x = pure x := by
  cases iter <;> first | rfl | exact Bool.noConfusion h
theorem dbg_fn {i : Nat} {x : Str} (h : G.fns[i]? = some x) : (x == ("__debug__" : Str)) = false := by
  cases e : x == ("__debug__" : Str) with
  | false => rfl
  | true => exact absurd (eq_of_beq e ▸ List.mem_of_getElem? h) O.gdb.1
theorem dbg_gn {i : Nat} {x : Str} (h : G.gn[i]? = some x) : (x == ("__debug__" : Str)) = false := by
  cases e : x == ("__debug__" : Str) with
  | false => rfl
  | true => exact absurd (eq_of_beq e ▸ List.mem_of_getElem? h) O.gdb.2
theorem px_val {t : Bool} {e : Expr} {x : E} (h : PEe X C W call gl e x) (he : ∀ whole, isTrue e X.env whole = (do let v ← whole; standAt e.pos; holding [v] (truthy v))) : PX t X C W call gl e x := by
  cases t with
  | false => exact h
  | true => exact test_val O.ok O.hK h he
theorem prF_px {t : Bool} {p : Pr} {e : Expr} {es : List Expr} {l : List E} (h : prF G sc p e = some es) (d : DL X C W call gl l es) : PX t X C W call gl e (.pr p l) := by
  cases t with
  | false => exact prF_ok O h d
  | true =>
    have h0 := h
    unfold prF at h
    split at h
    · exact test_val O.ok O.hK (prF_ok O h0 d) fun _ => rfl
    · exact test_val O.ok O.hK (prF_ok O h0 d) fun _ => rfl
    · exact prF_test O rfl h0 d
    · exact test_val O.ok O.hK (prF_ok O h0 d) fun _ => rfl
    · exact test_val O.ok O.hK (prF_ok O h0 d) fun _ => rfl
    · exact test_val O.ok O.hK (prF_ok O h0 d) fun _ => rfl
    · exact test_val O.ok O.hK (prF_ok O h0 d) fun _ => rfl
    · exact test_val O.ok O.hK (prF_ok O h0 d) fun _ => rfl
    · cases h
end
theorem pw_bool {X : Cx} {op : BoolOp} {vs : List Expr} {p : Pos} {t : TT} (h : PT X (.BoolOp op vs p) t) : PW X (.BoolOp op vs p) t := ⟨fun _ pins s σ H Q I q => h.run pins s σ H Q I q⟩
theorem pe_and1 {X : Cx} {e : Expr} {p : Pos} {t : TE} (h : PE X e t) : PE X (.BoolOp .And [e] p) t := ⟨fun pins s σ H Q I q => h.run pins s σ H Q I q⟩
theorem pe_or1 {X : Cx} {e : Expr} {p : Pos} {t : TE} (h : PE X e t) : PE X (.BoolOp .Or [e] p) t := ⟨fun pins s σ H Q I q => h.run pins s σ H Q I q⟩
theorem px_and {X : Cx} {W : WX} {sc : Scope} (O : XOk X C W call gl G N sc k) {t : Bool} {x y : Expr} {r : List Expr} {p : Pos} {a b : E} (ha : PX t X C W call gl x a) (hb : PX t X C W call gl (match r with
    | [] => y
    | _ => .BoolOp .And (y :: r) p) b) : PX t X C W call gl (.BoolOp .And (x :: y :: r) p) (.and a b) := by
  cases t with
  | false =>
    refine val_and O.ok O.hK ha ?_
    cases r with
    | nil => exact pe_and1 hb
    | cons _ _ => exact hb
  | true =>
    refine (test_and O.ok O.hK ha ?_).pt
    cases r with
    | nil => exact test_and1 hb
    | cons _ _ => exact pw_bool hb
theorem px_or {X : Cx} {W : WX} {sc : Scope} (O : XOk X C W call gl G N sc k) {t : Bool} {x y : Expr} {r : List Expr} {p : Pos} {a b : E} (ha : PX t X C W call gl x a) (hb : PX t X C W call gl (match r with
    | [] => y
    | _ => .BoolOp .Or (y :: r) p) b) : PX t X C W call gl (.BoolOp .Or (x :: y :: r) p) (.or a b) := by
  cases t with
  | false =>
    refine val_or O.ok O.hK ha ?_
    cases r with
    | nil => exact pe_or1 hb
    | cons _ _ => exact hb
  | true =>
    refine (test_or O.ok O.hK ha ?_).pt
    cases r with
    | nil => exact test_or1 hb
    | cons _ _ => exact pw_bool hb
mutual
theorem chk_ok : ∀ (x : E) (t : Bool) (sc : Scope) (e : Expr) {X : Cx} {W : WX}, XOk X C W call gl G N sc k → chk G N x t sc e = true → PX t X C W call gl e x
  | .var i, t, sc, e, X, W, O, h => by
    simp only [chk] at h
    split at h
    · simp only [Bool.and_eq_true, decide_eq_true_eq, Bool.not_eq_true'] at h
      exact px_val O (f_var O.ok (by rw [O.eN]; exact h.1.1.1) (by rw [O.eS]; exact visB_of h.1.1.2) h.1.2 h.2) fun _ => rfl
    · cases h
  | .non, t, sc, e, X, W, O, h => by
    simp only [chk] at h
    obtain ⟨_, _, rfl⟩ := isNone_of O h
    exact px_val O (f_non O.ok) fun _ => rfl
  | .bl b, t, sc, e, X, W, O, h => by
    simp only [chk] at h
    split at h
    · rw [eq_of_beq h]
      exact px_val O (f_bl O.ok) fun _ => rfl
    · cases h
  | .int b, t, sc, e, X, W, O, h => by
    simp only [chk] at h
    split at h
    · rw [of_decide_eq_true h]
      exact px_val O (f_int O.ok) fun _ => rfl
    · cases h
  | .str b, t, sc, e, X, W, O, h => by
    simp only [chk] at h
    split at h
    · rw [of_decide_eq_true h]
      exact px_val O (f_str O.ok) fun _ => rfl
    · cases h
  | .g i, t, sc, e, X, W, O, h => by
    simp only [chk] at h
    split at h
    · simp only [Bool.and_eq_true, decide_eq_true_eq] at h
      obtain ⟨d, h1, h2⟩ := O.glb i _ h.1
      exact px_val O (f_g O.ok h1 (O.isGl h.2) h2 (dbg_gn O h.1)) fun _ => rfl
    · cases h
  | .pr p l, t, sc, e, X, W, O, h => by
    simp only [chk] at h
    split at h
    · simp only [Bool.and_eq_true, decide_eq_true_eq] at h
      obtain ⟨rfl, h⟩ := h
      obtain ⟨x, rfl, h1, h2⟩ := chkN_ok l t sc _ O h
      cases t with
      | true => exact test_not O.ok O.hK rfl h2
      | false => exact f_not O.ok O.hK ⟨h1, h2, True.intro⟩
    · split at h
      · rename_i es he
        exact prF_px O he (chkL_ok l sc es O h)
      · cases h
  | .sl a lo hi, t, sc, e, X, W, O, h => by
    simp only [chk] at h
    split at h
    · simp only [Bool.and_eq_true] at h
      exact px_val O (f_sl O.ok O.hK (chk_ok a false sc _ O h.1.1) (chkI_ok lo sc _ O h.1.2) (chkI_ok hi sc _ O h.2)) fun _ => rfl
    · cases h
  | .and a b, t, sc, e, X, W, O, h => by
    simp only [chk] at h
    split at h
    · simp only [Bool.and_eq_true] at h
      exact px_and O (chk_ok a t sc _ O h.1) (chk_ok b t sc _ O h.2)
    · cases h
  | .or a b, t, sc, e, X, W, O, h => by
    simp only [chk] at h
    split at h
    · simp only [Bool.and_eq_true] at h
      exact px_or O (chk_ok a t sc _ O h.1) (chk_ok b t sc _ O h.2)
    · cases h
  | .ifx c a b, t, sc, e, X, W, O, h => by
    simp only [chk] at h
    split at h
    · simp only [Bool.and_eq_true, Bool.not_eq_true'] at h
      obtain ⟨⟨⟨rfl, h1⟩, h2⟩, h3⟩ := h
      exact val_ifx O.ok (chk_ok c true sc _ O h1) (chk_ok a false sc _ O h2) (chk_ok b false sc _ O h3)
    · cases h
  | .chain p q a b c, t, sc, e, X, W, O, h => by
    simp only [chk] at h
    split at h
    · simp only [Bool.and_eq_true, Bool.not_eq_true'] at h
      obtain ⟨⟨⟨⟨⟨h1, h2⟩, h3⟩, h4⟩, h5⟩, h6⟩ := h
      have ha := chk_ok a false sc _ O h4
      have hb := chk_ok b false sc _ O h5
      have hc := chk_ok c false sc _ O h6
      cases t with
      | false => exact val_chain O.ok (cmp_op O h1).1 (cmp_op O h1).2 (cmp_op O h2).2 ha hb hc h3
      | true => exact test_chain O.ok (cmp_op O h1).1 (cmp_op O h2).1 (cmp_op O h1).2 (cmp_op O h2).2 ha hb hc h3
    · cases h
  | .call f l, t, sc, e, X, W, O, h => by
    simp only [chk] at h
    split at h
    · rename_i x q es p
      simp only [Bool.and_eq_true, decide_eq_true_eq] at h
      obtain ⟨⟨h1, h2⟩, h3⟩ := h
      have d := chkL_ok l sc es O h3
      refine px_val O ?_ fun _ => rfl
      cases es with
      | nil =>
        cases l with
        | nil => exact val_call0 O.ok (O.fns f x h1) O.rm O.tk (O.isGl h2) (dbg_fn O h1)
        | cons _ _ => exact d.elim
      | cons e es => exact val_call O.ok (O.fns f x h1) O.rm O.tk (O.isGl h2) (dbg_fn O h1) d
    · cases h
  | .callL g i caps l, t, sc, e, X, W, O, h => by
    simp only [chk] at h
    split at h
    · simp only [Bool.and_eq_true, decide_eq_true_eq] at h
      obtain ⟨⟨⟨⟨⟨⟨h1, h2⟩, h3⟩, h4⟩, h5⟩, h6⟩, h7⟩ := h
      exact px_val O (val_callL O h1 h2 h3 (dbg_fn O h2) h4 h5 (lamP_by h6) (chkL_ok l sc _ O h7)) fun _ => rfl
    · cases h
  | .cv f l, t, sc, e, X, W, O, h => by
    simp only [chk] at h
    split at h
    · simp only [Bool.and_eq_true] at h
      exact px_val O (val_cv O (chk_ok f false sc _ O h.1) (chkL_ok l sc _ O h.2)) fun _ => rfl
    · cases h
  | .lc ow kk its tg cond el, t, sc, e, X, W, O, h => by
    simp only [chk] at h
    split at h
    · rename_i elt tge iter ifs scope p
      split at h
      · rename_i es he
        simp only [Bool.and_eq_true] at h
        obtain ⟨⟨⟨h1, h2⟩, h3⟩, h4⟩ := h
        unfold lcOk at h2
        simp only [Bool.and_eq_true, decide_eq_true_eq, List.all_eq_true] at h2
        obtain ⟨⟨⟨⟨h5, h6⟩, h7⟩, h8⟩, h9⟩ := h2
        refine px_val O ?_ fun _ => rfl
        have bo : BlkOk X.N X.env.scope scope (ownOf N ow) := by rw [O.eN, O.eS]; exact blkOk_by h5
        have hE := pe_lcO (wi := tG C W (ItOk C) (evIt call gl kk its)) (g := gOf C tg) (tt := tOfT C W0 (evC call gl cond)) (te := tOf C W0 (ev call gl el)) O.calm (by rw [O.eN]; exact O.nd) (itF_ok O he (chkL_ok its sc es O h1)) bo
          (fun s H A cls fp bc => ⟨tgC_ok (O.blk s H scope A cls fp bc) (fun x hx => beq_iff_eq.mpr (of_decide_eq_true hx)) tg tge h8, chkC_ok cond (relS scope sc) ifs (O.blk s H scope A cls fp bc) h3, chk_ok el false (relS scope sc) elt (O.blk s H scope A cls fp bc) h4⟩) (set_no O h9 _)
          (elt := elt) (pos := p)
        rw [h6] at hE
        exact pe_imp hE fun σ H Q q => lc_rd O.ok h7 q
      · cases h
    · cases h
  | .lc2 ow ow1 kk its tg cond k1 its1 tg1 cond1 el, t, sc, e, X, W, O, h => by
    simp only [chk] at h
    split at h
    · rename_i elt tge iter ifs tge1 iter1 ifs1 scope p
      split at h
      · rename_i es he
        split at h
        · rename_i es1 he1
          simp only [Bool.and_eq_true, Bool.not_eq_true', decide_eq_true_eq, List.all_eq_true] at h
          obtain ⟨⟨⟨⟨⟨⟨⟨hml, h1⟩, h2⟩, h3⟩, h10⟩, ⟨⟨⟨h11, h12⟩, h13⟩, h14⟩⟩, h15⟩, h4⟩ := h
          unfold lcOk at h2
          simp only [Bool.and_eq_true, decide_eq_true_eq, List.all_eq_true] at h2
          obtain ⟨⟨⟨⟨h5, h6⟩, h7⟩, h8⟩, h9⟩ := h2
          refine px_val O ?_ fun _ => rfl
          have bo : BlkOk X.N X.env.scope scope (ownOf N ow) := by rw [O.eN, O.eS]; exact blkOk_by h5
          have hE := pe_lc2 (wi := tG C W (ItOk C) (evIt call gl kk its)) (g := gOf C tg) (tt := tOfT C W0 (evC call gl cond)) (wi1 := tG C W0 (ItOk C) (evIt call gl k1 its1)) (g1 := gOf C tg1) (tt1 := tOfT C W0 (evC call gl cond1)) (te := tOf C W0 (ev call gl el)) O.calm (by rw [O.eN]; exact O.nd) (itF_ok O he (chkL_ok its sc es O h1)) bo (by rw [h6]; exact h11)
            (fun s H A cls fp => tgC_ok (O.blkN hml s H scope A cls fp) (fun x hx => beq_iff_eq.mpr (of_decide_eq_true hx)) tg tge h8) (fun s H A cls fp => chkC_ok cond (relS scope sc) ifs (O.blkN hml s H scope A cls fp) h3)
            (fun s H A cls fp => itF_ok (O.blkN hml s H scope A cls fp) he1 (chkL_ok its1 _ es1 (O.blkN hml s H scope A cls fp) h10))
            (fun s H A cls fp => tgC_ok (O.blkN hml s H scope A cls fp) (fun x hx => beq_iff_eq.mpr (of_decide_eq_true hx)) tg1 tge1 h13) (fun s H A cls fp => chkC_ok cond1 (relS scope sc) ifs1 (O.blkN hml s H scope A cls fp) h15)
            (fun s H A cls fp => chk_ok el false (relS scope sc) elt (O.blkN hml s H scope A cls fp) h4) (set_no O h9 _) (fun env => set_no O h14 env) (elt := elt) (pos := p)
          rw [h6] at hE
          exact pe_imp hE fun σ H Q q => lc2_rd O.ok h7 h12 q
        · cases h
      · cases h
    · cases h
  | .lam _ _, t, sc, e, X, W, O, h => by
    simp only [chk] at h
    cases h
theorem chkN_ok : ∀ (l : List E) (t : Bool) (sc : Scope) (e : Expr) {X : Cx} {W : WX}, XOk X C W call gl G N sc k → chkN G N l t sc e = true → ∃ x, l = [x] ∧ noStar e = true ∧ PX t X C W call gl e x
  | [], t, sc, e, X, W, O, h => by simp [chkN] at h
  | [x], t, sc, e, X, W, O, h => by
    simp only [chkN, Bool.and_eq_true] at h
    exact ⟨x, rfl, h.1, chk_ok x t sc e O h.2⟩
  | _ :: _ :: _, t, sc, e, X, W, O, h => by simp [chkN] at h
theorem chkL_ok : ∀ (l : List E) (sc : Scope) (es : List Expr) {X : Cx} {W : WX}, XOk X C W call gl G N sc k → chkL G N l sc es = true → DL X C W call gl l es
  | [], sc, es, X, W, O, h => by
    simp only [chkL] at h
    cases es with
    | nil => exact True.intro
    | cons _ _ => cases h
  | x :: l, sc, es, X, W, O, h => by
    cases es with
    | nil => simp [chkL] at h
    | cons e es =>
      simp only [chkL, Bool.and_eq_true] at h
      exact ⟨h.1.1, chk_ok x false sc e O h.1.2, chkL_ok l sc es O h.2⟩
theorem chkI_ok : ∀ (l : List E) (sc : Scope) (o : Option Expr) {X : Cx} {W : WX}, XOk X C W call gl G N sc k → chkI G N l sc o = true → PB X C W call gl l o
  | [], sc, o, X, W, O, h => by
    simp only [chkI] at h
    cases o with
    | none => exact pb_none O.ok
    | some _ => cases h
  | [x], sc, o, X, W, O, h => by
    cases o with
    | none => simp [chkI] at h
    | some e =>
      simp only [chkI] at h
      exact pb_some O.ok (chk_ok x false sc e O h)
  | _ :: _ :: _, sc, o, X, W, O, h => by simp [chkI] at h
theorem chkC_ok : ∀ (l : List E) (sc : Scope) (es : List Expr) {X : Cx} {W : WX}, XOk X C W call gl G N sc k → chkC G N l sc es = true → PTs X es (tOfT C W (evC call gl l))
  | [], sc, es, X, W, O, h => by
    simp only [chkC] at h
    cases es with
    | nil => exact pts_no
    | cons _ _ => cases h
  | [x], sc, es, X, W, O, h => by
    simp only [chkC] at h
    split at h
    · exact pts_yes (chk_ok x true sc _ O h)
    · cases h
  | _ :: _ :: _, sc, es, X, W, O, h => by simp [chkC] at h
end
end
end SF

set_option maxHeartbeats 200000
set_option Elab.async false
set_option linter.all false
set_option maxRecDepth 100000
/-! The checker of statements. -/
namespace SF
open PySem PySem.Spec PyProof.Rows L2 RZ

def notComp : Expr → Bool
  | .ListComp _ _ _ _ => false
  | .SetComp _ _ _ _ => false
  | .DictComp _ _ _ _ _ => false
  | _ => true
theorem swaps_no {e : Expr} (h : notComp e = true) (o : Option Expr) (l : Nat) (env : PySem.Env) : swapsWith e o l env = pure false := by
  cases e <;> first | rfl | exact Bool.noConfusion h
theorem swaps1 {t e : Expr} (h : notComp e = true) {l : Nat} {env : PySem.Env} : swapsWithSole [t] e l env = pure false := swaps_no h (some t) l env
def swapB (sc : Scope) (n : Str) (py lp : Pos) (scope : Scope) : Bool := decide (sc.names.lookup n = some .local) && py.line == lp.line && !(scope.names.any fun (m, k) => m == n && (k == .local || k == .cell))
theorem swaps_lc {elt : Expr} {gs : List Comprehension} {scope : Scope} {lp py : Pos} {n : Str} {l : Nat} {env : PySem.Env} (hk : env.scope.kind = .function) : swapsWith (.ListComp elt gs scope lp) (some (.Name n py)) l env = pure (swapB env.scope n py lp scope) := by
  have ky : env.kindOf n = env.scope.names.lookup n := rfl
  have hb : env.blockKind = .function := by unfold Env.blockKind; rw [hk]; rfl
  unfold swapsWith swapB
  simp only [hb, ky, Expr.pos]
  have e : ∀ o : Option NameKind, (o == some NameKind.local) = decide (o = some .local) := fun o => by cases o with
    | none => rfl
    | some k => cases k <;> rfl
  simp only [e]
  simp
theorem swaps_tup {e : Expr} {ts : List Expr} {k : Nat} {p : Pos} {l : Nat} {env : PySem.Env} : swapsWith e (some (.Tuple ts k p)) l env = pure false := by
  cases e <;> rfl
/-! ### several targets at once -/
def parNames (sc : Scope) (ts : List Expr) : List Str := ts.filterMap fun
  | .Name id pos => if sc.names.lookup id == some .local && pos.line == (ts.head?.map (·.pos.line)).getD 0 then some id else none
  | _ => none
def parStar (vs : List Expr) : Bool := vs.any fun
  | .Starred .. => true
  | _ => false
/-- the stores are not swapped -/
def parNo (sc : Scope) (ts vs : List Expr) : Bool := !(ts.length == 2 || ts.length == 3) || vs.length != ts.length || parStar vs || (parNames sc ts).length != ts.length || (parNames sc ts).eraseDups.length != (parNames sc ts).length || vs.all (foldedForSure 8)
def parYes (sc : Scope) (ts vs : List Expr) : Bool := (ts.length == 2 || ts.length == 3) && vs.length == ts.length && !parStar vs && (parNames sc ts).length == ts.length && (parNames sc ts).eraseDups.length == (parNames sc ts).length && !vs.all (foldedForSure 8) && !vs.all (constantsAlone 8)
theorem par_no {ts vs : List Expr} {k k2 : Nat} {p p2 : Pos} {env : PySem.Env} (hk : env.scope.kind = .function) (h : parNo env.scope ts vs = true) : swappedStores [.Tuple ts k p] (.Tuple vs k2 p2) env = pure none := by
  have hb : env.blockKind = .function := by unfold Env.blockKind; rw [hk]; rfl
  unfold parNo at h
  show (if (!(ts.length == 2 || ts.length == 3) || vs.length != ts.length || env.blockKind != .function) = true then pure none else if parStar vs = true then pure none else
    if ((parNames env.scope ts).length != ts.length || (parNames env.scope ts).eraseDups.length != (parNames env.scope ts).length) = true then pure none else if vs.all (foldedForSure 8) = true then pure none else
    if vs.all (constantsAlone 8) = true then (do unsupported "assign.tuple-of-constant-expressions:order-of-the-stores"; pure (some (parNames env.scope ts))) else pure (some (parNames env.scope ts)) : Sem (Option (List Str))) = _
  rw [hb]
  generalize parNames env.scope ts = ns at h ⊢
  generalize parStar vs = b at h ⊢
  generalize vs.all (foldedForSure 8) = f at h ⊢
  simp only [Bool.or_eq_true] at h
  split
  · rfl
  · split
    · rfl
    · split
      · rfl
      · split
        · rfl
        · rename_i h1 h2 h3 h4
          exfalso
          simp only [Bool.or_eq_true, not_or] at h1 h3
          rcases h with ((((h | h) | h) | h) | h) | h
          · exact h1.1.1 h
          · exact h1.1.2 h
          · exact h2 h
          · exact h3.1 h
          · exact h3.2 h
          · exact h4 h
theorem par_yes {ts vs : List Expr} {k k2 : Nat} {p p2 : Pos} {env : PySem.Env} {ns : List Str} (hk : env.scope.kind = .function) (h : parYes env.scope ts vs = true) (hn : parNames env.scope ts = ns) : swappedStores [.Tuple ts k p] (.Tuple vs k2 p2) env = pure (some ns) := by
  have hb : env.blockKind = .function := by unfold Env.blockKind; rw [hk]; rfl
  subst hn
  unfold parYes at h
  show (if (!(ts.length == 2 || ts.length == 3) || vs.length != ts.length || env.blockKind != .function) = true then pure none else if parStar vs = true then pure none else
    if ((parNames env.scope ts).length != ts.length || (parNames env.scope ts).eraseDups.length != (parNames env.scope ts).length) = true then pure none else if vs.all (foldedForSure 8) = true then pure none else
    if vs.all (constantsAlone 8) = true then (do unsupported "assign.tuple-of-constant-expressions:order-of-the-stores"; pure (some (parNames env.scope ts))) else pure (some (parNames env.scope ts)) : Sem (Option (List Str))) = _
  rw [hb]
  generalize parNames env.scope ts = ns at h ⊢
  generalize parStar vs = b at h ⊢
  generalize vs.all (foldedForSure 8) = f at h ⊢
  generalize vs.all (constantsAlone 8) = g at h ⊢
  simp only [Bool.and_eq_true, Bool.not_eq_true', beq_iff_eq] at h
  obtain ⟨⟨⟨⟨⟨⟨h1, h2⟩, h3⟩, h4⟩, h5⟩, h6⟩, h7⟩ := h
  subst h3 h6 h7
  rw [if_neg, if_neg Bool.false_ne_true, if_neg, if_neg Bool.false_ne_true, if_neg Bool.false_ne_true]
  · simp [h4, h5]
  · simp [h1, h2]

/-! ### the checker -/
/-- the list goes to its name ahead of the loop's end -/
def swE (sc : Scope) (tg e : Expr) : Bool := match e with
  | .ListComp _ _ scope lp => (match tg with
    | .Name n py => swapB sc n py lp scope
    | .Tuple _ _ _ => false
    | _ => true)
  | e => !notComp e
theorem sw_false {sc : Scope} {tg e : Expr} {l : Nat} {env : PySem.Env} (hk : env.scope.kind = .function) (hs : env.scope = sc) (h : swE sc tg e = false) : swapsWithSole [tg] e l env = pure false := by
  show swapsWith e (some tg) l env = pure false
  unfold swE at h
  split at h
  · split at h
    · rw [swaps_lc hk, hs, h]
    · exact swaps_tup
    · cases h
  · exact swaps_no (by simpa using h) _ _ _
def parOk (sc : Scope) (tg e : Expr) : Bool := match tg with
  | .Tuple ts _ _ => (match e with
    | .Tuple vs _ _ => parNo sc ts vs
    | _ => true)
  | .List _ _ => false
  | _ => true
theorem par_ok {sc : Scope} {tg e : Expr} {env : PySem.Env} (hk : env.scope.kind = .function) (hs : env.scope = sc) (h : parOk sc tg e = true) : swappedStores [tg] e env = pure none := by
  unfold parOk at h
  split at h
  · split at h
    · exact par_no hk (by rw [hs]; exact h)
    · rename_i hne
      unfold swappedStores
      cases e <;> first | rfl | exact absurd rfl (hne _ _ _)
  · cases h
  · rename_i h1 h2
    unfold swappedStores
    cases tg <;> first | rfl | exact absurd rfl (h1 _ _ _) | exact absurd rfl (h2 _ _)
structure ExD (X : Cx) (C : Cn) (x : Str) (c : Nat) : Prop where
  q : PySem.W.excIn X.K (C.clA c) [.type "ValueError", .type "Exception", .type "BaseException", .type "object"] "ValueError.__new__" = true
  mg : X.mg x = some (.ref (C.clA c))
  kp : PySem.W.keepIn X.K (.ref (C.clA c)) = true
  r : Raises X (.ref (C.clA c))
structure SOk (X : Cx) (C : Cn) (W : WX) (call : D → List D → Sto → Res D) (gl : List D) (G : Gd) (N : List Str) (sc : Scope) (k : Nat) : Prop where
  o : XOk X C W call gl G N sc k
  hp : PassesOwn (model X.prog X.w) X.A X.env X.xe
  fn : ∀ x, X.fn x = true
  kind : sc.kind = .function
  exs : ∀ (c : Nat) (x : Str), G.exs[c]? = some x → x ≠ "TooMany" → ExD X C x c
  exd : ("__debug__" : Str) ∉ G.exs
mutual
def chkS (G : Gd) (N : List Str) (sc : Scope) : Sm → Stmt → Bool
  | .asg t x, st => (match st with
    | .Assign [tg] e _ => noStar tg && chk G N x false sc e && (if swE sc tg e then (match tg with
      | .Name n _ => (match t with
        | .v i => decide (N[i]? = some n) && (match x with
          | .lc _ _ _ _ _ _ => loclB sc n
          | .lc2 _ _ _ _ _ _ _ _ _ _ _ => loclB sc n
          | _ => false)
        | _ => false)
      | _ => false) else tgC N (fun _ => true) sc t tg && parOk sc tg e)
    | _ => false)
  | .par2 i j a b, st => (match st with
    | .Assign [.Tuple [.Name n px, .Name m py] kt pt] (.Tuple vs _ _) _ => chkL G N [a, b] sc vs && decide (N[i]? = some n) && decide (N[j]? = some m) && !decide (i = j) && loclB sc n && loclB sc m && parYes sc [.Name n px, .Name m py] vs
        && decide (parNames sc [.Name n px, .Name m py] = [n, m])
    | _ => false)
  | .par3 i j k a b c, st => (match st with
    | .Assign [.Tuple [.Name n px, .Name m py, .Name o pz] kt pt] (.Tuple vs _ _) _ => chkL G N [a, b, c] sc vs && decide (N[i]? = some n) && decide (N[j]? = some m) && decide (N[k]? = some o) && !decide (i = j) && !decide (i = k) && !decide (j = k) && loclB sc n && loclB sc m && loclB sc o
        && parYes sc [.Name n px, .Name m py, .Name o pz] vs && decide (parNames sc [.Name n px, .Name m py, .Name o pz] = [n, m, o])
    | _ => false)
  | .setix a i e, st => (match st with
    | .Assign [.Subscript o ix _] v _ => chkL G N [e, a, i] sc [v, o, ix] && notComp v && noSlice ix
    | _ => false)
  | .ex x, st => (match st with
    | .Expr e _ => chk G N x false sc e && notComp e
    | _ => false)
  | .ret x, st => (match st with
    | .Return (some e) _ => chk G N x false sc e
    | _ => false)
  | .retn, st => (match st with
    | .Return none _ => true
    | _ => false)
  | .raise c l, st => (match st with
    | .Raise (some (.Call (.Name x _) [.Constant (.str _) _ _] [] _)) none _ => decide (G.exs[c]? = some x) && isGl sc x && !decide (x = "TooMany") && (match l with
      | [] => true
      | _ => false)
    | _ => false)
  | .ifs c a b, st => (match st with
    | .If e l m _ => chk G N c true sc e && chkSs G N sc a l && chkSs G N sc b m
    | _ => false)
  | .for_ t k its b, st => (match st with
    | .For tg iter body [] _ => (match itF G sc k tg iter with
      | some es => chkL G N its sc es && tgC N (fun _ => true) sc t tg && notSet iter && chkSs G N sc b body
      | none => false)
    | _ => false)
  | .wh c b, st => (match st with
    | .While e body [] _ => chk G N c true sc e && chkSs G N sc b body
    | _ => false)
  | .pass, st => (match st with
    | .Pass _ => true
    | .Expr (.Constant (.str _) _ _) _ => true
    | _ => false)
def chkSs (G : Gd) (N : List Str) (sc : Scope) : List Sm → List Stmt → Bool
  | [], l => l.isEmpty
  | s :: ss, l => (match l with
    | [] => false
    | st :: r => chkS G N sc s st && chkSs G N sc ss r)
end
section
variable {X : Cx} {C : Cn} {W : WX} {call : D → List D → Sto → Res D} {gl : List D} {G : Gd} {N : List Str} {sc : Scope} {k : Nat} (O : SOk X C W call gl G N sc k)
include O
theorem SOk.ek : X.env.scope.kind = .function := by rw [O.o.eS]; exact O.kind
theorem lc_asg {i : Nat} {n : Str} {py pos lp : Pos} {elt tge iter : Expr} {ifs : List Expr} {scope : Scope} {ow : List Nat} {kk : ItK} {its cond : List E} {tg : Tg} {el : E} (hn : N[i]? = some n) (hl : loclB sc n = true) (hsw : swapB sc n py lp scope = true)
    (h : chk G N (.lc ow kk its tg cond el) false sc (.ListComp elt [⟨tge, iter, ifs, 0⟩] scope lp) = true) : PSe X C W call gl (.Assign [.Name n py] (.ListComp elt [⟨tge, iter, ifs, 0⟩] scope lp) pos) (.asg (.v i) (.lc ow kk its tg cond el)) := by
  simp only [chk] at h
  split at h
  · rename_i es he
    simp only [Bool.and_eq_true] at h
    obtain ⟨⟨⟨h1, h2⟩, h3⟩, h4⟩ := h
    unfold lcOk at h2
    simp only [Bool.and_eq_true, decide_eq_true_eq, List.all_eq_true] at h2
    obtain ⟨⟨⟨⟨h5, h6⟩, h7⟩, h8⟩, h9⟩ := h2
    have bo : BlkOk X.N X.env.scope scope (ownOf N ow) := by rw [O.o.eN, O.o.eS]; exact blkOk_by h5
    exact s_setLcO O.o.ok O.o.calm (by rw [O.o.eN]; exact O.o.nd) (by rw [O.o.eN]; exact hn) (by rw [O.o.eS]; exact of_decide_eq_true hl) (by rw [swaps_lc O.ek, O.o.eS, hsw]) (itF_ok O.o he (chkL_ok its sc es O.o h1)) bo h6 h7
      (fun s H A cls fp bc => ⟨tgC_ok (O.o.blk s H scope A cls fp bc) (fun x hx => beq_iff_eq.mpr (of_decide_eq_true hx)) tg tge h8, chkC_ok cond (relS scope sc) ifs (O.o.blk s H scope A cls fp bc) h3, chk_ok el false (relS scope sc) elt (O.o.blk s H scope A cls fp bc) h4⟩) (set_no O.o h9 _)
  · cases h
theorem lc2_asg {i : Nat} {n : Str} {py pos lp : Pos} {elt tge iter tge1 iter1 : Expr} {ifs ifs1 : List Expr} {scope : Scope} {ow ow1 : List Nat} {kk k1 : ItK} {its cond its1 cond1 : List E} {tg tg1 : Tg} {el : E} (hn : N[i]? = some n) (hl : loclB sc n = true) (hsw : swapB sc n py lp scope = true)
    (h : chk G N (.lc2 ow ow1 kk its tg cond k1 its1 tg1 cond1 el) false sc (.ListComp elt [⟨tge, iter, ifs, 0⟩, ⟨tge1, iter1, ifs1, 0⟩] scope lp) = true) : PSe X C W call gl (.Assign [.Name n py] (.ListComp elt [⟨tge, iter, ifs, 0⟩, ⟨tge1, iter1, ifs1, 0⟩] scope lp) pos) (.asg (.v i) (.lc2 ow ow1 kk its tg cond k1 its1 tg1 cond1 el)) := by
  simp only [chk] at h
  split at h
  · rename_i es he
    split at h
    · rename_i es1 he1
      simp only [Bool.and_eq_true, Bool.not_eq_true', decide_eq_true_eq, List.all_eq_true] at h
      obtain ⟨⟨⟨⟨⟨⟨⟨hml, h1⟩, h2⟩, h3⟩, h10⟩, ⟨⟨⟨h11, h12⟩, h13⟩, h14⟩⟩, h15⟩, h4⟩ := h
      unfold lcOk at h2
      simp only [Bool.and_eq_true, decide_eq_true_eq, List.all_eq_true] at h2
      obtain ⟨⟨⟨⟨h5, h6⟩, h7⟩, h8⟩, h9⟩ := h2
      have bo : BlkOk X.N X.env.scope scope (ownOf N ow) := by rw [O.o.eN, O.o.eS]; exact blkOk_by h5
      exact s_setLc2 O.o.ok O.o.calm (by rw [O.o.eN]; exact O.o.nd) (by rw [O.o.eN]; exact hn) (by rw [O.o.eS]; exact of_decide_eq_true hl) (by rw [swaps_lc O.ek, O.o.eS, hsw]) (itF_ok O.o he (chkL_ok its sc es O.o h1)) bo h6 h11 h7 h12
        (fun s H A cls fp => tgC_ok (O.o.blkN hml s H scope A cls fp) (fun x hx => beq_iff_eq.mpr (of_decide_eq_true hx)) tg tge h8) (fun s H A cls fp => chkC_ok cond (relS scope sc) ifs (O.o.blkN hml s H scope A cls fp) h3)
        (fun s H A cls fp => itF_ok (O.o.blkN hml s H scope A cls fp) he1 (chkL_ok its1 _ es1 (O.o.blkN hml s H scope A cls fp) h10))
        (fun s H A cls fp => tgC_ok (O.o.blkN hml s H scope A cls fp) (fun x hx => beq_iff_eq.mpr (of_decide_eq_true hx)) tg1 tge1 h13) (fun s H A cls fp => chkC_ok cond1 (relS scope sc) ifs1 (O.o.blkN hml s H scope A cls fp) h15)
        (fun s H A cls fp => chk_ok el false (relS scope sc) elt (O.o.blkN hml s H scope A cls fp) h4) (set_no O.o h9 _) (fun env => set_no O.o h14 env)
    · cases h
  · cases h
theorem asg_one {tg : Expr} (h : noStar tg = true) : (assignEach [tg] X.env).map (·.2) = [assign tg X.env] := by
  rw [asg_cons h]
  rfl
theorem s_raise {c : Nat} {x m : Str} {j : Nat} {p p2 p3 pos : Pos} (h : G.exs[c]? = some x) (hg : isGl sc x = true) (hx : x ≠ "TooMany") : PSe X C W call gl (.Raise (some (.Call (.Name x p) [.Constant (.str m) j p2] [] p3)) none pos) (.raise c []) := by
  have E := O.exs c x h hx
  have hd : (x == ("__debug__" : Str)) = false := by
    cases e : x == ("__debug__" : Str) with
    | false => rfl
    | true => exact absurd (eq_of_beq e ▸ List.mem_of_getElem? h) O.exd
  refine ps_imp (L2N.ps_raise O.o.calm O.o.tk (L2N.pmk_own PySem.F.excBase_ValueError E.q E.mg E.kp E.r (O.o.isGl hg) hd)) fun N σ H ⟨φ, S, ρ, s, e, t⟩ => ?_
  simp only [ex, evL, lift] at t
  exact t φ H σ (dk0 c) (Fr.refl _ _) s
mutual
theorem chkS_ok : ∀ (s : Sm) (st : Stmt), chkS G N sc s st = true → PSe X C W call gl st s
  | .asg t x, st, h => by
    simp only [chkS] at h
    split at h
    · rename_i tg e pos
      simp only [Bool.and_eq_true] at h
      obtain ⟨⟨h1, h2⟩, h3⟩ := h
      split at h3
      · rename_i hsw
        split at h3
        · split at h3
          · simp only [Bool.and_eq_true, decide_eq_true_eq] at h3
            obtain ⟨h3, h4⟩ := h3
            split at h4
            · have h2' := h2
              simp only [chk] at h2'
              split at h2'
              · exact lc_asg O h3 h4 hsw h2
              · cases h2'
            · have h2' := h2
              simp only [chk] at h2'
              split at h2'
              · exact lc2_asg O h3 h4 hsw h2
              · cases h2'
            · cases h4
          · cases h3
        · cases h3
      · rename_i hsw
        simp only [Bool.and_eq_true] at h3
        exact s_asg O.o.ok (chk_ok x false sc e O.o h2) (tgC_ok O.o (fun x _ => O.fn x) t tg h3.1) (sw_false O.ek O.o.eS (by simpa using hsw)) (par_ok O.ek O.o.eS h3.2) (asg_one O h1)
    · cases h
  | .par2 i j a b, st, h => by
    simp only [chkS] at h
    split at h
    · simp only [Bool.and_eq_true, decide_eq_true_eq, Bool.not_eq_true', decide_eq_false_iff_not] at h
      obtain ⟨⟨⟨⟨⟨⟨⟨h1, h2⟩, h3⟩, h4⟩, h5⟩, h6⟩, h7⟩, h8⟩ := h
      have d := chkL_ok [a, b] sc _ O.o h1
      rename_i vs _ _ _
      match vs, d with
      | [u, w], d => exact s_par2 O.o.ok O.o.calm (by rw [O.o.eN]; exact O.o.nd) (by rw [O.o.eN]; exact h2) (by rw [O.o.eN]; exact h3) h4 (by rw [O.o.eS]; exact of_decide_eq_true h5) (by rw [O.o.eS]; exact of_decide_eq_true h6) d (par_yes O.ek (by rw [O.o.eS]; exact h7) (by rw [O.o.eS]; exact h8))
      | [], d => exact d.elim
      | [_], d => exact d.2.2.elim
      | _ :: _ :: _ :: _, d => exact d.2.2.2.2.elim
    · cases h
  | .par3 i j l a b c, st, h => by
    simp only [chkS] at h
    split at h
    · simp only [Bool.and_eq_true, decide_eq_true_eq, Bool.not_eq_true', decide_eq_false_iff_not] at h
      obtain ⟨⟨⟨⟨⟨⟨⟨⟨⟨⟨⟨h1, h2⟩, h3⟩, h3'⟩, h4⟩, h4'⟩, h4''⟩, h5⟩, h6⟩, h6'⟩, h7⟩, h8⟩ := h
      have d := chkL_ok [a, b, c] sc _ O.o h1
      rename_i vs _ _ _
      match vs, d with
      | [u, w, z], d => exact s_par3 O.o.ok O.o.calm (by rw [O.o.eN]; exact O.o.nd) (by rw [O.o.eN]; exact h2) (by rw [O.o.eN]; exact h3) (by rw [O.o.eN]; exact h3') h4 h4' h4'' (by rw [O.o.eS]; exact of_decide_eq_true h5) (by rw [O.o.eS]; exact of_decide_eq_true h6) (by rw [O.o.eS]; exact of_decide_eq_true h6') d (par_yes O.ek (by rw [O.o.eS]; exact h7) (by rw [O.o.eS]; exact h8))
      | [], d => exact d.elim
      | [_], d => exact d.2.2.elim
      | [_, _], d => exact d.2.2.2.2.elim
      | _ :: _ :: _ :: _ :: _, d => exact d.2.2.2.2.2.2.elim
    · cases h
  | .setix a i e, st, h => by
    simp only [chkS] at h
    split at h
    · simp only [Bool.and_eq_true] at h
      obtain ⟨⟨h1, h2⟩, h3⟩ := h
      exact s_setix O.o.ok (chkL_ok [e, a, i] sc _ O.o h1) (swaps1 h2) (fun v => by
        rename_i o ix _ v' _
        cases ix <;> first | rfl | exact Bool.noConfusion h3)
    · cases h
  | .ex x, st, h => by
    simp only [chkS] at h
    split at h
    · simp only [Bool.and_eq_true] at h
      exact s_ex O.o.ok (chk_ok x false sc _ O.o h.1) (swaps_no h.2 _ _ _)
    · cases h
  | .ret x, st, h => by
    simp only [chkS] at h
    split at h
    · exact s_ret O.o.ok (chk_ok x false sc _ O.o h)
    · cases h
  | .retn, st, h => by
    simp only [chkS] at h
    split at h
    · exact s_retn
    · cases h
  | .raise c l, st, h => by
    simp only [chkS] at h
    split at h
    · simp only [Bool.and_eq_true, decide_eq_true_eq, Bool.not_eq_true', decide_eq_false_iff_not] at h
      obtain ⟨⟨⟨h1, h2⟩, h3⟩, h4⟩ := h
      cases l with
      | nil => exact s_raise O h1 h2 h3
      | cons _ _ => cases h4
    · cases h
  | .ifs c a b, st, h => by
    simp only [chkS] at h
    split at h
    · simp only [Bool.and_eq_true] at h
      exact s_if O.o.ok (chk_ok c true sc _ O.o h.1.1) (chkSs_ok a _ h.1.2) (chkSs_ok b _ h.2)
    · cases h
  | .for_ t kk its b, st, h => by
    simp only [chkS] at h
    split at h
    · split at h
      · rename_i es he
        simp only [Bool.and_eq_true] at h
        obtain ⟨⟨⟨h1, h2⟩, h3⟩, h4⟩ := h
        exact s_for O.o.ok O.hp O.o.calm (itF_ok O.o he (chkL_ok its sc es O.o h1)) (tgC_ok O.o (fun x _ => O.fn x) t _ h2) (chkSs_ok b _ h4) (set_no O.o h3 _)
      · cases h
    · cases h
  | .wh c b, st, h => by
    simp only [chkS] at h
    split at h
    · simp only [Bool.and_eq_true] at h
      exact s_wh O.o.ok O.hp (chk_ok c true sc _ O.o h.1) (chkSs_ok b _ h.2)
    · cases h
  | .pass, st, h => by
    simp only [chkS] at h
    split at h
    · exact s_pass
    · exact s_doc
    · cases h
theorem chkSs_ok : ∀ (ss : List Sm) (l : List Stmt), chkSs G N sc ss l = true → PSse X C W call gl l ss
  | [], l, h => by
    simp only [chkSs] at h
    cases l with
    | nil => exact ss_nil
    | cons _ _ => cases h
  | s :: ss, l, h => by
    cases l with
    | nil => simp [chkSs] at h
    | cons st r =>
      simp only [chkSs, Bool.and_eq_true] at h
      exact ss_cons (chkS_ok s st h.1) (chkSs_ok ss r h.2)
end
end
end SF

set_option maxHeartbeats 200000
set_option Elab.async false
set_option linter.all false
set_option maxRecDepth 100000
/-! The body of a lambda runs. -/
namespace SF
open PySem PySem.Spec PyProof.Rows L2 RZ LamX

/-! ### binding -/
theorem filterMap_same {α β : Type} {f g : α → Option β} : ∀ {l : List α}, (∀ x ∈ l, f x = g x) → l.filterMap f = l.filterMap g
  | [], _ => rfl
  | x :: l, h => by
    rw [List.filterMap_cons, List.filterMap_cons, h x List.mem_cons_self, filterMap_same fun y hy => h y (List.mem_cons_of_mem _ hy)]
theorem zip_cons_ne {α : Type} {p : Str} {u : α} {ps : List Str} {us : List α} (hn : p ∉ ps) {n : Str} (hm : n ∈ ps) : ((p, u) :: ps.zip us).lookup n = (ps.zip us).lookup n := by
  rw [List.lookup_cons]
  have : (n == p) = false := by
    apply Bool.eq_false_iff.mpr
    intro h
    exact hn (eq_of_beq h ▸ hm)
  rw [this]
theorem zip_get {α : Type} : ∀ {ps : List Str} {us : List α}, ps.Nodup → us.length = ps.length → ps.filterMap (fun n => ((ps.zip us).lookup n).map (n, ·)) = ps.zip us ∧ (ps.filter fun n => ((ps.zip us).lookup n).isNone) = []
  | [], [], _, _ => ⟨rfl, rfl⟩
  | p :: ps, u :: us, hn, hl => by
    rw [List.nodup_cons] at hn
    obtain ⟨h1, h2⟩ := zip_get (ps := ps) (us := us) hn.2 (by simpa using hl)
    have e0 : ((p, u) :: ps.zip us).lookup p = some u := by rw [List.lookup_cons, beq_self_eq_true]
    constructor
    · rw [List.zip_cons_cons, List.filterMap_cons, e0]
      simp only [Option.map_some]
      rw [filterMap_same fun n hm => by rw [zip_cons_ne hn.1 hm]]
      exact congrArg _ h1
    · rw [List.zip_cons_cons, List.filter_cons, e0]
      simp only [Option.isNone_some]
      rw [if_neg (by decide), List.filter_congr fun n hm => by rw [zip_cons_ne hn.1 hm]]
      exact h2
  | [], _ :: _, _, hl => by cases hl
  | _ :: _, [], _, hl => by cases hl
theorem zip_at {α : Type} : ∀ {ps : List Str} {us : List α} {i : Nat} {x : Str} {u : α}, ps.Nodup → us.length = ps.length → ps[i]? = some x → us[i]? = some u → (ps.zip us).reverse.lookup x = some u := by
  intro ps us i x u hn hl h1 h2
  have key : ∀ (l : List (Str × α)), (l.map (·.1)).Nodup → (x, u) ∈ l → l.lookup x = some u := fun l => by
    induction l with
    | nil => exact fun _ h => by cases h
    | cons p l ih =>
      intro hn hm
      rw [List.map_cons, List.nodup_cons] at hn
      rcases List.mem_cons.mp hm with e | e
      · rw [← e, List.lookup_cons, beq_self_eq_true]
      · obtain ⟨k, v⟩ := p
        rw [List.lookup_cons]
        have : (x == k) = false := by
          apply Bool.eq_false_iff.mpr
          intro h
          exact hn.1 (List.mem_map.mpr ⟨(x, u), e, eq_of_beq h⟩)
        rw [this]
        exact ih hn.2 e
  refine key _ ?_ ?_
  · rw [List.map_reverse]
    have e : (ps.zip us).map (·.1) = ps := by
      rw [List.map_fst_zip]
      omega
    rw [e]
    exact (List.reverse_perm ps).nodup_iff.mpr hn
  · rw [List.mem_reverse]
    exact List.mem_iff_getElem?.mpr ⟨i, by rw [List.getElem?_zip_eq_some]; exact ⟨h1, h2⟩⟩
def parB (a : Arguments) (ps : List Str) : Bool := a.posonlyargs.isEmpty && a.vararg.isNone && a.kwonlyargs.isEmpty && a.kw_defaults.isEmpty && a.kwarg.isNone && a.defaults.isEmpty && decide (a.args.map (·.arg) = ps) && decide ps.Nodup
theorem bind_par {fd : FuncData} {ps : List Str} {us : List Value} (h : parB fd.params ps = true) (hd : fd.defaults = .none) (hl : us.length = ps.length) : bindArgs fd ⟨us, []⟩ = pure (ps.zip us) := by
  unfold parB at h
  simp only [Bool.and_eq_true, List.isEmpty_iff, Option.isNone_iff_eq_none, decide_eq_true_eq] at h
  obtain ⟨⟨⟨⟨⟨⟨⟨h1, h2⟩, h3⟩, h4⟩, h5⟩, h6⟩, h7⟩, h8⟩ := h
  obtain ⟨q1, q2⟩ := zip_get (us := us) h8 hl
  unfold bindArgs
  simp only [h1, h2, h3, h5, h7, hd, List.map_nil, List.nil_append, List.append_nil, q1]
  have e0 : seqItems? Value.none = pure none := rfl
  simp [e0, q2, hl]
  rw [q1]
theorem er_start {C : Cn} {φ : Lay} {H : Hp} {N : List Str} {vs : List V} {ds : List D} {nN : Nat} (r : RepL C φ H vs ds) (hn : N.length = nN) : ER C φ H (startE nN ds) (L2.start N vs) := by
  have hl := r.length
  refine ⟨by simp [startE, L2.start, hl, hn], fun i d h => ?_⟩
  unfold startE at h
  by_cases hi : i < ds.length
  · rw [List.getElem?_append_left (by simpa using hi), List.getElem?_map] at h
    obtain ⟨d', h1, h2⟩ := Option.map_eq_some_iff.mp h
    cases h2
    obtain ⟨v, g1, g2⟩ := RepL.get r h1
    refine ⟨v, ?_, g2⟩
    unfold L2.start
    rw [List.getElem?_append_left (by rw [List.length_map, hl]; exact hi), List.getElem?_map, g1]
    rfl
  · rw [List.getElem?_append_right (by simpa using Nat.le_of_not_lt hi)] at h
    rw [List.getElem?_replicate] at h
    split at h <;> cases h

/-! ### the context of a lambda's body -/
section
variable {P : Program} {w : World} {K : PySem.W.Frag} {mg : Str → Option Value} {base : Heap}
abbrev lEnv (q : Str) (scope : Scope) (L f c' : Addr) (cl : List (Str × Addr)) : PySem.Env := PySem.W.envX q scope L f (.ref c') cl
def lamCx2 (P : Program) (w : World) (K : PySem.W.Frag) (mg : Str → Option Value) (base : Heap) (N : List Str) (q : Str) (scope : Scope) (f c' : Addr) (cl : List (Str × Addr)) (A : Around) (outer : List PySem.Env) (s : Shared) (H : Hp) (E : XK) : Cx where
  prog := P
  w := w
  K := K
  mg := mg
  base := base
  A := A.deeper (lEnv q scope s.heap.objs.size f c' cl)
  N := N
  s_0 := s
  H_0 := H
  env := lEnv q scope s.heap.objs.size f c' cl
  outer := outer
  stack := lEnv q scope s.heap.objs.size f c' cl :: outer
  ex := []
  fn := fun _ => false
  calm := true
  pn := []
  xe := fun e s' => wpAny (model P w) (A.deeper (lEnv q scope s.heap.objs.size f c' cl)) (leaving (lEnv q scope s.heap.objs.size f c' cl) e) (fun _ s'' => L2N.CX P w outer H s E e s'') (fun e' s'' => L2N.CX P w outer H s E e' s'') s'
/-- a lambda's names: parameters, captured ones, globals -/
structure LamN (scope : Scope) (N ps caps : List Str) : Prop where
  kind : scope.kind = .function
  co : scope.isCoroutine = false
  gen : scope.isGenerator = false
  nd : N.Nodup
  pre : N.take (ps.length + caps.length) = ps ++ caps
  nocell : ∀ y ∈ scope.names, y.2 ≠ .cell
  loc : ∀ y ∈ scope.names, y.2 = .local → y.1 ∈ ps
  fre : ∀ y ∈ scope.names, y.2 = .free → y.1 ∈ caps
  par : ∀ x ∈ ps, scope.names.lookup x = some .local
def lamNB (scope : Scope) (N ps caps : List Str) : Bool :=
  decide (scope.kind = .function) && !scope.isCoroutine && !scope.isGenerator && decide N.Nodup && decide (N.take (ps.length + caps.length) = ps ++ caps) && scope.names.all (fun y => !decide (y.2 = .cell) && (!decide (y.2 = .local) || decide (y.1 ∈ ps)) && (!decide (y.2 = .free) || decide (y.1 ∈ caps))) && ps.all fun x => decide (scope.names.lookup x = some .local)
theorem lamN_by {scope : Scope} {N ps caps : List Str} (h : lamNB scope N ps caps = true) : LamN scope N ps caps := by
  unfold lamNB at h
  simp only [Bool.and_eq_true, Bool.or_eq_true, Bool.not_eq_true', decide_eq_true_eq, decide_eq_false_iff_not, List.all_eq_true] at h
  obtain ⟨⟨⟨⟨⟨⟨h1, h2⟩, h3⟩, h4⟩, h5⟩, h6⟩, h7⟩ := h
  refine ⟨h1, h2, h3, h4, h5, fun y hy => (h6 y hy).1.1, fun y hy e => ?_, fun y hy e => ?_, h7⟩
  · rcases (h6 y hy).1.2 with z | z
    · exact absurd e z
    · exact z
  · rcases (h6 y hy).2 with z | z
    · exact absurd e z
    · exact z
/-- where a name of the first ones stands -/
theorem LamN.ix {scope : Scope} {N ps caps : List Str} (L : LamN scope N ps caps) {i j : Nat} {x : Str} (h : N[i]? = some x) (k : (ps ++ caps)[j]? = some x) : i = j := by
  have hj : j < ps.length + caps.length := by
    have := (List.getElem?_eq_some_iff.mp k).1
    rwa [List.length_append] at this
  have : N[j]? = some x := by
    rw [← L.pre, List.getElem?_take] at k
    rw [if_pos hj] at k
    exact k
  exact L2.nodup_ix L.nd h this
end
theorem nodupStr_ix {N : List Str} (hN : N.Nodup) {i j : Nat} {x : Str} (a : N[i]? = some x) (b : N[j]? = some x) : i = j := by
  obtain ⟨h1, e1⟩ := List.getElem?_eq_some_iff.mp a
  obtain ⟨h2, e2⟩ := List.getElem?_eq_some_iff.mp b
  exact (List.getElem_inj hN).mp (e1.trans e2.symm)
end SF

set_option maxHeartbeats 200000
set_option Elab.async false
set_option linter.all false
set_option maxRecDepth 100000
/-! Defs and closures run as the interpreter says, by fuel. -/
namespace SF
open PySem PySem.Spec PyProof.Rows L2 RZ LamX

/-- a def of the module, as it is written -/
structure Dfn where
  x : Str
  N : List Str
  ps : List Str
  st : Stmt
  ml : Bool
def FnP (P : Program) (w : World) (K : PySem.W.Frag) (mg : Str → Option Value) (base : Heap) (C : Cn) (call : D → List D → Sto → Res D) (k : Nat) (x : Str) (i : Nat) : Prop :=
  (∃ fd ps, FnOk P w K mg base (L2N.CX P w) k (C.fnA i) fd ps (spOf C (call (.fn i))) ∧ Binds K fd ps []) ∧ mg x = some (.ref (C.fnA i)) ∧ PySem.W.keepIn K (.ref (C.fnA i)) = true
structure Sys (P : Program) (w : World) (K : PySem.W.Frag) (mg : Str → Option Value) (base : Heap) (C : Cn) (G : Prg) (D : Gd) (n : Nat) : Prop where
  fns : ∀ (i : Nat) (x : Str), D.fns[i]? = some x → FnP P w K mg base C (run G n) n x i
  clos : CloRun P w K mg base C (run G n) n
theorem XOk.lc0 {X : Cx} {C : Cn} {W : WX} {call : D → List D → Sto → Res D} {gl : List D} {G : Gd} {N : List Str} {sc : Scope} {k : Nat} {lc0 : LamC} (o : XOk X C W call gl G N sc k) (h : G.ml = false) : XOk X C W call gl { G with lc := lc0 } N sc k :=
  { eS := o.eS, eN := o.eN, nd := o.nd, calm := o.calm, ok := o.ok, hK := o.hK, rm := o.rm, tk := o.tk, mg := o.mg, fns := o.fns, glb := o.glb, gdb := o.gdb, clos := o.clos, cfn := o.cfn, cal := o.cal, cb := fun z => (by rw [h] at z; cases z), lam := fun z => (by rw [h] at z; cases z) }
/-- names of a lambda, parameters first, then what it captures -/
abbrev LamT := Lm × List Str
def LamT.ps (l : LamT) : List Str := l.2.take l.1.np
def LamT.cs (l : LamT) : List Str := (l.2.drop l.1.np).take l.1.nc
/-- whether this is the lambda -/
def lamChk (D : Gd) (l : LamT) (params : Arguments) (body : Expr) (scope : Scope) : Bool :=
  decide (l.2.length = l.1.nN) && decide (l.ps.length = l.1.np) && decide (l.cs.length = l.1.nc) && parB params l.ps && lamNB scope l.2 l.ps l.cs && chk D l.2 l.1.body false scope body
/-- what the module is -/
structure ModOk (K : PySem.W.Frag) (mg : Str → Option Value) (base : Heap) (C : Cn) (G : Prg) (D : Gd) (ds : List Dfn) (lt : List LamT) (fnA clA : Nat → Addr) (T : List (Addr × Str)) : Prop where
  eC : C = mkC K fnA clA T D.lc D.caps
  ml : D.ml = false
  len : D.fns.length = G.defs.length
  nm : ∀ (i : Nat) (d : Dfn), ds[i]? = some d → D.fns[i]? = some d.x
  dl : ds.length = D.fns.length
  fd : ∀ (i : Nat) (d : Dfn), ds[i]? = some d → ∃ fd, FunD K d.x d.x (defArgs d.st) (defBody d.st) (defScope d.st) [] [] (fnA i) fd
  mgf : ∀ (i : Nat) (d : Dfn), ds[i]? = some d → mg d.x = some (.ref (fnA i))
  blt : ∀ x ∈ D.blt, mg x = none
  glb : ∀ (i : Nat) (x : Str), D.gn[i]? = some x → ∃ d, G.gl[i]? = some d ∧ Glb C mg x d
  gdb : ("__debug__" : Str) ∉ D.fns ∧ ("__debug__" : Str) ∉ D.gn ∧ ("__debug__" : Str) ∉ D.exs
  exs : ∀ (c : Nat) (x : Str), D.exs[c]? = some x → x ≠ "TooMany" → PySem.W.excIn K (clA c) [.type "ValueError", .type "Exception", .type "BaseException", .type "object"] "ValueError.__new__" = true ∧ mg x = some (.ref (clA c)) ∧ PySem.W.keepIn K (.ref (clA c)) = true ∧ PySem.W.subIn K (.ref (clA c)) (.type "BaseException") = some true ∧ PySem.W.typeIn K (.ref (clA c)) = some (.type "type")
  lam : lt.map (·.1) = G.lams
  caps : ∀ (i : Nat) (l : LamT), lt[i]? = some l → D.caps i = l.cs
  lc : ∀ (i : Nat) (params : Arguments) (body : Expr) (scope : Scope), D.lc i params body scope = true → ∃ l lc0, lt[i]? = some l ∧ lamChk { D with lc := lc0 } l params body scope = true
  tab : ∀ (i : Nat) (d : Dfn) (o : Obj) (fd : FuncData), ds[i]? = some d → d.ml = true → K.lookup (fnA i) = some o → o.data = .func fd → ∃ c P, fd.code = .ref c ∧ TabB base mg c P ∧ (P, (d.x ++ ".<locals>.") ++ "<lambda>") ∈ T ∧ ∀ p ∈ T, p.1 = P → p.2 = (d.x ++ ".<locals>.") ++ "<lambda>"
section
variable {P : Program} {w : World} {K : PySem.W.Frag} {mg : Str → Option Value} {base : Heap} {C : Cn} {G : Prg} {D : Gd} {ds : List Dfn} {lt : List LamT} {fnA clA : Nat → Addr} {T : List (Addr × Str)} (M : ModOk K mg base C G D ds lt fnA clA T)
include M
theorem ModOk.ok : CnOk C := by rw [M.eC]; exact mkC_ok
theorem ModOk.hK : C.K = K := by rw [M.eC]; rfl
theorem ModOk.cfn : CloFn C := by
  rw [M.eC]
  intro φ H f i env r
  simp only [Rep] at r
  obtain ⟨ws, ⟨f', c', pm, ctv, q, params, body, scope, cl, h⟩, _⟩ := r
  have e := h.v
  injection e with e
  subst e
  exact ⟨_, _, _, h.ff, rfl, rfl, rfl⟩
theorem ModOk.cal (n : Nat) : ∀ d ds S, (∀ (i : Nat) (x : Str), d = .fn i → D.fns[i]? ≠ some x) → (∀ i e, d ≠ .clo i e) → run G n d ds S = .stuck := fun d ds S h1 h2 => by
  cases n with
  | zero => rfl
  | succ n =>
    cases d with
    | fn i =>
      have : D.fns[i]? = none := by
        cases q : D.fns[i]? with
        | none => rfl
        | some x => exact absurd q (h1 i x rfl)
      have : G.defs[i]? = none := by
        rw [List.getElem?_eq_none_iff] at this ⊢
        rw [← M.len]
        exact this
      simp only [run, this]
    | clo i e => exact absurd rfl (h2 i e)
    | _ => rfl
theorem Sys.xok {n : Nat} (Y : Sys P w K mg base C G D n) {X : Cx} {W : WX} {N : List Str} {sc : Scope} (eP : X.prog = P) (ew : X.w = w) (eK : X.K = K) (em : X.mg = mg) (eb : X.base = base) (eS : X.env.scope = sc) (eN : X.N = N) (nd : N.Nodup) (calm : X.calm = true) (rm : Room n X.A) (tk : L2N.Takes X W)
    (cb : ∀ x c, X.env.cells.lookup x = some c → X.base.get? c = none ∧ c ∉ frs X.stack) {ml : Bool} (lam : ml = true → ∃ fnA clA T c P, C = mkC X.K fnA clA T D.lc D.caps ∧ X.env.code = .ref c ∧ LamX.TabB X.base X.mg c P ∧ (P, X.env.qual ++ "<lambda>") ∈ T ∧ ∀ p ∈ T, p.1 = P → p.2 = X.env.qual ++ "<lambda>") :
    XOk X C W (run G n) G.gl { D with ml := ml } N sc n where
  eS := eS
  eN := eN
  nd := nd
  calm := calm
  ok := M.ok
  hK := by rw [eK]; exact M.hK
  rm := rm
  tk := tk
  mg := fun x h => by rw [em]; exact M.blt x h
  fns := fun i x h => by
    obtain ⟨⟨fd, ps, F, b⟩, h2, h3⟩ := Y.fns i x h
    exact ⟨⟨fd, ps, by rw [eP, ew, eK, em, eb]; exact F, by rw [eK]; exact b⟩, by rw [em]; exact h2, by rw [eK]; exact h3⟩
  glb := fun i x h => by rw [em]; exact M.glb i x h
  gdb := ⟨M.gdb.1, M.gdb.2.1⟩
  clos := by rw [eP, ew, eK, em, eb]; exact Y.clos
  cfn := M.cfn
  cal := M.cal n
  cb := fun _ => cb
  lam := lam
end
/-! ### a lambda -/
section
variable {P : Program} {w : World} {K : PySem.W.Frag} {mg : Str → Option Value} {base : Heap} {LC : LamC} {caps : Nat → List Str} {φ : Lay} {H : Hp} {i r : Nat} {ws vs : List V} {us : List Value} {f c' : Addr} {pm ctv : Value} {q : Str} {params : Arguments} {body : Expr} {scope : Scope} {cl : List (Str × Addr)} {N ps : List Str} {A : Around} {outer : List PySem.Env} {s : Shared} {E : XK}
theorem CloAt.cel' {v : V} (h : CloAt LC caps φ H v i r ws f c' pm ctv q params body scope cl) : Cel H cl r := ⟨fun b hb => by
  have hb : b ∈ cl.map (·.2) := of_decide_eq_true hb
  obtain ⟨⟨y, c⟩, hm, rfl⟩ := List.mem_map.mp hb
  obtain ⟨_, o, x, h1, h2⟩ := h.cel y c hm
  exact ⟨o, x, h1, h2⟩⟩
theorem celB_m {y : Str} {c : Addr} (h : (y, c) ∈ cl) : celB cl c = true := decide_eq_true (List.mem_map.mpr ⟨_, h, rfl⟩)
theorem lam_start {h₁ : Heap} {tk : Nat} (h : CloAt LC caps φ H (.ref f) i r ws f c' pm ctv q params body scope cl) (L : LamN scope N ps (caps i)) (e0 : Env0 P w K mg base A outer s H) (hd : A.handled = none) (hl : vs.length = ps.length) (rv : Vals vs us)
    (hns : h₁.Ns s.heap.objs.size fun y => (ps.zip us).reverse.lookup y) (kp : ∀ b o, s.heap.get? b = some o → h₁.get? b = some o) (nd : ps.Nodup) :
    L2.Inv (lamCx2 P w K mg base N q scope f c' cl A outer s (ucl cl H) E) [] (L2.start N (vs ++ ws)) (ucl cl H) { s with heap := h₁, toks := tk } := by
  have c0 := h.cel'
  have e1 := c0.env0 e0
  have noA : ∀ b : Addr, b ∉ (lamCx2 P w K mg base N q scope f c' cl A outer s (ucl cl H) E).ex := fun b z => absurd (show b ∈ ([] : List Addr) from z) (by simp)
  have hul : us.length = ps.length := by rw [← rv.length, hl]
  have nolt : ∀ {y c}, cl.lookup y = some c → ∃ o x, s.heap.get? c = some o ∧ o.data = .cell x ∧ ucl cl H c = none := fun {y c} e => by
    have hm := PySem.mem_of_lookup e
    obtain ⟨o, x, h1, h2, h3, _⟩ := c0.get e0 (celB_m hm)
    exact ⟨o, x, h3, h2, ucl_in (celB_m hm)⟩
  have hlen : ps.length + (caps i).length ≤ N.length := by
    have q := congrArg List.length L.pre
    rw [List.length_take, List.length_append] at q
    omega
  refine ⟨⟨e1.mod, L.kind, rfl, rfl, Nat.le_refl _, fun y z c a b => h.inj y z c a b, fun y hy => ?_, fun y c z _ => Bool.noConfusion (show false = true from z), fun _ => hd, Around.frames_deeper e1.frames, .inr ⟨rfl, rfl⟩, fun b z => absurd z (noA b), e1.bs, e1.bsz, fun b _ _ => noA b,
      fun b z => absurd z (noA b), e1.funs, e1.frf⟩,
    rfl, e1.bare, Un.kept kp, ⟨_, hns, fun j y v a b k => ?_⟩, fun y c e => ?_, e1.hok.fresh (Nat.le_refl _), fun y c e => ?_, fun p hp => absurd (show p ∈ ([] : List (Addr × Obj)) ++ [] from hp) (by simp), e1.hok.kept kp, ?_⟩
  · have hy : scope.names.lookup y = some .cell ∨ scope.names.lookup y = some .free := hy
    rcases hy with hy | hy
    · exact absurd rfl (L.nocell _ (PySem.mem_of_lookup hy))
    · exact h.free (y, .free) (PySem.mem_of_lookup hy) rfl
  · have a : N[j]? = some y := a
    have k : Vis scope y := k
    have b' : ∀ m, (vs ++ ws)[j]? = some m → m = v := fun m hm => by
      have hj := (List.getElem?_eq_some_iff.mp hm).1
      unfold L2.start at b
      rw [List.getElem?_append_left (by rw [List.length_map]; exact hj), List.getElem?_map, hm] at b
      simpa using b
    rcases k with k | k | k
    · have hm := L.loc _ (PySem.mem_of_lookup k) rfl
      obtain ⟨m, hm⟩ := List.mem_iff_getElem?.mp hm
      have hmlt := (List.getElem?_eq_some_iff.mp hm).1
      have ej := L.ix a (j := m) (by rw [List.getElem?_append_left hmlt]; exact hm)
      subst ej
      have hv : j < vs.length := by omega
      have hu : j < us.length := by omega
      have e2 := b' vs[j] (by rw [List.getElem?_append_left hv]; exact List.getElem?_eq_getElem hv)
      subst e2
      obtain ⟨u, hu1, hu2⟩ := rv.get (List.getElem?_eq_getElem hv)
      exact ⟨u, hu2, .inl ⟨k, zip_at nd hul hm hu1⟩⟩
    · exact absurd rfl (L.nocell _ (PySem.mem_of_lookup k))
    · have hm := L.fre _ (PySem.mem_of_lookup k) rfl
      obtain ⟨m, hm⟩ := List.mem_iff_getElem?.mp hm
      have hmlt := (List.getElem?_eq_some_iff.mp hm).1
      have ej := L.ix a (j := ps.length + m) (by rw [List.getElem?_append_right (by omega)]; simpa using hm)
      subst ej
      have hw : m < ws.length := by rw [h.len]; exact hmlt
      have e2 := b' ws[m] (by rw [List.getElem?_append_right (by omega)]; simp [hl, List.getElem?_eq_getElem hw])
      subst e2
      obtain ⟨c, o, u, g1, g2, g3, g4⟩ := h.cap m y _ hm (List.getElem?_eq_getElem hw)
      refine ⟨u, g4, .inr ⟨.inr k, c, g1, o, kp _ _ ?_, g3⟩⟩
      exact (e0.hok c _ g2).1
  · obtain ⟨o, x, h1, h2, _⟩ := nolt e
    exact ⟨x, o, kp _ _ h1, h2⟩
  · exact (nolt e).choose_spec.choose_spec.2.2
  · show (L2.start N (vs ++ ws)).length = N.length
    unfold L2.start
    simp only [List.length_append, List.length_map, List.length_replicate]
    have := h.len
    omega
end
theorem Cel.frame {C : Cn} (ok : CnOk C) {φ φ' : Lay} {H H' : Hp} {cl : List (Str × Addr)} {r : Nat} {S' : Sto} (c : Cel H cl r) (cn : ∀ b, celB cl b = true → H' b = none) (g : Fr φ (ucl cl H) φ' H') (s : SR C φ' S' H') :
    Fr φ H φ' (rcl cl H H') ∧ SR C φ' S' (rcl cl H H') ∧ ∀ b o, H' b = some o → rcl cl H H' b = some o := by
  have up : ∀ b o, H' b = some o → rcl cl H H' b = some o := fun b o e => by
    cases hb : celB cl b with
    | false => rw [rcl_out hb]; exact e
    | true => rw [cn b hb] at e; cases e
  refine ⟨⟨g.pre, g.msk, fun b o n e tb => ?_, fun b m => ?_, fun b e => ?_⟩, s.more ok up, up⟩
  · cases hb : celB cl b with
    | true => rw [rcl_in hb]; exact e
    | false =>
      rw [rcl_out hb]
      exact g.keep b o n (by rw [ucl_out hb]; exact e) tb
  · rcases g.new b m with z | z
    · exact .inl z
    · cases hb : celB cl b with
      | true => exact absurd m (s.free (cn b hb)).1
      | false => rw [ucl_out hb] at z; exact .inr z
  · cases hb : celB cl b with
    | true => rw [rcl_in hb] at e; exact e
    | false =>
      rw [rcl_out hb] at e
      have q := g.back b e
      rwa [ucl_out hb] at q
section
variable {P : Program} {w : World} {K : PySem.W.Frag} {mg : Str → Option Value} {base : Heap} {C : Cn} {G : Prg} {D : Gd} {ds : List Dfn} {lt : List LamT} {fnA clA : Nat → Addr} {T : List (Addr × Str)} (M : ModOk K mg base C G D ds lt fnA clA T)
include M
theorem clo_run {n : Nat} (Y : Sys P w K mg base C G D n) : CloRun P w K mg base C (run G (n + 1)) (n + 1) := by
  intro A outer s H f i env da φ S us vs Q E rm e0 hs r rd rv t
  have ok := M.ok
  simp only [run] at t
  cases hm : G.lams[i]? with
  | none => rw [hm] at t; exact t.elim
  | some m =>
    rw [hm] at t
    simp only at t
    by_cases hcond : da.length = m.np ∧ env.length = m.nc ∧ rkL da = 0 ∧ plainS S = true
    case neg => rw [if_neg hcond] at t; exact t.elim
    rw [if_pos hcond] at t
    obtain ⟨hc1, hc2, hc3, hc4⟩ := hcond
    simp only [Rep] at r
    obtain ⟨ws, hclo, wr⟩ := r
    have hclo' : CloR D.lc D.caps φ H (.ref f) i (rkL env + 1) ws := by rw [M.eC] at hclo; exact hclo
    obtain ⟨f', c', pm, ctv, q, params, body, scope, cl, h⟩ := hclo'
    have ef := h.v
    injection ef with ef
    subst ef
    obtain ⟨l, lc0, hl, hchk⟩ := M.lc i params body scope h.lc
    have em : l.1 = m := by
      have e := congrArg (fun z : List Lm => z[i]?) M.lam
      simp only [List.getElem?_map, hl, hm, Option.map_some, Option.some.injEq] at e
      exact e
    subst em
    unfold lamChk at hchk
    simp only [Bool.and_eq_true, decide_eq_true_eq] at hchk
    obtain ⟨⟨⟨⟨⟨k1, k2⟩, k3⟩, k4⟩, k5⟩, k6⟩ := hchk
    have L : LamN scope l.2 l.ps (D.caps i) := by rw [M.caps i l hl]; exact lamN_by k5
    have nd : l.ps.Nodup := by
      unfold parB at k4
      simp only [Bool.and_eq_true, decide_eq_true_eq] at k4
      exact k4.2
    have hvl : vs.length = l.ps.length := by rw [rd.length, hc1, k2]
    have c0 := h.cel'
    have of1 := (e0.hok f _ h.ff).1
    obtain ⟨⟨oc, cvs, ct, hoc, hdc, hvc⟩, _, _⟩ := e0.hok c' _ h.fc
    have lim : s.heap.NoLimit := e0.mod.nolimit.keeps fun b o e => (e0.bs b o e).1
    have low := c0.low
    have tb : C.tab (ucl cl H) := ok.tab _ _ hs.tab fun b o e _ _ n => low b o e fun x => n x _
    have s1 : SR C φ S (ucl cl H) := hs.low ok (Nat.succ_pos _) hc4 low tb
    have r1 : RepL C φ (ucl cl H) (vs ++ ws) (da ++ env) := RepL.append (RepL.low ok low da vs (by omega) rd) (RepL.low ok low env ws (Nat.lt_succ_self _) wr)
    let res := ev (run G n) G.gl l.1.body (startE l.1.nN (da ++ env)) S
    let Q1 : VK := fun v H' => match res with
      | .ok d S' => ∃ φ', Fr φ (ucl cl H) φ' H' ∧ SR C φ' S' H' ∧ Rep C φ' H' v d
      | _ => False
    let E1 : XK := fun cls dd H' => match res with
      | .exc c S' => ∃ (φ' : Lay) (da : Dk c), cls = .ref (C.clA c) ∧ dd = da.1 ∧ Fr φ (ucl cl H) φ' H' ∧ SR C φ' S' H'
      | _ => False
    refine PySem.W.kla_callFunE rm.depth of1 rfl L.co L.gen rfl ⟨c', oc, cvs, ct, rfl, hoc, hdc, hvc⟩ ?_
    rw [bind_par (ps := l.ps) k4 rfl (by rw [← rv.length, hvl])]
    refine wpAny_pure (wpAny_newFunctionEnv L.nocell (fun y hy => L.par _ (List.of_mem_zip hy).1) (fun h₁ hns hsb => ⟨lim.fresh _ hsb, ?_⟩) L.kind)
    show codeAny _ _ (.expr body (lEnv q scope s.heap.objs.size f c' cl)) _ _
    have kp : ∀ b o, s.heap.get? b = some o → h₁.get? b = some o := fun b o e => hsb.extBut b o (Nat.ne_of_lt (Heap.lt_size e)) (Heap.get?_push_of_some _ e)
    have J := lam_start (tk := s.toks + (l.ps.zip us).length) (E := E1) (h₁ := h₁) h L e0 rm.hd hvl rv hns kp nd
    have xo : XOk (lamCx2 P w K mg base l.2 q scope f c' cl A outer s (ucl cl H) E1) C (fun cls dd _ H' => E1 cls dd H') (run G n) G.gl { D with ml := false } l.2 scope n :=
      Y.xok M rfl rfl rfl rfl rfl rfl rfl L.nd rfl (rm.deeper _) (L2N.takes_of rfl rfl rfl rfl) (fun y c e => by
        obtain ⟨o, x, h1, h2, h3, h4, h5⟩ := c0.get e0 (celB_m (PySem.mem_of_lookup e))
        refine ⟨h5, fun m => ?_⟩
        rcases List.mem_cons.mp (show c ∈ s.heap.objs.size :: frs outer from m) with z | z
        · rw [z] at h3
          exact absurd (Heap.lt_size h3) (Nat.lt_irrefl _)
        · exact h4 z) (fun z => Bool.noConfusion z)
    have eD : ({ D with ml := false } : Gd) = D := by
      have := M.ml
      cases D
      simp only at this
      subst this
      rfl
    rw [eD] at xo
    have xo := xo.lc0 (lc0 := lc0) M.ml
    have hPE : PEe (lamCx2 P w K mg base l.2 q scope f c' cl A outer s (ucl cl H) E1) C (fun cls dd _ H' => E1 cls dd H') (run G n) G.gl body l.1.body := chk_ok l.1.body false scope body xo k6
    have rdg : tOf C (fun cls dd _ H' => E1 cls dd H') (ev (run G n) G.gl l.1.body) (L2.start l.2 (vs ++ ws)) (ucl cl H) Q1 := by
      refine ⟨φ, S, startE l.1.nN (da ++ env), s1, er_start r1 k1, ?_⟩
      cases hr : ev (run G n) G.gl l.1.body (startE l.1.nN (da ++ env)) S with
      | ok d S' =>
        intro φ' H' v g s' rr
        show match res with
          | .ok d S' => _
          | _ => False
        simp only [res, hr]
        exact ⟨φ', g, s', rr⟩
      | exc c S' =>
        intro φ' H' dd g s'
        show match res with
          | .exc c S' => _
          | _ => False
        simp only [res, hr]
        exact ⟨φ', dd, by first | rfl | trivial, by first | rfl | trivial, g, s'⟩
      | stuck => rw [hr] at t; exact t
    refine PySem.W.kla_codeExpr (wpAny_mono (hPE.run [] _ _ (ucl cl H) Q1 J rdg) (fun v s' hq => ?_) fun e s' hq => ?_)
    · obtain ⟨x, H', J', rx, q1⟩ := hq
      have hb := c0.back e0 J'.base J'.hok
      refine ⟨x, rcl cl H H', J'.os, J'.bare, hb.1, hb.2, rx, ?_⟩
      have q1 : match res with
        | .ok d S' => ∃ φ', Fr φ (ucl cl H) φ' H' ∧ SR C φ' S' H' ∧ Rep C φ' H' x d
        | _ => False := q1
      cases hr : ev (run G n) G.gl l.1.body (startE l.1.nN (da ++ env)) S with
      | ok d S' =>
        simp only [res, hr] at q1
        rw [hr] at t
        obtain ⟨φ', g, s', rr⟩ := q1
        have cn : ∀ b, celB cl b = true → H' b = none := fun b hb' => by
          obtain ⟨o, x, h1, h2, h3, h4, _⟩ := c0.get e0 hb'
          exact J'.base.free b o h3 (ucl_in hb') (fun z => nomatch (show b ∈ ([] : List Addr) from z))
        obtain ⟨g2, s2, up⟩ := c0.frame ok cn g s'
        exact t φ' _ x g2 s2 (Rep.kp ok ⟨⟨[], by simp⟩, fun b o n e _ => ⟨n, up b o e⟩⟩ d x rr)
      | exc c S' => simp only [res, hr] at q1
      | stuck => simp only [res, hr] at q1
    · refine wpAny_mono hq (fun _ s'' hx => ?_) fun e' s'' hx => ?_
      all_goals
        refine c0.backE e0 hx fun cls dd H' cn _ q1 => ?_
        have q1 : match res with
          | .exc c S' => ∃ (φ' : Lay) (da : Dk c), cls = .ref (C.clA c) ∧ dd = da.1 ∧ Fr φ (ucl cl H) φ' H' ∧ SR C φ' S' H'
          | _ => False := q1
        cases hr : ev (run G n) G.gl l.1.body (startE l.1.nN (da ++ env)) S with
        | ok d S' => simp only [res, hr] at q1
        | exc c S' =>
          simp only [res, hr] at q1
          rw [hr] at t
          obtain ⟨φ', da', rfl, rfl, g, s'⟩ := q1
          obtain ⟨g2, s2, up⟩ := c0.frame ok cn g s'
          exact t φ' _ da' g2 s2
        | stuck => simp only [res, hr] at q1
end
end SF

set_option maxHeartbeats 200000
set_option Elab.async false
set_option linter.all false
set_option maxRecDepth 100000
/-! All defs, by fuel. -/
namespace SF
open PySem PySem.Spec PyProof.Rows L2 RZ LamX C8

def dfChk (D : Gd) (d : Dfn) (np nN : Nat) (body : List Sm) : Bool :=
  decide (d.ps.length = np) && decide (d.N.length = nN) && C8.scC d.N d.ps (defScope d.st) && parB (defArgs d.st) d.ps && chkSs { D with ml := d.ml } d.N (defScope d.st) body (defBody d.st)
section
variable {P : Program} {w : World} {K : PySem.W.Frag} {mg : Str → Option Value} {base : Heap} {C : Cn} {G : Prg} {D : Gd} {ds : List Dfn} {lt : List LamT} {fnA clA : Nat → Addr} {T : List (Addr × Str)} (M : ModOk K mg base C G D ds lt fnA clA T)
include M
theorem ModOk.fnA' (i : Nat) : C.fnA i = fnA i := by rw [M.eC]; rfl
theorem ModOk.clA' (i : Nat) : C.clA i = clA i := by rw [M.eC]; rfl
/-- how its arguments bind; under its name -/
theorem ModOk.fnp {n i : Nat} {d : Dfn} (h : ds[i]? = some d) (hp : parB (defArgs d.st) d.ps = true) (F : ∀ fd, FunD K d.x d.x (defArgs d.st) (defBody d.st) (defScope d.st) [] [] (fnA i) fd → FnOk P w K mg base (L2N.CX P w) n (fnA i) fd d.ps (spOf C (run G n (.fn i)))) : FnP P w K mg base C (run G n) n d.x i := by
  obtain ⟨fd, hf⟩ := M.fd i d h
  refine ⟨⟨fd, d.ps, by rw [M.fnA']; exact F fd hf, ?_⟩, by rw [M.fnA']; exact M.mgf i d h, by rw [M.fnA']; exact hf.kp⟩
  exact hf.bindsN fun kV doc pm an cdv ct us hl => bind_par hp rfl hl
theorem fn_runF {n i np nN : Nat} {d : Dfn} {body : List Sm} (Y : Sys P w K mg base C G D n) (h : ds[i]? = some d) (hG : G.defs[i]? = some (.df np nN body)) (hc : dfChk D d np nN body = true) {fd : FuncData} (F : FunD K d.x d.x (defArgs d.st) (defBody d.st) (defScope d.st) [] [] (fnA i) fd) :
    FnOk P w K mg base (L2N.CX P w) (n + 1) (fnA i) fd d.ps (spOf C (run G (n + 1) (.fn i))) := by
  unfold dfChk at hc
  simp only [Bool.and_eq_true, decide_eq_true_eq] at hc
  obtain ⟨⟨⟨⟨h1, h2⟩, h3⟩, h4⟩, h5⟩ := hc
  have S : FnScope d.N d.ps (defScope d.st) := C8.fnScope_by h3
  obtain ⟨oc, od, dV, kV, doc, pm, an, cdv, ct, osl, rfl, lk, hcd, hD, hK⟩ := F.ex
  refine fn_of lk hcd S (fun vs H Q E hsp => ?_) fun A outer s H vs Q E hr hsp => ?_
  · obtain ⟨φ, S0, da, hs, r, t⟩ := hsp
    rw [r.length, h1]
    simp only [run, hG] at t
    by_cases hl : da.length = np
    · exact hl
    · rw [if_neg hl] at t
      exact t.elim
  · refine ⟨sOf C (fun cls dd _ H' => E cls dd H') (exL (run G n) G.gl body), ⟨fun pins s' σ H' N I hw => ?_⟩, ?_⟩
    · have xo : XOk (cxOf (L2N.CX P w) P w K mg base d.N d.x (defScope d.st) (fnA i) cdv A outer s H E) C (fun cls dd _ H' => E cls dd H') (run G n) G.gl { D with ml := d.ml } d.N (defScope d.st) n :=
        Y.xok M rfl rfl rfl rfl rfl rfl rfl S.nd rfl hr (L2N.takes_of rfl rfl rfl rfl) (fun x c e => by
          have hle : s.heap.objs.size + 1 ≤ c := by
            have e : (cellsFrom (s.heap.push { cls := .type "dict", data := .dict #[] }).objs.size (defScope d.st).names []).lookup x = some c := by rw [Heap.size_push]; exact e
            rcases cells_mem (PySem.mem_of_lookup e) with q | ⟨_, q, _⟩
            · cases q
            · rwa [Heap.size_push] at q
          have hb : base.objs.size ≤ s.heap.objs.size := I.ok.bsz
          refine ⟨Heap.get?_none_of_le (by show base.objs.size ≤ c; omega), fun m => ?_⟩
          rcases List.mem_cons.mp (show c ∈ s.heap.objs.size :: frs outer from m) with z | z
          · rw [z] at hle
            exact absurd hle (Nat.not_succ_le_self _)
          · obtain ⟨_, o, ho, _⟩ := I.ok.funs.mem z
            have ho : s.heap.get? c = some o := ho
            exact absurd (Nat.lt_of_lt_of_le (Heap.lt_size ho) (Nat.le_of_succ_le hle)) (Nat.lt_irrefl _)) (fun hml => by
          obtain ⟨c, P', e1, e2, e3, e4⟩ := M.tab i d _ _ h hml lk rfl
          exact ⟨fnA, clA, T, c, P', M.eC, e1, e2, e3, e4⟩)
      have so : SOk (cxOf (L2N.CX P w) P w K mg base d.N d.x (defScope d.st) (fnA i) cdv A outer s H E) C (fun cls dd _ H' => E cls dd H') (run G n) G.gl { D with ml := d.ml } d.N (defScope d.st) n := {
        o := xo
        hp := passes_of rfl
        fn := fun _ => rfl
        kind := S.kind
        exs := fun c x hx hn => by
          obtain ⟨q1, q2, q3, q4, q5⟩ := M.exs c x hx hn
          exact ⟨by rw [M.clA']; exact q1, by rw [M.clA']; exact q2, by rw [M.clA']; exact q3, by rw [M.clA']; exact raises_own q4 q5⟩
        exd := M.gdb.2.2 }
      exact (chkSs_ok so body (defBody d.st) h5).run pins s' σ H' N I hw
    · obtain ⟨φ, S0, da, hs, r, t⟩ := hsp
      simp only [run, hG] at t
      by_cases hl : da.length = np
      case neg => rw [if_neg hl] at t; exact t.elim
      rw [if_pos hl] at t
      refine ⟨φ, S0, startE nN da, hs, er_start r h2, ?_⟩
      revert t
      cases exL (run G n) G.gl body (startE nN da) S0 with
      | nx ρ S1 => exact fun t φ' H' σ' g s1 e => t φ' H' .non g s1 (by simp only [Rep])
      | rt v S1 => exact fun t => t
      | exc c ρ S1 => exact fun t φ' H' σ' da g s1 => t φ' H' da g s1
      | stuck => exact fun t => t
theorem fn_run {n i np nN : Nat} {d : Dfn} {body : List Sm} (Y : Sys P w K mg base C G D n) (h : ds[i]? = some d) (hG : G.defs[i]? = some (.df np nN body)) (hc : dfChk D d np nN body = true) : FnP P w K mg base C (run G (n + 1)) (n + 1) d.x i := by
  have hc' := hc
  unfold dfChk at hc'
  simp only [Bool.and_eq_true, decide_eq_true_eq] at hc'
  exact M.fnp h hc'.1.2 fun fd F => fn_runF M Y h hG hc F
theorem sys_zero (hp : ∀ (i : Nat) (d : Dfn), ds[i]? = some d → parB (defArgs d.st) d.ps = true) : Sys P w K mg base C G D 0 where
  fns := fun i x hx => by
    have hi : i < ds.length := by rw [M.dl]; exact (List.getElem?_eq_some_iff.mp hx).1
    have h := List.getElem?_eq_getElem hi
    have e := M.nm i _ h
    rw [hx] at e
    cases e
    refine M.fnp h (hp i _ h) fun fd F => ⟨fun vs H Q E t => ?_, fun A outer s H args us vs Q E _ _ _ _ t => ?_⟩
    · obtain ⟨φ, S0, da, hs, r, t⟩ := t
      exact t.elim
    · obtain ⟨φ, S0, da, hs, r, t⟩ := t
      exact t.elim
  clos := fun A outer s H f i env da φ S us vs Q E _ _ _ _ _ _ t => t.elim
theorem sys_all (hp : ∀ (i : Nat) (d : Dfn), ds[i]? = some d → parB (defArgs d.st) d.ps = true) (hd : ∀ (i : Nat) (d : Dfn) (np nN : Nat) (body : List Sm), ds[i]? = some d → G.defs[i]? = some (.df np nN body) → dfChk D d np nN body = true)
    (hn : ∀ (n i : Nat) (d : Dfn) (f : Df), Sys P w K mg base C G D n → ds[i]? = some d → G.defs[i]? = some f → (∀ np nN body, f ≠ .df np nN body) → FnP P w K mg base C (run G (n + 1)) (n + 1) d.x i) : ∀ n, Sys P w K mg base C G D n
  | 0 => sys_zero M hp
  | n + 1 => by
    have Y := sys_all hp hd hn n
    refine ⟨fun i x hx => ?_, clo_run M Y⟩
    have hi : i < ds.length := by rw [M.dl]; exact (List.getElem?_eq_some_iff.mp hx).1
    have h := List.getElem?_eq_getElem hi
    have e := M.nm i _ h
    rw [hx] at e
    cases e
    have hg : i < G.defs.length := by rw [← M.len]; exact (List.getElem?_eq_some_iff.mp hx).1
    have hG := List.getElem?_eq_getElem hg
    cases hf : G.defs[i] with
    | df np nN body =>
      rw [hf] at hG
      exact fn_run M Y h hG (hd i _ np nN body h hG)
    | err => exact hn n i _ _ Y h hG (fun _ _ _ z => by rw [hf] at z; cases z)
    | told => exact hn n i _ _ Y h hG (fun _ _ _ z => by rw [hf] at z; cases z)
    | nev => exact hn n i _ _ Y h hG (fun _ _ _ z => by rw [hf] at z; cases z)
end
end SF

set_option maxHeartbeats 200000
set_option Elab.async false
set_option linter.all false
set_option maxRecDepth 100000
/-! The end: what the head tells, a law from its run. -/
namespace SF
open PySem PySem.Spec PyProof.Rows L2 RZ LamX C8

/-! ### constants of the module -/
mutual
def repK (K : PySem.W.Frag) : D → Value → Bool
  | .non, .none => true
  | .bl b, .bool c => b == c
  | .int i, .int j _ => decide (i = j)
  | .str s, .str t _ => decide (s = t)
  | .tup l, .ref a => (match K.lookup a with
    | some ⟨.type c, _, .seq its _, _⟩ => decide (c = "tuple") && decide (its.size ≤ sizeLine) && repKL K l its.toList
    | _ => false)
  | _, _ => false
def repKL (K : PySem.W.Frag) : List D → List Value → Bool
  | [], [] => true
  | d :: ds, u :: us => repK K d u && repKL K ds us
  | _, _ => false
end
mutual
theorem repK_ok {C : Cn} : ∀ (d : D) (u : Value), repK C.K d u = true → ∃ v, RelV v u ∧ ∀ φ H, Rep C φ H v d
  | .non, u, h => by
    cases u with
    | none => exact ⟨.non, rfl, fun φ H => by simp only [Rep]⟩
    | _ => simp [repK] at h
  | .bl b, u, h => by
    cases u with
    | bool c =>
      simp only [repK, beq_iff_eq] at h
      subst h
      exact ⟨.bl b, rfl, fun φ H => by simp only [Rep]⟩
    | _ => simp [repK] at h
  | .int i, u, h => by
    cases u with
    | int j t =>
      simp only [repK, decide_eq_true_eq] at h
      subst h
      exact ⟨.int i, ⟨t, rfl⟩, fun φ H => by simp only [Rep]⟩
    | _ => simp [repK] at h
  | .str s, u, h => by
    cases u with
    | str y t =>
      simp only [repK, decide_eq_true_eq] at h
      subst h
      exact ⟨.str s, ⟨t, rfl⟩, fun φ H => by simp only [Rep]⟩
    | _ => simp [repK] at h
  | .tup l, u, h => by
    cases u with
    | ref a =>
      simp only [repK] at h
      split at h
      · rename_i c od its n sl q
        simp only [Bool.and_eq_true, decide_eq_true_eq] at h
        obtain ⟨⟨h1, h2⟩, h3⟩ := h
        obtain ⟨vs, r1, r2⟩ := repKL_ok l its.toList h3
        refine ⟨.ref a, rfl, fun φ H => ?_⟩
        simp only [Rep]
        exact ⟨a, vs, rfl, .inr ⟨_, its, n, q, by rw [h1], rfl, h2, r1⟩, r2 φ H⟩
      · cases h
    | _ => simp [repK] at h
  | .lst _, u, h => by simp [repK] at h
  | .scr _, u, h => by simp [repK] at h
  | .ref _, u, h => by simp [repK] at h
  | .fn _, u, h => by simp [repK] at h
  | .clo _ _, u, h => by simp [repK] at h
  | .exc _, u, h => by simp [repK] at h
theorem repKL_ok {C : Cn} : ∀ (l : List D) (us : List Value), repKL C.K l us = true → ∃ vs, Vals vs us ∧ ∀ φ H, RepL C φ H vs l
  | [], [], _ => ⟨[], .nil, fun φ H => by simp only [RepL]⟩
  | d :: ds, u :: us, h => by
    simp only [repKL, Bool.and_eq_true] at h
    obtain ⟨v, r1, r2⟩ := repK_ok d u h.1
    obtain ⟨vs, r3, r4⟩ := repKL_ok ds us h.2
    exact ⟨v :: vs, .cons r1 r3, fun φ H => by simp only [RepL]; exact ⟨r2 φ H, r4 φ H⟩⟩
  | [], _ :: _, h => by simp [repKL] at h
  | _ :: _, [], h => by simp [repKL] at h
end
def glK (K : PySem.W.Frag) : List Str → List D → Bool
  | [], [] => true
  | x :: xs, d :: ds => (match PySem.W.nsIn K mainGlobals x with
    | some (some u) => repK K d u
    | _ => false) && glK K xs ds
  | _, _ => false
theorem glK_ok {C : Cn} {h : Heap} {mg : Str → Option Value} (X : C.K.In h) (G : h.Ns mainGlobals mg) : ∀ (xs : List Str) (ds : List D), glK C.K xs ds = true → ∀ (i : Nat) (x : Str), xs[i]? = some x → ∃ d, ds[i]? = some d ∧ Glb C mg x d
  | [], [], _, i, x, e => by simp at e
  | y :: xs, d :: ds, hg, i, x, e => by
    simp only [glK, Bool.and_eq_true] at hg
    obtain ⟨h1, h2⟩ := hg
    cases i with
    | zero =>
      simp only [List.getElem?_cons_zero, Option.some.injEq] at e
      subst e
      split at h1
      · rename_i u q
        obtain ⟨v, r1, r2⟩ := repK_ok d u h1
        exact ⟨d, rfl, ⟨v, u, PySem.W.mg_of X G q, r1, r2⟩⟩
      · cases h1
    | succ i => exact glK_ok X G xs ds h2 i x (by simpa using e)
  | [], _ :: _, h, _, _, _ => by simp [glK] at h
  | _ :: _, [], h, _, _, _ => by simp [glK] at h

/-! ### what the head tells -/
def ddOf (d : Dfn) : He.DefD := ⟨(d.x, none), d.x, d.x, defArgs d.st, defBody d.st, defScope d.st, [], []⟩
def excs (D : Gd) : List Str := D.exs.filter fun x : Str => decide (x ≠ ("TooMany" : Str))
def faOf (D : Gd) : List He.Fa := D.blt.map .free ++ (D.fns.map .glo ++ (D.exs.map .glo ++ (excs D).map .exc))
def tfOf (ds : List Dfn) : List He.Defn := (ds.filter (·.ml)).map fun d => (d.x, none)
def exOf (D : Gd) (gl : List SF.D) (ds : List Dfn) (nt : PySem.W.Frag → Bool) (K : PySem.W.Frag) : Bool := glK K D.gn gl && decide (((tfOf ds).map fun p => (He.cT K p).2).Nodup) && nt K
def tabT (K : PySem.W.Frag) (ds : List Dfn) : List (Addr × Str) := (ds.filter (·.ml)).map fun d => ((He.cT K (d.x, none)).2, (d.x ++ ".<locals>.") ++ "<lambda>")
/-- what is looked at in the text itself -/
structure Txt (G : Prg) (D : Gd) (ds : List Dfn) (lt : List LamT) : Prop where
  ml : D.ml = false
  len : D.fns.length = G.defs.length
  nm : ds.map (·.x) = D.fns
  gdb : ("__debug__" : Str) ∉ D.fns ∧ ("__debug__" : Str) ∉ D.gn ∧ ("__debug__" : Str) ∉ D.exs
  lam : lt.map (·.1) = G.lams
  caps : ∀ (i : Nat) (l : LamT), lt[i]? = some l → D.caps i = l.cs
  lc : ∀ (i : Nat) (params : Arguments) (body : Expr) (scope : Scope), D.lc i params body scope = true → ∃ l lc0, lt[i]? = some l ∧ lamChk { D with lc := lc0 } l params body scope = true
abbrev hkOf (G : Prg) (D : Gd) (ds : List Dfn) (nt : PySem.W.Frag → Bool) : PySem.W.Hook := He.hookX 4 (faOf D) (ds.map ddOf) [] (tfOf ds) (exOf D G.gl ds nt)
def obOf (G : Prg) (D : Gd) (ds : List Dfn) (nt : PySem.W.Frag → Bool) (s : PySem.W.SharedT) : He.AlX := He.obsX 4 (faOf D) (ds.map ddOf) [] (tfOf ds) (exOf D G.gl ds nt) (HandSHeadRun.getT s)
theorem obOf_eq {G : Prg} {D : Gd} {ds : List Dfn} {nt : PySem.W.Frag → Bool} (s : PySem.W.SharedT) : obOf G D ds nt s = (hkOf G D ds nt).obs s.abs := He.obsX_eq (HandSHeadRun.getT_eq s)
def fnAt (K : PySem.W.Frag) (D : Gd) (i : Nat) : Addr := He.ga K (D.fns.getD i "")
def clAt (K : PySem.W.Frag) (D : Gd) (i : Nat) : Addr := He.ga K (D.exs.getD i "")
def cnOf (K : PySem.W.Frag) (D : Gd) (ds : List Dfn) : Cn := mkC K (fnAt K D) (clAt K D) (tabT K ds) D.lc D.caps
theorem nodup_snd {α β : Type} {l : List α} {f : α → β} (h : (l.map f).Nodup) {a b : α} (ha : a ∈ l) (hb : b ∈ l) (e : f a = f b) : a = b := by
  induction l with
  | nil => cases ha
  | cons c r ih =>
    rw [List.map_cons, List.nodup_cons] at h
    rcases List.mem_cons.mp ha with ha' | ha' <;> rcases List.mem_cons.mp hb with hb' | hb'
    · rw [ha', hb']
    · subst ha'
      exact absurd (List.mem_map.mpr ⟨b, hb', e.symm⟩ : f a ∈ r.map f) h.1
    · subst hb'
      exact absurd (List.mem_map.mpr ⟨a, ha', e⟩ : f b ∈ r.map f) h.1
    · exact ih h.2 ha' hb'
section
variable {w : World} {K : PySem.W.Frag} {mg : Str → Option Value} {base h : Heap} {G : Prg} {D : Gd} {ds : List Dfn} {lt : List LamT} {nt : PySem.W.Frag → Bool} (T : Txt G D ds lt)
include T
theorem Txt.at {i : Nat} {d : Dfn} (e : ds[i]? = some d) : D.fns[i]? = some d.x := by rw [← T.nm, List.getElem?_map, e]; rfl
theorem modOk (X : K.In h) (hG : h.Ns mainGlobals mg) (c : He.SaysX (faOf D) (ds.map ddOf) [] (tfOf ds) (exOf D G.gl ds nt) w h K) (TB : ∀ p ∈ (tfOf ds).map (He.cT K), TabB base mg p.1 p.2) : ModOk K mg base (cnOf K D ds) G D ds lt (fnAt K D) (clAt K D) (tabT K ds) where
  eC := rfl
  ml := T.ml
  len := T.len
  nm := fun i d e => T.at e
  dl := by rw [← T.nm, List.length_map]
  fd := fun i d e => by
    obtain ⟨fd, F⟩ := c.t.d.defs (List.mem_map.mpr ⟨d, List.mem_of_getElem? e, rfl⟩ : ddOf d ∈ ds.map ddOf)
    have ef : fnAt K D i = He.fAd K (d.x, none) := by
      unfold fnAt
      rw [List.getD_eq_getElem?_getD, T.at e]
      rfl
    exact ⟨fd, by rw [ef]; exact F⟩
  mgf := fun i d e => by
    have ef : fnAt K D i = He.ga K d.x := by
      unfold fnAt
      rw [List.getD_eq_getElem?_getD, T.at e]
      rfl
    rw [ef]
    refine He.glo_ok X hG (c.t.d.facts ?_)
    exact List.mem_append_right _ (List.mem_append_left _ (List.mem_map.mpr ⟨d.x, List.mem_of_getElem? (T.at e), rfl⟩))
  blt := fun x hx => He.free_ok X hG (c.t.d.facts (List.mem_append_left _ (List.mem_map.mpr ⟨x, hx, rfl⟩)))
  glb := by
    have e := c.more
    unfold exOf at e
    rw [Bool.and_eq_true, Bool.and_eq_true] at e
    exact glK_ok (C := cnOf K D ds) X hG _ _ e.1.1
  gdb := T.gdb
  exs := fun k x e n => by
    have ef : clAt K D k = He.ga K x := by
      unfold clAt
      rw [List.getD_eq_getElem?_getD, e]
      rfl
    have hm : x ∈ excs D := List.mem_filter.mpr ⟨List.mem_of_getElem? e, decide_eq_true n⟩
    have h1 := He.glo_ok X hG (c.t.d.facts (f := .glo x) (List.mem_append_right _ (List.mem_append_right _ (List.mem_append_left _ (List.mem_map.mpr ⟨x, List.mem_of_getElem? e, rfl⟩)))))
    obtain ⟨h2, h3, h4, h5⟩ := He.exc_ok (c.t.d.facts (f := .exc x) (List.mem_append_right _ (List.mem_append_right _ (List.mem_append_right _ (List.mem_map.mpr ⟨x, hm, rfl⟩)))))
    rw [ef]
    exact ⟨h2, h1, h3, h4, h5⟩
  lam := T.lam
  caps := T.caps
  lc := T.lc
  tab := fun i d o fd e hml lk ho => by
    have ef : fnAt K D i = He.fAd K (d.x, none) := by
      unfold fnAt
      rw [List.getD_eq_getElem?_getD, T.at e]
      rfl
    obtain ⟨fd', F⟩ := c.t.d.defs (List.mem_map.mpr ⟨d, List.mem_of_getElem? e, rfl⟩ : ddOf d ∈ ds.map ddOf)
    obtain ⟨oc, od, dV, kV, doc, pm, an, cdv, ct, osl, rfl, lk', hcd, hD, hK⟩ := F.ex
    obtain ⟨cc, rfl⟩ := He.codeIn_ref hcd
    rw [ef] at lk
    have lk2 : K.lookup (He.fAd K (d.x, none)) = some ⟨oc, od, .func _, osl⟩ := lk'
    rw [lk2] at lk
    cases lk
    cases ho
    have ec : He.codeOf K (d.x, none) = cc := He.codeOf_eq lk2 rfl
    have hd : d ∈ ds.filter (·.ml) := List.mem_filter.mpr ⟨List.mem_of_getElem? e, hml⟩
    have ht : ((d.x, none) : He.Defn) ∈ tfOf ds := List.mem_map.mpr ⟨d, hd, rfl⟩
    refine ⟨cc, (He.cT K (d.x, none)).2, rfl, ?_, List.mem_map.mpr ⟨d, hd, rfl⟩, fun p hp eP => ?_⟩
    · have q := TB _ (List.mem_map.mpr ⟨_, ht, rfl⟩)
      have e1 : (He.cT K (d.x, none)).1 = cc := ec
      rw [← e1]
      exact q
    · obtain ⟨d', hd', rfl⟩ := List.mem_map.mp hp
      have en := c.more
      unfold exOf at en
      rw [Bool.and_eq_true, Bool.and_eq_true] at en
      have nd := of_decide_eq_true en.1.2
      have q := nodup_snd nd (List.mem_map.mpr ⟨d', hd', rfl⟩ : ((d'.x, none) : He.Defn) ∈ tfOf ds) ht eP
      have q2 : d'.x = d.x := congrArg (fun z : He.Defn => z.1) q
      rw [q2]
end
/-! ### the law from its run -/
section
variable {l : PySem.W.OpenLaw} {w : World} {K : PySem.W.Frag} {mg : Str → Option Value} {h : Heap} {G : Prg} {D : Gd} {ds : List Dfn} {lt : List LamT} {nt : PySem.W.Frag → Bool} (T : Txt G D ds lt)
include T
theorem lawAt {n k i nN : Nat} {x : Str} {d : Dfn} {body : List Sm} {fa : Addr} (X : K.In h) (hG : h.Ns mainGlobals mg) (hfa : mg d.x = some (.ref fa)) (c : He.SaysX (faOf D) (ds.map ddOf) [] (tfOf ds) (exOf D G.gl ds nt) w h K)
    (hi : ds[i]? = some d) (hd : G.defs[i]? = some (.df 1 nN body)) (hps : d.ps = [x]) (hk : dfChk D d 1 nN body = true) (hn : n ≤ sizeLine)
    (sys : ∀ base : Heap, K.In base → base.Ns mainGlobals mg → (∀ p ∈ (tfOf ds).map (He.cT K), TabB base mg p.1 p.2) → ModOk K mg base (cnOf K D ds) G D ds lt (fnAt K D) (clAt K D) (tabT K ds) → Sys l.prog w K mg base (cnOf K D ds) G D k)
    (main : ∀ ns : List Int, ns.length ≤ n → (∀ z ∈ ns, Builtin.Int.intBits z ≤ 1048576) → ∃ S, run G (k + 1) (.fn i) [.scr ns] [] = .ok (.bl true) S) : LawAtS l w K (L2N.CX l.prog w) (k + 1) n x mg fa h := by
  obtain ⟨fd, F⟩ := c.t.d.defs (List.mem_map.mpr ⟨d, List.mem_of_getElem? hi, rfl⟩ : ddOf d ∈ ds.map ddOf)
  have ef : fnAt K D i = He.fAd K (d.x, none) := by
    unfold fnAt
    rw [List.getD_eq_getElem?_getD, T.at hi]
    rfl
  have egl : mg d.x = some (.ref (He.ga K d.x)) := by
    refine He.glo_ok X hG (c.t.d.facts ?_)
    exact List.mem_append_right _ (List.mem_append_left _ (List.mem_map.mpr ⟨d.x, List.mem_of_getElem? (T.at hi), rfl⟩))
  have efa : fa = fnAt K D i := by
    rw [hfa] at egl
    injection egl with e
    injection e with e
    rw [e, ef]
    rfl
  subst efa
  have F' : FunD K d.x d.x (defArgs d.st) (defBody d.st) (defScope d.st) [] [] (fnAt K D i) fd := by rw [ef]; exact F
  have hpar : parB (defArgs d.st) d.ps = true := by
    unfold dfChk at hk
    simp only [Bool.and_eq_true] at hk
    exact hk.1.2
  refine ⟨fd, (tfOf ds).map (He.cT K), spOf (cnOf K D ds) (run G (k + 1) (.fn i)), fun p hp => ?_, fun p hp => ?_, fun p hp => ?_, fun s u => ?_, fun H a ns hl hb hT hS => ?_, fun base KX kns TB => ?_⟩
  · obtain ⟨q, hq, rfl⟩ := List.mem_map.mp hp
    exact c.empty q hq
  · obtain ⟨q, hq, rfl⟩ := List.mem_map.mp hp
    exact c.out q hq
  · obtain ⟨q, hq, rfl⟩ := List.mem_map.mp hp
    exact PySem.W.codeHd_of_K X (c.hd q hq)
  · have b := FunD.bindsA (ps := d.ps) F' (fun kV doc pm an cdv ct us hl => bind_par hpar rfl hl) s [u] (by rw [hps]; rfl)
    rw [hps] at b
    exact b
  · obtain ⟨S, e⟩ := main ns hl hb
    refine ⟨⟨[], []⟩, [], [.scr ns], ⟨rfl, List.nodup_nil, fun i o a z => by simp at z, ?_, fun b z => by cases z⟩, ?_, ?_⟩
    · intro p hp
      obtain ⟨d', hd', rfl⟩ := List.mem_map.mp hp
      exact TabS.nil (hT _ (List.mem_map.mpr ⟨_, List.mem_map.mpr ⟨d', hd', rfl⟩, rfl⟩))
    · simp only [RepL, Rep, and_true]
      refine ⟨a, rfl, ?_⟩
      rcases hS with hS | hS
      · exact .inl ⟨⟨fun z => (by cases z), fun z => (by cases z)⟩, hS⟩
      · exact .inr hS
    · rw [e]
      intro φ' H' v g s' r
      simp only [Rep] at r
      exact r
  · have M := modOk (base := base) T X hG c TB
    have q := fn_runF M (sys base KX kns TB M) hi hd hk F'
    rw [hps] at q
    exact q
end
end SF

set_option maxHeartbeats 200000
set_option Elab.async false
set_option linter.all false
set_option maxRecDepth 100000
set_option maxHeartbeats 2000000
/-! Within an except suite: what ends there (StopIteration is chained to the handled error). -/
namespace SF.Hot
open PySem PySem.Spec PyProof.Rows HotX
section
variable {prog : Program} {w : World} {A : Around} {E : Value → Shared → Prop} {s : Shared}
theorem HotAt.in1 {x1 : Addr} {h : Heap} (hot : HotAt A x1 h) : HotAt A.in1 x1 h := ⟨hot.1, hot.2⟩
theorem HotAt.keep {x1 : Addr} {h h' : Heap} (hot : HotAt A x1 h) (k : ∀ o, h.get? x1 = some o → h'.get? x1 = some o) : HotAt A x1 h' := by
  obtain ⟨hh, o, vs, e, d, c⟩ := hot
  exact ⟨hh, o, vs, k o e, d, c⟩
theorem HotAt.lt {x1 : Addr} {h : Heap} (hot : HotAt A x1 h) : x1 < h.objs.size := by
  obtain ⟨hh, o, vs, e, d, c⟩ := hot
  exact Heap.lt_size e
theorem upd_new {h : Heap} {b : Addr} {o o1 : Obj} {f : Obj → Obj} (a : Addr) (ha : h.objs.size ≤ a) (e : h.get? b = some o) : (h.update a f).get? b = some o := by
  rw [Heap.get?_update_other _ _ (Nat.ne_of_gt (Nat.lt_of_lt_of_le (Heap.lt_size e) ha))]
  exact e
theorem nextOf_list_end {it l x1 : Addr} {i : Nat} {items} {Q : Value → Shared → Prop} (hot : HotAt A x1 s.heap) (hn : x1 ≠ it)
    (hit : s.heap.IsListIter it l i) (hl : s.heap.IsList l items) (hx : items[i]? = none)
    (hE : ∀ h' e, Heap.ExtBut it s.heap h' → (∃ o, h'.get? e = some o ∧ o.cls = .type "StopIteration") → E (.ref e) { s with heap := h' }) :
    wpAny (model prog w) A (Builtin.SmallTypes.nextOf (.ref it)) Q E s := by
  obtain ⟨o, ho, hc, hd⟩ := id hit
  obtain ⟨ol, hol, _, nl, hdl⟩ := hl
  obtain ⟨hh, o1, vs1, h1, d1, c1⟩ := hot
  unfold Builtin.SmallTypes.nextOf
  refine wpAny_bind (wpAny_callSpecial?_slot (name := Str.ofString "__next__") hit.typeIs slot_listiter_next
    (wpAny_call_entry slot_listiter_next hit.typeIs entry_listiter_next ?_ (args_listiter_next _)))
  show wpAny _ _ (field (.ref it) 0 >>= _) _ _ s
  refine wpAny_bind (wpAny_field ho hd (x := .ref l) rfl ?_)
  show wpAny _ _ (if (Value.ref l == Value.none) = true then _ else _) _ _ s
  rw [if_neg (show ¬ ((Value.ref l == Value.none) = true) from Bool.false_ne_true)]
  show wpAny _ _ (field (.ref it) 1 >>= _) _ _ s
  refine wpAny_bind (wpAny_field ho hd (x := .int i 0) rfl ?_)
  show wpAny _ _ (seqItems? (.ref l) >>= _) _ _ s
  refine wpAny_bind (wpAny_seqItems hol hdl ?_)
  simp only [Int.toNat_natCast, hx]
  refine wpAny_bind (wpAny_rule (wpAny_bind (wpAny_setField ho hd (by simp) ?_)))
  have sb : Heap.SameBut it s.heap (s.heap.update it (Obj.mapFields (·.setIfInBounds 0 .none))) := Heap.SameBut.update ..
  show wpAny _ _ (newExc (.type "StopIteration") [] >>= _) _ _ _
  refine wpAny_bind ?_
  simp only [newExc, newTuple]
  refine wpAny_bind (wpAny_newObj_type ?_ (by size_fits))
  refine wpAny_bind (m := firstArgMember _ _) (wpAny_of_eq (a := Value.none) (by first | rfl | (simp only [firstArgMember]; rfl)) ?_)
  refine wpAny_newObj_type ?_ (by size_fits)
  have k0 := (sb.2 x1 hn).trans h1
  refine raiseNew_hot ⟨hh, o1, vs1, Heap.get?_push_of_some _ (Heap.get?_push_of_some _ k0), d1, c1⟩ (Nat.ne_of_lt (Heap.lt_size (Heap.get?_push_of_some _ k0))) (Heap.get?_push_size _ rfl) rfl (by first | (simp; done) | (simp; omega) | (simp only [Array.size_append]; simp; omega)) ?_
  refine hE _ _ (fun b o' hb e => ?_) ⟨_, Heap.get?_update_self _ (Heap.get?_push_size _ rfl) rfl, rfl⟩
  have k1 : ∀ {x y : Obj}, (((s.heap.update it (Obj.mapFields (·.setIfInBounds 0 .none))).push x).push y).get? b = some o' := fun {x y} => Heap.get?_push_of_some _ (Heap.get?_push_of_some _ ((sb.2 b hb).trans e))
  rw [Heap.get?_update_other _ _ (Nat.ne_of_gt (Heap.lt_size (Heap.get?_push_of_some _ ((sb.2 b hb).trans e))))]
  exact k1
theorem next_tuple_end {it t x1 : Addr} {i : Nat} {items} {Q : Option Value → Shared → Prop} (hot : HotAt A x1 s.heap) (hn : x1 ≠ it)
    (hit : IsTupIter s.heap it t i) (ht : IsTup s.heap t items) (hx : items[i]? = none)
    (hQ : ∀ h', Heap.ExtBut it s.heap h' → Q none { s with heap := h' }) : wpAny (model prog w) A (pyNext (.ref it)) Q E s := by
  obtain ⟨o, ho, hc, hd⟩ := id hit
  obtain ⟨ol, hol, _, nl, hdl⟩ := ht
  obtain ⟨hh, o1, vs1, h1, d1, c1⟩ := hot
  unfold pyNext
  refine wpAny_bind (wpAny_attempt (wpAny_callSpecial?_slot (name := Str.ofString "__next__") hit.typeIs slot_tupleiter_next
    (wpAny_call_entry slot_tupleiter_next hit.typeIs entry_tupleiter_next ?_ (args_tupleiter_next _))))
  show wpAny _ _ (field (.ref it) 0 >>= _) _ _ s
  refine wpAny_bind (wpAny_field ho hd (x := .ref t) rfl ?_)
  show wpAny _ _ (if (Value.ref t == Value.none) = true then _ else _) _ _ s
  rw [if_neg (show ¬ ((Value.ref t == Value.none) = true) from Bool.false_ne_true)]
  show wpAny _ _ (field (.ref it) 1 >>= _) _ _ s
  refine wpAny_bind (wpAny_field ho hd (x := .int i 0) rfl ?_)
  show wpAny _ _ (seqItems? (.ref t) >>= _) _ _ s
  refine wpAny_bind (wpAny_seqItems hol hdl ?_)
  simp only [Int.toNat_natCast, hx]
  refine wpAny_bind (wpAny_rule (wpAny_bind (wpAny_setField ho hd (by simp) ?_)))
  have sb : Heap.SameBut it s.heap (s.heap.update it (Obj.mapFields (·.setIfInBounds 0 .none))) := Heap.SameBut.update ..
  show wpAny _ _ (newExc (.type "StopIteration") [] >>= _) _ _ _
  refine wpAny_bind ?_
  simp only [newExc, newTuple]
  refine wpAny_bind (wpAny_newObj_type ?_ (by size_fits))
  refine wpAny_bind (m := firstArgMember _ _) (wpAny_of_eq (a := Value.none) (by first | rfl | (simp only [firstArgMember]; rfl)) ?_)
  refine wpAny_newObj_type ?_ (by size_fits)
  have k0 := (sb.2 x1 hn).trans h1
  refine raiseNew_hot ⟨hh, o1, vs1, Heap.get?_push_of_some _ (Heap.get?_push_of_some _ k0), d1, c1⟩ (Nat.ne_of_lt (Heap.lt_size (Heap.get?_push_of_some _ k0))) (Heap.get?_push_size _ rfl) rfl (by first | (simp; done) | (simp; omega) | (simp only [Array.size_append]; simp; omega)) ?_
  refine wpAny_bind (wpAny_isInstance (T := "StopIteration") (b := true) ⟨_, Heap.get?_update_self _ (Heap.get?_push_size _ rfl) rfl, rfl⟩ isSubtype_stop ?_)
  refine wpAny_pure (hQ _ fun b o' hb e => ?_)
  rw [Heap.get?_update_other _ _ (Nat.ne_of_gt (Heap.lt_size (Heap.get?_push_of_some _ ((sb.2 b hb).trans e))))]
  exact Heap.get?_push_of_some _ (Heap.get?_push_of_some _ ((sb.2 b hb).trans e))
theorem unpackItems_tuple {t x1 : Addr} {items : Array Value} {Q : List Value → Shared → Prop} (hot : HotAt A x1 s.heap) (ht : IsTup s.heap t items)
    (hQ : ∀ h', Heap.ExtBut s.heap.objs.size s.heap h' → Q items.toList { s with heap := h' }) : wpAny (model prog w) A (unpackItems (.ref t) items.size none) Q E s := by
  have hlt : t ≠ s.heap.objs.size := by obtain ⟨o, ho, _⟩ := ht; exact Nat.ne_of_lt (Heap.lt_size ho)
  unfold unpackItems
  refine wpAny_bind ?_
  · unfold notIterableAtAll
    refine wpAny_bind (wpAny_specialOf ht.typeIs slot_tuple_iter.lookup ?_)
    refine wpAny_pure ?_
    simp only [Bool.false_eq_true, if_false]
    refine wpAny_bind (wpAny_holding (iter_tuple ht ?_))
    refine wpAny_bind (wpAny_holding (draw_tuple hlt items.size 0 _ _ ⟨_, Heap.get?_push_size _ rfl, rfl, rfl⟩ (ht.push _) (by omega) fun h₁ hit₁ hs₁ => ?_))
    have hall : List.take items.size (List.drop 0 items.toList) = items.toList := by
      rw [List.drop_zero]; exact List.take_of_length_le (by simp)
    rw [hall]
    rw [if_neg (by simp)]
    have ht₁ : IsTup h₁ t items := (ht.push _).extBut hs₁.extBut hlt
    have hne : x1 ≠ s.heap.objs.size := Nat.ne_of_lt (HotAt.lt hot)
    have hot₁ : HotAt A x1 h₁ := HotAt.keep hot fun o e => hs₁.extBut x1 o hne (Heap.get?_push_of_some _ e)
    refine wpAny_bind (wpAny_holding (next_tuple_end hot₁ hne hit₁ ht₁ (by simp) fun h₂ he₂ => ?_))
    simp only [Option.isSome_none, Bool.false_eq_true, if_false]
    refine wpAny_pure (hQ h₂ fun b o hb e => he₂ b o hb (hs₁.extBut b o hb (Heap.get?_push_of_some _ e)))
theorem unpack_tuple {t x1 : Addr} {items : Array Value} {targets : List (Bool × (Value → Sem Unit))} {Q : Unit → Shared → Prop} (hot : HotAt A x1 s.heap) (ht : IsTup s.heap t items)
    (hn : targets.length = items.size) (hstar : targets.findIdx? (·.1) = none)
    (h : ∀ h', Heap.ExtBut s.heap.objs.size s.heap h' → wpAny (model prog w) A (assignInOrder (targets.map (·.2)) items.toList) Q E { s with heap := h' }) :
    wpAny (model prog w) A (unpack (.ref t) targets) Q E s := by
  unfold unpack
  rw [hn, hstar]
  exact wpAny_bind (wpAny_holding (unpackItems_tuple hot ht h))
theorem assign_Tuple_tuple {env : PySem.Env} {elts : List Expr} {xk} {pos : Pos} {t x1 : Addr} {items : Array Value} {Q : Unit → Shared → Prop} (hot : HotAt A x1 s.heap) (ht : IsTup s.heap t items)
    (hn : (assignEach elts env).length = items.size) (hstar : (assignEach elts env).findIdx? (·.1) = none)
    (h : ∀ h', Heap.ExtBut s.heap.objs.size s.heap h' → wpAny (model prog w) A (assignInOrder ((assignEach elts env).map (·.2)) items.toList) Q E { s with heap := h' }) :
    wpAny (model prog w) A (assign (.Tuple elts xk pos) env (.ref t)) Q E s := by
  rw [assign_Tuple]
  exact wpAny_bind (wpAny_standAt (unpack_tuple hot ht hn hstar h))
/-- the first list ends -/
theorem zip_next_end {z TI TO i1 i2 l1 l2 x1 : Addr} {k1 : Nat} {xs : Array Value} {Q : Fin → Shared → Prop} (hot : HotAt A x1 s.heap) (n1 : x1 ≠ i1) (nz : x1 ≠ z) (D : ZipApart z TI TO i1 i2 l1 l2)
    (hz : IsZip s.heap z TI TO .none) (hTI : IsPair s.heap TI (.ref i1) (.ref i2))
    (h1 : s.heap.IsListIter i1 l1 k1) (hl1 : s.heap.IsList l1 xs) (hend : xs[k1]? = none)
    (hE : ∀ h' e, (∀ c o, c ≠ z → c ≠ TO → c ≠ i1 → c ≠ i2 → s.heap.get? c = some o → h'.get? c = some o) → (∃ o, h'.get? e = some o ∧ o.cls = .type "StopIteration") → E (.ref e) { s with heap := h' }) :
    wpAny (model prog w) A (Builtin.«zip.__next__» ⟨[.ref z], []⟩) Q E s := by
  show wpAny _ _ (field (.ref z) 2 >>= _) _ _ _
  refine wpAny_bind (wpAny_field hz rfl (x := .bool false) rfl ?_)
  show wpAny _ _ (field (.ref z) 3 >>= _) _ _ _
  refine wpAny_bind (wpAny_field hz rfl (x := .ref TI) rfl ?_)
  refine wpAny_bind (wpAny_seqItems hTI rfl ?_)
  show wpAny _ _ (Builtin.SmallTypes.ownedTupleIsFree (.ref z) >>= _) _ _ _
  refine wpAny_bind ?_
  unfold Builtin.SmallTypes.ownedTupleIsFree
  refine wpAny_bind (wpAny_field hz rfl (x := .none) rfl (wpAny_pure ?_))
  simp only [if_true]
  refine wpAny_bind (wpAny_rule ?_)
  refine wpAny_bind (wpAny_field hz rfl (x := .ref TO) rfl ?_)
  refine wpAny_bind (wpAny_setField_rec hz (by simp) fun h₁ hz₁ hs₁ => ?_)
  replace hz₁ : IsZip h₁ z TI TO .ellipsis := hz₁
  refine wpAny_bind ?_
  simp only [List.zipIdx_cons, List.zipIdx_nil, List.forIn_cons, List.forIn_nil]
  refine wpAny_bind (wpAny_bind (wpAny_onRaise ?_))
  show wpAny _ _ (Builtin.SmallTypes.nextOf (.ref i1) >>= _) _ _ _
  have hot₁ : HotAt A x1 h₁ := HotAt.keep hot fun o e => hs₁.extBut x1 o nz e
  refine wpAny_bind (nextOf_list_end hot₁ n1 (h1.extBut hs₁.extBut D.i1z) (hl1.extBut hs₁.extBut D.l1z) hend fun h₂ e hs₂ he => ?_)
  obtain ⟨oe, hoe, hce⟩ := he
  have hz₂ : IsZip h₂ z TI TO .ellipsis := hs₂ _ _ D.i1z.symm hz₁
  have hez : e ≠ z := fun x => by subst x; rw [hz₂] at hoe; cases hoe; simp at hce
  refine wpAny_setField_rec hz₂ (by simp) fun h₃ _ hs₃ => hE h₃ e (fun c o c1 _ c3 _ x => hs₃.extBut _ _ c1 (hs₂ _ _ c3 (hs₁.extBut _ _ c1 x))) ⟨oe, hs₃.extBut _ _ hez hoe, hce⟩
theorem pyNext_zip_end {z TI TO i1 i2 l1 l2 x1 : Addr} {k1 : Nat} {xs : Array Value} {Q : Option Value → Shared → Prop} (hot : HotAt A x1 s.heap) (n1 : x1 ≠ i1) (nz : x1 ≠ z) (D : ZipApart z TI TO i1 i2 l1 l2)
    (hz : IsZip s.heap z TI TO .none) (hTI : IsPair s.heap TI (.ref i1) (.ref i2))
    (h1 : s.heap.IsListIter i1 l1 k1) (hl1 : s.heap.IsList l1 xs) (hend : xs[k1]? = none)
    (hQ : ∀ h', (∀ c o, c ≠ z → c ≠ TO → c ≠ i1 → c ≠ i2 → s.heap.get? c = some o → h'.get? c = some o) → Q none { s with heap := h' }) : wpAny (model prog w) A (pyNext (.ref z)) Q E s := by
  have hT : s.TypeIs (.ref z) "zip" := ⟨_, hz, rfl⟩
  unfold pyNext
  refine wpAny_bind (wpAny_attempt (wpAny_callSpecial?_slot (name := Str.ofString "__next__") hT F.slot_zip_next
    (wpAny_call_entry F.slot_zip_next hT F.entry_zip_next (zip_next_end (HotAt.in1 hot) n1 nz D hz hTI h1 hl1 hend fun h' e hk he => ?_) (F.args_zip_next_1 _))))
  obtain ⟨o, ho, hc⟩ := he
  refine wpAny_bind (wpAny_isInstance (T := "StopIteration") (b := true) ⟨o, ho, hc⟩ isSubtype_stop ?_)
  exact wpAny_pure (hQ _ hk)
end
end SF.Hot

set_option maxHeartbeats 200000
set_option Elab.async false
set_option linter.all false
set_option maxRecDepth 100000
set_option maxHeartbeats 2000000
/-! Within an except suite: zip, targets, comprehensions. -/
namespace SF.Hot
open PySem PySem.Spec PyProof.Rows L2 RZ HotX
/-! ### tuples as targets -/
section
variable {X : Cx} {pos : Pos}
theorem hot_at {pins : List (Addr × Obj)} {σ : L2.St} {H : Hp} {s : Shared} (hc : L2H.HotC X) (I : L2.Inv X pins σ H s) : ∃ p ∈ X.pn, HotAt X.A p.1 s.heap := by
  obtain ⟨p, ⟨hh, v1, e1, c1⟩, hp⟩ := hc
  exact ⟨p, hp, hh, p.2, v1, (I.pin p (List.mem_append_left _ hp)).1, e1, c1⟩
theorem pg_tup {es : List Expr} {k : Nat} {t : TGs} {n : Nat} (hc : L2H.HotC X) (h : PGs X es t)
    (hn : (assignEach es X.env).length = n := by rfl) (hst : (assignEach es X.env).findIdx? (·.1) = none := by rfl) : PG X (.Tuple es k pos) (gTup X.K n t) := by
  refine ⟨fun pins s σ H v u Q I r hw => ?_⟩
  obtain ⟨a, xs, e1, hq, hl, hw⟩ := hw
  subst e1
  cases r
  obtain ⟨its, rv, ht, hz⟩ := I.tuple hq
  obtain ⟨p, _, hot⟩ := hot_at hc I
  refine assign_Tuple_tuple hot ht (by simp [hn, ← hl, rv.length]) hst fun h' hx => ?_
  have I1 : L2.Inv X pins σ H { s with heap := h' } := I.kept (t' := s.toks) fun b o e => hx b o (Nat.ne_of_lt (Heap.lt_size e)) e
  exact h.run pins _ σ H xs _ Q I1 (by simpa using rv) hw
end
/-! ### zip of two lists, the first ends -/
def ItzH (K : PySem.W.Frag) (a b : Addr) : It :=
  ⟨(Itz K a b).go, (Itz K a b).yld, fun i H => ∃ xs : List V, SqL K H a xs ∧ xs.length ≤ i⟩
theorem turn_zipH {P : Program} {w : World} {K : PySem.W.Frag} {elts : List Expr} {kk : Nat} {tpos : Pos} {a b z TI TO i1 i2 : Addr} (D : ZipApart z TI TO i1 i2 a b) :
    L2H.TurnH P w K (.Tuple elts kk tpos) (ItzH K a b) [z, TI, TO, i1, i2] z (fun i h => IsZip h z TI TO .none ∧ IsPair h TI (.ref i1) (.ref i2) ∧ (∃ x y, IsPair h TO x y) ∧ h.IsListIter i1 a i ∧ h.IsListIter i2 b i) where
  mem := by simp
  obj := fun i h st c hc => by
    obtain ⟨hz, hTI, ⟨x, y, hTO⟩, ⟨o1, e1, _, d1⟩, ⟨o2, e2, _, d2⟩⟩ := st
    have e' : c = z ∨ c = TI ∨ c = TO ∨ c = i1 ∨ c = i2 := by simpa using hc
    rcases e' with q | q | q | q | q
    · rw [q]; exact ⟨_, hz, fun v q => nomatch q⟩
    · rw [q]; exact ⟨_, hTI, fun v q => nomatch q⟩
    · rw [q]; exact ⟨_, hTO, fun v q => nomatch q⟩
    · rw [q]; exact ⟨o1, e1, fun v q => by rw [d1] at q; cases q⟩
    · rw [q]; exact ⟨o2, e2, fun v q => by rw [d2] at q; cases q⟩
  keep := fun i h h' st k => by
    obtain ⟨hz, hTI, ⟨x, y, hTO⟩, h1, h2⟩ := st
    exact ⟨k z (by simp) _ hz, k TI (by simp) _ hTI, ⟨x, y, k TO (by simp) _ hTO⟩, h1.at fun o q => k i1 (by simp) o q, h2.at fun o q => k i2 (by simp) o q⟩
  item := by
    intro X hP hw hK hc i pins s σ H E I hf st hg
    subst hP hw hK
    obtain ⟨hz, hTI, ⟨x0, y0, hTO⟩, h1, h2⟩ := st
    obtain ⟨xs, ys, x, y, hqx, hqy, hx, hy⟩ := hg
    obtain ⟨its, rv, p, _⟩ := I.list hqx
    obtain ⟨its2, rv2, p2, _⟩ := I.list hqy
    obtain ⟨u, hu, ru⟩ := rv.get hx
    obtain ⟨u2, hu2, ru2⟩ := rv2.get hy
    have hzl : z < s.heap.objs.size := Heap.lt_size hz
    refine wpAny_pyNext_zip_item D hz hTI hTO h1 h2 p.isList p2.isList (x := u) (y := u2) (by simpa using hu) (by simpa using hu2) fun h' z' TO' h1' h2' hT hsz hk => ?_
    refine ⟨_, rfl, wpAny_letOwnedTupleGo_zip (s := { s with heap := h' }) z' fun h'' z'' sb => ?_⟩
    have hT2 : h''.get? s.heap.objs.size = some { cls := .type "tuple", data := .seq #[u, u2] } := (sb.2 _ (Nat.ne_of_gt hzl)).trans hT
    have new : ObjOk X.prog X.w (upd H s.heap.objs.size (.tup [x, y])) h'' s.heap.objs.size (.tup [x, y]) :=
      ⟨by show 2 ≤ sizeLine; decide, [u, u2], .cons ru (.cons ru2 .nil), ⟨_, hT2, rfl, _, rfl⟩⟩
    have I1 : Inv X pins σ (upd H s.heap.objs.size (.tup [x, y])) { s with heap := h'' } :=
      I.turnedNew (t' := s.toks) (ch := [z, TI, TO, i1, i2]) (fun c o hb q => (sb.2 c (fun q' => hb (by simp [q']))).trans (hk c o (fun q' => hb (by simp [q'])) (fun q' => hb (by simp [q'])) (fun q' => hb (by simp [q'])) (fun q' => hb (by simp [q'])) q)) hf (Nat.le_refl _) new
    refine ⟨.ref s.heap.objs.size, _, I1, rfl, ⟨_, x, y, rfl, I.hok.fresh (Nat.le_refl _), rfl, fun l hl => by rw [I.list_inj hl hqx]; exact hx, fun l hl => by rw [I.list_inj hl hqy]; exact hy⟩, ⟨z'', ?_, ⟨u, u2, ?_⟩, ?_, ?_⟩, fun c hcm => ?_⟩
    · exact (sb.2 _ D.TIz).trans (hk _ _ D.TIz D.TITO D.TIi1 D.TIi2 hTI)
    · exact (sb.2 _ D.TOz).trans TO'
    · exact h1'.at fun o q => (sb.2 _ D.i1z).trans q
    · exact h2'.at fun o q => (sb.2 _ D.i2z).trans q
    · have hlt : c < s.heap.objs.size := by
        have e' : c = z ∨ c = TI ∨ c = TO ∨ c = i1 ∨ c = i2 := by simpa using hcm
        rcases e' with q | q | q | q | q
        · rw [q]; exact hzl
        · rw [q]; exact Heap.lt_size hTI
        · rw [q]; exact Heap.lt_size hTO
        · rw [q]; obtain ⟨_, e1, _⟩ := h1; exact Heap.lt_size e1
        · rw [q]; obtain ⟨_, e2, _⟩ := h2; exact Heap.lt_size e2
      rw [upd_ne (Nat.ne_of_lt hlt)]
      exact (hf c hcm).1
  done := by
    intro X hP hw hK hc i pins s σ H E I hf st hg
    subst hP hw hK
    obtain ⟨hz, hTI, ⟨x0, y0, hTO⟩, h1, h2⟩ := st
    obtain ⟨xs, hqx, hend⟩ := hg
    obtain ⟨its, rv, p, _⟩ := I.list hqx
    have l1 := rv.length
    obtain ⟨q, hq, hot⟩ := hot_at hc I
    have nb : ∀ c ∈ [z, TI, TO, i1, i2], q.1 ≠ c := fun c hc => (hf c hc).2.2.2.2.2 q (List.mem_append_left _ hq)
    exact pyNext_zip_end hot (nb i1 (by simp)) (nb z (by simp)) D hz hTI h1 p.isList (by simp; omega) fun h' hk => ⟨rfl, I.turnedL (t' := s.toks) (ch := [z, TI, TO, i1, i2]) (fun c o hb q =>
      hk c o (fun q' => hb (by simp [q'])) (fun q' => hb (by simp [q'])) (fun q' => hb (by simp [q'])) (fun q' => hb (by simp [q'])) q) hf⟩
  self := fun A i s Q E st h => wpAny_pyIter_zip st.1 h
def iZipH (K : PySem.W.Frag) (ta : TA) : TI := fun σ H R => ta σ H fun vs H1 => ∃ a b xs ys, vs = [.ref a, .ref b] ∧ SqL K H1 a xs ∧ SqL K H1 b ys ∧ R (ItzH K a b) H1
theorem pi_zipH {X : Cx} {e e2 : Expr} {ta : TA} {p pos tpos : Pos} {elts : List Expr} {kk : Nat} (hg : Gl X "zip") (hm : X.mg "zip" = none) (ha : PA X [e, e2] ta)
    (hs : starEach [e, e2] X.env = (false, eval e X.env) :: starEach [e2] X.env := by rfl) (hpl : (backTo pos (starEach [e2] X.env)).any (·.1) = false := by rfl) :
    L2H.PIH X (.Tuple elts kk tpos) (.Call (.Name "zip" p) [e, e2] [] pos) (iZipH X.K ta) := by
  refine ⟨fun pins s σ H R I h => ?_⟩
  refine Call_ (ld_blt I hg hm PyProof.Rows.boot_zip (PyProof.Rows.callWith_type1 (thn (ha.run pos pins s σ H _ I h) fun us s1 ⟨vs, H1, I1, r1, q1⟩ => ?_) hs hpl))
  obtain ⟨a, b, xs, ys, ex, hqx, hqy, q⟩ := q1
  subst ex
  cases r1 with
  | cons r rr =>
    cases rr with
    | cons r' rr =>
      cases rr
      cases r
      cases r'
      obtain ⟨its, rv, p1, _⟩ := I1.list hqx
      obtain ⟨its2, rv2, p2, _⟩ := I1.list hqy
      have la : a < s1.heap.objs.size := p1.lt
      have lb : b < s1.heap.objs.size := p2.lt
      refine call_zip_2 p1.isList p2.isList fun h' hz hTI hTO h1 h2 hsz hk => wpAny_pyIter_zip hz ?_
      have I2 : Inv X pins σ H1 { s1 with heap := h' } := I1.kept (t' := s1.toks) hk
      refine ⟨s1.heap.objs.size + 4, [s1.heap.objs.size + 4, s1.heap.objs.size + 2, s1.heap.objs.size + 3, s1.heap.objs.size, s1.heap.objs.size + 1], _, _, H1, rfl, I2, turn_zipH (PySem.W.ktu_apart s1.heap.objs.size a b la lb), ⟨hz, hTI, ⟨_, _, hTO⟩, h1, h2⟩, fun c hcm => ?_, q⟩
      have e' : c = s1.heap.objs.size + 4 ∨ c = s1.heap.objs.size + 2 ∨ c = s1.heap.objs.size + 3 ∨ c = s1.heap.objs.size ∨ c = s1.heap.objs.size + 1 := by simpa using hcm
      have hle : s1.heap.objs.size ≤ c := by
        rcases e' with z | z | z | z | z
        · rw [z]; exact Nat.le_add_right _ _
        · rw [z]; exact Nat.le_add_right _ _
        · rw [z]; exact Nat.le_add_right _ _
        · rw [z]; exact Nat.le_refl _
        · rw [z]; exact Nat.le_add_right _ _
      exact I1.fpOk hle (I1.hok.fresh hle)
/-! ### comprehensions -/
abbrev zH (X : Cx) (s : Shared) (H : Hp) (scope : Scope) (cenv : PySem.Env) (fp : List Addr) : Cx := (X.blk s H scope cenv fp).tr X.pn fun _ _ => False
theorem Inv_hot {X : Cx} {s : Shared} {H H' : Hp} {scope : Scope} {cenv : PySem.Env} {fp : List Addr} {σ : L2.St} {s' : Shared} (I : L2.Inv (X.blk s H scope cenv fp) [] σ H' s')
    (hp : ∀ p ∈ X.pn, s'.heap.get? p.1 = some p.2 ∧ H' p.1 = none ∧ p.1 ≠ cenv.locals ∧ p.1 ∉ frs X.stack ∧ ∀ v, p.2.data ≠ .cell v) : L2.Inv (zH X s H scope cenv fp) [] σ H' s' :=
  ⟨I.ok.toTry _ _, I.os, I.bare, I.base, I.loc, I.cell, I.free, I.freeC, fun p m => hp p (by rwa [List.append_nil] at m), I.hok, I.len⟩
section
variable {X : Cx}
/-- the loop of a block -/
theorem blk_loopH {Z : Cx} {R : Result → Shared → Prop} {elt tg iter : Expr} {ifs : List Expr} {scope : Scope} {pos : Pos} {it P : Addr} {fp : List Addr} {tn : Nat → Heap → Prop} {J : It} {g : TG} {tt : TT} {te : TE} {ow : List Nat} {σ : L2.St} {Qd : Hp → Prop} {W : Nat → Nat → Hp → Prop} (hc : L2H.HotC Z) (hxe : Z.xe = fun _ _ => False) (T : L2H.TurnH Z.prog Z.w Z.K tg J fp it tn)
    (fpok : ∀ {σ' : L2.St} {H' : Hp} {s' : Shared}, L2.Inv Z [] σ' H' s' → (∀ b ∈ fp, H' b = none) → ∀ b ∈ fp, FpOk Z [] H' b)
    (pg : PG Z tg g) (pt : PTs Z ifs tt) (pe : PE Z elt te)
    (turn : ∀ i m H, W i m H → (J.stop i H ∧ Qd H) ∨ (J.go i H ∧ ∃ Nx : Hp → Prop, (∀ H', Nx H' → ∃ m', m' < m ∧ W (i + 1) m' H') ∧ ∀ x H', J.yld i H x H' → g x (L2.wipe σ ow) H' fun σ2 H2 => L2.wipe σ2 ow = L2.wipe σ ow ∧ tt σ2 H2 fun b H3 =>
      if b = true then te σ2 H3 fun y H4 => ∃ acc, H4 P = some (.lst acc) ∧ acc.length < sizeLine ∧ Nx (upd H4 P (.lst (acc ++ [y]))) else Nx H3))
    (fin : ∀ (H' : Hp) (s' : Shared), L2.Inv Z [] (L2.wipe σ ow) H' s' → (∀ b ∈ fp, H' b = none) → Qd H' → R (.ok .next) s') :
    ∀ n i H s, L2.Inv Z [] (L2.wipe σ ow) H s → tn i s.heap → (∀ b ∈ fp, H b = none) → W i n H → codeAny (model Z.prog Z.w) Z.A (.compLoop (.ListComp elt [⟨tg, iter, ifs, 0⟩] scope pos) 0 (.ref it) (.ref P) Z.env) R s := by
  intro n i H s I st nf w0
  refine compLoop_any (fun n s' => ∃ i H', L2.Inv Z [] (L2.wipe σ ow) H' s' ∧ tn i s'.heap ∧ (∀ b ∈ fp, H' b = none) ∧ W i n H') ?_ n ⟨i, H, I, st, nf, w0⟩
  rintro n s1 ⟨i, H1, I1, st1, nf1, w1⟩
  rcases turn i n H1 w1 with ⟨stop, qq⟩ | ⟨go, Nx, hNx, step⟩
  · refine thnF (T.done Z rfl rfl rfl hc i [] s1 _ H1 (fun _ _ => False) I1 (fpok I1 nf1) st1 stop) fun r s2 ⟨hr, I2⟩ => ?_
    subst hr
    exact fin H1 s2 I2 nf1 qq
  · refine thnF (T.item Z rfl rfl rfl hc i [] s1 _ H1 (fun _ _ => False) I1 (fpok I1 nf1) st1 go) fun r s2 ⟨u, hr, h2⟩ => ?_
    subst hr
    refine thnF h2 fun _ s3 ⟨x, H3, I3, r3, y3, st3, nf3⟩ => ?_
    have no : ∀ {α : Type} {m : Sem α} {q : α → Shared → Prop} {s : Shared}, wpAny (model Z.prog Z.w) Z.A m q Z.xe s → wpAny (model Z.prog Z.w) Z.A m q (fun _ _ => False) s := fun h => by rwa [hxe] at h
    refine thnF (no (pg.run _ s3 _ H3 x u _ (I3.pinned (fpok I3 nf3) (T.obj _ _ st3)) r3 (step x H3 y3))) fun _ s4 ⟨σ4, H4, I4, hw4, q4⟩ => ?_
    refine thnF (no (pt.run _ s4 σ4 H4 _ I4 q4)) fun b s5 ⟨H5, I5, q5⟩ => ?_
    have again : ∀ {s' : Shared} {H' : Hp}, L2.Inv Z ([] ++ pinsAt fp s3.heap) σ4 H' s' → Nx H' → ∃ m, m < n ∧ ∃ i H', L2.Inv Z [] (L2.wipe σ ow) H' s' ∧ tn i s'.heap ∧ (∀ b ∈ fp, H' b = none) ∧ W i m H' := fun {s' H'} I' nx => by
      obtain ⟨m', hm, w'⟩ := hNx H' nx
      have at' : ∀ b ∈ fp, ∀ o, s3.heap.get? b = some o → s'.heap.get? b = some o ∧ H' b = none := fun b hb o e =>
        ⟨(I'.pin (b, o) (List.mem_append_right _ (List.mem_append_right _ (mem_pinsAt hb e)))).1, (I'.pin (b, o) (List.mem_append_right _ (List.mem_append_right _ (mem_pinsAt hb e)))).2.1⟩
      refine ⟨m', hm, i + 1, H', (I'.unpinned (pins := [])).weak (by rw [← hw4, L2.wipe_length]) (fun j v e => by rw [← hw4] at e; exact (wipe_some e).1), T.keep _ _ _ st3 fun b hb o e => (at' b hb o e).1, fun b hb => ?_, w'⟩
      obtain ⟨o, e, _⟩ := T.obj _ _ st3 b hb
      exact (at' b hb o e).2
    cases b with
    | false =>
      rw [if_neg Bool.false_ne_true]
      rw [if_neg Bool.false_ne_true] at q5
      exact again I5 q5
    | true =>
      rw [if_pos rfl]
      rw [if_pos rfl] at q5
      exact thnF (no (pe.run _ s5 σ4 H5 _ I5 q5)) fun z s6 ⟨yv, H6, I6, r6, acc, hD6, hz6, nx⟩ => app_ok (X := Z) I6 hD6 hz6 r6 fun s7 I7 => again I7 nx
theorem lc_ownH {pins : List (Addr × Obj)} {s : Shared} {σ : L2.St} {H : Hp} {Q : VK} {elt tg iter : Expr} {ifs : List Expr} {scope : Scope} {own : List (Str × Nat)} {pos pos' : Pos} {wi : TI} {g : TG} {tt : TT} {te : TE} {use : Option (Value → Sem Unit)} {Qf : Value → Shared → Prop}
    (hc : L2H.HotC X) (hN : X.N.Nodup) (I : L2.Inv X pins σ H s) (hi : L2H.PIH X tg iter wi) (bo : BlkOk X.N X.env.scope scope own)
    (hb : ∀ (s : Shared) (H : Hp) (C : Addr) (cl : List (Str × Addr)) (fp : List Addr), BlkC X s cl → PG (zH X s H scope (compEnvC scope cl C X.env) fp) tg g ∧ PTs (zH X s H scope (compEnvC scope cl C X.env) fp) ifs tt ∧ PE (zH X s H scope (compEnvC scope cl C X.env) fp) elt te)
    (hs : ∀ x, foldedSetIterable iter X.env x = pure x) (h : tLc wi g tt te (own.map (·.2)) σ H Q)
    (hRR : ∀ D C s' m H', L2.Inv X pins σ H' s' → Q (.ref D) H' → s'.heap.Ns C m → FpOk X pins H' C → compPost (model X.prog X.w) X.A X.xe use Qf (.ref D) C (.ok .next) s') :
    wpAny (model X.prog X.w) X.A (comprehension (.ListComp elt [⟨tg, iter, ifs, 0⟩] scope pos) scope X.env pos' (newList []) false (eval iter X.env) use) Qf X.xe s := by
  have hfree : ∀ y ∈ scope.names, y.2 = .free → ∃ c, X.env.cells.lookup y.1 = some c := fun y hy e => by
    rcases bo.free y hy e with k | k
    · exact I.ok.has _ (.inl k)
    · exact I.ok.has _ (.inr k)
  refine wpAny_comprehension_free (use := use) rfl hs (closure_ok hfree) bo.kind (fun y hy e => by rw [bo.uniq y hy, e])
    (thn (hi.run pins s σ H _ I h) fun xv s1 hx => thn hx fun itv s2 ⟨it, fp, tn, J, H2, e, I2, T, st2, f2, q⟩ => ?_)
  subst e
  refine wpAny_newObj_type (newEnv_comp ?_) (by show 0 ≤ sizeLine; decide)
  have hPn : H2 s2.heap.objs.size = none := I2.hok.fresh (Nat.le_refl _)
  obtain ⟨W, ⟨m0, w0⟩, turn⟩ := q _ hPn
  have I3 : L2.Inv X pins σ (upd H2 s2.heap.objs.size (.lst [])) { s2 with heap := s2.heap.push { cls := .type "list", data := .seq ([] : List Value).toArray } } :=
    I2.laid (t' := s2.toks) (fun b o e => Heap.get?_push_of_some _ e) (Nat.le_refl _) ⟨Nat.zero_le _, [], 0, .nil, Heap.get?_push_size _ rfl⟩
  have hfp : ∀ b ∈ fp, FpOk X pins (upd H2 s2.heap.objs.size (.lst [])) b ∧ b < (s2.heap.push { cls := .type "list", data := .seq ([] : List Value).toArray }).objs.size := fun b hb => by
    obtain ⟨o, e, _⟩ := T.obj _ _ st2 b hb
    have hlt := Heap.lt_size e
    refine ⟨⟨?_, (f2 b hb).2⟩, by rw [Heap.size_push]; exact Nat.lt_succ_of_lt hlt⟩
    rw [upd_ne (Nat.ne_of_lt hlt)]
    exact (f2 b hb).1
  generalize hs3 : ({ s2 with heap := s2.heap.push { cls := .type "list", data := .seq ([] : List Value).toArray } } : Shared) = s3 at I3
  have e3 : s3.heap = s2.heap.push { cls := .type "list", data := .seq ([] : List Value).toArray } := by rw [← hs3]
  rw [← e3] at hfp
  have st3 : tn 0 s3.heap := T.keep _ _ _ st2 fun b _ o e => by rw [e3]; exact Heap.get?_push_of_some _ e
  have I4b := block_start I3 bo hN hfp
  have I4 := Inv_hot I4b (fun p hp => by
    obtain ⟨g1, g2, g3, g4, g5⟩ := I3.pin p (List.mem_append_left _ hp)
    refine ⟨pushCells_keeps _ _ _ _ (Heap.get?_push_of_some _ g1), g2, Nat.ne_of_lt (Heap.lt_size g1), fun m => ?_, g5⟩
    rcases List.mem_cons.mp (I3.stkSub p.1 m) with z | z
    · exact g3 z
    · exact g4 z)
  have bc : BlkC X s3 (cellsFrom (s3.heap.objs.size + 1) scope.names (cloFrom X.env.cells scope.names [])) := {
    cel := fun x c e => by
      have e' : (cellsFrom (s3.heap.push { cls := .type "dict", data := .dict #[] }).objs.size scope.names (cloFrom X.env.cells scope.names [])).lookup x = some c := by rw [Heap.size_push]; exact e
      rcases cells_mem (PySem.mem_of_lookup e') with hm | ⟨_, h2, _⟩
      · rcases cloFrom_mem hm with hm | ⟨h1, h2⟩
        · cases hm
        · obtain ⟨c1, hc1⟩ := hfree _ h1 rfl
          have hc1 : X.env.cells.lookup x = some c1 := hc1
          left
          rw [h2, hc1]
          rfl
      · right
        rw [Heap.size_push] at h2
        exact Nat.le_of_succ_le h2
    sz := Nat.le_trans I3.ok.bsz I3.sz
    fr := fun b hb => by
      rcases List.mem_cons.mp (I3.stkSub b hb) with z | z
      · rw [z]; exact I3.lt
      · exact Nat.lt_of_not_le fun hle => I3.nofs hle z }
  obtain ⟨pg, pt, pe⟩ := hb s3 (upd H2 s2.heap.objs.size (.lst [])) s3.heap.objs.size _ fp bc
  show codeAny _ _ (.compStart (.ListComp elt [⟨tg, iter, ifs, 0⟩] scope pos) 0 (.ref it) (.ref s2.heap.objs.size) (compEnvC scope (cellsFrom (s3.heap.objs.size + 1) scope.names (cloFrom X.env.cells scope.names [])) s3.heap.objs.size X.env)) (compPost (model X.prog X.w) X.A X.xe use Qf (.ref s2.heap.objs.size) s3.heap.objs.size) { s3 with heap := pushCells (s3.heap.push { cls := .type "dict", data := .dict #[] }) scope.names }
  have st4 : tn 0 (pushCells (s3.heap.push { cls := .type "dict", data := .dict #[] }) scope.names) := T.keep _ _ _ st3 fun b _ o e => pushCells_keeps _ _ _ _ (Heap.get?_push_of_some _ e)
  have loop : codeAny (model X.prog X.w) X.A (.compLoop (.ListComp elt [⟨tg, iter, ifs, 0⟩] scope pos) 0 (.ref it) (.ref s2.heap.objs.size) (compEnvC scope (cellsFrom (s3.heap.objs.size + 1) scope.names (cloFrom X.env.cells scope.names [])) s3.heap.objs.size X.env)) (compPost (model X.prog X.w) X.A X.xe use Qf (.ref s2.heap.objs.size) s3.heap.objs.size) { s3 with heap := pushCells (s3.heap.push { cls := .type "dict", data := .dict #[] }) scope.names } :=
    blk_loopH (Z := zH X s3 (upd H2 s2.heap.objs.size (.lst [])) scope (compEnvC scope (cellsFrom (s3.heap.objs.size + 1) scope.names (cloFrom X.env.cells scope.names [])) s3.heap.objs.size X.env) fp) (Qd := fun H => Q (.ref s2.heap.objs.size) H) (ow := own.map (·.2)) (σ := σ) (W := W) (P := s2.heap.objs.size) hc rfl T
      (fun {σ' H' s'} I' hn b hb => ⟨hn b hb, (I'.ok.exf b hb).1, I'.ok.exfs b hb, .inl hb, fun x c e => (I'.ok.exf b hb).2 x c e, fun p hp => (hfp b hb).1.2.2.2.2.2 p (List.mem_append_left _ (by rw [List.append_nil] at hp; exact hp))⟩) pg pt pe turn
      (fun H5 s6 I6 nf qq => by
        have I7 : L2.Inv X pins σ H5 s6 := I3.call' (ch := fp) I6.os I6.base I6.hok I6.bare fun b hb => ⟨(hfp b hb).1.2.2.2.1, (hfp b hb).1.2.1, (hfp b hb).1.2.2.2.2.1, (hfp b hb).1.2.2.2.2.2⟩
        obtain ⟨m, hn, _⟩ := I6.loc
        exact hRR _ s3.heap.objs.size s6 m H5 I7 qq hn (I3.fpOk (Nat.le_refl _) I6.free)) m0 0 _ _ I4 st4 (fun b hb => (hfp b hb).1.1) w0
  exact codeAny_compStart_list loop (T.self X.A 0 _ _ _ st4 loop)
/-- as a value -/
theorem pe_lcH {elt tg iter : Expr} {ifs : List Expr} {scope : Scope} {own : List (Str × Nat)} {pos : Pos} {wi : TI} {g : TG} {tt : TT} {te : TE} (hc : L2H.HotC X) (hN : X.N.Nodup) (hi : L2H.PIH X tg iter wi) (bo : BlkOk X.N X.env.scope scope own)
    (hb : ∀ (s : Shared) (H : Hp) (C : Addr) (cl : List (Str × Addr)) (fp : List Addr), BlkC X s cl → PG (zH X s H scope (compEnvC scope cl C X.env) fp) tg g ∧ PTs (zH X s H scope (compEnvC scope cl C X.env) fp) ifs tt ∧ PE (zH X s H scope (compEnvC scope cl C X.env) fp) elt te)
    (hs : ∀ x, foldedSetIterable iter X.env x = pure x) : PE X (.ListComp elt [⟨tg, iter, ifs, 0⟩] scope pos) (tLc wi g tt te (own.map (·.2))) := by
  refine ⟨fun pins s σ H Q I h => ?_⟩
  rw [eval_ListComp]
  refine lc_ownH hc hN I hi bo hb hs h fun D C s' m H' I' q hn ⟨f0, f1, f2, f3, f4, f5⟩ => ⟨m, hn, fun h'' sb => ?_⟩
  exact ⟨.ref D, H', I'.turned (t' := s'.toks) (fun b o hb e => (sb.2 b hb).trans e) f0 f1 f3 f4 f5, rfl, q⟩
end
end SF.Hot

set_option maxHeartbeats 200000
set_option Elab.async false
set_option linter.all false
set_option maxRecDepth 100000
set_option maxHeartbeats 2000000
/-! What the laws do with a caught error. -/
namespace SF
open PySem PySem.Spec PyProof.Rows L2 RZ LamX C8

/-! ### the text of _law_names -/
/-- isinstance(e, x) -/
def isiN : Expr → Option Str
  | .Call (.Name f _) [.Name e _, .Name x _] [] _ => if f = "isinstance" ∧ e = "e" then some x else none
  | _ => none
def isiL : List Expr → Option (List Str)
  | [] => some []
  | e :: es => match isiN e, isiL es with
    | some x, some xs => some (x :: xs)
    | _, _ => none
def nmN : List Str := ["e", "some", "labels", "label", "good"]
def namesB (body : List Stmt) (lab : Str) (xs : List Str) (sc : Scope) : Bool := match body with
  | [.Assign [.Name y1 _] (.List es _) _, .Assign [.Name y2 _] (.Constant (.str l) _ _) _,
     .Return (some (.Call (.Attribute (.Constant (.str t1) _ _) m1 ap) [.ListComp (.Name y3 _) [⟨.Tuple [.Name y4 _, .Name y5 _] _ _, .Call (.Name f1 _) [.Call (.Attribute (.BinOp (.Name y6 _) .Add (.Constant (.str t2) _ _) _) m2 ap2) [.Constant (.str t3) _ _] [] cp2, .Name y7 _] [] _, [.Name y8 _], 0⟩] scope _] [] cp)) _] =>
    decide (y1 = "some" ∧ y2 = "labels" ∧ l = lab ∧ t1 = " " ∧ m1 = "join" ∧ y3 = "label" ∧ y4 = "label" ∧ y5 = "good" ∧ f1 = "zip") && decide (y6 = "labels" ∧ t2 = " value" ∧ m2 = "split" ∧ t3 = " " ∧ y7 = "some" ∧ y8 = "good") &&
      decide (isiL es = some xs) && (ap.endLine == cp.line) && (ap2.endLine == cp2.line) && blkC nmN sc scope [("label", 3), ("good", 4)] &&
      visB sc "e" && visB sc "some" && visB sc "labels" && loclB sc "some" && loclB sc "labels" && visB (relS scope sc) "label" && visB (relS scope sc) "good" && loclB (relS scope sc) "label" && loclB (relS scope sc) "good" && isGl sc "zip" && isGl sc "isinstance" && xs.all fun x => isGl sc x
  | _ => false
/-! ### isinstance there -/
section
variable {X : Cx} {a D : Addr} {oe : Obj}
theorem call_isEH (Ce : ExcC X.K D) (hz : Zc (.ref D) none oe) (hf : ∃ vs, oe.data = .fields vs) (hp : (a, oe) ∈ X.pn) : CallR X (.builtin "isinstance") (rIsE X.K D a) := by
  intro pins s σ H xs us Q I r h
  obtain ⟨c, cv, b, rfl, hcv, e, q⟩ := h
  cases r with
  | cons rx rr =>
    cases rr with
    | cons rt rr =>
      cases rr
      cases rx
      have ec := hcv _ rt
      subst ec
      obtain ⟨hget, _⟩ := I.pin (a, oe) (List.mem_append_left _ hp)
      obtain ⟨vs, hv⟩ := hf
      have J : PySem.W.InstAt s.heap a oe D none := by
        obtain ⟨oc, od, oda, osl⟩ := oe
        obtain ⟨h1, h2⟩ := hz
        dsimp only at h1 h2 hv
        subst h1 h2 hv
        exact ⟨hget, rfl, rfl, trivial⟩
      exact PySem.W.kia_one (PySem.W.handS_kitx_exc Ce.hg Ce.hk Ce.hs Ce.hd Ce.ha Ce.hn Ce.ht Ce.hm) I.kIn J e (fun z => nomatch z) fun tk => ⟨.bl b, H, I.kept (t' := tk) fun _ _ z => z, rfl, q⟩
/-- what a class's name stands for -/
structure ClsN (X : Cx) (x : Str) (cv : Value) : Prop where
  gl : Gl X x
  hd : (x == ("__debug__" : Str)) = false
  st : (X.mg x = some cv ∧ ∃ A, cv = .ref A) ∨ (X.mg x = none ∧ x = "ValueError" ∧ cv = .type "ValueError")
theorem pe_clsN {x : Str} {cv : Value} {p : Pos} (h : ClsN X x cv) : ∃ c : V, PE X (.Name x p) (tC c) ∧ ∀ u, RelV c u → u = cv := by
  rcases h.st with ⟨h1, A, rfl⟩ | ⟨h1, rfl, rfl⟩
  · exact ⟨.ref A, pe_glob h.gl h1 rfl h.hd, fun u r => r⟩
  · exact ⟨.ty "ValueError", pe_bltn h.gl h1 (by kernel_rfl) rfl (by decide) h.hd, fun u r => r⟩
def fitL (X : Cx) (D : Addr) : List Str → List Bool → Prop
  | [], [] => True
  | x :: xs, b :: bs => (∃ cv, ClsN X x cv ∧ PySem.W.kitOne X.K (.ref D) cv = some b) ∧ fitL X D xs bs
  | _, _ => False
def tIs (a : Addr) (bs : List Bool) : TA := fun σ H Q => σ[0]? = some (some (.ref a)) ∧ Q (bs.map V.bl) H
theorem pa_is (Ce : ExcC X.K D) (hz : Zc (.ref D) none oe) (hf : ∃ vs, oe.data = .fields vs) (hp : (a, oe) ∈ X.pn) (hN : X.N = nmN) (hv : Vis X.env.scope "e") (hg : Gl X "isinstance") (hm : X.mg "isinstance" = none) :
    ∀ (es : List Expr) (xs : List Str) (bs : List Bool), isiL es = some xs → fitL X D xs bs → PA X es (tIs a bs)
  | [], xs, bs, h, hb => by
    simp only [isiL, Option.some.injEq] at h
    subst h
    cases bs with
    | nil => exact ⟨fun pos pins s σ H Q I q => pa_nil.run pos pins s σ H Q I q.2⟩
    | cons _ _ => exact hb.elim
  | e :: es, xs, bs, h, hb => by
    simp only [isiL] at h
    split at h
    · rename_i x xs' h1 h2
      simp only [Option.some.injEq] at h
      subst h
      cases bs with
      | nil => exact hb.elim
      | cons b bs =>
        obtain ⟨⟨cv, hc, hk⟩, hb⟩ := hb
        have ih := pa_is Ce hz hf hp hN hv hg hm es xs' bs h2 hb
        unfold isiN at h1
        split at h1
        · rename_i f p1 e p2 x' p3 pos
          split at h1
          · rename_i hfe
            obtain ⟨rfl, rfl⟩ := hfe
            cases h1
            obtain ⟨c, hpc, hcv⟩ := pe_clsN (p := p3) hc
            have h0 : PE X (.Call (.Name "isinstance" p1) [.Name "e" p2, .Name x p3] [] pos) (fun σ H Q => σ[0]? = some (some (.ref a)) ∧ Q (.bl b) H) :=
              pe_imp (pe_callB (call_isEH Ce hz hf hp) hg hm PyProof.Rows.boot_isinstance (pa_cons (pv 0 (by rw [hN]; rfl) hv) (pa_cons hpc pa_nil))) fun σ H Q q => ⟨_, q.1, c, cv, b, rfl, hcv, hk, q.2⟩
            exact pa_imp (pa_cons h0 ih (star_cons rfl es X.env)) fun σ H Q q => ⟨q.1, q.1, q.2⟩
          · cases h1
        · cases h1
    · cases h
end
/-! ### which labels -/
def pickL : List Str → List Bool → List Str
  | l :: ls, b :: bs => if b then l :: pickL ls bs else pickL ls bs
  | _, _ => []
theorem pickL_len : ∀ (ls : List Str) (bs : List Bool), (pickL ls bs).length ≤ ls.length
  | [], _ => by simp [pickL]
  | _ :: _, [] => by simp [pickL]
  | l :: ls, b :: bs => by
    have := pickL_len ls bs
    simp only [pickL]
    split
    · simp only [List.length_cons]; omega
    · simp only [List.length_cons]; omega
theorem pickL_cut : ∀ (ls : List Str) (bs : List Bool), pickL ls (bs.take ls.length) = pickL ls bs
  | [], _ => by simp [pickL]
  | _ :: _, [] => by simp [pickL]
  | l :: ls, b :: bs => by
    have := pickL_cut ls bs
    simp only [List.length_cons, List.take_succ_cons, pickL, this]
theorem pickL_take : ∀ (ls : List Str) (bs : List Bool) (i : Nat) (l : Str) (b : Bool), ls[i]? = some l → bs[i]? = some b → pickL (ls.take (i + 1)) (bs.take (i + 1)) = pickL (ls.take i) (bs.take i) ++ (if b then [l] else [])
  | [], _, i, l, b, h, _ => by simp at h
  | _ :: _, [], i, l, b, _, h => by simp at h
  | l0 :: ls, b0 :: bs, 0, l, b, h1, h2 => by
    simp only [List.getElem?_cons_zero, Option.some.injEq] at h1 h2
    subst h1 h2
    cases b0 <;> simp [pickL]
  | l0 :: ls, b0 :: bs, i + 1, l, b, h1, h2 => by
    have := pickL_take ls bs i l b (by simpa using h1) (by simpa using h2)
    rw [List.take_succ_cons, List.take_succ_cons, List.take_succ_cons, List.take_succ_cons]
    simp only [pickL, this]
    cases b0 <;> simp
def nameOf (lab : Str) (bs : List Bool) : Str := Txt.join " " (pickL (Txt.split (lab ++ " value") " ") bs)
/-! ### the body -/
def rSplit : V → List V → Hp → VK → Prop := fun x xs H Q => ∃ a b, x = .str a ∧ xs = [.str b] ∧ (b.length == 0) = false ∧ a.length + 2 ≤ sizeLine ∧ rNewStrs (Txt.split a b) H Q
def rAddS : R2 := fun x y H Q => ∃ i j, x = .str i ∧ y = .str j ∧ i.length + j.length ≤ sizeLine ∧ Q (.str (i ++ j)) H
def rJoin (K : PySem.W.Frag) : V → List V → Hp → VK → Prop := fun x xs H Q => ∃ a p, ∃ ys : List Str, x = .str a ∧ xs = [.ref p] ∧ (SqL K H p (ys.map V.str) ∨ SqT K H p (ys.map V.str)) ∧
    (ys.map (·.length)).sum + ys.length * a.length ≤ 16777216 ∧ Q (.str (Txt.join a ys)) H
def tZ (K : PySem.W.Frag) : TA := tCons (tBM K "str" rSplit (tOp rAddS (tVar 2) (tC (.str " value"))) (tCons (tC (.str " ")) tNil)) (tCons (tVar 1) tNil)
def tCm (K : PySem.W.Frag) : TE := tLc (Hot.iZipH K (tZ K)) (gTup K 2 (gCons (gName 3) (gCons (gName 4) gNil))) (fun σ H Q => tVar 4 σ H fun x H' => ∃ k, TruV K x H' k ∧ Q k H') (tVar 3) [3, 4]
def tNm (K : PySem.W.Frag) (a : Addr) (bs : List Bool) (lab : Str) : TS :=
  tSeq (tAsg (tLst (tIs a bs)) (gName 1)) (tSeq (tAsg (tC (.str lab)) (gName 2)) (tRet (tBM K "str" (rJoin K) (tC (.str " ")) (tCons (tCm K) tNil))))
section
variable {X : Cx} {a D : Addr} {oe : Obj}
theorem names_body {body : List Stmt} {lab : Str} {xs : List Str} {sc : Scope} {bs : List Bool} (hot : L2H.HotC X) (Ce : ExcC X.K D) (hz : Zc (.ref D) none oe) (hf : ∃ vs, oe.data = .fields vs) (hp : (a, oe) ∈ X.pn) (hN : X.N = nmN) (hS : X.env.scope = sc)
    (hm : X.mg "isinstance" = none) (hmz : X.mg "zip" = none) (hb : namesB body lab xs sc = true) (hfit : (∀ x ∈ xs, Gl X x) → fitL X D xs bs) : PSs X body (tNm X.K a bs lab) := by
  unfold namesB at hb
  split at hb
  · rename_i y1 q1 es q2 q3 y2 q4 l q5 q6 q7 t1 q8 q9 m1 ap y3 q10 y4 q11 y5 q12 tk q13 f1 q14 y6 q15 t2 q16 q17 q18 m2 ap2 t3 q19 q20 cp2 y7 q21 q22 y8 q23 scope q24 cp q25
    simp only [Bool.and_eq_true, decide_eq_true_eq] at hb
    obtain ⟨⟨⟨⟨⟨⟨⟨⟨⟨⟨⟨⟨⟨⟨⟨⟨⟨hA, hB⟩, hes⟩, hap⟩, hap2⟩, hbl⟩, v1⟩, v2⟩, v3⟩, l1⟩, l2⟩, v4⟩, v5⟩, l3⟩, l4⟩, g1⟩, g2⟩, g3⟩ := hb
    obtain ⟨rfl, rfl, rfl, rfl, rfl, rfl, rfl, rfl, rfl⟩ := hA
    obtain ⟨rfl, rfl, rfl, rfl, rfl, rfl⟩ := hB
    subst hS
    have gl : ∀ {x : Str}, isGl X.env.scope x = true → Gl X x := fun {x} h => (show X.env.scope.names.lookup x = some .globalImplicit from of_decide_eq_true (show decide (X.env.scope.names.lookup x = some .globalImplicit) = true from h))
    have hNd : X.N.Nodup := by rw [hN]; decide
    have hfit := hfit fun x hx => gl (List.all_eq_true.mp g3 x hx)
    have e1 := pe_lst (pos := q2) (pa_is Ce hz hf hp hN (visB_of v1) (gl g2) hm es xs bs hes hfit)
    have sp : PE X (.Call (.Attribute (.BinOp (.Name "labels" q15) .Add (.Constant (.str " value") q16 q17) q18) "split" ap2) [.Constant (.str " ") q19 q20] [] cp2) (tBM X.K "str" rSplit (tOp rAddS (tVar 2) (tC (.str " value"))) (tCons (tC (.str " ")) tNil)) :=
      pe_bm PySem.F.plainAttrs_str PySem.F.slot_str_split PySem.F.type_str_split mt_split (pe_op op_add_str (pv 2 (by rw [hN]; rfl) (visB_of v3)) pe_str) (pa_cons pe_str pa_nil) rfl rfl hap2
    have lc : PE X (.ListComp (.Name "label" q10) [⟨.Tuple [.Name "label" q11, .Name "good" q12] tk q13, .Call (.Name "zip" q14) [.Call (.Attribute (.BinOp (.Name "labels" q15) .Add (.Constant (.str " value") q16 q17) q18) "split" ap2) [.Constant (.str " ") q19 q20] [] cp2, .Name "some" q21] [] q22, [.Name "good" q23], 0⟩] scope q24) (tCm X.K) :=
      Hot.pe_lcH hot hNd (Hot.pi_zipH (gl g1) hmz (pa_cons sp (pa_cons (pv 1 (by rw [hN]; rfl) (visB_of v2)) pa_nil))) (own := [("label", 3), ("good", 4)]) (by rw [hN]; exact blkOk_by hbl)
        (fun s H C cl fp bc => ⟨Hot.pg_tup hot (pgs_cons (pg_name hNd (by show X.N[3]? = _; rw [hN]; rfl) (.inl (of_decide_eq_true l3)) (.inr (of_decide_eq_true l3))) (pgs_cons (pg_name hNd (by show X.N[4]? = _; rw [hN]; rfl) (.inl (of_decide_eq_true l4)) (.inr (of_decide_eq_true l4))) pgs_nil)),
          pts_one (pt_truth (pv 4 (by show X.N[4]? = _; rw [hN]; rfl) (visB_of v5)) fun _ => rfl), pv 3 (by show X.N[3]? = _; rw [hN]; rfl) (visB_of v4)⟩) (fun _ => rfl)
    exact pss_cons (ps_set hNd (by rw [hN]; rfl) (.inl (of_decide_eq_true l1)) e1 rfl (.inr (of_decide_eq_true l1)))
      (pss_cons (ps_set hNd (by rw [hN]; rfl) (.inl (of_decide_eq_true l2)) pe_str rfl (.inr (of_decide_eq_true l2)))
        (pss_one (ps_ret (pe_bm PySem.F.plainAttrs_str PySem.F.slot_str_join PySem.F.type_str_join mt_join pe_str (pa_cons lc pa_nil) rfl rfl hap))))
  · cases hb
end
theorem names_read {K : PySem.W.Frag} {a : Addr} {bs : List Bool} {lab : Str} {H : Hp} {Q : VK} {nx : L2.St → Hp → Prop} (hl : lab.length + (" value" : Str).length ≤ sizeLine) (hl2 : (lab ++ (" value" : Str)).length + 2 ≤ sizeLine) (hlen : (Txt.split (lab ++ " value") " ").length ≤ bs.length) (hz : (Txt.split (lab ++ " value") " ").length < sizeLine) (hbz : bs.length ≤ sizeLine)
    (hj : ((pickL (Txt.split (lab ++ " value") " ") bs).map (·.length)).sum + (pickL (Txt.split (lab ++ " value") " ") bs).length * (" " : Str).length ≤ 16777216)
    (h : ∀ H', (∀ b o, H b = some o → H' b = some o) → Q (.str (nameOf lab bs)) H') : tNm K a bs lab { nx := nx, rt := Q } (L2.start nmN [.ref a]) H := by
  refine ⟨rfl, by rw [List.length_map]; exact hbz, fun p1 hp1 => ?_⟩
  show (tBM K "str" (rJoin K) (tC (.str " ")) (tCons (tCm K) tNil)) [some (.ref a), some (.ref p1), some (.str lab), none, none] (upd H p1 (.lst (bs.map V.bl))) Q
  refine ⟨rfl, ?_⟩
  generalize hls : Txt.split (lab ++ " value") " " = ls at *
  refine ⟨_, rfl, lab, " value", rfl, rfl, hl, rfl, lab ++ " value", " ", rfl, rfl, rfl, hl2, fun p2 hp2 => ?_⟩
  rw [hls]
  have n12 : p1 ≠ p2 := fun e => by
    subst e
    rw [upd_same] at hp2
    cases hp2
  have e2 : upd (upd H p1 (.lst (bs.map V.bl))) p2 (.lst (ls.map V.str)) p2 = some (.lst (ls.map V.str)) := upd_same
  have e1 : upd (upd H p1 (.lst (bs.map V.bl))) p2 (.lst (ls.map V.str)) p1 = some (.lst (bs.map V.bl)) := (upd_ne n12).trans upd_same
  have k0 : ∀ b o, H b = some o → upd (upd H p1 (.lst (bs.map V.bl))) p2 (.lst (ls.map V.str)) b = some o := fun b o e => by
    have n1 : b ≠ p1 := fun z => by subst z; rw [hp1] at e; cases e
    have n2 : b ≠ p2 := fun z => by subst z; rw [upd_ne n1, e] at hp2; cases hp2
    rw [upd_ne n2, upd_ne n1]
    exact e
  generalize hH1 : upd (upd H p1 (.lst (bs.map V.bl))) p2 (.lst (ls.map V.str)) = H1 at e1 e2 k0
  refine ⟨.ref p1, rfl, p2, p1, ls.map V.str, bs.map V.bl, rfl, .inl (.inl e2), .inl (.inl e1), fun D hD => ?_⟩
  have d1 : p1 ≠ D := fun z => by subst z; rw [e1] at hD; cases hD
  have d2 : p2 ≠ D := fun z => by subst z; rw [e2] at hD; cases hD
  refine ⟨fun i m H' => m = ls.length - i ∧ i ≤ ls.length ∧ H' p2 = some (.lst (ls.map V.str)) ∧ H' p1 = some (.lst (bs.map V.bl)) ∧ H' D = some (.lst ((pickL (ls.take i) (bs.take i)).map V.str)) ∧ ∀ b o, H b = some o → H' b = some o, ⟨_, rfl, Nat.zero_le _, (upd_ne d2).trans e2, (upd_ne d1).trans e1, ?_, fun b o e => ?_⟩, ?_⟩
  · rw [upd_same]
    simp [pickL]
  · have n : b ≠ D := fun z => by subst z; rw [k0 _ _ e] at hD; cases hD
    rw [upd_ne n]
    exact k0 b o e
  · rintro i m H' ⟨rfl, hi, q2, q1, qD, kk⟩
    by_cases hlt : i < ls.length
    · have hx : ls[i]? = some ls[i] := List.getElem?_eq_getElem hlt
      have hlt2 : i < bs.length := by omega
      have hy : bs[i]? = some bs[i] := List.getElem?_eq_getElem hlt2
      refine .inr ⟨⟨ls.map V.str, bs.map V.bl, .str ls[i], .bl bs[i], .inl (.inl q2), .inl (.inl q1), by rw [List.getElem?_map, hx]; rfl, by rw [List.getElem?_map, hy]; rfl⟩, fun H'' => (i + 1 ≤ ls.length ∧ H'' p2 = some (.lst (ls.map V.str)) ∧ H'' p1 = some (.lst (bs.map V.bl)) ∧ H'' D = some (.lst ((pickL (ls.take (i + 1)) (bs.take (i + 1))).map V.str)) ∧ ∀ b o, H b = some o → H'' b = some o), fun H'' w => ⟨ls.length - (i + 1), by omega, rfl, w⟩, ?_⟩
      rintro v H'' ⟨T, x, y, rfl, hT, rfl, f1, f2⟩
      have g1 := f1 _ (.inl (.inl q2))
      have g2 := f2 _ (.inl (.inl q1))
      rw [List.getElem?_map, hx] at g1
      rw [List.getElem?_map, hy] at g2
      cases g1
      cases g2
      have t1 : p1 ≠ T := fun z => by subst z; rw [q1] at hT; cases hT
      have t2 : p2 ≠ T := fun z => by subst z; rw [q2] at hT; cases hT
      have tD : D ≠ T := fun z => by subst z; rw [qD] at hT; cases hT
      have kT : ∀ b o, H b = some o → upd H' T (.tup [V.str ls[i], V.bl bs[i]]) b = some o := fun b o e => by
        have n : b ≠ T := fun z => by subst z; rw [kk _ _ e] at hT; cases hT
        rw [upd_ne n]
        exact kk b o e
      have pk := pickL_take ls bs i ls[i] bs[i] hx hy
      refine ⟨T, [.str ls[i], .bl bs[i]], rfl, .inl (.inl upd_same), rfl, _, _, rfl, _, _, rfl, rfl, rfl, .bl bs[i], rfl, bs[i], rfl, ?_⟩
      cases hb : bs[i] with
      | true =>
        rw [if_pos rfl]
        rw [hb] at pk kT
        refine ⟨_, rfl, _, (upd_ne tD).trans qD, ?_, hlt, ?_, ?_, ?_, fun b o e => ?_⟩
        · rw [List.length_map]
          have := pickL_len (ls.take i) (bs.take i)
          rw [List.length_take] at this
          omega
        · rw [upd_ne d2, upd_ne t2]; exact q2
        · rw [upd_ne d1, upd_ne t1]; exact q1
        · rw [upd_same, pk, if_pos rfl, List.map_append]
          rfl
        · have n : b ≠ D := fun z => by
            subst z
            have z1 := k0 _ _ e
            rw [hD] at z1
            cases z1
          rw [upd_ne n]
          exact kT b o e
      | false =>
        rw [if_neg Bool.false_ne_true]
        rw [hb] at pk kT
        refine ⟨hlt, (upd_ne t2).trans q2, (upd_ne t1).trans q1, ?_, kT⟩
        rw [upd_ne tD, qD, pk]
        simp
    · have e : i = ls.length := by omega
      subst e
      refine .inl ⟨⟨ls.map V.str, .inl (.inl q2), by rw [List.length_map]; exact Nat.le_refl _⟩, ?_⟩
      have ep : pickL (ls.take ls.length) (bs.take ls.length) = pickL ls bs := by rw [List.take_length]; exact pickL_cut ls bs
      rw [ep] at qD
      have hh := h H' kk
      unfold nameOf at hh
      rw [hls] at hh
      exact ⟨" ", D, pickL ls bs, rfl, rfl, .inl (.inl (.inl qD)), hj, hh⟩
end SF

set_option maxHeartbeats 200000
set_option Elab.async false
set_option linter.all false
set_option maxRecDepth 100000
set_option maxHeartbeats 2000000
/-! `_law_names(e)` within an except suite. -/
namespace SF
open PySem PySem.Spec PyProof.Rows L2 RZ LamX C8 L2H HotX

structure NmOk (lab : Str) (bs : List Bool) : Prop where
  h1 : lab.length + (" value" : Str).length ≤ sizeLine
  h2 : (lab ++ (" value" : Str)).length + 2 ≤ sizeLine
  h3 : (Txt.split (lab ++ " value") " ").length ≤ bs.length
  h4 : (Txt.split (lab ++ " value") " ").length < sizeLine
  h5 : bs.length ≤ sizeLine
  h6 : ((pickL (Txt.split (lab ++ " value") " ") bs).map (·.length)).sum + (pickL (Txt.split (lab ++ " value") " ") bs).length * (" " : Str).length ≤ 16777216
theorem names_code {CX : CXT} {P : Program} {w : World} {K : PySem.W.Frag} {mg : Str → Option Value} {base : Heap} {k : Nat} {f D : Addr} {name qual : Str} {params : Arguments} {body : List Stmt} {scope : Scope} {dV kV doc pm cdv ct oc : Value} {an od : Option Addr}
    {osl : Array (Option Value)} {lab : Str} {xs : List Str} {bs : List Bool} (lk : K.lookup f = some ⟨oc, od, .func (PySem.W.fnOf name qual params body scope dV kV doc pm an cdv ct), osl⟩) (hcd : PySem.W.codeIn K cdv qual = true) (S : FnScope nmN ["e"] scope)
    (hnb : namesB body lab xs scope = true) (Ce : ExcC K D) (hm : mg "isinstance" = none) (hmz : mg "zip" = none) (hfit : ∀ X : Cx, X.K = K → X.mg = mg → (∀ x ∈ xs, Gl X x) → fitL X D xs bs) (nm : NmOk lab bs)
    {A : Around} {outer : List PySem.Env} {s : Shared} {H : Hp} {args : Args} {us : List Value} {Q : VK} {E : XK} {p : Addr × Obj} (hr : RoomH (k + 1) A) (hot : Hot1 A p) (hpin : PinOk outer H s p) (e0 : Env0 P w K mg base A outer s H)
    (hb : BindsTo s (PySem.W.fnOf name qual params body scope dV kV doc pm an cdv ct) args ((["e"] : List Str).zip us)) (r : Vals [V.ref p.1] us) (hz : Zc (.ref D) none p.2) (hq : ∀ H', (∀ b o, H b = some o → H' b = some o) → Q (.str (nameOf lab bs)) H') :
    codeAny (model P w) A (.call (.ref f) args) (CR CX outer P w H s Q E) s := by
  have hl : [V.ref p.1].length = (["e"] : List Str).length := rfl
  have KX : K.In s.heap := e0.mod.kin.keeps fun b o e => (e0.bs b o e).1
  have lim : s.heap.NoLimit := e0.mod.nolimit.keeps fun b o e => (e0.bs b o e).1
  have hkind : ∀ y ∈ (["e"] : List Str).zip us, scope.names.lookup y.1 = some .local ∨ (scope.names.lookup y.1 = some .cell ∧ ((cellsFrom (s.heap.objs.size + 1) scope.names []).lookup y.1).isSome = true) := fun ⟨n, v⟩ hy => by
    rcases S.par n (List.of_mem_zip hy).1 with q | q
    · exact .inl q
    · exact .inr ⟨q, PySem.W.cellsFrom_some _ _ _ (.inl q)⟩
  refine codeAny_call_function hr.depth (KX _ _ lk) rfl S.co S.gen rfl (PySem.W.codeRec_of KX hcd) (hb _ _ _ _ ?_)
  refine wpAny_newFunctionEnv_cells S.kind hkind fun env he s1 x => ?_
  subst he
  refine ⟨lim.keeps x.toInCall.keep, codeAny_func ?_⟩
  have hc : L2H.HotC (cxH CX P w K mg base nmN qual scope f cdv A outer s H E p) := ⟨p, hot, List.mem_singleton.mpr rfl⟩
  have ht : PSs (cxH CX P w K mg base nmN qual scope f cdv A outer s H E p) body (tNm K p.1 bs lab) :=
    names_body (X := cxH CX P w K mg base nmN qual scope f cdv A outer s H E p) (a := p.1) (oe := p.2) hc Ce hz (by obtain ⟨_, vs, e, _⟩ := hot; exact ⟨vs, e⟩) (List.mem_singleton.mpr rfl) rfl rfl hm hmz hnb (hfit _ rfl rfl)
  have I : L2.Inv (cxH CX P w K mg base nmN qual scope f cdv A outer s H E p) [] (L2.start nmN [V.ref p.1]) H s1 := inv_startH S hpin e0 hl r x
  refine wpAny_mono (ht.run [] s1 (L2.start nmN [V.ref p.1]) H { nx := fun _ H' => Q .non H', rt := Q } I (names_read nm.h1 nm.h2 nm.h3 nm.h4 nm.h5 nm.h6 hq)) (fun fl s' hs => ?_) fun e s' hs => hs
  have fin : ∀ {σ' : L2.St} {H' : Hp} {v : V} {u : Value}, L2.Inv (cxH CX P w K mg base nmN qual scope f cdv A outer s H E p) [] σ' H' s' → RelV v u → Q v H' → CE outer P w H s Q u s' :=
    fun {σ' H' v u} J rv q => ⟨v, H', J.os, J.bare, J.base, J.hok, rv, q⟩
  cases fl with
  | ret u =>
    obtain ⟨v, σ', H', J, rv, q⟩ := hs
    exact fin J rv q
  | next =>
    obtain ⟨σ', H', J, q⟩ := hs
    exact fin (v := V.non) (u := Value.none) J rfl q
  | brk =>
    obtain ⟨_, _, _, q⟩ := hs
    exact False.elim q
  | cont =>
    obtain ⟨_, _, _, q⟩ := hs
    exact False.elim q
/-- the call, in a suite that holds p at slot i -/
theorem names_pe {X : Cx} {k i : Nat} {fa D : Addr} {x y : Str} {fd : FuncData} {st : Stmt} {lab : Str} {xs : List Str} {bs : List Bool} {p : Addr × Obj} {q q2 pos : Pos} (F : FunD X.K x x (defArgs st) (defBody st) (defScope st) [] [] fa fd) (S : FnScope nmN ["e"] (defScope st)) (hpar : parB (defArgs st) ["e"] = true)
    (hnb : namesB (defBody st) lab xs (defScope st) = true) (Ce : ExcC X.K D) (hm : X.mg "isinstance" = none) (hmz : X.mg "zip" = none) (hfit : ∀ X' : Cx, X'.K = X.K → X'.mg = X.mg → (∀ x ∈ xs, Gl X' x) → fitL X' D xs bs) (nm : NmOk lab bs)
    (hr : RoomH (k + 1) X.A) (hot : Hot1 X.A p) (hp : p ∈ X.pn) (hz : Zc (.ref D) none p.2) (hg : Gl X x) (hmg : X.mg x = some (.ref fa)) (hd : (x == ("__debug__" : Str)) = false) (hy : PE X (.Name y q2) (tVar i)) :
    PE X (.Call (.Name x q) [.Name y q2] [] pos) (fun σ H Q => σ[i]? = some (some (.ref p.1)) ∧ ∀ H', (∀ b o, H b = some o → H' b = some o) → Q (.str (nameOf lab bs)) H') := by
  refine ⟨fun pins s σ H Q I h => ?_⟩
  refine wpAny_Call_Name_kw (ld_glob I hg hmg ?_ hd)
  refine PySem.W.callWith_K (h₀ := X.base) I.ok.mod.kin F.kp (thn ((pa_cons hy pa_nil).run pos pins s σ H (fun vs H1 => vs = [V.ref p.1] ∧ H1 = H) I ⟨_, h.1, rfl, rfl⟩) fun us s1 ⟨vs, H1, I1, r, e1, e2⟩ => ⟨I1.kIn, ?_⟩) rfl rfl
  subst e1 e2
  obtain ⟨oc, od, dV, kV, doc, pm, an, cdv, ct, osl, rfl, lk, hcd, hD, hK⟩ := F.ex
  have hl : us.length = (["e"] : List Str).length := r.length.symm
  have b := F.bindsA (ps := ["e"]) (fun kV doc pm an cdv ct us hl => bind_par hpar rfl hl) s1 us hl
  have P1 := I1.pin p (List.mem_append_left _ hp)
  have hpin : PinOk X.stack H1 s1 p := ⟨P1.1, P1.2.1, fun hm => (List.mem_cons.mp (I1.stkSub p.1 hm)).elim P1.2.2.1 P1.2.2.2.1, P1.2.2.2.2⟩
  refine wpAny_call (codeAny_mono (names_code (CX := L2N.CX X.prog X.w) (E := fun _ _ _ => False) (k := k) lk hcd S hnb Ce hm hmz hfit nm hr hot hpin I1.env0 b r hz h.2) fun r' s' hq => ?_)
  cases r' with
  | error e =>
    obtain ⟨_, _, _, _, _, _, _, _, _, _, _, _, hE⟩ := hq
    exact hE.elim
  | ok fl =>
    cases fl with
    | ret u => exact I1.after hq
    | next => exact False.elim hq
    | brk => exact False.elim hq
    | cont => exact False.elim hq
end SF

set_option maxHeartbeats 200000
set_option Elab.async false
set_option linter.all false
set_option maxRecDepth 100000
set_option maxHeartbeats 2000000
/-! `_law_error`, `_law_told`. -/
namespace SF
open PySem PySem.Spec PyProof.Rows L2 RZ LamX C8 L2H HotX

def errN : List Str := ["call", "e"]
def errB (D : Gd) (sc : Scope) (body : List Stmt) : Bool := match body with
  | [.Try b [.ExceptHandler (some (.Name x1 _)) (some n) [.Return (some (.Call (.Name f _) [.Name y _] [] _)) _] _] [] [] _, .Return (some (.Constant (.str z) _ _)) _] =>
    chkSs D errN sc [.ex (.cv (.var 0) [])] b && decide (x1 = "FenceError" ∧ n = "e" ∧ f = "_law_names" ∧ y = "e" ∧ z = "") && isGl sc "FenceError" && isGl sc "_law_names" && loclB sc "e" && visB sc "e"
  | _ => false
/-- what the natives lean on -/
structure NatM (K : PySem.W.Frag) (mg : Str → Option Value) (C : Cn) (G : Prg) (ds : List Dfn) (lab : Str) (xs : List Str) (bs : Nat → List Bool) : Prop where
  ix : ∃ (j : Nat) (d : Dfn), ds[j]? = some d ∧ d.x = "_law_names" ∧ C8.scC nmN ["e"] (defScope d.st) = true ∧ parB (defArgs d.st) ["e"] = true ∧ namesB (defBody d.st) lab xs (defScope d.st) = true
  exc : ∀ c < 16, ExcC K (C.clA c)
  fe : mg "FenceError" = some (.ref (C.clA 0))
  exm : ∀ c < 16, PySem.W.exmOne K (.ref (C.clA c)) (.ref (C.clA 0)) = some true
  fit : ∀ c < 16, ∀ X : Cx, X.K = K → X.mg = mg → (∀ x ∈ xs, Gl X x) → fitL X (C.clA c) xs (bs c)
  nm : ∀ (c : Nat) (n : Str), G.names[c]? = some n → c < 16 ∧ NmOk lab (bs c) ∧ n = nameOf lab (bs c)
  mi : mg "isinstance" = none
  mz : mg "zip" = none
/-- the suite's promise: the error is of a class that has a name -/
def tSu (C : Cn) (G : Prg) (k : Str → V → Hp → Hp → Prop) (a : Addr) (cls : Value) (d : Option Addr) : TS := fun N σ H =>
  ∃ (c : Nat) (n : Str), cls = .ref (C.clA c) ∧ d = none ∧ G.names[c]? = some n ∧ (∃ σ0 : L2.St, σ = σ0.set 1 (some (.ref a))) ∧ ∀ v H', (∀ b o, H b = some o → H' b = some o) → k n v H H' → N.rt v H'
section
variable {P : Program} {w : World} {K : PySem.W.Frag} {mg : Str → Option Value} {base : Heap} {C : Cn} {G : Prg} {D : Gd} {ds : List Dfn} {lt : List LamT} {fnA clA : Nat → Addr} {T : List (Addr × Str)} {lab : Str} {xs : List Str} {bs : Nat → List Bool} (M : ModOk K mg base C G D ds lt fnA clA T) (NM : NatM K mg C G ds lab xs bs)
include M NM
/-- return _law_names(e) -/
theorem suite_err {X : Cx} {k : Nat} {a : Addr} {oe : Obj} {cls : Value} {d : Option Addr} {pn : List (Addr × Obj)} {q q2 pos p2 : Pos} (eK : X.K = K) (em : X.mg = mg) (hN : X.N = errN) (hr : Room (k + 1) X.A) (hz : L2N.Zn cls d oe) (hf : ∃ vs, oe.data = .fields vs) (hg : Gl X "_law_names") (hv : Vis X.env.scope "e") :
    PSs (X.suite a ((a, oe) :: pn)) [.Return (some (.Call (.Name "_law_names" q) [.Name "e" q2] [] pos)) p2] (tSu C G (fun n v _ _ => v = .str n) a cls d) := by
  refine ⟨fun pins s σ H N I ⟨c, n, ec, ed, hn, ⟨σ0, e0⟩, hq⟩ => ?_⟩
  subst ec ed
  obtain ⟨hc, nm, rfl⟩ := NM.nm c n hn
  obtain ⟨j, d, hj, hx, hs, hp, hb⟩ := NM.ix
  obtain ⟨fd, F⟩ := M.fd j d hj
  have hmg := M.mgf j d hj
  rw [hx] at F hmg
  obtain ⟨vs, hvs⟩ := hf
  have hot : Hot1 (X.suite a ((a, oe) :: pn)).A (a, oe) := ⟨rfl, vs, hvs, hz.2.2 vs hvs⟩
  have rH : RoomH (k + 1) (X.suite a ((a, oe) :: pn)).A := ⟨hr.dp, hr.un⟩
  have pe := names_pe (X := X.suite a ((a, oe) :: pn)) (k := k) (i := 1) (p := (a, oe)) (y := "e") (q := q) (q2 := q2) (pos := pos) (by rw [show (X.suite a ((a, oe) :: pn)).K = K from eK]; exact F) (C8.fnScope_by hs) hp hb (by rw [show (X.suite a ((a, oe) :: pn)).K = K from eK]; exact NM.exc c hc)
    (by rw [show (X.suite a ((a, oe) :: pn)).mg = mg from em]; exact NM.mi) (by rw [show (X.suite a ((a, oe) :: pn)).mg = mg from em]; exact NM.mz) (fun X' h1 h2 => NM.fit c hc X' (h1.trans eK) (h2.trans em)) nm rH hot List.mem_cons_self hz.zc hg
    (by rw [show (X.suite a ((a, oe) :: pn)).mg = mg from em]; exact hmg) (by decide) (pv 1 (by show X.N[1]? = _; rw [hN]; rfl) hv)
  have hl : σ.length = 2 := by
    have := I.len
    rw [this]
    show X.N.length = 2
    rw [hN]
    rfl
  refine (pss_one (ps_ret pe)).run pins s σ H N I ⟨?_, fun H' k => hq _ H' k rfl⟩
  subst e0
  rw [List.length_set] at hl
  rw [List.getElem?_set_self (by omega)]
omit M NM in
theorem fr_ext {φ : Lay} {H H' : Hp} (k : ∀ b o, H b = some o → H' b = some o) : Fr φ H φ H' := ⟨⟨[], by simp⟩, rfl, fun b o _ e _ => k b o e, fun b m => .inl m, fun b e => by
  cases h : H b with
  | none => rfl
  | some o => rw [k b o h] at e; cases e⟩
omit M NM in
theorem run_err {n i : Nat} {ds : List SF.D} {S : Sto} (hG : G.defs[i]? = some .err) : run G (n + 1) (.fn i) ds S = match ds with
    | [c] => (match run G n c [] S with
      | .ok _ S1 => .ok (.str "") S1
      | .exc k S1 => ofO (G.names[k]?.map .str) S1
      | .stuck => .stuck)
    | _ => .stuck := by simp only [run, hG] <;> rfl
omit M NM in
theorem gl_by {sc : Scope} {x : Str} (h : isGl sc x = true) : sc.names.lookup x = some .globalImplicit := of_decide_eq_true h
omit NM in
/-- what a def's cells are -/
theorem cb_of {A : Around} {outer : List PySem.Env} {s : Shared} {H : Hp} {N : List Str} {x : Str} {scope : Scope} {f : Addr} {cdv : Value} {E : XK} {pins : List (Addr × Obj)} {σ : L2.St} {H' : Hp} {s' : Shared} (I : L2.Inv (cxOf (L2N.CX P w) P w K mg base N x scope f cdv A outer s H E) pins σ H' s') :
    ∀ y c, (envOfC x scope s.heap.objs.size f cdv).cells.lookup y = some c → base.get? c = none ∧ c ∉ s.heap.objs.size :: frs outer := fun x c e => by
  have hle : s.heap.objs.size + 1 ≤ c := by
    have e : (cellsFrom (s.heap.push { cls := .type "dict", data := .dict #[] }).objs.size scope.names []).lookup x = some c := by rw [Heap.size_push]; exact e
    rcases cells_mem (PySem.mem_of_lookup e) with q | ⟨_, q, _⟩
    · cases q
    · rwa [Heap.size_push] at q
  have hb : base.objs.size ≤ s.heap.objs.size := I.ok.bsz
  refine ⟨Heap.get?_none_of_le (by omega), fun m => ?_⟩
  rcases List.mem_cons.mp m with z | z
  · rw [z] at hle
    exact absurd hle (Nat.not_succ_le_self _)
  · obtain ⟨_, o, ho, _⟩ := I.ok.funs.mem z
    have ho : s.heap.get? c = some o := ho
    exact absurd (Nat.lt_of_lt_of_le (Heap.lt_size ho) (Nat.le_of_succ_le hle)) (Nat.lt_irrefl _)
theorem err_run {n i : Nat} {d : Dfn} (Y : Sys P w K mg base C G D n) (h : ds[i]? = some d) (hG : G.defs[i]? = some .err) (hps : d.ps = (["call"] : List Str)) (hs : C8.scC errN ["call"] (defScope d.st) = true) (hp : parB (defArgs d.st) ["call"] = true) (hb : errB { D with ml := false } (defScope d.st) (defBody d.st) = true) :
    FnP P w K mg base C (run G (n + 1)) (n + 1) d.x i := by
  refine M.fnp h (by rw [hps]; exact hp) fun fd F => ?_
  obtain ⟨oc, od, dV, kV, doc, pm, an, cdv, ct, osl, rfl, lk, hcd, hD, hK⟩ := F.ex
  have S := C8.fnScope_by hs
  rw [hps]
  refine fn_of lk hcd S (fun vs H Q E hsp => ?_) fun A outer s H vs Q E hr hsp => ?_
  · obtain ⟨φ, S0, da, hs, r, t⟩ := hsp
    rw [r.length]
    simp only [run, hG] at t
    cases da with
    | nil => exact t.elim
    | cons c l => cases l with
      | nil => rfl
      | cons _ _ => exact t.elim
  · cases n with
    | zero =>
      exfalso
      obtain ⟨φ, S0, da, hs, r, t⟩ := hsp
      simp only [run, hG] at t
      cases da with
      | nil => exact t.elim
      | cons c l => cases l with
        | nil => exact t.elim
        | cons _ _ => exact t.elim
    | succ n =>
      unfold errB at hb
      split at hb
      · rename_i b x1 q1 nm f q2 y q3 q4 q5 q6 q7 z q8 q9 q10 hbody
        simp only [Bool.and_eq_true, decide_eq_true_eq] at hb
        obtain ⟨⟨⟨⟨⟨hk, he⟩, g1⟩, g2⟩, l1⟩, v1⟩ := hb
        obtain ⟨rfl, rfl, rfl, rfl, rfl⟩ := he
        refine ⟨tSeq (fun N σ H => sOf C (wAs K (.ref (C.clA 0)) 1 (tSu C G fun n v _ _ => v = .str n) (fun cls dd _ H' => E cls dd H') N) (exL (run G (n + 1)) G.gl [.ex (.cv (.var 0) [])]) N σ H) (tRet (tC (.str ""))), ⟨fun pins s' σ H' N I hw => ?_⟩, ?_⟩
        · rw [hbody]
          have cb := cb_of M I
          have so : ∀ (W : WX) (pn : List (Addr × Obj)) (xe : Value → Shared → Prop), L2N.Takes ((cxOf (L2N.CX P w) P w K mg base errN d.x (defScope d.st) (fnA i) cdv A outer s H E).tr pn xe) W → PassesOwn (model P w) (A.deeper (envOfC d.x (defScope d.st) s.heap.objs.size (fnA i) cdv)) (envOfC d.x (defScope d.st) s.heap.objs.size (fnA i) cdv) xe →
              SOk ((cxOf (L2N.CX P w) P w K mg base errN d.x (defScope d.st) (fnA i) cdv A outer s H E).tr pn xe) C W (run G (n + 1)) G.gl { D with ml := false } errN (defScope d.st) (n + 1) := fun W pn xe tk hpo => {
            o := Y.xok M rfl rfl rfl rfl rfl rfl rfl S.nd rfl hr tk cb (fun z => Bool.noConfusion z)
            hp := hpo
            fn := fun _ => rfl
            kind := S.kind
            exs := fun c x hx hn => by
              obtain ⟨q1, q2, q3, q4, q5⟩ := M.exs c x hx hn
              exact ⟨by rw [M.clA']; exact q1, by rw [M.clA']; exact q2, by rw [M.clA']; exact q3, by rw [M.clA']; exact raises_own q4 q5⟩
            exd := M.gdb.2.2 }
          refine (pss_cons (L2N.ps_try_as (X := cxOf (L2N.CX P w) P w K mg base errN d.x (defScope d.st) (fnA i) cdv A outer s H E) (i := 1) (tb := fun W => sOf C W (exL (run G (n + 1)) G.gl [.ex (.cv (.var 0) [])])) rfl rfl S.nd rfl (of_decide_eq_true l1) ⟨gl_by g1, by decide, .inl NM.fe⟩ (L2N.takes_of rfl rfl rfl rfl)
            (fun W pn xe tk hpo => chkSs_ok (so W pn xe tk hpo) _ _ hk) (fun a oe cls d pn hz hf => suite_err M NM rfl rfl rfl hr hz hf (gl_by g2) (visB_of v1))) (pss_one (ps_ret pe_str))).run pins s' σ H' N I hw
        · obtain ⟨φ, S0, da, hs', r, t⟩ := hsp
          rw [run_err hG] at t
          cases da with
          | nil => exact t.elim
          | cons c l => cases l with
            | cons _ _ => exact t.elim
            | nil =>
              refine ⟨φ, S0, startE 2 [c], hs', er_start r rfl, ?_⟩
              have e0 : exL (run G (n + 1)) G.gl [.ex (.cv (.var 0) [])] (startE 2 [c]) S0 = lift (run G (n + 1) c [] S0) (startE 2 [c]) fun _ S => .nx (startE 2 [c]) S := by
                cases hq : run G (n + 1) c [] S0 <;> simp [exL, ex, ev, evL, startE, lift, Res.bind, Res.calm, ofO, hq]
              rw [e0]
              cases hq : run G (n + 1) c [] S0 with
              | ok d1 S1 =>
                simp only [hq] at t
                exact fun φ' H' σ' g s1 e => t φ' H' (.str "") g s1 (by simp only [Rep])
              | exc k S1 =>
                simp only [hq] at t
                cases hn : G.names[k]? with
                | none =>
                  simp only [hn] at t
                  exact t.elim
                | some nm =>
                  simp only [hn] at t
                  have hk := (NM.nm k nm hn).1
                  refine fun φ' H' σ' da g s1 => ⟨true, NM.exm k hk, fun _ a ha => ⟨k, nm, rfl, da.2 (by omega), hn, ⟨σ', rfl⟩, fun v H'' k1 hv => ?_⟩, fun z => nomatch z⟩
                  subst hv
                  exact t φ' H'' (.str nm) (g.trans (fr_ext k1)) (s1.more M.ok k1) (by simp only [Rep])
              | stuck =>
                simp only [hq] at t
      · cases hb
end
end SF

set_option maxHeartbeats 200000
set_option Elab.async false
set_option linter.all false
set_option maxRecDepth 100000
set_option maxHeartbeats 2000000
/-! The end of a law: natives from the head's facts, all defs, the law from its run. -/
namespace SF
open PySem PySem.Spec PyProof.Rows L2 RZ LamX C8

structure NatT where
  lab : Str
  xs : List Str
  bss : List (List Bool)
  jn : Nat
def nmOkB (lab : Str) (bs : List Bool) : Bool :=
  decide (lab.length + (" value" : Str).length ≤ sizeLine) && decide ((lab ++ (" value" : Str)).length + 2 ≤ sizeLine) && decide ((Txt.split (lab ++ " value") " ").length ≤ bs.length) && decide ((Txt.split (lab ++ " value") " ").length < sizeLine) && decide (bs.length ≤ sizeLine) &&
    decide (((pickL (Txt.split (lab ++ " value") " ") bs).map (·.length)).sum + (pickL (Txt.split (lab ++ " value") " ") bs).length * (" " : Str).length ≤ 16777216)
theorem nmOk_of {lab : Str} {bs : List Bool} (h : nmOkB lab bs = true) : NmOk lab bs := by
  unfold nmOkB at h
  simp only [Bool.and_eq_true, decide_eq_true_eq] at h
  obtain ⟨⟨⟨⟨⟨h1, h2⟩, h3⟩, h4⟩, h5⟩, h6⟩ := h
  exact ⟨h1, h2, h3, h4, h5, h6⟩
def natText (T : NatT) (names : List Str) (D : Gd) (ds : List Dfn) : Bool :=
  (match ds[T.jn]? with
    | some d => decide (d.x = "_law_names") && C8.scC nmN ["e"] (defScope d.st) && parB (defArgs d.st) ["e"] && namesB (defBody d.st) T.lab T.xs (defScope d.st)
    | none => false) &&
  decide (names = T.bss.map (nameOf T.lab)) && decide (T.bss.length = 16) && T.bss.all (nmOkB T.lab) && decide (D.exs[0]? = some ("FenceError" : Str)) &&
  decide (("isinstance" : Str) ∈ D.blt) && decide (("zip" : Str) ∈ D.blt) && decide (("ValueError" : Str) ∈ D.blt) && T.xs.all fun x => !(x == ("__debug__" : Str)) && (decide (x = "ValueError") || decide (x ∈ D.exs))
def excCB (K : PySem.W.Frag) (a : Addr) : Bool :=
  decide (PySem.W.findIn K (.ref a) "__getattribute__" = some (some (.builtin "BaseException.__getattribute__"))) && decide (PySem.W.findIn K (.ref a) "__getattr__" = some none) && decide (PySem.W.subIn K (.ref a) (.type "BaseException") = some true) && PySem.W.hasDictIn K a &&
  decide (PySem.W.findIn K (.ref a) "__class__" = some (some (.builtin "object.__class__"))) && decide (PySem.W.specialIn K (.builtin "object.__class__") "__get__" = some (some (.builtin "getset_descriptor.__get__"))) && decide (PySem.W.takesIn K (.builtin "object.__class__") = some true) && decide (PySem.W.mroIn K a (.type "object") = some true)
theorem excC_of {K : PySem.W.Frag} {a : Addr} (h : excCB K a = true) : ExcC K a := by
  unfold excCB at h
  simp only [Bool.and_eq_true, decide_eq_true_eq] at h
  obtain ⟨⟨⟨⟨⟨⟨⟨h1, h2⟩, h3⟩, h4⟩, h5⟩, h6⟩, h7⟩, h8⟩ := h
  exact ⟨h1, h2, h3, h4, h5, h6, h7, h8⟩
def cvK (K : PySem.W.Frag) (x : Str) : Value := if x = "ValueError" then .type "ValueError" else .ref (He.ga K x)
def fitB (K : PySem.W.Frag) (a : Addr) : List Str → List Bool → Bool
  | [], [] => true
  | x :: xs, b :: bs => decide (PySem.W.kitOne K (.ref a) (cvK K x) = some b) && fitB K a xs bs
  | _, _ => false
def natK (T : NatT) (D : Gd) (K : PySem.W.Frag) : Bool := (List.range 16).all fun c => excCB K (clAt K D c) && decide (PySem.W.exmOne K (.ref (clAt K D c)) (.ref (clAt K D 0)) = some true) && fitB K (clAt K D c) T.xs (T.bss.getD c [])
theorem fit_of {X : Cx} {K : PySem.W.Frag} {mg : Str → Option Value} {a : Addr} (eK : X.K = K) (em : X.mg = mg) : ∀ (xs : List Str) (bs : List Bool), fitB K a xs bs = true → (∀ x ∈ xs, Gl X x) → (∀ x ∈ xs, (x == ("__debug__" : Str)) = false) → (∀ x ∈ xs, (x = "ValueError" ∧ mg x = none) ∨ (x ≠ "ValueError" ∧ mg x = some (.ref (He.ga K x)))) → fitL X a xs bs
  | [], [], _, _, _, _ => trivial
  | x :: xs, b :: bs, h, g, d, m => by
    simp only [fitB, Bool.and_eq_true, decide_eq_true_eq] at h
    refine ⟨⟨cvK K x, ⟨g x List.mem_cons_self, d x List.mem_cons_self, ?_⟩, by rw [eK]; exact h.1⟩, fit_of eK em xs bs h.2 (fun y hy => g y (List.mem_cons_of_mem _ hy)) (fun y hy => d y (List.mem_cons_of_mem _ hy)) fun y hy => m y (List.mem_cons_of_mem _ hy)⟩
    rcases m x List.mem_cons_self with ⟨e, hm⟩ | ⟨e, hm⟩
    · refine .inr ⟨by rw [em]; exact hm, e, ?_⟩
      unfold cvK
      rw [if_pos e]
    · refine .inl ⟨?_, He.ga K x, ?_⟩
      · rw [em, hm]
        unfold cvK
        rw [if_neg e]
      · unfold cvK
        rw [if_neg e]
  | [], _ :: _, h, _, _, _ => by simp [fitB] at h
  | _ :: _, [], h, _, _, _ => by simp [fitB] at h
section
variable {w : World} {K : PySem.W.Frag} {mg : Str → Option Value} {base h : Heap} {G : Prg} {D : Gd} {ds : List Dfn} {lt : List LamT} {nt : PySem.W.Frag → Bool} (T : Txt G D ds lt)
include T
theorem natM {N : NatT} (X : K.In h) (hG : h.Ns mainGlobals mg) (c : He.SaysX (faOf D) (ds.map ddOf) [] (tfOf ds) (exOf D G.gl ds (natK N D)) w h K) (ht : natText N G.names D ds = true) : NatM K mg (cnOf K D ds) G ds N.lab N.xs fun c => N.bss.getD c [] := by
  unfold natText at ht
  simp only [Bool.and_eq_true, decide_eq_true_eq] at ht
  obtain ⟨⟨⟨⟨⟨⟨⟨⟨t1, t2⟩, t3⟩, t4⟩, t5⟩, t6⟩, t7⟩, t8⟩, t9⟩ := ht
  have cl : ∀ i, (cnOf K D ds).clA i = clAt K D i := fun i => rfl
  have free : ∀ x ∈ D.blt, mg x = none := fun x hx => He.free_ok X hG (c.t.d.facts (List.mem_append_left _ (List.mem_map.mpr ⟨x, hx, rfl⟩)))
  have glo : ∀ x ∈ D.exs, mg x = some (.ref (He.ga K x)) := fun x hx => He.glo_ok X hG (c.t.d.facts (f := .glo x) (List.mem_append_right _ (List.mem_append_right _ (List.mem_append_left _ (List.mem_map.mpr ⟨x, hx, rfl⟩)))))
  have nk : ∀ i < 16, excCB K (clAt K D i) = true ∧ PySem.W.exmOne K (.ref (clAt K D i)) (.ref (clAt K D 0)) = some true ∧ fitB K (clAt K D i) N.xs (N.bss.getD i []) = true := fun i hi => by
    have e := c.more
    unfold exOf at e
    simp only [Bool.and_eq_true] at e
    have e2 := e.2
    unfold natK at e2
    rw [List.all_eq_true] at e2
    have q := e2 i (List.mem_range.mpr hi)
    simp only [Bool.and_eq_true, decide_eq_true_eq] at q
    exact ⟨q.1.1, q.1.2, q.2⟩
  refine ⟨?_, fun i hi => ?_, ?_, fun i hi => ?_, fun i hi X' e1 e2 hg => ?_, fun i n hn => ?_, free _ t6, free _ t7⟩
  · split at t1
    · rename_i d hd
      simp only [Bool.and_eq_true, decide_eq_true_eq] at t1
      exact ⟨_, d, hd, t1.1.1.1, t1.1.1.2, t1.1.2, t1.2⟩
    · cases t1
  · rw [cl]; exact excC_of (nk i hi).1
  · rw [cl]
    have e : clAt K D 0 = He.ga K "FenceError" := by
      unfold clAt
      rw [List.getD_eq_getElem?_getD, t5]
      rfl
    rw [e]
    exact glo _ (List.mem_of_getElem? t5)
  · rw [cl, cl]; exact (nk i hi).2.1
  · rw [cl]
    refine fit_of e1 e2 _ _ (nk i hi).2.2 hg (fun x hx => ?_) fun x hx => ?_
    · have q := List.all_eq_true.mp t9 x hx
      simp only [Bool.and_eq_true] at q
      simpa using q.1
    · have q := List.all_eq_true.mp t9 x hx
      simp only [Bool.and_eq_true, Bool.or_eq_true, decide_eq_true_eq] at q
      by_cases hv : x = "ValueError"
      · exact .inl ⟨hv, by rw [hv]; exact free _ t8⟩
      · exact .inr ⟨hv, glo _ (q.2.resolve_left hv)⟩
  · have hl : i < 16 := by
      have := (List.getElem?_eq_some_iff.mp hn).1
      rw [t2, List.length_map, t3] at this
      exact this
    rw [t2, List.getElem?_map] at hn
    have hb : N.bss[i]? = some (N.bss.getD i []) := by
      rw [List.getD_eq_getElem?_getD, List.getElem?_eq_getElem (by omega)]
      rfl
    rw [hb] at hn
    refine ⟨hl, nmOk_of (List.all_eq_true.mp t4 _ (List.mem_of_getElem? hb)), ?_⟩
    simpa using hn.symm
end
theorem cx_none {P : Program} {w : World} {H : Hp} {s s' : Shared} {e : Value} (z : L2N.CX P w [] H s (fun _ _ _ => False) e s') : False := by
  obtain ⟨_, _, _, _, _, _, _, _, _, _, _, _, hE⟩ := z
  exact hE
/-! ### all defs -/
def okDf (D : Gd) (d : Dfn) : Df → Bool
  | .df np nN body => dfChk D d np nN body
  | .err => decide (d.ps = (["call"] : List Str)) && C8.scC errN ["call"] (defScope d.st) && parB (defArgs d.st) ["call"] && errB { D with ml := false } (defScope d.st) (defBody d.st)
  | .nev => parB (defArgs d.st) d.ps
  | .told => false
section
variable {P : Program} {w : World} {K : PySem.W.Frag} {mg : Str → Option Value} {base : Heap} {C : Cn} {G : Prg} {D : Gd} {ds : List Dfn} {lt : List LamT} {fnA clA : Nat → Addr} {T : List (Addr × Str)} {lab : Str} {xs : List Str} {bs : Nat → List Bool} (M : ModOk K mg base C G D ds lt fnA clA T) (NM : NatM K mg C G ds lab xs bs)
include M
theorem nev_run {n i : Nat} {d : Dfn} (h : ds[i]? = some d) (hG : G.defs[i]? = some .nev) (hp : parB (defArgs d.st) d.ps = true) : FnP P w K mg base C (run G (n + 1)) (n + 1) d.x i := by
  have e : ∀ ds S, run G (n + 1) (.fn i) ds S = .stuck := fun ds S => by simp only [run, hG]
  refine M.fnp h hp fun fd F => ⟨fun vs H Q E t => ?_, fun A outer s H args us vs Q E _ _ _ _ t => ?_⟩
  · obtain ⟨φ, S0, da, hs, r, t⟩ := t
    rw [e] at t
    exact t.elim
  · obtain ⟨φ, S0, da, hs, r, t⟩ := t
    rw [e] at t
    exact t.elim
include NM
theorem sysOk (hd : ∀ (i : Nat) (d : Dfn) (f : Df), ds[i]? = some d → G.defs[i]? = some f → okDf D d f = true) : ∀ n, Sys P w K mg base C G D n := by
  have hg : ∀ (i : Nat) (d : Dfn), ds[i]? = some d → ∃ f, G.defs[i]? = some f := fun i d h => by
    have := (List.getElem?_eq_some_iff.mp h).1
    rw [M.dl, M.len] at this
    exact ⟨_, List.getElem?_eq_getElem this⟩
  refine sys_all M (fun i d h => ?_) (fun i d np nN body h hG => hd i d _ h hG) fun n i d f Y h hG hf => ?_
  · obtain ⟨f, hG⟩ := hg i d h
    have q := hd i d f h hG
    cases f with
    | df np nN body =>
      simp only [okDf, dfChk, Bool.and_eq_true] at q
      exact q.1.2
    | err =>
      simp only [okDf, Bool.and_eq_true, decide_eq_true_eq] at q
      rw [q.1.1.1]
      exact q.1.2
    | nev => exact q
    | told => cases q
  · have q := hd i d f h hG
    cases f with
    | df np nN body => exact absurd rfl (hf np nN body)
    | err =>
      simp only [okDf, Bool.and_eq_true, decide_eq_true_eq] at q
      exact err_run M NM Y h hG q.1.1.1 q.1.1.2 q.1.2 q.2
    | nev => exact nev_run M h hG q
    | told => cases q
end
end SF

set_option maxHeartbeats 200000
set_option Elab.async false
set_option linter.all false
set_option maxRecDepth 100000
/-! What runs over an empty store and leaves it so runs over every plain store. -/
namespace SF
open PySem

def Res.Grow {α : Type} (n : Nat) : Res α → Prop
  | .ok _ S => n ≤ S.length
  | .exc _ S => n ≤ S.length
  | .stuck => True
def Res.Frm {α : Type} (S : Sto) : Res α → Res α → Prop
  | .ok a S0, r => S0 = [] → r = .ok a S
  | .exc c S0, r => S0 = [] → r = .exc c S
  | .stuck, _ => True
structure Nice {α : Type} (F : Sto → Res α) : Prop where
  gr : ∀ S, (F S).Grow S.length
  fr : ∀ S, plainS S = true → (F []).Frm S (F S)
theorem Nice.stuck {α : Type} : Nice (fun _ => (.stuck : Res α)) := ⟨fun _ => trivial, fun _ _ => trivial⟩
theorem Nice.ok {α : Type} (a : α) : Nice (fun S => .ok a S) := ⟨fun _ => Nat.le_refl _, fun _ _ _ => rfl⟩
theorem Nice.exc {α : Type} (c : Nat) : Nice (fun S => (.exc c S : Res α)) := ⟨fun _ => Nat.le_refl _, fun _ _ _ => rfl⟩
theorem Nice.bind {α β : Type} {F : Sto → Res α} {g : α → Sto → Res β} (hF : Nice F) (hg : ∀ a, Nice (g a)) : Nice (fun S => (F S).bind g) := by
  refine ⟨fun S => ?_, fun S hp => ?_⟩
  · have h := hF.gr S
    show ((F S).bind g).Grow S.length
    cases hr : F S with
    | ok a S1 =>
      rw [hr] at h
      have h2 := (hg a).gr S1
      simp only [Res.bind]
      cases hq : g a S1 with
      | ok b S2 => rw [hq] at h2; exact Nat.le_trans h h2
      | exc c S2 => rw [hq] at h2; exact Nat.le_trans h h2
      | stuck => trivial
    | exc c S1 => rw [hr] at h; exact h
    | stuck => trivial
  · have h := hF.fr S hp
    show ((F []).bind g).Frm S ((F S).bind g)
    cases hr : F [] with
    | ok a S1 =>
      rw [hr] at h
      have h2 := (hg a).gr S1
      simp only [Res.bind]
      by_cases e : S1 = []
      · subst e
        rw [h rfl]
        exact (hg a).fr S hp
      · have hpos : 0 < S1.length := List.length_pos_iff.mpr e
        cases hq : g a S1 with
        | ok b S2 =>
          rw [hq] at h2
          intro e2
          subst e2
          exact absurd h2 (by simp only [Res.Grow, List.length_nil]; omega)
        | exc c S2 =>
          rw [hq] at h2
          intro e2
          subst e2
          exact absurd h2 (by simp only [Res.Grow, List.length_nil]; omega)
        | stuck => trivial
    | exc c S1 =>
      rw [hr] at h
      intro e
      have h := h e
      rw [h]
      rfl
    | stuck => trivial
theorem Nice.calm {α : Type} {F : Sto → Res α} (hF : Nice F) : Nice (fun S => (F S).calm) := by
  refine ⟨fun S => ?_, fun S hp => ?_⟩
  · have h := hF.gr S
    show ((F S).calm).Grow S.length
    cases hr : F S with
    | ok a S1 => rw [hr] at h; exact h
    | exc c S1 => trivial
    | stuck => trivial
  · have h := hF.fr S hp
    show ((F []).calm).Frm S ((F S).calm)
    cases hr : F [] with
    | ok a S1 =>
      rw [hr] at h
      intro e
      rw [h e]
      rfl
    | exc c S1 => trivial
    | stuck => trivial
/-- what is asked of a store stays -/
def Stay {α : Type} (o : Sto → Option α) : Prop := ∀ S a, o [] = some a → o S = some a
theorem Nice.opt {α β : Type} {o : Sto → Option α} {g : α → Sto → Res β} (ho : Stay o) (hg : ∀ a, Nice (g a)) : Nice (fun S => match o S with
    | some a => g a S
    | none => .stuck) := by
  refine ⟨fun S => ?_, fun S hp => ?_⟩
  · cases h : o S with
    | some a => simp only [h]; exact (hg a).gr S
    | none => simp only [h]; trivial
  · cases h : o [] with
    | some a =>
      simp only [h, ho S a h]
      exact (hg a).fr S hp
    | none => simp only [h]; trivial
theorem Nice.ofO {o : Sto → Option D} (ho : Stay o) : Nice (fun S => ofO (o S) S) := by
  refine ⟨fun S => ?_, fun S hp => ?_⟩
  · show (SF.ofO (o S) S).Grow S.length
    cases o S with
    | none => trivial
    | some b => exact Nat.le_refl _
  · show (SF.ofO (o []) []).Frm S (SF.ofO (o S) S)
    cases h : o [] with
    | none => trivial
    | some b =>
      rw [ho S b h]
      exact fun _ => rfl
theorem Stay.const {α : Type} (x : Option α) : Stay (fun _ => x) := fun _ _ h => h
theorem Stay.map {α β : Type} {o : Sto → Option α} {f : α → β} (h : Stay o) : Stay (fun S => (o S).map f) := fun S b e => by
  cases q : o [] with
  | none => simp [q] at e
  | some a => simp only [q, Option.map_some] at e; simp only [h S a q, Option.map_some]; exact e
mutual
theorem toPy_any : ∀ (d : D) (S S' : Sto), toPy S d = toPy S' d
  | .non, _, _ => rfl
  | .bl _, _, _ => rfl
  | .int _, _, _ => rfl
  | .str _, _, _ => rfl
  | .tup l, S, S' => by simp only [toPy, toPyL_any l S S']
  | .lst l, S, S' => by simp only [toPy, toPyL_any l S S']
  | .scr _, _, _ => rfl
  | .ref _, _, _ => rfl
  | .fn _, _, _ => rfl
  | .clo _ _, _, _ => rfl
  | .exc _, _, _ => rfl
theorem toPyL_any : ∀ (l : List D) (S S' : Sto), toPyL S l = toPyL S' l
  | [], _, _ => rfl
  | d :: l, S, S' => by simp only [toPyL, toPy_any d S S', toPyL_any l S S']
end
theorem stay_top (d : D) : Stay (fun S => topPy S d) := fun S a h => by
  cases d <;> simp only [topPy] at h ⊢
  all_goals first
    | (rw [← toPy_any _ [] S]; exact h)
    | simp at h
theorem stay_lst (d : D) : Stay (fun S => lstOf S d) := fun S a h => by
  cases d <;> simp only [lstOf] at h ⊢
  all_goals first
    | exact h
    | simp at h
theorem stay_eq (a b : D) : Stay (fun S => eqD S a b) := fun S v h => by
  simp only [eqD] at h ⊢
  cases h1 : topPy [] a with
  | none => simp [h1] at h
  | some p =>
    cases h2 : topPy [] b with
    | none => simp [h1, h2] at h
    | some q =>
      simp only [h1, h2] at h
      simp only [stay_top a S p h1, stay_top b S q h2]
      exact h
theorem stay_truth (d : D) : Stay (fun S => truth S d) := fun S a h => by
  cases d <;> simp only [truth] at h ⊢
  all_goals first
    | exact h
    | simp at h
theorem stay_inL (x : D) (l : List D) : Stay (fun S => inL S x l) := fun S v h => by
  simp only [inL] at h ⊢
  rw [← toPy_any x [] S, ← toPyL_any l [] S]
  exact h
theorem stay_ix (x : D) (l : List D) : Stay (fun S => ixOf S x l) := fun S v h => by
  simp only [ixOf] at h ⊢
  rw [← toPy_any x [] S, ← toPyL_any l [] S]
  exact h
theorem stay_in (x c : D) : Stay (fun S => inD S x c) := fun S v h => by
  cases c <;> simp only [inD] at h ⊢
  all_goals first
    | exact stay_inL _ _ S v h
    | exact h
theorem stay_add (a b : D) : Stay (fun S => pAdd S a b) := fun S v h => by
  cases a <;> cases b <;> simp only [pAdd] at h ⊢ <;> exact h
theorem Nice.ite {α : Type} {c : Prop} [Decidable c] {f g : Sto → Res α} (hf : Nice f) (hg : Nice g) : Nice (fun S => if c then f S else g S) := by
  by_cases h : c
  · simp only [if_pos h]; exact hf
  · simp only [if_neg h]; exact hg
theorem nice_new {α : Type} {a : Sto → α} {f : Sto → Ob} : Nice (fun S => .ok (a S) (S ++ [f S])) := ⟨fun S => by simp [Res.Grow], fun S _ e => by simp at e⟩
theorem nice_prim (p : Pr) (ds : List D) : Nice (prim p ds) := by
  unfold prim
  split
  all_goals first
    | exact Nice.ok _
    | exact Nice.stuck
    | exact Nice.ofO (Stay.const _)
    | exact Nice.ofO (stay_add _ _)
    | exact Nice.ofO (stay_eq _ _).map
    | exact Nice.ofO (stay_eq _ _).map.map
    | exact Nice.ofO (stay_truth _).map.map
    | exact Nice.ofO (stay_in _ _).map
    | exact Nice.ofO (stay_ix _ _).map
    | exact Nice.ofO (stay_in _ _).map.map
    | exact Nice.ite (Nice.ok _) Nice.stuck
    | exact Nice.ite nice_new Nice.stuck
    | exact Nice.ite (Nice.ofO (Stay.const _)) Nice.stuck
    | skip
  · refine Nice.ofO fun S a h => ?_
    simp [lstOf] at h
  · refine ⟨fun S => ?_, fun S _ => ?_⟩
    · split
      · split
        · simp [Res.Grow]
        · trivial
      · trivial
    · simp only [List.getElem?_nil]; trivial
  · refine ⟨fun S => ?_, fun S _ => ?_⟩
    · split
      · split
        · simp [Res.Grow]
        · trivial
      · trivial
    · simp only [List.getElem?_nil]; trivial
theorem nice_lc {turn : D → Sto → Res (Option D)} (h : ∀ x, Nice (turn x)) : ∀ xs, Nice (lcLoop turn xs)
  | [] => Nice.ok _
  | x :: xs => by
    show Nice (fun S => (turn x S).bind fun o S1 => (lcLoop turn xs S1).bind fun r S2 => .ok (o.toList ++ r) S2)
    exact (h x).bind fun o => (nice_lc h xs).bind fun r => Nice.ok _
theorem nice_lc2 {turn : D → Sto → Res (List D)} (h : ∀ x, Nice (turn x)) : ∀ xs, Nice (lc2Loop turn xs)
  | [] => Nice.ok _
  | x :: xs => by
    show Nice (fun S => (turn x S).bind fun o S1 => (lc2Loop turn xs S1).bind fun r S2 => .ok (o ++ r) S2)
    exact (h x).bind fun o => (nice_lc2 h xs).bind fun r => Nice.ok _
theorem nice_b {α : Type} (b : Bool) {f g : Sto → Res α} (hf : Nice f) (hg : Nice g) : Nice (fun S => if b then f S else g S) := Nice.ite hf hg
theorem nice_truth {α : Type} (d : D) {f g : Sto → Res α} (hf : Nice f) (hg : Nice g) : Nice (fun S => match truth S d with
    | some true => f S
    | some false => g S
    | none => .stuck) := by
  refine ⟨fun S => ?_, fun S hp => ?_⟩
  · cases truth S d with
    | none => trivial
    | some b => cases b with
      | true => exact hf.gr S
      | false => exact hg.gr S
  · cases h : truth [] d with
    | none => trivial
    | some b =>
      have h2 : truth S d = some b := stay_truth d S b h
      rw [h2]
      cases b with
      | true => exact hf.fr S hp
      | false => exact hg.fr S hp
theorem nice_tr1 (d : D) : Nice (fun S => match truth S d with
    | some b => .ok b S
    | none => .stuck) := by
  refine ⟨fun S => ?_, fun S hp => ?_⟩
  · cases truth S d with
    | none => trivial
    | some b => exact Nat.le_refl _
  · cases h : truth [] d with
    | none => trivial
    | some b =>
      have h2 : truth S d = some b := stay_truth d S b h
      rw [h2]
      exact fun _ => rfl
section
variable {call : D → List D → Sto → Res D} {gl : List D} (hc : ∀ f ds, Nice (call f ds))
include hc
mutual
theorem nice_ev : ∀ (e : E) (ρ : Env), Nice (ev call gl e ρ)
  | .var i, ρ => by
    show Nice fun S => match ρ[i]? with
      | some (some d) => Res.ok d S
      | _ => .stuck
    split
    · exact Nice.ok _
    · exact Nice.stuck
  | .non, _ => Nice.ok _
  | .bl _, _ => Nice.ok _
  | .int _, _ => Nice.ok _
  | .str _, _ => Nice.ok _
  | .g k, _ => Nice.ofO (Stay.const gl[k]?)
  | .pr p l, ρ => (nice_evL l ρ).bind fun ds => nice_prim p ds
  | .sl a lo hi, ρ => (nice_ev a ρ).bind fun d => (nice_evI lo ρ).bind fun i => (nice_evI hi ρ).bind fun j => Nice.ofO (Stay.const (pSl d i j))
  | .and a b, ρ => (nice_ev a ρ).bind fun d => nice_truth d (nice_ev b ρ) (Nice.ok d)
  | .or a b, ρ => (nice_ev a ρ).bind fun d => nice_truth d (Nice.ok d) (nice_ev b ρ)
  | .ifx c a b, ρ => (nice_ev c ρ).bind fun d => nice_truth d (nice_ev a ρ) (nice_ev b ρ)
  | .chain p q a b c, ρ => by
    show Nice (fun S => (ev call gl a ρ S).bind fun x S1 => (ev call gl b ρ S1).bind fun y S2 => (prim p [x, y] S2).bind fun z S3 => match z with
      | .bl true => (ev call gl c ρ S3).bind fun u S4 => prim q [y, u] S4
      | .bl false => .ok (.bl false) S3
      | _ => .stuck)
    refine (nice_ev a ρ).bind fun x => (nice_ev b ρ).bind fun y => (nice_prim p _).bind fun z => ?_
    split
    · exact (nice_ev c ρ).bind fun u => nice_prim q _
    · exact Nice.ok _
    · exact Nice.stuck
  | .call f l, ρ => (nice_evL l ρ).bind fun ds => hc _ ds
  | .callL f i caps l, ρ => by
    show Nice (fun S => match caps.mapM fun j => ρ[j]?.join with
      | some env => (evL call gl l ρ S).bind fun ds S1 => match call (.fn f) (.clo i env :: ds) S1 with
        | .ok d S2 => if rk d == 0 && plainS S2 then .ok d S2 else .stuck
        | _ => .stuck
      | none => .stuck)
    cases caps.mapM fun j => ρ[j]?.join with
    | none => exact Nice.stuck
    | some env =>
      refine (nice_evL l ρ).bind fun ds => ⟨fun S => ?_, fun S hp => ?_⟩
      · have h := (hc (.fn f) (.clo i env :: ds)).gr S
        cases hr : call (.fn f) (.clo i env :: ds) S with
        | ok d S2 =>
          rw [hr] at h
          simp only
          split
          · exact h
          · trivial
        | exc c S2 => trivial
        | stuck => trivial
      · have h := (hc (.fn f) (.clo i env :: ds)).fr S hp
        cases hr : call (.fn f) (.clo i env :: ds) [] with
        | ok d S2 =>
          rw [hr] at h
          simp only
          split
          · rename_i hb
            intro e
            rw [h e]
            simp only [Bool.and_eq_true] at hb
            simp only [hb.1, hp, Bool.and_self, if_true]
          · trivial
        | exc c S2 => trivial
        | stuck => trivial
  | .cv e l, ρ => (nice_ev e ρ).bind fun f => (nice_evL l ρ).calm.bind fun ds => hc f ds
  | .lc own k its t cond elt, ρ => by
    show Nice (fun S => (evL call gl its ρ S).bind fun ds S1 => match items k ds with
      | none => .stuck
      | some xs => (lcLoop (fun x S => match bindT t x (wipe ρ own) with
          | none => .stuck
          | some ρ1 => (evC call gl cond ρ1 S).calm.bind fun b S1 => if b then (ev call gl elt ρ1 S1).calm.bind fun d S2 => .ok (some d) S2 else .ok none S1) xs S1).bind fun r S2 => if line r.length then Res.ok (D.lst r) S2 else .stuck)
    refine (nice_evL its ρ).bind fun ds => ?_
    split
    · exact Nice.stuck
    · refine (nice_lc (fun x => ?_) _).bind fun r => Nice.ite (Nice.ok _) Nice.stuck
      split
      · exact Nice.stuck
      · exact (nice_evC cond _).calm.bind fun b => nice_b b ((nice_ev elt _).calm.bind fun d => Nice.ok _) (Nice.ok _)
  | .lc2 own own1 k its t cond k1 its1 t1 cond1 elt, ρ => by
    show Nice (fun S => (evL call gl its ρ S).bind fun ds S1 => match items k ds with
      | none => .stuck
      | some xs => (lc2Loop (fun x S => match bindT t x (wipe ρ own) with
          | none => .stuck
          | some ρ1 => (evC call gl cond ρ1 S).calm.bind fun b S1 => if b then (evL call gl its1 ρ1 S1).calm.bind fun ds S2 => (match items k1 ds with
            | none => .stuck
            | some ys => lcLoop (fun y S => match bindT t1 y (wipe ρ1 own1) with
              | none => .stuck
              | some ρ2 => (evC call gl cond1 ρ2 S).calm.bind fun b S1 => if b then (ev call gl elt ρ2 S1).calm.bind fun d S2 => .ok (some d) S2 else .ok none S1) ys S2) else .ok [] S1) xs S1).bind fun r S2 => if line r.length then Res.ok (D.lst r) S2 else .stuck)
    refine (nice_evL its ρ).bind fun ds => ?_
    split
    · exact Nice.stuck
    · refine (nice_lc2 (fun x => ?_) _).bind fun r => Nice.ite (Nice.ok _) Nice.stuck
      split
      · exact Nice.stuck
      · refine (nice_evC cond _).calm.bind fun b => nice_b b ((nice_evL its1 _).calm.bind fun ds => ?_) (Nice.ok _)
        split
        · exact Nice.stuck
        · refine nice_lc (fun y => ?_) _
          split
          · exact Nice.stuck
          · exact (nice_evC cond1 _).calm.bind fun b => nice_b b ((nice_ev elt _).calm.bind fun d => Nice.ok _) (Nice.ok _)
  | .lam i caps, ρ => by
    show Nice fun S => match caps.mapM fun j => ρ[j]?.join with
      | some env => Res.ok (D.clo i env) S
      | none => .stuck
    split
    · exact Nice.ok _
    · exact Nice.stuck
theorem nice_evL : ∀ (l : List E) (ρ : Env), Nice (evL call gl l ρ)
  | [], _ => Nice.ok _
  | e :: l, ρ => (nice_ev e ρ).bind fun d => (nice_evL l ρ).bind fun ds => Nice.ok _
theorem nice_evI : ∀ (l : List E) (ρ : Env), Nice (evI call gl l ρ)
  | [], _ => Nice.ok _
  | [c], ρ => by
    show Nice (fun S => (ev call gl c ρ S).bind fun d S1 => match d with
      | .int i => .ok (some i) S1
      | _ => .stuck)
    refine (nice_ev c ρ).bind fun d => ?_
    split
    · exact Nice.ok _
    · exact Nice.stuck
  | _ :: _ :: _, _ => Nice.stuck
theorem nice_evC : ∀ (l : List E) (ρ : Env), Nice (evC call gl l ρ)
  | [], _ => Nice.ok _
  | [c], ρ => (nice_ev c ρ).bind fun d => nice_tr1 d
  | _ :: _ :: _, _ => Nice.stuck
end
end
/-! ### statements -/
def Out.Grow (n : Nat) : Out → Prop
  | .nx _ S => n ≤ S.length
  | .rt _ S => n ≤ S.length
  | .exc _ _ S => n ≤ S.length
  | .stuck => True
def Out.Frm (S : Sto) : Out → Out → Prop
  | .nx ρ S0, r => S0 = [] → r = .nx ρ S
  | .rt d S0, r => S0 = [] → r = .rt d S
  | .exc c ρ S0, r => S0 = [] → r = .exc c ρ S
  | .stuck, _ => True
structure NiceO (F : Sto → Out) : Prop where
  gr : ∀ S, (F S).Grow S.length
  fr : ∀ S, plainS S = true → (F []).Frm S (F S)
theorem NiceO.stuck : NiceO (fun _ => .stuck) := ⟨fun _ => trivial, fun _ _ => trivial⟩
theorem NiceO.nx (ρ : Env) : NiceO (fun S => .nx ρ S) := ⟨fun _ => Nat.le_refl _, fun _ _ _ => rfl⟩
theorem NiceO.rt (d : D) : NiceO (fun S => .rt d S) := ⟨fun _ => Nat.le_refl _, fun _ _ _ => rfl⟩
theorem NiceO.exc (c : Nat) (ρ : Env) : NiceO (fun S => .exc c ρ S) := ⟨fun _ => Nat.le_refl _, fun _ _ _ => rfl⟩
theorem Out.Grow.le {m n : Nat} {o : Out} (h : m ≤ n) (g : o.Grow n) : o.Grow m := by
  cases o <;> first | exact Nat.le_trans h g | trivial
theorem frm_pos {o : Out} {S : Sto} {r : Out} {n : Nat} (hn : 0 < n) (g : o.Grow n) : o.Frm S r := by
  cases o with
  | nx ρ S1 => intro e; subst e; simp only [Out.Grow, List.length_nil] at g; omega
  | rt ρ S1 => intro e; subst e; simp only [Out.Grow, List.length_nil] at g; omega
  | exc c ρ S1 => intro e; subst e; simp only [Out.Grow, List.length_nil] at g; omega
  | stuck => trivial
theorem NiceO.lift {α : Type} {F : Sto → Res α} {g : α → Sto → Out} (ρ : Env) (hF : Nice F) (hg : ∀ a, NiceO (g a)) : NiceO (fun S => SF.lift (F S) ρ g) := by
  refine ⟨fun S => ?_, fun S hp => ?_⟩
  · have h := hF.gr S
    show (SF.lift (F S) ρ g).Grow S.length
    cases hr : F S with
    | ok a S1 => rw [hr] at h; exact ((hg a).gr S1).le h
    | exc c S1 => rw [hr] at h; exact h
    | stuck => trivial
  · have h := hF.fr S hp
    show (SF.lift (F []) ρ g).Frm S (SF.lift (F S) ρ g)
    cases hr : F [] with
    | ok a S1 =>
      rw [hr] at h
      by_cases e : S1 = []
      · subst e
        rw [h rfl]
        exact (hg a).fr S hp
      · exact frm_pos (List.length_pos_iff.mpr e) ((hg a).gr S1)
    | exc c S1 =>
      rw [hr] at h
      intro e
      rw [h e]
      rfl
    | stuck => trivial
/-- one after the other -/
theorem NiceO.seq {F : Sto → Out} {g : Env → Sto → Out} (hF : NiceO F) (hg : ∀ ρ, NiceO (g ρ)) : NiceO (fun S => match F S with
    | .nx ρ1 S1 => g ρ1 S1
    | o => o) := by
  refine ⟨fun S => ?_, fun S hp => ?_⟩
  · have h := hF.gr S
    cases hr : F S with
    | nx ρ S1 => rw [hr] at h; exact ((hg ρ).gr S1).le h
    | rt d S1 => rw [hr] at h; exact h
    | exc c ρ S1 => rw [hr] at h; exact h
    | stuck => trivial
  · have h := hF.fr S hp
    cases hr : F [] with
    | nx ρ S1 =>
      rw [hr] at h
      by_cases e : S1 = []
      · subst e
        rw [h rfl]
        exact (hg ρ).fr S hp
      · exact frm_pos (List.length_pos_iff.mpr e) ((hg ρ).gr S1)
    | rt d S1 => rw [hr] at h; intro e; rw [h e]
    | exc c ρ S1 => rw [hr] at h; intro e; rw [h e]
    | stuck => trivial
theorem nice_for {t : Tg} {body : Env → Sto → Out} (hb : ∀ ρ, NiceO (body ρ)) : ∀ xs ρ, NiceO (forLoop t body xs ρ)
  | [], ρ => NiceO.nx ρ
  | x :: xs, ρ => by
    show NiceO (fun S => match bindT t x ρ with
      | none => .stuck
      | some ρ1 => match body ρ1 S with
        | .nx ρ2 S2 => forLoop t body xs ρ2 S2
        | o => o)
    split
    · exact NiceO.stuck
    · exact NiceO.seq (hb _) fun ρ2 => nice_for hb xs ρ2
theorem niceO_truth (d : D) {f g : Sto → Out} (hf : NiceO f) (hg : NiceO g) : NiceO (fun S => match truth S d with
    | some true => f S
    | some false => g S
    | none => .stuck) := by
  refine ⟨fun S => ?_, fun S hp => ?_⟩
  · cases truth S d with
    | none => trivial
    | some b => cases b with
      | true => exact hf.gr S
      | false => exact hg.gr S
  · cases h : truth [] d with
    | none => trivial
    | some b =>
      have h2 : truth S d = some b := stay_truth d S b h
      rw [h2]
      cases b with
      | true => exact hf.fr S hp
      | false => exact hg.fr S hp
theorem nice_wh {c : Env → Sto → Res D} {body : Env → Sto → Out} (hc : ∀ ρ, Nice (c ρ)) (hb : ∀ ρ, NiceO (body ρ)) : ∀ n ρ, NiceO (whLoop c body n ρ)
  | 0, ρ => NiceO.stuck
  | n + 1, ρ => by
    have h := NiceO.lift ρ (hc ρ) (g := fun d S1 => match truth S1 d with
      | some true => (match body ρ S1 with
        | .nx ρ2 S2 => whLoop c body n ρ2 S2
        | o => o)
      | some false => .nx ρ S1
      | none => .stuck) fun d => niceO_truth d (NiceO.seq (hb ρ) fun ρ2 => nice_wh hc hb n ρ2) (NiceO.nx ρ)
    have e : (fun S => SF.lift (c ρ S) ρ (fun d S1 => match truth S1 d with
      | some true => (match body ρ S1 with
        | .nx ρ2 S2 => whLoop c body n ρ2 S2
        | o => o)
      | some false => .nx ρ S1
      | none => .stuck)) = whLoop c body (n + 1) ρ := by
      funext S
      unfold SF.lift
      rw [whLoop]
      cases c ρ S <;> rfl
    rw [e] at h
    exact h
section
variable {call : D → List D → Sto → Res D} {gl : List D} (hc : ∀ f ds, Nice (call f ds))
include hc
theorem NiceO.ite' {c : Prop} [Decidable c] {f g : Sto → Out} (hf : NiceO f) (hg : NiceO g) : NiceO (fun S => if c then f S else g S) := by
  by_cases h : c
  · simp only [if_pos h]; exact hf
  · simp only [if_neg h]; exact hg
theorem nx_asg (t : Tg) (e : E) (ρ : Env) : NiceO (ex call gl (.asg t e) ρ) := by
  show NiceO fun S => ex call gl (.asg t e) ρ S
  simp only [ex]
  refine NiceO.lift ρ (nice_ev hc e ρ) fun d => ?_
  split
  · exact NiceO.nx _
  · exact NiceO.stuck

theorem nx_par2 (i j : Nat) (a b : E) (ρ : Env) : NiceO (ex call gl (.par2 i j a b) ρ) := by
  show NiceO fun S => ex call gl (.par2 i j a b) ρ S
  simp only [ex]
  refine NiceO.lift ρ (nice_evL hc [a, b] ρ) fun ds => ?_
  split
  · exact NiceO.ite' hc (NiceO.nx _) NiceO.stuck
  · exact NiceO.stuck

theorem nx_par3 (i j k : Nat) (a b c : E) (ρ : Env) : NiceO (ex call gl (.par3 i j k a b c) ρ) := by
  show NiceO fun S => ex call gl (.par3 i j k a b c) ρ S
  simp only [ex]
  refine NiceO.lift ρ (nice_evL hc [a, b, c] ρ) fun ds => ?_
  split
  · exact NiceO.ite' hc (NiceO.nx _) NiceO.stuck
  · exact NiceO.stuck

theorem nx_setix (a i e : E) (ρ : Env) : NiceO (ex call gl (.setix a i e) ρ) := by
  show NiceO fun S => ex call gl (.setix a i e) ρ S
  simp only [ex]
  refine NiceO.lift ρ (nice_evL hc [e, a, i] ρ) fun ds => ?_
  split
  · refine ⟨fun S => ?_, fun S _ => ?_⟩
    · have hl : ∀ (o k v : D) (S2 : Sto), setLst S o k v = some S2 → S.length ≤ S2.length := fun o k v S2 h => by
        unfold setLst at h
        split at h
        · split at h
          · rw [Option.map_eq_some_iff] at h
            obtain ⟨j, _, rfl⟩ := h
            simp
          · cases h
        · cases h
      split
      · rename_i h
        exact hl _ _ _ _ h
      · trivial
    · have he : ∀ o k v : D, setLst [] o k v = none := fun o k v => by
        unfold setLst
        split
        · simp
        · rfl
      rw [he]
      trivial
  · exact NiceO.stuck

theorem nx_ex (e : E) (ρ : Env) : NiceO (ex call gl (.ex e) ρ) := by
  show NiceO fun S => ex call gl (.ex e) ρ S
  simp only [ex]
  exact NiceO.lift ρ (nice_ev hc e ρ) fun d => NiceO.nx ρ

theorem nx_ret (e : E) (ρ : Env) : NiceO (ex call gl (.ret e) ρ) := by
  show NiceO fun S => ex call gl (.ret e) ρ S
  simp only [ex]
  exact NiceO.lift ρ (nice_ev hc e ρ) fun d => NiceO.rt d

theorem nx_retn  (ρ : Env) : NiceO (ex call gl (.retn) ρ) := by
  show NiceO fun S => ex call gl (.retn) ρ S
  simp only [ex]
  exact NiceO.rt _

theorem nx_raise (c : Nat) (l : List E) (ρ : Env) : NiceO (ex call gl (.raise c l) ρ) := by
  show NiceO fun S => ex call gl (.raise c l) ρ S
  simp only [ex]
  exact NiceO.lift ρ (nice_evL hc l ρ) fun d => NiceO.exc c ρ

theorem nx_ifs (c : E) (a b : List Sm) (ha : ∀ ρ, NiceO (exL call gl a ρ)) (hb : ∀ ρ, NiceO (exL call gl b ρ)) (ρ : Env) : NiceO (ex call gl (.ifs c a b) ρ) := by
  show NiceO fun S => ex call gl (.ifs c a b) ρ S
  simp only [ex]
  exact NiceO.lift ρ (nice_ev hc c ρ) fun d => niceO_truth d (ha ρ) (hb ρ)

theorem nx_for_ (t : Tg) (k : ItK) (its : List E) (b : List Sm) (hb : ∀ ρ, NiceO (exL call gl b ρ)) (ρ : Env) : NiceO (ex call gl (.for_ t k its b) ρ) := by
  show NiceO fun S => ex call gl (.for_ t k its b) ρ S
  simp only [ex]
  refine NiceO.lift ρ (nice_evL hc its ρ) fun ds => ?_
  split
  · exact nice_for (fun ρ => hb ρ) _ ρ
  · exact NiceO.stuck

theorem nx_wh (c : E) (b : List Sm) (hb : ∀ ρ, NiceO (exL call gl b ρ)) (ρ : Env) : NiceO (ex call gl (.wh c b) ρ) := by
  have h : ∀ n, NiceO (whLoop (ev call gl c) (exL call gl b) n ρ) := fun n => nice_wh (fun ρ => nice_ev hc c ρ) hb n ρ
  have e : ex call gl (.wh c b) ρ = whLoop (ev call gl c) (exL call gl b) fuelW ρ := by
    funext S
    rw [ex]
  rw [e]
  exact h fuelW
theorem nx_pass  (ρ : Env) : NiceO (ex call gl (.pass) ρ) := by
  show NiceO fun S => ex call gl (.pass) ρ S
  simp only [ex]
  exact NiceO.nx ρ
theorem nice_both : (∀ (s : Sm) (ρ : Env), NiceO (ex call gl s ρ)) ∧ ∀ (l : List Sm) (ρ : Env), NiceO (exL call gl l ρ) := by
  have h0 : ∀ ρ, NiceO (exL call gl [] ρ) := fun ρ => by
    show NiceO fun S => exL call gl [] ρ S
    simp only [exL]
    exact NiceO.nx ρ
  have h1 : ∀ (s : Sm) (l : List Sm), (∀ ρ, NiceO (ex call gl s ρ)) → (∀ ρ, NiceO (exL call gl l ρ)) → ∀ ρ, NiceO (exL call gl (s :: l) ρ) := fun s l hs hl ρ => by
    show NiceO fun S => exL call gl (s :: l) ρ S
    simp only [exL]
    exact NiceO.seq (hs ρ) fun ρ1 => hl ρ1
  refine ⟨fun s => Sm.rec (motive_1 := fun s => ∀ ρ, NiceO (ex call gl s ρ)) (motive_2 := fun l => ∀ ρ, NiceO (exL call gl l ρ))
    (fun t e => fun ρ => nx_asg hc t e ρ)
    (fun i j a b => fun ρ => nx_par2 hc i j a b ρ)
    (fun i j k a b c => fun ρ => nx_par3 hc i j k a b c ρ)
    (fun a i e => fun ρ => nx_setix hc a i e ρ)
    (fun e => fun ρ => nx_ex hc e ρ)
    (fun e => fun ρ => nx_ret hc e ρ)
    (fun ρ => nx_retn hc  ρ)
    (fun c l => fun ρ => nx_raise hc c l ρ)
    (fun c a b ha hb => fun ρ => nx_ifs hc c a b ha hb ρ)
    (fun t k its b hb => fun ρ => nx_for_ hc t k its b hb ρ)
    (fun c b hb => fun ρ => nx_wh hc c b hb ρ)
    (fun ρ => nx_pass hc  ρ)
    h0 (fun s l hs hl => h1 s l hs hl) s, fun l => Sm.rec_1 (motive_1 := fun s => ∀ ρ, NiceO (ex call gl s ρ)) (motive_2 := fun l => ∀ ρ, NiceO (exL call gl l ρ))
    (fun t e => fun ρ => nx_asg hc t e ρ)
    (fun i j a b => fun ρ => nx_par2 hc i j a b ρ)
    (fun i j k a b c => fun ρ => nx_par3 hc i j k a b c ρ)
    (fun a i e => fun ρ => nx_setix hc a i e ρ)
    (fun e => fun ρ => nx_ex hc e ρ)
    (fun e => fun ρ => nx_ret hc e ρ)
    (fun ρ => nx_retn hc  ρ)
    (fun c l => fun ρ => nx_raise hc c l ρ)
    (fun c a b ha hb => fun ρ => nx_ifs hc c a b ha hb ρ)
    (fun t k its b hb => fun ρ => nx_for_ hc t k its b hb ρ)
    (fun c b hb => fun ρ => nx_wh hc c b hb ρ)
    (fun ρ => nx_pass hc  ρ)
    h0 (fun s l hs hl => h1 s l hs hl) l⟩
theorem nice_exL (l : List Sm) (ρ : Env) : NiceO (exL call gl l ρ) := (nice_both hc).2 l ρ
end
theorem nice_endO {F : Sto → Out} (h : NiceO F) : Nice (fun S => endO (F S)) := by
  refine ⟨fun S => ?_, fun S hp => ?_⟩
  · have g := h.gr S
    cases hr : F S <;> rw [hr] at g <;> exact g
  · have g := h.fr S hp
    cases hr : F [] with
    | nx ρ S1 => rw [hr] at g; intro e; rw [g e]; rfl
    | rt d S1 => rw [hr] at g; intro e; rw [g e]; rfl
    | exc c ρ S1 => rw [hr] at g; intro e; rw [g e]; rfl
    | stuck => trivial
theorem nice_told {F : Sto → Res D} {g : D → D} {o : Nat → Option D} (h : Nice F) : Nice (fun S => match F S with
    | .ok d S1 => .ok (g d) S1
    | .exc k S1 => ofO (o k) S1
    | .stuck => .stuck) := by
  refine ⟨fun S => ?_, fun S hp => ?_⟩
  · have q := h.gr S
    cases hr : F S with
    | ok d S1 => rw [hr] at q; exact q
    | exc k S1 =>
      rw [hr] at q
      simp only
      cases o k with
      | none => trivial
      | some x => exact q
    | stuck => trivial
  · have q := h.fr S hp
    cases hr : F [] with
    | ok d S1 => rw [hr] at q; intro e; rw [q e]
    | exc k S1 =>
      rw [hr] at q
      simp only
      cases ho : o k with
      | none => trivial
      | some x => intro e; rw [q e]; simp only [ho, SF.ofO]
    | stuck => trivial
theorem nice_run (G : Prg) : ∀ (n : Nat) (f : D) (ds : List D), Nice (run G n f ds)
  | 0, f, ds => by
    show Nice fun S => run G 0 f ds S
    simp only [run]
    exact Nice.stuck
  | n + 1, f, ds => by
    have ih := nice_run G n
    cases f with
    | fn i =>
      show Nice fun S => run G (n + 1) (.fn i) ds S
      simp only [run]
      cases hd : G.defs[i]? with
      | none => exact Nice.stuck
      | some d =>
        cases d with
        | df np nN body => exact Nice.ite (nice_endO (nice_exL ih body _)) Nice.stuck
        | err =>
          simp only
          split
          · rename_i c
            exact nice_told (g := fun _ => .str "") (o := fun k => G.names[k]?.map .str) (ih c [])
          · exact Nice.stuck
        | told =>
          simp only
          split
          · rename_i c
            exact nice_told (g := fun d => .tup [d, .str ""]) (o := fun k => G.names[k]?.map fun z => .tup [.non, .str z]) (ih c [])
          · exact Nice.stuck
        | nev => exact Nice.stuck
    | clo i env =>
      show Nice fun S => run G (n + 1) (.clo i env) ds S
      simp only [run]
      cases hl : G.lams[i]? with
      | none => exact Nice.stuck
      | some m =>
        simp only
        by_cases hcnd : ds.length = m.np ∧ env.length = m.nc ∧ rkL ds = 0
        · have h := nice_ev ih (gl := G.gl) m.body (startE m.nN (ds ++ env))
          refine ⟨fun S => ?_, fun S hp => ?_⟩
          · split
            · exact h.gr S
            · trivial
          · have e0 : plainS [] = true := rfl
            rw [if_pos ⟨hcnd.1, hcnd.2.1, hcnd.2.2, e0⟩, if_pos ⟨hcnd.1, hcnd.2.1, hcnd.2.2, hp⟩]
            exact h.fr S hp
        · refine ⟨fun S => ?_, fun S hp => ?_⟩
          · rw [if_neg fun z => hcnd ⟨z.1, z.2.1, z.2.2.1⟩]
            trivial
          · rw [if_neg fun z => hcnd ⟨z.1, z.2.1, z.2.2.1⟩]
            trivial
    | _ => exact Nice.stuck
/-- a run over nothing is a run over every plain store -/
theorem run_any {G : Prg} {n : Nat} {f : D} {ds : List D} {d : D} (h : run G n f ds [] = .ok d []) {S : Sto} (hp : plainS S = true) : run G n f ds S = .ok d S := by
  have q := (nice_run G n f ds).fr S hp
  rw [h] at q
  exact q rfl
theorem ev_any {G : Prg} {n : Nat} {e : E} {ρ : Env} {d : D} (h : ev (run G n) G.gl e ρ [] = .ok d []) {S : Sto} (hp : plainS S = true) : ev (run G n) G.gl e ρ S = .ok d S := by
  have q := (nice_ev (nice_run G n) (gl := G.gl) e ρ).fr S hp
  rw [h] at q
  exact q rfl
theorem exL_any {G : Prg} {n : Nat} {l : List Sm} {ρ : Env} {d : D} (h : exL (run G n) G.gl l ρ [] = .rt d []) {S : Sto} (hp : plainS S = true) : exL (run G n) G.gl l ρ S = .rt d S := by
  have q := (nice_exL (nice_run G n) (gl := G.gl) l ρ).fr S hp
  rw [h] at q
  exact q rfl
end SF

set_option maxHeartbeats 200000
set_option Elab.async false
set_option linter.all false
set_option maxRecDepth 100000
/-! Stepping through own trees: equations, loops, data. -/
namespace SF.M
open PySem SF

/-- a lambda with its names, parameters first, then what it captures -/
abbrev LamU := Lm × List PySem.Str
theorem run_df {G : Prg} {n i np nN : Nat} {body : List Sm} {ds : List D} {S : Sto} (h : G.defs[i]? = some (.df np nN body)) (hl : ds.length = np) : run G (n + 1) (.fn i) ds S = endO (exL (run G n) G.gl body (startE nN ds) S) := by
  simp only [run, h, if_pos hl]
theorem runM_clo {G : Prg} {n i : Nat} {m : Lm} {env ds : List D} {S : Sto} (h : G.lams[i]? = some m) (h1 : ds.length = m.np) (h2 : env.length = m.nc) (h3 : rkL ds = 0) (h4 : plainS S = true) : run G (n + 1) (.clo i env) ds S = ev (run G n) G.gl m.body (startE m.nN (ds ++ env)) S := by
  simp only [run, h]
  rw [if_pos ⟨h1, h2, h3, h4⟩]
theorem bind_ok {α β : Type} (a : α) (S : Sto) (f : α → Sto → Res β) : (Res.ok a S).bind f = f a S := rfl
theorem bind_exc {α β : Type} (c : Nat) (S : Sto) (f : α → Sto → Res β) : (Res.exc c S : Res α).bind f = .exc c S := rfl
theorem bind_stuck {α β : Type} (f : α → Sto → Res β) : (Res.stuck : Res α).bind f = .stuck := rfl
theorem cm_ok {α : Type} (a : α) (S : Sto) : (Res.ok a S).calm = .ok a S := rfl
theorem lift_ok {α : Type} (a : α) (S : Sto) (ρ : Env) (f : α → Sto → Out) : lift (.ok a S) ρ f = f a S := rfl
theorem lift_exc {α : Type} (c : Nat) (S : Sto) (ρ : Env) (f : α → Sto → Out) : lift (.exc c S : Res α) ρ f = .exc c ρ S := rfl
theorem ofM_some (d : D) (S : Sto) : ofO (some d) S = .ok d S := rfl
theorem endO_rt (d : D) (S : Sto) : endO (.rt d S) = .ok d S := rfl
theorem endO_nx (ρ : Env) (S : Sto) : endO (.nx ρ S) = .ok .non S := rfl
theorem endO_exc (c : Nat) (ρ : Env) (S : Sto) : endO (.exc c ρ S) = .exc c S := rfl
theorem bM_some (b : Bool) : bO (some b) = some (.bl b) := rfl
theorem nB_some (b : Bool) : nB (some b) = some (!b) := rfl
theorem startE_def (n : Nat) (ds : List D) : startE n ds = ds.map some ++ List.replicate (n - ds.length) none := rfl
theorem lineM {n : Nat} (h : n ≤ 100000) : line n = true := decide_eq_true h
section
variable (a b : D) (S : Sto)
theorem p_add : prim .add [a, b] S = ofO (pAdd S a b) S := rfl
theorem p_sub : prim .sub [a, b] S = ofO (pSub a b) S := rfl
theorem p_mul : prim .mul [a, b] S = ofO (pMul a b) S := rfl
theorem p_fdiv : prim .fdiv [a, b] S = ofO (pDiv a b) S := rfl
theorem p_mod : prim .mod [a, b] S = ofO (pMod a b) S := rfl
theorem p_pow : prim .pow [a, b] S = ofO (pPow a b) S := rfl
theorem p_neg (i : Int) : prim .neg [.int i] S = .ok (.int (-i)) S := rfl
theorem p_not : prim .not [a] S = ofO (bO (nB (truth S a))) S := rfl
theorem p_eq : prim .eq [a, b] S = ofO (bO (eqD S a b)) S := rfl
theorem p_ne : prim .ne [a, b] S = ofO (bO (nB (eqD S a b))) S := rfl
theorem p_lt : prim .lt [a, b] S = ofO (bO (ltD a b)) S := rfl
theorem p_gt : prim .gt [a, b] S = ofO (bO (gtI a b)) S := rfl
theorem p_le : prim .le [a, b] S = ofO (bO (leD a b)) S := rfl
theorem p_ge : prim .ge [a, b] S = ofO (bO (geI a b)) S := rfl
theorem p_isN : prim .isN [a] S = .ok (.bl (isNon a)) S := rfl
theorem p_notN : prim .notN [a] S = .ok (.bl (!isNon a)) S := rfl
theorem p_isB (x y : Bool) : prim .isB [.bl x, .bl y] S = .ok (.bl (x == y)) S := rfl
theorem p_notB (x y : Bool) : prim .notB [.bl x, .bl y] S = .ok (.bl (x != y)) S := rfl
theorem p_in : prim .in_ [a, b] S = ofO (bO (inD S a b)) S := rfl
theorem p_nin : prim .nin [a, b] S = ofO (bO (nB (inD S a b))) S := rfl
theorem p_tup (l : List D) (h : l.length ≤ 100000) : prim .tup l S = .ok (.tup l) S := by
  show (if line l.length then Res.ok (D.tup l) S else .stuck) = _
  rw [if_pos (lineM h)]
theorem p_lst (l : List D) (h : l.length ≤ 100000) : prim .lst l S = .ok (.lst l) S := by
  show (if line l.length then Res.ok (D.lst l) S else .stuck) = _
  rw [if_pos (lineM h)]
theorem p_newl (l : List D) (h : l.length ≤ 100000) : prim .newl l S = .ok (.ref S.length) (S ++ [.lst l]) := by
  show (if line l.length then Res.ok (D.ref S.length) (S ++ [.lst l]) else .stuck) = _
  rw [if_pos (lineM h)]
theorem p_ixT (l : List D) (i : Int) : prim .ix [.tup l, .int i] S = ofO (L2.atI l i) S := rfl
theorem p_ixL (l : List D) (i : Int) : prim .ix [.lst l, .int i] S = ofO (L2.atI l i) S := rfl
theorem p_ixS (l : List Int) (i : Int) : prim .ix [.scr l, .int i] S = ofO ((L2.atI l i).map .int) S := rfl
theorem p_ixR (n : Nat) (i : Int) : prim .ix [.ref n, .int i] S = ofO ((lstOf S (.ref n)).bind fun l => L2.atI l i) S := rfl
theorem p_lenT (l : List D) : prim .len [.tup l] S = .ok (.int l.length) S := rfl
theorem p_lenL (l : List D) : prim .len [.lst l] S = .ok (.int l.length) S := rfl
theorem p_lenS (l : List Int) : prim .len [.scr l] S = .ok (.int l.length) S := rfl
theorem p_lenX (s : PySem.Str) (h : s.length ≤ 100000) : prim .len [.str s] S = .ok (.int s.length) S := by
  show (if line s.length then Res.ok (D.int s.length) S else .stuck) = _
  rw [if_pos (lineM h)]
theorem p_abs (i : Int) : prim .abs [.int i] S = .ok (.int (if i < 0 then -i else i)) S := rfl
theorem p_min2 (i j : Int) : prim .min2 [.int i, .int j] S = .ok (.int (if j < i then j else i)) S := rfl
theorem p_max2 (i j : Int) : prim .max2 [.int i, .int j] S = .ok (.int (if j > i then j else i)) S := rfl
theorem p_sum (l : List D) : prim .sum [.lst l] S = ofO ((intsOf l).map fun x => .int x.sum) S := rfl
theorem p_max1 (l : List D) : prim .max1 [.lst l] S = ofO ((intsOf l).bind fun x => if x.isEmpty then none else some (.int (maxL x))) S := rfl
theorem p_min1 (l : List D) : prim .min1 [.lst l] S = ofO ((intsOf l).bind fun x => if x.isEmpty then none else some (.int (minL x))) S := rfl
theorem p_any (l : List D) : prim .any [.lst l] S = ofO ((blsOf l).map fun x => .bl (x.any id)) S := rfl
theorem p_all (l : List D) : prim .all [.lst l] S = ofO ((blsOf l).map fun x => .bl (x.all id)) S := rfl
theorem p_int (i : Int) : prim .int_ [.int i] S = .ok (.int i) S := rfl
theorem p_strI (i : Int) (h : i.natAbs < 2 ^ 1900) : prim .str_ [.int i] S = .ok (.str (PySem.Str.ofString (toString i))) S := by
  show (if i.natAbs < 2 ^ 1900 then Res.ok (D.str (PySem.Str.ofString (toString i))) S else .stuck) = _
  rw [if_pos h]
theorem p_strB (x : Bool) : prim .str_ [.bl x] S = .ok (.str (if x then "True" else "False")) S := rfl
theorem p_tupleL (l : List D) : prim .tuple_ [.lst l] S = .ok (.tup l) S := rfl
theorem p_tupleT (l : List D) : prim .tuple_ [.tup l] S = .ok (.tup l) S := rfl
theorem p_listL (l : List D) : prim .list_ [.lst l] S = .ok (.lst l) S := rfl
theorem p_listT (l : List D) : prim .list_ [.tup l] S = .ok (.lst l) S := rfl
theorem p_sortset (l : List D) (h : l.length ≤ 30) : prim .sortset [.tup l] S = ofO ((pairs l).map fun x => .lst (unpairs (sortP x))) S := by
  show (if l.length ≤ 30 then ofO ((pairs l).map fun x => D.lst (unpairs (sortP x))) S else .stuck) = _
  rw [if_pos h]
theorem p_isi (t : Ty) (d : D) : prim (.isi t) [d] S = ofO (bO (isTy t d)) S := rfl
theorem p_rev (l : List D) : prim .rev [.lst l] S = .ok (.lst l.reverse) S := rfl
theorem p_upper (s : PySem.Str) (h : s.length ≤ 100000) : prim .upper [.str s] S = .ok (.str (Txt.upper s)) S := by
  show (if line s.length then Res.ok (D.str (Txt.upper s)) S else .stuck) = _
  rw [if_pos (lineM h)]
end
theorem atI0 {α : Type} (a : α) (l : List α) : L2.atI (a :: l) 0 = some a := L2.atI_nat (j := 0) rfl
theorem atI1 {α : Type} (a b : α) (l : List α) : L2.atI (a :: b :: l) 1 = some b := L2.atI_nat (j := 1) rfl
theorem atI2 {α : Type} (a b c : α) (l : List α) : L2.atI (a :: b :: c :: l) 2 = some c := L2.atI_nat (j := 2) rfl
theorem eq_int (S : Sto) (i j : Int) : eqD S (.int i) (.int j) = some (i == j) := by
  simp [eqD, topPy, toPy, SeqAt.shaped, PyData.canLay0, PyData.depth, PyData.eqv]
theorem eq_bool (S : Sto) (i j : Bool) : eqD S (.bl i) (.bl j) = some (i == j) := by
  simp [eqD, topPy, toPy, SeqAt.shaped, PyData.canLay0, PyData.depth, PyData.eqv]
theorem pMul_r {i j : Int} (h : -9223372036854775808 < j ∧ j < 9223372036854775808) : pMul (.int i) (.int j) = some (.int (i * j)) := by
  have e : mulOk i j = true := by
    unfold mulOk
    have : j.natAbs < 2 ^ 63 := by omega
    simp only [Bool.or_eq_true, decide_eq_true_eq]
    exact .inl (.inr this)
  show (if mulOk i j then some (D.int (i * j)) else none) = _
  rw [if_pos e]
theorem pMul_l {i j : Int} (h : -9223372036854775808 < i ∧ i < 9223372036854775808) : pMul (.int i) (.int j) = some (.int (i * j)) := by
  have e : mulOk i j = true := by
    unfold mulOk
    have : i.natAbs < 2 ^ 63 := by omega
    simp only [Bool.or_eq_true, decide_eq_true_eq]
    exact .inl (.inl this)
  show (if mulOk i j then some (D.int (i * j)) else none) = _
  rw [if_pos e]
theorem lt_2_4000 {j : Int} (h : j < 9223372036854775808) : j < 2 ^ 4000 := by
  have e : (2 : Nat) ^ 63 ≤ 2 ^ 4000 := Nat.pow_le_pow_right (by decide) (by decide)
  have e2 : (2 : Nat) ^ 63 = 9223372036854775808 := by decide
  rw [e2] at e
  have e3 : ((9223372036854775808 : Nat) : Int) ≤ ((2 ^ 4000 : Nat) : Int) := Int.ofNat_le.mpr e
  rw [Int.natCast_pow] at e3
  exact Int.lt_of_lt_of_le h e3
theorem pDiv_ok {i j : Int} (h : 0 < j ∧ j < 9223372036854775808) : pDiv (.int i) (.int j) = some (.int (i / j)) := by
  have e : (decide (0 < j) && decide (j < 2 ^ 4000)) = true := by
    simp only [Bool.and_eq_true, decide_eq_true_eq]
    exact ⟨h.1, lt_2_4000 h.2⟩
  show (if (decide (0 < j) && decide (j < 2 ^ 4000)) = true then some (D.int (i / j)) else none) = _
  rw [if_pos e]
theorem pMod_ok {i j : Int} (h : 0 < j) : pMod (.int i) (.int j) = some (.int (i % j)) := by
  show (if 0 < j then some (D.int (i % j)) else none) = _
  rw [if_pos h]
theorem lst_ref {S : Sto} {r : Nat} {l : List D} (h : S[r]? = some (.lst l)) : lstOf S (.ref r) = some l := by
  simp only [lstOf, h]
theorem set0 {S : Sto} {r : Nat} {x y v : D} (h : S[r]? = some (.lst [x, y])) : setLst S (.ref r) (.int 0) v = some (S.set r (.lst [v, y])) := by
  simp only [setLst, h]
  rfl
theorem set1 {S : Sto} {r : Nat} {x y v : D} (h : S[r]? = some (.lst [x, y])) : setLst S (.ref r) (.int 1) v = some (S.set r (.lst [x, v])) := by
  simp only [setLst, h]
  rfl
theorem plain_set {S : Sto} {r : Nat} {o : Ob} (h : plainS S = true) (ho : rkO o = 0) : plainS (S.set r o) = true := by
  unfold plainS at h ⊢
  rw [List.all_eq_true] at h ⊢
  intro x hx
  rcases List.mem_or_eq_of_mem_set hx with h1 | h1
  · exact h x h1
  · subst h1; simp [ho]
theorem plain_app {S : Sto} {o : Ob} (h : plainS S = true) (ho : rkO o = 0) : plainS (S ++ [o]) = true := by
  unfold plainS at h ⊢
  rw [List.all_append, h]
  simp [ho]
/-- a vat: what draws come from -/
structure Vat (S : Sto) (r : Nat) : Prop where
  pl : plainS S = true
  at' : ∃ a b : Int, S[r]? = some (.lst [.int a, .int b]) ∧ 0 ≤ a ∧ 0 ≤ b ∧ b ≤ 2147483629
theorem Vat.set {S : Sto} {r : Nat} (v : Vat S r) {a b : Int} (h1 : 0 ≤ a) (h2 : 0 ≤ b) (h3 : b ≤ 2147483629) : Vat (S.set r (.lst [.int a, .int b])) r := by
  obtain ⟨p, a', b', e, _⟩ := v
  refine ⟨plain_set p (by rfl), a, b, ?_, h1, h2, h3⟩
  exact List.getElem?_set_self (List.getElem?_eq_some_iff.mp e).1
theorem set_twice (S : Sto) (r : Nat) (o o' : Ob) : (S.set r o).set r o' = S.set r o' := List.set_set ..
theorem tr_non (S : Sto) : truth S .non = some false := rfl
theorem tr_bl (S : Sto) (b : Bool) : truth S (.bl b) = some b := rfl
theorem tr_int (S : Sto) (i : Int) : truth S (.int i) = some (i != 0) := rfl
theorem tr_tup (S : Sto) (l : List D) : truth S (.tup l) = some (!l.isEmpty) := rfl
theorem tr_lst (S : Sto) (l : List D) : truth S (.lst l) = some (!l.isEmpty) := rfl
theorem ty_non (t : Ty) : isTy t .non = some false := rfl
theorem ty_bl (t : Ty) (b : Bool) : isTy t (.bl b) = some (decide (t = .int ∨ t = .bool)) := rfl
theorem ty_int (t : Ty) (b : Int) : isTy t (.int b) = some (decide (t = .int)) := rfl
theorem ty_str (t : Ty) (b : PySem.Str) : isTy t (.str b) = some (decide (t = .str)) := rfl
theorem ty_tup (t : Ty) (b : List D) : isTy t (.tup b) = some (decide (t = .tuple)) := rfl
theorem ty_lst (t : Ty) (b : List D) : isTy t (.lst b) = some false := rfl
theorem it_seqL (l : List D) : items .seq [.lst l] = some l := rfl
theorem it_seqT (l : List D) : items .seq [.tup l] = some l := rfl
theorem im_zipL (l m : List D) : items .zip [.lst l, .lst m] = some (zipD l m) := rfl
theorem im_zipT (l m : List D) : items .zip [.tup l, .tup m] = some (zipD l m) := rfl
theorem im_enumL (l : List D) : items .enum [.lst l] = some (enumFrom 0 l) := rfl
theorem im_enumT (l : List D) : items .enum [.tup l] = some (enumFrom 0 l) := rfl
theorem smM {i : Int} (h : -4611686018427387904 ≤ i ∧ i < 4611686018427387904) : small i = true := by
  have e : (2 : Int) ^ 62 = 4611686018427387904 := by decide
  unfold small
  rw [e]
  simp only [Bool.and_eq_true, decide_eq_true_eq]
  exact h
theorem im_r1 {i : Int} (h : -4611686018427387904 ≤ i ∧ i < 4611686018427387904) : items .r1 [.int i] = some (rangeD 0 1 i.toNat) := by
  show (if small i then some (rangeD 0 1 i.toNat) else none) = _
  rw [if_pos (smM h)]
theorem im_r2 {i j : Int} (h : -4611686018427387904 ≤ i ∧ i < 4611686018427387904) (h2 : -4611686018427387904 ≤ j ∧ j < 4611686018427387904) : items .r2 [.int i, .int j] = some (rangeD i 1 (j - i).toNat) := by
  show (if small i && small j then some (rangeD i 1 (j - i).toNat) else none) = _
  rw [smM h, smM h2]
  rfl
theorem sl_tup (l : List D) (lo hi : Option Int) : pSl (.tup l) lo hi = some (.tup (cutD l lo hi)) := rfl
theorem sl_lst (l : List D) (lo hi : Option Int) : pSl (.lst l) lo hi = some (.lst (cutD l lo hi)) := rfl
/-- a comprehension whose turns change nothing -/
theorem lc_pure {turn : D → Sto → Res (Option D)} {g : D → Option D} {S : Sto} : ∀ (xs : List D), (∀ x ∈ xs, turn x S = .ok (g x) S) → lcLoop turn xs S = .ok (xs.filterMap g) S
  | [], _ => rfl
  | x :: xs, h => by
    simp only [lcLoop, h x List.mem_cons_self, bind_ok, lc_pure xs (fun y hy => h y (List.mem_cons_of_mem _ hy))]
    cases hg : g x <;> simp [List.filterMap_cons, hg]
theorem lc2_pure {turn : D → Sto → Res (List D)} {g : D → List D} {S : Sto} : ∀ (xs : List D), (∀ x ∈ xs, turn x S = .ok (g x) S) → lc2Loop turn xs S = .ok (xs.flatMap g) S
  | [], _ => rfl
  | x :: xs, h => by
    simp only [lc2Loop, h x List.mem_cons_self, bind_ok, lc2_pure xs (fun y hy => h y (List.mem_cons_of_mem _ hy)), List.flatMap_cons]
theorem lc_map {turn : D → Sto → Res (Option D)} {g : D → D} {S : Sto} (xs : List D) (h : ∀ x ∈ xs, turn x S = .ok (some (g x)) S) : lcLoop turn xs S = .ok (xs.map g) S := by
  rw [lc_pure (g := fun x => some (g x)) xs h, List.filterMap_eq_map']
theorem lc_fil {turn : D → Sto → Res (Option D)} {c : D → Bool} {g : D → D} {S : Sto} (xs : List D) (h : ∀ x ∈ xs, turn x S = .ok (if c x then some (g x) else none) S) : lcLoop turn xs S = .ok ((xs.filter c).map g) S := by
  rw [lc_pure xs h]
  congr 1
  induction xs with
  | nil => rfl
  | cons x xs ih =>
    have ih := ih fun y hy => h y (List.mem_cons_of_mem _ hy)
    cases hc : c x <;> simp [List.filterMap_cons, List.filter_cons, hc, ih]
theorem bls_map {α : Type} (xs : List α) (g : α → Bool) : blsOf (xs.map fun x => .bl (g x)) = some (xs.map g) := by
  induction xs with
  | nil => rfl
  | cons x xs ih => simp only [List.map_cons, blsOf, ih, Option.map_some]
theorem ints_map {α : Type} (xs : List α) (g : α → Int) : intsOf (xs.map fun x => .int (g x)) = some (xs.map g) := by
  induction xs with
  | nil => rfl
  | cons x xs ih => simp only [List.map_cons, intsOf, ih, Option.map_some]
/-- a for, by what holds ahead of each turn -/
theorem for_inv {t : Tg} {body : Env → Sto → Out} {I : List D → Env → Sto → Prop} {Q : Out → Prop} (step : ∀ x xs ρ S, I (x :: xs) ρ S → ∃ ρ1, bindT t x ρ = some ρ1 ∧ ((∃ ρ2 S2, body ρ1 S = .nx ρ2 S2 ∧ I xs ρ2 S2) ∨ ((∀ ρ2 S2, body ρ1 S ≠ .nx ρ2 S2) ∧ Q (body ρ1 S)))) (last : ∀ ρ S, I [] ρ S → Q (.nx ρ S)) :
    ∀ xs ρ S, I xs ρ S → Q (forLoop t body xs ρ S)
  | [], ρ, S, h => last ρ S h
  | x :: xs, ρ, S, h => by
    obtain ⟨ρ1, e1, h2⟩ := step x xs ρ S h
    simp only [forLoop, e1]
    rcases h2 with ⟨ρ2, S2, e2, h3⟩ | ⟨hn, hq⟩
    · rw [e2]
      exact for_inv step last xs ρ2 S2 h3
    · cases hb : body ρ1 S with
      | nx ρ2 S2 => exact absurd hb (hn ρ2 S2)
      | rt d S2 => rw [hb] at hq; exact hq
      | exc c ρ2 S2 => rw [hb] at hq; exact hq
      | stuck => rw [hb] at hq; exact hq
/-- a for all of whose turns go on -/
theorem for_go {t : Tg} {body : Env → Sto → Out} {I : List D → Env → Sto → Prop} (step : ∀ x xs ρ S, I (x :: xs) ρ S → ∃ ρ1, bindT t x ρ = some ρ1 ∧ ∃ ρ2 S2, body ρ1 S = .nx ρ2 S2 ∧ I xs ρ2 S2) : ∀ xs ρ S, I xs ρ S → ∃ ρ2 S2, forLoop t body xs ρ S = .nx ρ2 S2 ∧ I [] ρ2 S2
  | [], ρ, S, h => ⟨ρ, S, rfl, h⟩
  | x :: xs, ρ, S, h => by
    obtain ⟨ρ1, e1, ρ2, S2, e2, h3⟩ := step x xs ρ S h
    obtain ⟨ρ3, S3, e3, h4⟩ := for_go step xs ρ2 S2 h3
    exact ⟨ρ3, S3, by simp only [forLoop, e1, e2, e3], h4⟩
theorem rd_go {I : Nat → Env → Sto → Prop} {t : Tg} {body : Env → Sto → Out} (N : Nat) (step : ∀ i ρ S, i < N → I i ρ S → ∃ ρ1, bindT t (.int i) ρ = some ρ1 ∧ ∃ ρ2 S2, body ρ1 S = .nx ρ2 S2 ∧ I (i + 1) ρ2 S2) (ρ : Env) (S : Sto) (h : I 0 ρ S) : ∃ ρ2 S2, forLoop t body (rangeD 0 1 N) ρ S = .nx ρ2 S2 ∧ I N ρ2 S2 := by
  have key : ∀ (m j : Nat) (ρ : Env) (S : Sto), j + m = N → I j ρ S → ∃ ρ2 S2, forLoop t body ((List.range' j m).map fun i => D.int (i : Nat)) ρ S = .nx ρ2 S2 ∧ I (j + m) ρ2 S2 := by
    intro m
    induction m with
    | zero => exact fun j ρ S _ h => ⟨ρ, S, rfl, h⟩
    | succ m ih =>
      intro j ρ S e h
      obtain ⟨ρ1, e1, ρ2, S2, e2, h2⟩ := step j ρ S (by omega) h
      obtain ⟨ρ3, S3, e3, h3⟩ := ih (j + 1) ρ2 S2 (by omega) h2
      refine ⟨ρ3, S3, ?_, by rw [show j + (m + 1) = j + 1 + m by omega]; exact h3⟩
      rw [List.range'_succ, List.map_cons]
      simp only [forLoop, e1, e2, e3]
  have e : rangeD 0 1 N = (List.range' 0 N).map fun i => D.int (i : Nat) := by
    unfold rangeD
    rw [List.range_eq_range']
    apply List.map_congr_left
    intro i _
    simp
  rw [e]
  have := key N 0 ρ S (by omega) h
  rwa [Nat.zero_add] at this
theorem rd_inv {I : Nat → Env → Sto → Prop} {Q : Out → Prop} {t : Tg} {body : Env → Sto → Out} (N : Nat) (step : ∀ i ρ S, i < N → I i ρ S → ∃ ρ1, bindT t (.int i) ρ = some ρ1 ∧ ((∃ ρ2 S2, body ρ1 S = .nx ρ2 S2 ∧ I (i + 1) ρ2 S2) ∨ ((∀ ρ2 S2, body ρ1 S ≠ .nx ρ2 S2) ∧ Q (body ρ1 S)))) (last : ∀ ρ S, I N ρ S → Q (.nx ρ S)) (ρ : Env) (S : Sto) (h : I 0 ρ S) : Q (forLoop t body (rangeD 0 1 N) ρ S) := by
  have key : ∀ (m j : Nat) (ρ : Env) (S : Sto), j + m = N → I j ρ S → Q (forLoop t body ((List.range' j m).map fun i => D.int (i : Nat)) ρ S) := by
    intro m
    induction m with
    | zero => exact fun j ρ S e h => last ρ S (by rw [← e]; exact h)
    | succ m ih =>
      intro j ρ S e h
      obtain ⟨ρ1, e1, h2⟩ := step j ρ S (by omega) h
      rw [List.range'_succ, List.map_cons]
      simp only [forLoop, e1]
      rcases h2 with ⟨ρ2, S2, e2, h2⟩ | ⟨hn, hq⟩
      · rw [e2]
        exact ih (j + 1) ρ2 S2 (by omega) h2
      · cases hb : body ρ1 S with
        | nx ρ2 S2 => exact absurd hb (hn ρ2 S2)
        | rt d S2 => rw [hb] at hq; exact hq
        | exc c ρ2 S2 => rw [hb] at hq; exact hq
        | stuck => rw [hb] at hq; exact hq
  have e : rangeD 0 1 N = (List.range' 0 N).map fun i => D.int (i : Nat) := by
    unfold rangeD
    rw [List.range_eq_range']
    apply List.map_congr_left
    intro i _
    simp
  rw [e]
  exact key N 0 ρ S (by omega) h
section
variable (call : D → List D → Sto → Res D) (gl : List D) (ρ : Env) (S : Sto)
theorem ev_var (i : Nat) : ev call gl (.var i) ρ S = match ρ[i]? with
  | some (some d) => .ok d S
  | _ => .stuck := by rw [ev] <;> rfl
theorem ev_non : ev call gl .non ρ S = .ok .non S := by rw [ev] <;> rfl
theorem ev_bl (b : Bool) : ev call gl (.bl b) ρ S = .ok (.bl b) S := by rw [ev] <;> rfl
theorem ev_int (i : Int) : ev call gl (.int i) ρ S = .ok (.int i) S := by rw [ev] <;> rfl
theorem ev_str (x : PySem.Str) : ev call gl (.str x) ρ S = .ok (.str x) S := by rw [ev] <;> rfl
theorem ev_g (k : Nat) : ev call gl (.g k) ρ S = ofO gl[k]? S := by rw [ev] <;> rfl
theorem ev_pr (p : Pr) (l : List E) : ev call gl (.pr p l) ρ S = (evL call gl l ρ S).bind (prim p) := by rw [ev] <;> rfl
theorem ev_sl (a : E) (lo hi : List E) : ev call gl (.sl a lo hi) ρ S = (ev call gl a ρ S).bind fun d S1 => (evI call gl lo ρ S1).bind fun i S2 => (evI call gl hi ρ S2).bind fun j S3 => ofO (pSl d i j) S3 := by rw [ev] <;> rfl
theorem ev_and (a b : E) : ev call gl (.and a b) ρ S = (ev call gl a ρ S).bind fun d S1 => match truth S1 d with
    | some true => ev call gl b ρ S1
    | some false => .ok d S1
    | none => .stuck := by rw [ev] <;> rfl
theorem ev_or (a b : E) : ev call gl (.or a b) ρ S = (ev call gl a ρ S).bind fun d S1 => match truth S1 d with
    | some true => .ok d S1
    | some false => ev call gl b ρ S1
    | none => .stuck := by rw [ev] <;> rfl
theorem ev_ifx (c a b : E) : ev call gl (.ifx c a b) ρ S = (ev call gl c ρ S).bind fun d S1 => match truth S1 d with
    | some true => ev call gl a ρ S1
    | some false => ev call gl b ρ S1
    | none => .stuck := by rw [ev] <;> rfl
theorem ev_chain (p q : Pr) (a b c : E) : ev call gl (.chain p q a b c) ρ S = (ev call gl a ρ S).bind fun x S1 => (ev call gl b ρ S1).bind fun y S2 => (prim p [x, y] S2).bind fun z S3 => match z with
    | .bl true => (ev call gl c ρ S3).bind fun u S4 => prim q [y, u] S4
    | .bl false => .ok (.bl false) S3
    | _ => .stuck := by rw [ev] <;> rfl
theorem ev_call (f : Nat) (l : List E) : ev call gl (.call f l) ρ S = (evL call gl l ρ S).bind fun ds S1 => call (.fn f) ds S1 := by rw [ev] <;> rfl
theorem ev_cv (e : E) (l : List E) : ev call gl (.cv e l) ρ S = (ev call gl e ρ S).bind fun f S1 => (evL call gl l ρ S1).calm.bind fun ds S2 => call f ds S2 := by rw [ev] <;> rfl
theorem ev_nil : evL call gl [] ρ S = .ok [] S := by rw [evL] <;> rfl
theorem ev_cons (e : E) (l : List E) : evL call gl (e :: l) ρ S = (ev call gl e ρ S).bind fun d S1 => (evL call gl l ρ S1).bind fun ds S2 => .ok (d :: ds) S2 := by rw [evL] <;> rfl
theorem evI_nil : evI call gl [] ρ S = .ok none S := by rw [evI] <;> rfl
theorem evI_one (c : E) : evI call gl [c] ρ S = (ev call gl c ρ S).bind fun d S1 => match d with
    | .int i => .ok (some i) S1
    | _ => .stuck := by rw [evI] <;> rfl
theorem ev_lam (i : Nat) (caps : List Nat) : ev call gl (.lam i caps) ρ S = match caps.mapM fun j => ρ[j]?.join with
    | some env => .ok (.clo i env) S
    | none => .stuck := by rw [ev] <;> rfl
theorem bT_v (i : Nat) (d : D) : bindT (.v i) d ρ = if i < ρ.length then some (ρ.set i (some d)) else none := by rw [bindT] <;> rfl
theorem bT_t (ts : List Tg) (l : List D) : bindT (.t ts) (.tup l) ρ = bindL ts l ρ := by rw [bindT] <;> rfl
theorem bT_u (ts : List Tg) (l : List D) : bindT (.u ts) (.lst l) ρ = bindL ts l ρ := by rw [bindT] <;> rfl
theorem bL_nil : bindL [] [] ρ = some ρ := by rw [bindL] <;> rfl
theorem bL_cons (t : Tg) (ts : List Tg) (d : D) (l : List D) : bindL (t :: ts) (d :: l) ρ = match bindT t d ρ with
  | some ρ1 => bindL ts l ρ1
  | none => none := by rw [bindL] <;> rfl
theorem wp_nil : wipe ρ [] = ρ := by rw [wipe] <;> rfl
theorem wp_cons (v : Nat) (vs : List Nat) : wipe ρ (v :: vs) = (wipe ρ vs).set v none := by rw [wipe] <;> rfl
variable {call gl ρ} in
/-- a comprehension without a test whose turns change nothing -/
theorem ev_lc0 {own : List Nat} {k : ItK} {its : List E} {t : Tg} {elt : E} {ds xs : List D} {g : D → D} {S : Sto} (h1 : evL call gl its ρ S = .ok ds S) (h2 : items k ds = some xs) (h3 : ∀ x ∈ xs, ∃ ρ1, bindT t x (wipe ρ own) = some ρ1 ∧ ev call gl elt ρ1 S = .ok (g x) S) (h4 : xs.length ≤ 100000) :
    ev call gl (.lc own k its t [] elt) ρ S = .ok (.lst (xs.map g)) S := by
  rw [ev, h1]
  simp only [bind_ok, h2]
  rw [lc_map (g := g) xs fun x hx => ?_]
  · simp only [bind_ok, List.length_map]
    rw [if_pos (lineM h4)]
  · obtain ⟨ρ1, e1, e2⟩ := h3 x hx
    simp only [e1, evC, cm_ok, bind_ok, e2, if_true]
variable {call gl ρ} in
/-- a comprehension with a test whose turns change nothing -/
theorem ev_lc1 {own : List Nat} {k : ItK} {its : List E} {t : Tg} {cnd elt : E} {ds xs : List D} {c : D → Bool} {g : D → D} {S : Sto} (h1 : evL call gl its ρ S = .ok ds S) (h2 : items k ds = some xs) (h3 : ∀ x ∈ xs, ∃ ρ1, bindT t x (wipe ρ own) = some ρ1 ∧ ev call gl cnd ρ1 S = .ok (.bl (c x)) S ∧ (c x = true → ev call gl elt ρ1 S = .ok (g x) S)) (h4 : xs.length ≤ 100000) :
    ev call gl (.lc own k its t [cnd] elt) ρ S = .ok (.lst ((xs.filter c).map g)) S := by
  rw [ev, h1]
  simp only [bind_ok, h2]
  rw [lc_fil (c := c) (g := g) xs fun x hx => ?_]
  · simp only [bind_ok]
    rw [if_pos (lineM (Nat.le_trans (by rw [List.length_map]; exact List.length_filter_le ..) h4))]
  · obtain ⟨ρ1, e1, e2, e3⟩ := h3 x hx
    cases hc : c x with
    | false =>
      rw [hc] at e2
      simp only [e1, evC, e2, bind_ok, cm_ok, truth]
      rfl
    | true =>
      rw [hc] at e2
      simp only [e1, evC, e2, bind_ok, cm_ok, truth, e3 hc, if_true]
variable {call gl ρ} in
/-- the same over typed things -/
theorem ev_lcT {α : Type} {own : List Nat} {k : ItK} {its : List E} {t : Tg} {elt : E} {ds : List D} {l : List α} {f g : α → D} {S : Sto} (h1 : evL call gl its ρ S = .ok ds S) (h2 : items k ds = some (l.map f)) (h3 : ∀ a ∈ l, ∃ ρ1, bindT t (f a) (wipe ρ own) = some ρ1 ∧ ev call gl elt ρ1 S = .ok (g a) S) (h4 : l.length ≤ 100000) :
    ev call gl (.lc own k its t [] elt) ρ S = .ok (.lst (l.map g)) S := by
  rw [ev, h1]
  simp only [bind_ok, h2]
  have e : ∀ turn : D → Sto → Res (Option D), (∀ a ∈ l, turn (f a) S = .ok (some (g a)) S) → lcLoop turn (l.map f) S = .ok (l.map g) S := fun turn ht => by
    clear h2 h3 h4
    induction l with
    | nil => rfl
    | cons a l ih =>
      simp only [List.map_cons, lcLoop, ht a List.mem_cons_self, bind_ok, ih fun b hb => ht b (List.mem_cons_of_mem _ hb)]
      rfl
  rw [e _ fun a ha => ?_]
  · simp only [bind_ok, List.length_map]
    rw [if_pos (lineM h4)]
  · obtain ⟨ρ1, e1, e2⟩ := h3 a ha
    simp only [e1, evC, cm_ok, bind_ok, e2, if_true]
variable {call gl ρ} in
theorem ev_lcF {α : Type} {own : List Nat} {k : ItK} {its : List E} {t : Tg} {cnd elt : E} {ds : List D} {l : List α} {f g : α → D} {c : α → Bool} {S : Sto} (h1 : evL call gl its ρ S = .ok ds S) (h2 : items k ds = some (l.map f)) (h3 : ∀ a ∈ l, ∃ ρ1, bindT t (f a) (wipe ρ own) = some ρ1 ∧ ev call gl cnd ρ1 S = .ok (.bl (c a)) S ∧ (c a = true → ev call gl elt ρ1 S = .ok (g a) S)) (h4 : l.length ≤ 100000) :
    ev call gl (.lc own k its t [cnd] elt) ρ S = .ok (.lst ((l.filter c).map g)) S := by
  rw [ev, h1]
  simp only [bind_ok, h2]
  have e : ∀ turn : D → Sto → Res (Option D), (∀ a ∈ l, turn (f a) S = .ok (if c a then some (g a) else none) S) → lcLoop turn (l.map f) S = .ok ((l.filter c).map g) S := fun turn ht => by
    clear h2 h3 h4
    induction l with
    | nil => rfl
    | cons a l ih =>
      simp only [List.map_cons, lcLoop, ht a List.mem_cons_self, bind_ok, ih fun b hb => ht b (List.mem_cons_of_mem _ hb)]
      cases hc : c a <;> simp [List.filter_cons, hc]
  rw [e _ fun a ha => ?_]
  · simp only [bind_ok]
    rw [if_pos (lineM (Nat.le_trans (by rw [List.length_map]; exact List.length_filter_le ..) h4))]
  · obtain ⟨ρ1, e1, e2, e3⟩ := h3 a ha
    cases hc : c a with
    | false =>
      rw [hc] at e2
      simp only [e1, evC, e2, bind_ok, cm_ok, truth]
      rfl
    | true =>
      rw [hc] at e2
      simp only [e1, evC, e2, bind_ok, cm_ok, truth, e3 hc, if_true]
theorem ex_asg (t : Tg) (e : E) : ex call gl (.asg t e) ρ S = lift (ev call gl e ρ S) ρ fun d S1 => match bindT t d ρ with
    | some ρ1 => .nx ρ1 S1
    | none => .stuck := by rw [ex] <;> rfl
theorem ex_par2 (i j : Nat) (a b : E) : ex call gl (.par2 i j a b) ρ S = lift (evL call gl [a, b] ρ S) ρ fun ds S1 => match ds with
    | [x, y] => if decide (i < ρ.length) && decide (j < ρ.length) then .nx ((ρ.set i (some x)).set j (some y)) S1 else .stuck
    | _ => .stuck := by rw [ex] <;> rfl
theorem ex_par3 (i j k : Nat) (a b c : E) : ex call gl (.par3 i j k a b c) ρ S = lift (evL call gl [a, b, c] ρ S) ρ fun ds S1 => match ds with
    | [x, y, z] => if decide (i < ρ.length) && decide (j < ρ.length) && decide (k < ρ.length) then .nx (((ρ.set i (some x)).set j (some y)).set k (some z)) S1 else .stuck
    | _ => .stuck := by rw [ex] <;> rfl
theorem ex_setix (a i e : E) : ex call gl (.setix a i e) ρ S = lift (evL call gl [e, a, i] ρ S) ρ fun ds S1 => match ds with
    | [v, o, k] => (match setLst S1 o k v with
      | some S2 => .nx ρ S2
      | none => .stuck)
    | _ => .stuck := by rw [ex] <;> rfl
theorem ex_ex (e : E) : ex call gl (.ex e) ρ S = lift (ev call gl e ρ S) ρ fun _ S1 => .nx ρ S1 := by rw [ex] <;> rfl
theorem ex_ret (e : E) : ex call gl (.ret e) ρ S = lift (ev call gl e ρ S) ρ fun d S1 => .rt d S1 := by rw [ex] <;> rfl
theorem ex_retn : ex call gl .retn ρ S = .rt .non S := by rw [ex] <;> rfl
theorem ex_raise (c : Nat) (l : List E) : ex call gl (.raise c l) ρ S = lift (evL call gl l ρ S) ρ fun _ S1 => .exc c ρ S1 := by rw [ex] <;> rfl
theorem ex_ifs (c : E) (a b : List Sm) : ex call gl (.ifs c a b) ρ S = lift (ev call gl c ρ S) ρ fun d S1 => match truth S1 d with
    | some true => exL call gl a ρ S1
    | some false => exL call gl b ρ S1
    | none => .stuck := by rw [ex] <;> rfl
theorem ex_pass : ex call gl .pass ρ S = .nx ρ S := by rw [ex] <;> rfl
theorem ex_nil : exL call gl [] ρ S = .nx ρ S := by rw [exL] <;> rfl
theorem ex_cons (s : Sm) (l : List Sm) : exL call gl (s :: l) ρ S = match ex call gl s ρ S with
    | .nx ρ1 S1 => exL call gl l ρ1 S1
    | o => o := by rw [exL] <;> rfl
variable {call gl ρ} in
theorem ex_for {t : Tg} {k : ItK} {its : List E} {b : List Sm} {ds xs : List D} {S S1 : Sto} (h1 : evL call gl its ρ S = .ok ds S1) (h2 : items k ds = some xs) : ex call gl (.for_ t k its b) ρ S = forLoop t (exL call gl b) xs ρ S1 := by
  rw [ex, h1]
  simp only [lift, h2]
theorem ex_wh (c : E) (b : List Sm) : ex call gl (.wh c b) ρ S = whLoop (ev call gl c) (exL call gl b) fuelW ρ S := by rw [ex] <;> rfl
end

/-! ### data without references -/
mutual
def dat : D → Bool
  | .non => true
  | .bl _ => true
  | .int _ => true
  | .str _ => true
  | .tup l => datL l
  | .lst l => datL l
  | _ => false
def datL : List D → Bool
  | [] => true
  | d :: l => dat d && datL l
end
theorem datL_iff {l : List D} : datL l = true ↔ ∀ x ∈ l, dat x = true := by
  induction l with
  | nil => simp [datL]
  | cons a l ih => simp [datL, ih]
abbrev Pt := Int × Int
def dP (p : Pt) : D := .tup [.int p.1, .int p.2]
def dK (l : List Pt) : D := .tup (l.map dP)
def dM (m : List Pt × List Pt) : D := .tup [dK m.1, dK m.2]
theorem pairs_map : ∀ l : List Pt, pairs (l.map dP) = some l
  | [] => rfl
  | p :: l => by
    simp only [List.map_cons, dP, pairs]
    rw [pairs_map l]
    rfl
theorem pairs_some : ∀ {l : List D} {ps : List Pt}, pairs l = some ps → l = ps.map dP
  | [], ps, h => by simp only [pairs, Option.some.injEq] at h; subst h; rfl
  | x :: l, ps, h => by
    unfold pairs at h
    split at h
    · rename_i h1; cases h1
    · rename_i i j l' h1
      cases h1
      rw [Option.map_eq_some_iff] at h
      obtain ⟨a, ha, rfl⟩ := h
      rw [pairs_some ha]
      rfl
    · cases h
theorem unpairs_eq (l : List Pt) : unpairs l = l.map dP := rfl
theorem ltD_P (p q : Pt) : ltD (dP p) (dP q) = some (ltP p q) := by
  obtain ⟨a, b⟩ := p
  obtain ⟨c, d⟩ := q
  have e : ltD (dP (a, b)) (dP (c, d)) = some (HT.lexLt [a, b] [c, d]) := rfl
  rw [e]
  congr 1
  show (if a = c then (if b = d then false else decide (b < d)) else decide (a < c)) = (decide (a < c) || (decide (a = c) && decide (b < d)))
  by_cases h1 : a = c
  · subst h1
    by_cases h2 : b = d
    · subst h2; simp
    · simp [h2]
  · simp [h1]
abbrev Sml (x : Int) : Prop := -9223372036854775808 < x ∧ x < 9223372036854775808
def dF (f : Int × Int × Int) : D := .tup [.int f.1, .int f.2.1, .int f.2.2]
def partB (f : Int × Int × Int) (m : List Pt × List Pt) : Bool := (m.1.all fun p => decide (f.1 * p.1 + f.2.1 * p.2 < f.2.2)) && m.2.all fun p => decide (f.2.2 < f.1 * p.1 + f.2.1 * p.2)
def asc : List Pt → Bool
  | x :: y :: l => ltP x y && asc (y :: l)
  | _ => true
/-! ### whole numbers, pairs, kinds, marks, fences -/
def isW (lo hi : Int) : D → Bool
  | .int i => decide (lo ≤ i) && decide (i ≤ hi)
  | _ => false
def isPr (m : Int) : D → Bool
  | .tup [a, b] => isW (-m) m a && isW (-m) m b
  | _ => false
def isKd : D → Bool
  | .tup l => (match pairs l with
    | some ps => decide (ps.length ≤ 8) && ps.all (fun p => decide (-50 ≤ p.1) && decide (p.1 ≤ 50) && (decide (-50 ≤ p.2) && decide (p.2 ≤ 50))) && asc ps
    | none => false)
  | _ => false
def isMk : D → Bool
  | .tup [a, b] => isKd a && isKd b
  | _ => false
def isFn : D → Bool
  | .tup [a, b, c] => isW (-1000000000000) 1000000000000 a && isW (-1000000000000) 1000000000000 b && isW (-1000000000000) 1000000000000 c && !((match a with
    | .int i => i == 0
    | _ => false) && (match b with
    | .int i => i == 0
    | _ => false))
  | _ => false
theorem isW_dat {lo hi : Int} {d : D} (h : isW lo hi d = true) : ∃ i, d = .int i ∧ lo ≤ i ∧ i ≤ hi := by
  cases d <;> simp [isW] at h
  exact ⟨_, rfl, h⟩
theorem isPr_dat {m : Int} {d : D} (h : isPr m d = true) : ∃ p : Pt, d = dP p ∧ (-m ≤ p.1 ∧ p.1 ≤ m) ∧ (-m ≤ p.2 ∧ p.2 ≤ m) := by
  unfold isPr at h
  split at h
  · rename_i a b
    simp only [Bool.and_eq_true] at h
    obtain ⟨i, rfl, hi⟩ := isW_dat h.1
    obtain ⟨j, rfl, hj⟩ := isW_dat h.2
    exact ⟨(i, j), rfl, hi, hj⟩
  · cases h
theorem isPr_dP (m : Int) (p : Pt) : isPr m (dP p) = (decide (-m ≤ p.1) && decide (p.1 ≤ m) && (decide (-m ≤ p.2) && decide (p.2 ≤ m))) := rfl
/-- all are points: they are pairs of ints -/
theorem all_pairs {m : Int} : ∀ {l : List D}, l.all (isPr m) = true → ∃ ps : List Pt, l = ps.map dP
  | [], _ => ⟨[], rfl⟩
  | d :: l, h => by
    simp only [List.all_cons, Bool.and_eq_true] at h
    obtain ⟨p, rfl, _⟩ := isPr_dat h.1
    obtain ⟨ps, rfl⟩ := all_pairs h.2
    exact ⟨p :: ps, rfl⟩
theorem isKd_pts (ps : List Pt) : isKd (.tup (ps.map dP)) = (decide (ps.length ≤ 8) && (ps.map dP).all (isPr 50) && asc ps) := by
  simp only [isKd, pairs_map, List.all_map]
  rfl
theorem isKd_no {l : List D} (h : l.all (isPr 50) = false) : isKd (.tup l) = false := by
  simp only [isKd]
  cases e : pairs l with
  | none => rfl
  | some ps =>
    have := pairs_some e
    subst this
    simp only
    have h2 : (ps.all fun p => decide (-50 ≤ p.1) && decide (p.1 ≤ 50) && (decide (-50 ≤ p.2) && decide (p.2 ≤ 50))) = false := by
      rw [← h, List.all_map]; rfl
    rw [h2]
    simp
theorem isKd_long {l : List D} (h : 8 < l.length) : isKd (.tup l) = false := by
  simp only [isKd]
  cases e : pairs l with
  | none => rfl
  | some ps =>
    have := pairs_some e
    subst this
    rw [List.length_map] at h
    simp only
    rw [show decide (ps.length ≤ 8) = false from decide_eq_false (by omega)]
    simp
def ltT : D → Bool
  | .tup [a, b] => (ltD a b).getD false
  | _ => false
theorem ltT_P (p q : Pt) : ltT (.tup [dP p, dP q]) = ltP p q := by simp only [ltT, ltD_P, Option.getD_some]
/-- couples of neighbours -/
theorem zip_asc : ∀ ps : List Pt, (zipD (ps.map dP) ((ps.map dP).drop 1)).all ltT = asc ps
  | [] => rfl
  | [a] => rfl
  | a :: b :: l => by
    have ih := zip_asc (b :: l)
    simp only [List.map_cons, List.drop_succ_cons, List.drop_zero, zipD, List.all_cons, asc, ltT_P] at ih ⊢
    rw [← ih]
theorem zip_mem : ∀ (ps : List Pt) (x : D), x ∈ zipD (ps.map dP) ((ps.map dP).drop 1) → ∃ p q, x = .tup [dP p, dP q]
  | [], x, h => by cases h
  | [a], x, h => by cases h
  | a :: b :: l, x, h => by
    simp only [List.map_cons, List.drop_succ_cons, List.drop_zero, zipD, List.mem_cons] at h
    rcases h with h | h
    · exact ⟨a, b, h⟩
    · exact zip_mem (b :: l) x (by simpa using h)
theorem zipM_len : ∀ (a b : List D), (zipD a b).length ≤ a.length
  | [], _ => by simp [zipD]
  | _ :: _, [] => by simp [zipD]
  | x :: a, y :: b => by
    have := zipM_len a b
    simp only [zipD, List.length_cons]
    omega
theorem cutD_from1 (l : List D) : cutD l (some 1) none = l.drop 1 := by
  unfold cutD
  rw [HT.sIx_none, show (1 : Int) = ((1 : Nat) : Int) from rfl, HT.sIx_nat]
  cases l with
  | nil => rfl
  | cons a l =>
    have : min 1 (a :: l).length = 1 := by simp
    rw [this]
    apply List.take_of_length_le
    simp
/-! ### ascending lists -/
theorem ltM_iff (p q : Pt) : ltP p q = true ↔ p.1 < q.1 ∨ (p.1 = q.1 ∧ p.2 < q.2) := by simp [ltP]
theorem ltM_trans {p q r : Pt} (h1 : ltP p q = true) (h2 : ltP q r = true) : ltP p r = true := by
  rw [ltM_iff] at *
  omega
theorem ltP_irr (p : Pt) : ltP p p = false := by
  cases h : ltP p p with
  | false => rfl
  | true => rw [ltM_iff] at h; omega
theorem ltM_tri {p q : Pt} (h1 : ltP p q = false) (h2 : ltP q p = false) : p = q := by
  obtain ⟨a, b⟩ := p
  obtain ⟨c, d⟩ := q
  have h1' : ¬ (a < c ∨ (a = c ∧ b < d)) := fun z => by rw [← ltM_iff (a, b) (c, d)] at z; rw [h1] at z; cases z
  have h2' : ¬ (c < a ∨ (c = a ∧ d < b)) := fun z => by rw [← ltM_iff (c, d) (a, b)] at z; rw [h2] at z; cases z
  have e1 : a = c := by omega
  have e2 : b = d := by omega
  rw [e1, e2]
theorem asc_iff : ∀ l : List Pt, asc l = true ↔ l.Pairwise fun p q => ltP p q = true
  | [] => by simp [asc]
  | [a] => by simp [asc]
  | a :: b :: l => by
    have ih := asc_iff (b :: l)
    simp only [asc, Bool.and_eq_true, ih, List.pairwise_cons]
    constructor
    · rintro ⟨h, h2, h3⟩
      refine ⟨fun x hx => ?_, h2, h3⟩
      rcases List.mem_cons.mp hx with rfl | hx
      · exact h
      · exact ltM_trans h (h2 x hx)
    · rintro ⟨h, h2⟩
      exact ⟨h b List.mem_cons_self, h2⟩
theorem mem_insM (x y : Pt) : ∀ l : List Pt, y ∈ insP x l ↔ y = x ∨ y ∈ l
  | [] => by simp [insP]
  | a :: l => by
    have ih := mem_insM x y l
    unfold insP
    split
    · simp
    · split
      · simp only [List.mem_cons, ih]
        constructor
        · rintro (h | h | h) <;> simp [h]
        · rintro (h | h | h) <;> simp [h]
      · rename_i h1 h2
        have e : x = a := ltM_tri (by simpa using h1) (by simpa using h2)
        subst e
        simp
theorem insP_pw (x : Pt) : ∀ l : List Pt, l.Pairwise (fun p q => ltP p q = true) → (insP x l).Pairwise fun p q => ltP p q = true
  | [], _ => by simp [insP]
  | a :: l, h => by
    unfold insP
    split
    · rename_i h1
      rw [List.pairwise_cons]
      refine ⟨fun y hy => ?_, h⟩
      rcases List.mem_cons.mp hy with rfl | hy
      · exact h1
      · exact ltM_trans h1 ((List.pairwise_cons.mp h).1 y hy)
    · split
      · rename_i h1 h2
        rw [List.pairwise_cons] at h ⊢
        refine ⟨fun y hy => ?_, insP_pw x l h.2⟩
        rcases (mem_insM x y l).mp hy with rfl | hy
        · exact h2
        · exact h.1 y hy
      · exact h
theorem mem_sortM (y : Pt) : ∀ l : List Pt, y ∈ sortP l ↔ y ∈ l
  | [] => by simp [sortP]
  | a :: l => by
    have ih := mem_sortM y l
    show y ∈ insP a (sortP l) ↔ _
    rw [mem_insM, ih, List.mem_cons]
theorem sortP_pw : ∀ l : List Pt, (sortP l).Pairwise fun p q => ltP p q = true
  | [] => List.Pairwise.nil
  | a :: l => insP_pw a _ (sortP_pw l)
theorem sortP_asc (l : List Pt) : asc (sortP l) = true := (asc_iff _).mpr (sortP_pw l)
theorem insP_len (x : Pt) : ∀ l : List Pt, (insP x l).length ≤ l.length + 1
  | [] => by simp [insP]
  | a :: l => by
    have ih := insP_len x l
    unfold insP
    split
    · simp
    · split
      · simp only [List.length_cons]; omega
      · simp
theorem sortP_len : ∀ l : List Pt, (sortP l).length ≤ l.length
  | [] => Nat.le_refl _
  | a :: l => by
    have h1 := insP_len a (sortP l)
    have h2 := sortP_len l
    show (insP a (sortP l)).length ≤ _
    rw [List.length_cons]
    omega
/-- ascending lists of the same things are the same -/
theorem asc_ext : ∀ {l m : List Pt}, l.Pairwise (fun p q => ltP p q = true) → m.Pairwise (fun p q => ltP p q = true) → (∀ x, x ∈ l ↔ x ∈ m) → l = m
  | [], [], _, _, _ => rfl
  | [], b :: m, _, _, h => absurd ((h b).mpr List.mem_cons_self) (by simp)
  | a :: l, [], _, _, h => absurd ((h a).mp List.mem_cons_self) (by simp)
  | a :: l, b :: m, h1, h2, h => by
    rw [List.pairwise_cons] at h1 h2
    have e : a = b := by
      rcases List.mem_cons.mp ((h a).mp List.mem_cons_self) with q | q
      · exact q
      · rcases List.mem_cons.mp ((h b).mpr List.mem_cons_self) with q2 | q2
        · exact q2.symm
        · have := ltM_trans (h2.1 a q) (h1.1 b q2)
          rw [ltP_irr] at this
          cases this
    subst e
    have nin : ∀ {k : List Pt}, (∀ y ∈ k, ltP a y = true) → a ∉ k := fun hk hm => by
      have := hk a hm
      rw [ltP_irr] at this
      cases this
    rw [asc_ext h1.2 h2.2 fun x => ?_]
    have hx := h x
    simp only [List.mem_cons] at hx
    constructor
    · intro hl
      rcases hx.mp (.inr hl) with q | q
      · subst q; exact absurd hl (nin h1.1)
      · exact q
    · intro hm
      rcases hx.mpr (.inr hm) with q | q
      · subst q; exact absurd hm (nin h2.1)
      · exact q
theorem sortP_id {l : List Pt} (h : asc l = true) : sortP l = l := asc_ext (sortP_pw l) ((asc_iff l).mp h) fun x => mem_sortM x l
theorem sortP_eq_iff (l : List Pt) : sortP l = l ↔ asc l = true := ⟨fun h => by rw [← h]; exact sortP_asc l, sortP_id⟩
/-- a kind: at most so many points, ascending, not far out -/
structure Kd (w : Int) (n : Nat) (k : List Pt) : Prop where
  len : k.length ≤ n
  as : asc k = true
  rg : ∀ p ∈ k, (-w ≤ p.1 ∧ p.1 ≤ w) ∧ (-w ≤ p.2 ∧ p.2 ≤ w)
theorem Kd.is {k : List Pt} (h : Kd 50 8 k) : isKd (dK k) = true := by
  show isKd (.tup (k.map dP)) = true
  simp only [isKd, pairs_map, Bool.and_eq_true, decide_eq_true_eq, List.all_eq_true]
  exact ⟨⟨h.len, fun p hp => h.rg p hp⟩, h.as⟩
theorem Kd.of {d : D} (h : isKd d = true) : ∃ k, d = dK k ∧ Kd 50 8 k := by
  cases d with
  | tup l =>
    simp only [isKd] at h
    cases e : pairs l with
    | none => rw [e] at h; cases h
    | some ps =>
      rw [e] at h
      simp only [Bool.and_eq_true, decide_eq_true_eq, List.all_eq_true] at h
      exact ⟨ps, by rw [pairs_some e]; rfl, h.1.1, h.2, fun p hp => h.1.2 p hp⟩
  | _ => simp [isKd] at h
theorem Kd.sub {w : Int} {n : Nat} {k k' : List Pt} (h : Kd w n k) (s : k'.Sublist k) : Kd w n k' := ⟨Nat.le_trans s.length_le h.len, (asc_iff _).mpr (((asc_iff _).mp h.as).sublist s), fun p hp => h.rg p (s.subset hp)⟩
theorem Kd.mono {w w' : Int} {n n' : Nat} {k : List Pt} (h : Kd w n k) (hw : w ≤ w') (hn : n ≤ n') : Kd w' n' k := ⟨Nat.le_trans h.len hn, h.as, fun p hp => by have := h.rg p hp; omega⟩
theorem Kd.shown {w : Int} {n : Nat} {k : List Pt} {p : Pt} (h : Kd w n k) (hp : (-w ≤ p.1 ∧ p.1 ≤ w) ∧ (-w ≤ p.2 ∧ p.2 ≤ w)) : Kd w (n + 1) (sortP (k ++ [p])) := by
  refine ⟨Nat.le_trans (sortP_len _) (by rw [List.length_append]; simpa using h.len), sortP_asc _, fun q hq => ?_⟩
  rw [mem_sortM, List.mem_append, List.mem_singleton] at hq
  rcases hq with hq | rfl
  · exact h.rg q hq
  · exact hp
theorem cutD_to {α : Type} (f : α → D) (l : List α) (n : Nat) : cutD (l.map f) none (some (n : Int)) = (l.take n).map f := by
  unfold cutD
  rw [HT.sIx_none, HT.sIx_nat, List.drop_zero, List.map_take, List.length_map]
  simp
end SF.M

set_option maxHeartbeats 200000
set_option Elab.async false
set_option linter.all false
set_option maxRecDepth 100000
/-! Data that are compared; values that are spoilt. -/
namespace SF.M
open PySem SF
mutual
/-- texts of signs, and not too deep -/
def good (n : Nat) : D → Bool
  | .non => true
  | .bl _ => true
  | .int _ => true
  | .str s => PyData.strOk s
  | .tup l => (match n with
    | 0 => false
    | m + 1 => goodL m l)
  | .lst l => (match n with
    | 0 => false
    | m + 1 => goodL m l)
  | _ => false
def goodL (n : Nat) : List D → Bool
  | [] => true
  | d :: l => good n d && goodL n l
end
theorem goodL_iff {n : Nat} {l : List D} : goodL n l = true ↔ ∀ x ∈ l, good n x = true := by
  induction l with
  | nil => simp [goodL]
  | cons a l ih => simp [goodL, ih]
mutual
theorem good_py (S : Sto) : ∀ (n : Nat) (d : D), good n d = true → ∃ p, toPy S d = some p ∧ p.canLay0 = true ∧ p.depth ≤ n + 1
  | n, .non, _ => ⟨_, rfl, rfl, by simp [PyData.depth]⟩
  | n, .bl _, _ => ⟨_, rfl, rfl, by simp [PyData.depth]⟩
  | n, .int _, _ => ⟨_, rfl, rfl, by simp [PyData.depth]⟩
  | n, .str s, h => ⟨_, rfl, by simpa [good, PyData.canLay0] using h, by simp [PyData.depth]⟩
  | 0, .tup l, h => by simp [good] at h
  | n + 1, .tup l, h => by
    obtain ⟨ps, e, h1, h2⟩ := goodL_py S n l (by simpa [good] using h)
    exact ⟨.tuple ps, by simp [toPy, e], by simpa [PyData.canLay0] using h1, by simp only [PyData.depth]; omega⟩
  | 0, .lst l, h => by simp [good] at h
  | n + 1, .lst l, h => by
    obtain ⟨ps, e, h1, h2⟩ := goodL_py S n l (by simpa [good] using h)
    exact ⟨.list ps, by simp [toPy, e], by simpa [PyData.canLay0] using h1, by simp only [PyData.depth]; omega⟩
  | n, .scr _, h => by simp [good] at h
  | n, .ref _, h => by simp [good] at h
  | n, .fn _, h => by simp [good] at h
  | n, .clo _ _, h => by simp [good] at h
  | n, .exc _, h => by simp [good] at h
theorem goodL_py (S : Sto) : ∀ (n : Nat) (l : List D), goodL n l = true → ∃ ps, toPyL S l = some ps ∧ PyData.canLayAll0 ps = true ∧ PyData.depthAll ps ≤ n + 1
  | n, [], _ => ⟨[], rfl, rfl, by simp [PyData.depthAll]⟩
  | n, d :: l, h => by
    simp only [goodL, Bool.and_eq_true] at h
    obtain ⟨p, e1, h1, h2⟩ := good_py S n d h.1
    obtain ⟨ps, e2, h3, h4⟩ := goodL_py S n l h.2
    exact ⟨p :: ps, by simp [toPyL, e1, e2], by simp [PyData.canLayAll0, h1, h3], by simp only [PyData.depthAll]; omega⟩
end
theorem good_mono : ∀ (n n' : Nat) (d : D), n ≤ n' → good n d = true → good n' d = true := by
  have key : ∀ (k : Nat) (n n' : Nat) (d : D), sizeOf d ≤ k → n ≤ n' → good n d = true → good n' d = true := by
    intro k
    induction k with
    | zero => intro n n' d hs; cases d <;> simp at hs <;> omega
    | succ k ih =>
      intro n n' d hs hn h
      cases d with
      | tup l =>
        cases n with
        | zero => simp [good] at h
        | succ n =>
          obtain ⟨n', rfl⟩ : ∃ j, n' = j + 1 := ⟨n' - 1, by omega⟩
          simp only [good, goodL_iff] at h ⊢
          exact fun x hx => ih n n' x (by have := List.sizeOf_lt_of_mem hx; simp at hs; omega) (by omega) (h x hx)
      | lst l =>
        cases n with
        | zero => simp [good] at h
        | succ n =>
          obtain ⟨n', rfl⟩ : ∃ j, n' = j + 1 := ⟨n' - 1, by omega⟩
          simp only [good, goodL_iff] at h ⊢
          exact fun x hx => ih n n' x (by have := List.sizeOf_lt_of_mem hx; simp at hs; omega) (by omega) (h x hx)
      | _ => simpa [good] using h
  exact fun n n' d => key (sizeOf d) n n' d (Nat.le_refl _)
mutual
theorem good_dat : ∀ (n : Nat) (d : D), good n d = true → dat d = true
  | n, .non, _ => rfl
  | n, .bl _, _ => rfl
  | n, .int _, _ => rfl
  | n, .str _, _ => rfl
  | 0, .tup l, h => by simp [good] at h
  | n + 1, .tup l, h => by
    simp only [dat]
    exact goodL_dat n l (by simpa [good] using h)
  | 0, .lst l, h => by simp [good] at h
  | n + 1, .lst l, h => by
    simp only [dat]
    exact goodL_dat n l (by simpa [good] using h)
  | n, .scr _, h => by simp [good] at h
  | n, .ref _, h => by simp [good] at h
  | n, .fn _, h => by simp [good] at h
  | n, .clo _ _, h => by simp [good] at h
  | n, .exc _, h => by simp [good] at h
theorem goodL_dat : ∀ (n : Nat) (l : List D), goodL n l = true → datL l = true
  | _, [], _ => rfl
  | n, d :: l, h => by
    simp only [goodL, Bool.and_eq_true] at h
    simp only [datL, good_dat n d h.1, goodL_dat n l h.2, Bool.and_self]
end
theorem top_lst (S : Sto) (l : List D) : topPy S (.lst l) = (toPyL S l).map .list := rfl
theorem top_tup (S : Sto) (l : List D) : topPy S (.tup l) = (toPyL S l).map .tuple := rfl
/-- a list against the empty one -/
theorem eq_nilL (S : Sto) {n : Nat} {l : List D} (h : goodL n l = true) (hn : n ≤ 60) : eqD S (.lst l) (.lst []) = some l.isEmpty := by
  obtain ⟨ps, e, h1, h2⟩ := goodL_py S n l h
  have s1 : SeqAt.shaped (.list ps) = true := by
    rw [show SeqAt.shaped (.list ps) = (PyData.canLayAll0 ps && decide (PyData.depthAll ps + 1 ≤ 64)) from rfl, h1, Bool.true_and]
    exact decide_eq_true (by omega)
  have s2 : SeqAt.shaped (.list []) = true := rfl
  have hl : ps.isEmpty = l.isEmpty := by
    cases l with
    | nil => simp only [toPyL, Option.some.injEq] at e; subst e; rfl
    | cons a l =>
      simp only [toPyL] at e
      split at e
      · cases e; rfl
      · cases e
  rw [← hl]
  unfold eqD
  rw [top_lst, e, show topPy S (.lst []) = some (.list []) from rfl]
  simp only [Option.map_some, s1, s2, Bool.and_self, if_true]
  cases ps <;> simp [PyData.eqv, PyData.eqvAll]
theorem eq_nilT (S : Sto) {n : Nat} {l : List D} (h : goodL n l = true) (hn : n ≤ 60) : eqD S (.tup l) (.tup []) = some l.isEmpty := by
  obtain ⟨ps, e, h1, h2⟩ := goodL_py S n l h
  have s1 : SeqAt.shaped (.tuple ps) = true := by
    rw [show SeqAt.shaped (.tuple ps) = (PyData.canLayAll0 ps && decide (PyData.depthAll ps + 1 ≤ 64)) from rfl, h1, Bool.true_and]
    exact decide_eq_true (by omega)
  have s2 : SeqAt.shaped (.tuple []) = true := rfl
  have hl : ps.isEmpty = l.isEmpty := by
    cases l with
    | nil => simp only [toPyL, Option.some.injEq] at e; subst e; rfl
    | cons a l =>
      simp only [toPyL] at e
      split at e
      · cases e; rfl
      · cases e
  rw [← hl]
  unfold eqD
  rw [top_tup, e, show topPy S (.tup []) = some (.tuple []) from rfl]
  simp only [Option.map_some, s1, s2, Bool.and_self, if_true]
  cases ps <;> simp [PyData.eqv, PyData.eqvAll]
theorem good_dP (p : Pt) : good 1 (dP p) = true := rfl
theorem goodL_dK (k : List Pt) : goodL 1 (k.map dP) = true := by
  rw [goodL_iff]
  intro x hx
  obtain ⟨p, _, rfl⟩ := List.mem_map.mp hx
  rfl
theorem good_dK (k : List Pt) : good 2 (dK k) = true := by
  show good 2 (.tup (k.map dP)) = true
  simp only [good]
  exact goodL_dK k
theorem good_dM (m : List Pt × List Pt) : good 3 (dM m) = true := by
  show good 3 (.tup [dK m.1, dK m.2]) = true
  simp only [good, goodL, good_dK, Bool.and_self]
theorem eq_K0 (S : Sto) (k : List Pt) : eqD S (dK k) (.tup []) = some k.isEmpty := by
  have := eq_nilT S (goodL_dK k) (by omega)
  rw [List.isEmpty_map] at this
  exact this
/-- the data of points -/
def pyP (p : Pt) : PyData := .tuple [.int p.1, .int p.2]
theorem py_P (S : Sto) (p : Pt) : toPy S (dP p) = some (pyP p) := rfl
theorem py_KL (S : Sto) : ∀ k : List Pt, toPyL S (k.map dP) = some (k.map pyP)
  | [] => rfl
  | p :: k => by simp only [List.map_cons, toPyL, py_P, py_KL S k]
theorem eqv_P (p q : Pt) : PyData.eqv (pyP p) (pyP q) = decide (p = q) := by
  obtain ⟨a, b⟩ := p
  obtain ⟨c, d⟩ := q
  simp only [pyP, PyData.eqv, PyData.eqvAll, Bool.and_true, Prod.mk.injEq, Bool.decide_and]
  rfl
theorem eqv_KL : ∀ k l : List Pt, PyData.eqvAll (k.map pyP) (l.map pyP) = decide (k = l)
  | [], [] => rfl
  | [], _ :: _ => rfl
  | _ :: _, [] => rfl
  | p :: k, q :: l => by
    simp only [List.map_cons, PyData.eqvAll, eqv_P, eqv_KL k l, List.cons.injEq, Bool.decide_and]
theorem shaped_KL (k : List Pt) : SeqAt.shaped (.list (k.map pyP)) = true ∧ SeqAt.shaped (.tuple (k.map pyP)) = true := by
  have h1 : PyData.canLayAll0 (k.map pyP) = true := by
    induction k with
    | nil => rfl
    | cons p k ih => simp only [List.map_cons, PyData.canLayAll0, ih, Bool.and_true]; rfl
  have h2 : PyData.depthAll (k.map pyP) ≤ 1 := by
    induction k with
    | nil => simp [PyData.depthAll]
    | cons p k ih =>
      simp only [List.map_cons, PyData.depthAll] at ih ⊢
      have : PyData.depth (pyP p) = 1 := rfl
      simp only [PyData.canLayAll0, List.map_cons, Bool.and_eq_true] at h1
      have := ih h1.2
      omega
  constructor
  · rw [show SeqAt.shaped (.list (k.map pyP)) = (PyData.canLayAll0 (k.map pyP) && decide (PyData.depthAll (k.map pyP) + 1 ≤ 64)) from rfl, h1, Bool.true_and]
    exact decide_eq_true (by omega)
  · rw [show SeqAt.shaped (.tuple (k.map pyP)) = (PyData.canLayAll0 (k.map pyP) && decide (PyData.depthAll (k.map pyP) + 1 ≤ 64)) from rfl, h1, Bool.true_and]
    exact decide_eq_true (by omega)
theorem eq_KK (S : Sto) (k l : List Pt) : eqD S (dK k) (dK l) = some (decide (k = l)) := by
  show eqD S (.tup (k.map dP)) (.tup (l.map dP)) = _
  unfold eqD
  rw [top_tup, top_tup, py_KL, py_KL]
  simp only [Option.map_some, (shaped_KL k).2, (shaped_KL l).2, Bool.and_self, if_true, PyData.eqv, eqv_KL]
theorem eq_LL (S : Sto) (k l : List Pt) : eqD S (.lst (k.map dP)) (.lst (l.map dP)) = some (decide (k = l)) := by
  unfold eqD
  rw [top_lst, top_lst, py_KL, py_KL]
  simp only [Option.map_some, (shaped_KL k).1, (shaped_KL l).1, Bool.and_self, if_true, PyData.eqv, eqv_KL]
theorem eq_PP (S : Sto) (p q : Pt) : eqD S (dP p) (dP q) = some (decide (p = q)) := by
  show eqD S (.tup _) (.tup _) = _
  unfold eqD
  rw [show topPy S (.tup [.int p.1, .int p.2]) = some (pyP p) from rfl, show topPy S (.tup [.int q.1, .int q.2]) = some (pyP q) from rfl]
  simp only [show SeqAt.shaped (pyP p) = true from rfl, show SeqAt.shaped (pyP q) = true from rfl, Bool.and_self, if_true, eqv_P]
theorem p_lenK (k : List Pt) (S : Sto) : prim .len [dK k] S = .ok (.int k.length) S := by
  show Res.ok (D.int ((k.map dP).length : Nat)) S = _
  rw [List.length_map]
theorem it_K (k : List Pt) : items .seq [dK k] = some (k.map dP) := rfl
theorem beq_no {i j : Int} (h : ¬ i = j) : (i == j) = false := by simp [h]
theorem gt_of {i j : Int} (h : j < i) : gtI (.int i) (.int j) = some true := by simp [gtI, h]
theorem gt_no {i j : Int} (h : ¬ j < i) : gtI (.int i) (.int j) = some false := by simp [gtI, h]
theorem lt_of {i j : Int} (h : i < j) : ltD (.int i) (.int j) = some true := by simp [ltD, h]
theorem lt_no {i j : Int} (h : ¬ i < j) : ltD (.int i) (.int j) = some false := by simp [ltD, h]
theorem foldK (l : List Pt) : D.tup (l.map dP) = dK l := rfl
theorem add_KK (k l : List Pt) (h : k.length + l.length ≤ 100000) : pAdd S (dK k) (dK l) = some (dK (k ++ l)) := by
  show (if line ((k.map dP).length + (l.map dP).length) then some (D.tup (k.map dP ++ l.map dP)) else none) = _
  rw [List.length_map, List.length_map, if_pos (lineM h), ← List.map_append]
  rfl
theorem p_sortsetK (k : List Pt) (S : Sto) (h : k.length ≤ 30) : prim .sortset [dK k] S = .ok (.lst ((sortP k).map dP)) S := by
  show prim .sortset [.tup (k.map dP)] S = _
  rw [p_sortset _ _ (by rw [List.length_map]; exact h), pairs_map]
  rfl
theorem sl_K (l : List Pt) (lo hi : Option Int) : pSl (dK l) lo hi = some (.tup (cutD (l.map dP) lo hi)) := rfl
theorem add_K1 (k : List Pt) (p : Pt) (h : k.length + 1 ≤ 100000) : pAdd S (dK k) (.tup [dP p]) = some (dK (k ++ [p])) := add_KK k [p] h
theorem add_ii (i j : Int) : pAdd S (.int i) (.int j) = some (.int (i + j)) := rfl
theorem add_bi (i : Bool) (j : Int) : pAdd S (.bl i) (.int j) = some (.int (b2 i + j)) := rfl
theorem add_ss (a b : PySem.Str) : pAdd S (.str a) (.str b) = if line (a.length + b.length) then some (.str (a ++ b)) else none := rfl
theorem add_tt (a b : List D) : pAdd S (.tup a) (.tup b) = if line (a.length + b.length) then some (.tup (a ++ b)) else none := rfl
theorem add_ll (a b : List D) : pAdd S (.lst a) (.lst b) = if line (a.length + b.length) then some (.lst (a ++ b)) else none := rfl
theorem sub_ii (i j : Int) : pSub (.int i) (.int j) = some (.int (i - j)) := rfl
theorem sub_bi (i : Bool) (j : Int) : pSub (.bl i) (.int j) = some (.int (b2 i - j)) := rfl
theorem lt_ii (i j : Int) : ltD (.int i) (.int j) = some (decide (i < j)) := rfl
theorem gt_ii (i j : Int) : gtI (.int i) (.int j) = some (decide (j < i)) := rfl
theorem ge_ii (i j : Int) : geI (.int i) (.int j) = some (decide (j ≤ i)) := rfl
theorem le_ii (i j : Int) : leD (.int i) (.int j) = some (decide (i ≤ j)) := rfl
end SF.M

set_option maxHeartbeats 200000
set_option Elab.async false
set_option linter.all false
set_option maxRecDepth 100000
/-! Values that are spoilt. -/
namespace SF.M
open PySem SF
def asB (s : PySem.Str) : Bool := s.cps.toList.all (· < 128)
mutual
/-- not too long, not too great -/
def bd (n : Nat) : D → Bool
  | .non => true
  | .bl _ => true
  | .int i => decide (i.natAbs ≤ 1000000000000000 + n)
  | .str s => decide (s.length ≤ 3000 + n) && asB s
  | .tup l => decide (l.length ≤ 1000 + n) && bdL n l
  | .lst l => decide (l.length ≤ 1000 + n) && bdL n l
  | _ => false
def bdL (n : Nat) : List D → Bool
  | [] => true
  | d :: l => bd n d && bdL n l
end
theorem bdL_iff {n : Nat} {l : List D} : bdL n l = true ↔ ∀ x ∈ l, bd n x = true := by
  induction l with
  | nil => simp [bdL]
  | cons a l ih => simp [bdL, ih]
mutual
theorem bd_mono (n n' : Nat) (h : n ≤ n') : ∀ d : D, bd n d = true → bd n' d = true
  | .non, _ => rfl
  | .bl _, _ => rfl
  | .int i, q => by simp only [bd, decide_eq_true_eq] at q ⊢; omega
  | .str s, q => by simp only [bd, Bool.and_eq_true, decide_eq_true_eq] at q ⊢; exact ⟨by omega, q.2⟩
  | .tup l, q => by simp only [bd, Bool.and_eq_true, decide_eq_true_eq] at q ⊢; exact ⟨by omega, bdL_mono n n' h l q.2⟩
  | .lst l, q => by simp only [bd, Bool.and_eq_true, decide_eq_true_eq] at q ⊢; exact ⟨by omega, bdL_mono n n' h l q.2⟩
  | .scr _, q => by simp [bd] at q
  | .ref _, q => by simp [bd] at q
  | .fn _, q => by simp [bd] at q
  | .clo _ _, q => by simp [bd] at q
  | .exc _, q => by simp [bd] at q
theorem bdL_mono (n n' : Nat) (h : n ≤ n') : ∀ l : List D, bdL n l = true → bdL n' l = true
  | [], _ => rfl
  | d :: l, q => by
    simp only [bdL, Bool.and_eq_true] at q ⊢
    exact ⟨bd_mono n n' h d q.1, bdL_mono n n' h l q.2⟩
end
theorem asB_app (a b : PySem.Str) : asB (a ++ b) = (asB a && asB b) := by
  show (a.cps ++ b.cps).toList.all _ = _
  rw [Array.toList_append, List.all_append]
  rfl
theorem asB_cut (a : PySem.Str) (lo hi : Option Int) (h : asB a = true) : asB (L2.cutS a lo hi) = true := by
  unfold asB at h ⊢
  rw [List.all_eq_true] at h ⊢
  intro c hc
  exact h c (List.mem_of_mem_drop (List.mem_of_mem_take (show c ∈ _ from hc)))
theorem len_cut (a : PySem.Str) (lo hi : Option Int) : (L2.cutS a lo hi).length ≤ a.length := by
  show ((a.cps.toList.drop _).take _).toArray.size ≤ a.cps.size
  simp only [List.size_toArray, List.length_take, List.length_drop, Array.length_toList]
  omega
theorem asB_up (a : PySem.Str) (h : asB a = true) : asB (Txt.upper a) = true ∧ (Txt.upper a).length = a.length := by
  unfold asB at h
  rw [List.all_eq_true] at h
  rw [PyProof.Rows.upper_ascii fun c hc => of_decide_eq_true (h c hc)]
  constructor
  · unfold asB
    simp only [Array.toList_map, List.all_map, List.all_eq_true]
    intro c hc
    have := of_decide_eq_true (h c hc)
    simp only [Function.comp, decide_eq_true_eq]
    unfold PyProof.Rows.up1
    split <;> omega
  · show (a.cps.map _).size = a.cps.size
    simp
theorem asB_int (i : Int) (h : i.natAbs ≤ 2000000000000000) : asB (PySem.Str.ofString (toString i)) = true ∧ (PySem.Str.ofString (toString i)).length ≤ 3000 := by
  constructor
  · rw [PySem.Str.ofString_eq_toList]
    unfold asB
    simp only [List.all_map, List.all_eq_true, Function.comp, decide_eq_true_eq]
    exact PySem.int_ascii i
  · have : i.natAbs.log2 < 1920 := by
      have := Nat.log2_le_self i.natAbs
      by_cases h0 : i.natAbs = 0
      · rw [h0]; decide
      · exact (Nat.log2_lt h0).mpr (Nat.lt_of_le_of_lt h (Nat.lt_of_lt_of_le (by decide : 2000000000000000 < 2 ^ 51) (Nat.pow_le_pow_right (by decide) (by decide))))
    have := PyProof.Rows.int_text_len_1921 this
    omega
theorem asB_strOk {s : PySem.Str} (h : asB s = true) : PyData.strOk s = true := by
  unfold asB at h
  unfold PyData.strOk
  rw [List.all_eq_true] at h
  rw [← Array.all_toList, List.all_eq_true]
  intro c hc
  have := of_decide_eq_true (h c hc)
  exact decide_eq_true (by omega)
theorem sl_str (s : PySem.Str) (lo hi : Option Int) : pSl (.str s) lo hi = if line s.length then some (.str (L2.cutS s lo hi)) else none := rfl
theorem cut_mem {l : List D} {lo hi : Option Int} {x : D} (h : x ∈ cutD l lo hi) : x ∈ l := List.mem_of_mem_drop (List.mem_of_mem_take h)
theorem cut_len (l : List D) (lo hi : Option Int) : (cutD l lo hi).length ≤ l.length := by
  unfold cutD
  rw [List.length_take, List.length_drop]
  omega
theorem cut_to (l : List D) (n : Nat) : cutD l none (some (n : Int)) = l.take n := by
  have := cutD_to id l n
  simpa using this
theorem cut_from (l : List D) (n : Nat) : cutD l (some (n : Int)) none = l.drop n := by
  unfold cutD
  rw [HT.sIx_none, HT.sIx_nat]
  by_cases h : n ≤ l.length
  · rw [show min n l.length = n by omega]
    apply List.take_of_length_le
    rw [List.length_drop]
    omega
  · rw [show min n l.length = l.length by omega, List.drop_of_length_le (Nat.le_refl _), List.drop_of_length_le (by omega)]
    simp
/-- at most so deep, so long -/
structure Sp (m n : Nat) (d : D) : Prop where
  g : good m d = true
  b : bd n d = true
theorem Sp.mono {m n m' n' : Nat} {d : D} (h : Sp m n d) (hm : m ≤ m') (hn : n ≤ n') : Sp m' n' d := ⟨good_mono m m' d hm h.g, bd_mono n n' hn d h.b⟩
theorem Sp.non (m n : Nat) : Sp m n .non := ⟨by cases m <;> rfl, rfl⟩
theorem Sp.bl (m n : Nat) (b : Bool) : Sp m n (.bl b) := ⟨by cases m <;> rfl, rfl⟩
theorem Sp.int (m n : Nat) (i : Int) (h : i.natAbs ≤ 1000000000000000 + n) : Sp m n (.int i) := ⟨by cases m <;> rfl, by simp only [bd, decide_eq_true_eq]; exact h⟩
theorem Sp.str (m n : Nat) (s : PySem.Str) (h : s.length ≤ 3000 + n) (h2 : asB s = true) : Sp m n (.str s) := ⟨by cases m <;> exact asB_strOk h2, by simp only [bd, Bool.and_eq_true, decide_eq_true_eq]; exact ⟨h, h2⟩⟩
theorem Sp.tup (m n : Nat) (l : List D) (h : l.length ≤ 1000 + n) (h2 : ∀ x ∈ l, Sp m n x) : Sp (m + 1) n (.tup l) := ⟨by simp only [good, goodL_iff]; exact fun x hx => (h2 x hx).g, by simp only [bd, Bool.and_eq_true, decide_eq_true_eq, bdL_iff]; exact ⟨h, fun x hx => (h2 x hx).b⟩⟩
theorem Sp.lst (m n : Nat) (l : List D) (h : l.length ≤ 1000 + n) (h2 : ∀ x ∈ l, Sp m n x) : Sp (m + 1) n (.lst l) := ⟨by simp only [good, goodL_iff]; exact fun x hx => (h2 x hx).g, by simp only [bd, Bool.and_eq_true, decide_eq_true_eq, bdL_iff]; exact ⟨h, fun x hx => (h2 x hx).b⟩⟩
theorem Sp.tup' {m n : Nat} {l : List D} (h : Sp m n (.tup l)) : ∃ k, m = k + 1 ∧ l.length ≤ 1000 + n ∧ ∀ x ∈ l, Sp k n x := by
  obtain ⟨g, b⟩ := h
  cases m with
  | zero => simp [good] at g
  | succ k =>
    simp only [good, goodL_iff] at g
    simp only [bd, Bool.and_eq_true, decide_eq_true_eq, bdL_iff] at b
    exact ⟨k, rfl, b.1, fun x hx => ⟨g x hx, b.2 x hx⟩⟩
theorem Sp.goodL {m n : Nat} {l : List D} (h : ∀ x ∈ l, Sp m n x) : goodL m l = true := goodL_iff.mpr fun x hx => (h x hx).g
theorem len_app (a b : PySem.Str) : (a ++ b).length = a.length + b.length := PySem.Str.length_append a b
theorem p_listK (k : List Pt) (S : Sto) : prim .list_ [dK k] S = .ok (.lst (k.map dP)) S := rfl
theorem ex_any {G : Prg} {n : Nat} {s : Sm} {ρ ρ' : SF.Env} (h : ex (run G n) G.gl s ρ [] = .nx ρ' []) {S : Sto} (hp : plainS S = true) : ex (run G n) G.gl s ρ S = .nx ρ' S := by
  have q := ((nice_both (nice_run G n) (gl := G.gl)).1 s ρ).fr S hp
  rw [h] at q
  exact q rfl
theorem ex_step {call : D → List D → Sto → Res D} {gl : List D} {s : Sm} {l : List Sm} {ρ ρ1 : SF.Env} {S S1 : Sto} {r : Out} (h : ex call gl s ρ S = .nx ρ1 S1) (h2 : exL call gl l ρ1 S1 = r) : exL call gl (s :: l) ρ S = r := by
  rw [ex_cons, h]
  exact h2
end SF.M

set_option maxHeartbeats 200000
set_option Elab.async false
set_option linter.all false
set_option maxRecDepth 100000
set_option maxHeartbeats 0
namespace SF.Law
open PySem SF SF.M
def d_is_whole : Df := .df 3 3 [(.ret (.and (.pr (.isi .int) [(.var 0)]) (.and (.pr .not [(.pr (.isi .bool) [(.var 0)])]) (.chain .le .le (.var 1) (.var 0) (.var 2)))))]
def d_is_pair : Df := .df 2 3 [(.ret (.and (.pr (.isi .tuple) [(.var 0)]) (.and (.pr .eq [(.pr .len [(.var 0)]), (.int 2)]) (.pr .all [(.lc [2] .seq [(.var 0)] (.v 2) [] (.call 0 [(.var 2), (.pr .neg [(.var 1)]), (.var 1)]))]))))]
def d_is_point : Df := .df 1 1 [(.ret (.call 1 [(.var 0), (.g 0)]))]
def d_is_kind : Df := .df 1 3 [(.ifs (.or (.pr .not [(.pr (.isi .tuple) [(.var 0)])]) (.or (.pr .gt [(.pr .len [(.var 0)]), (.g 1)]) (.pr .not [(.pr .all [(.lc [1] .seq [(.var 0)] (.v 1) [] (.call 2 [(.var 1)]))])]))) [(.ret (.bl false))] []), (.ret (.pr .all [(.lc [1, 2] .zip [(.var 0), (.sl (.var 0) [(.int 1)] [])] (.t [(.v 1), (.v 2)]) [] (.pr .lt [(.var 1), (.var 2)]))]))]
def d_is_good : Df := .df 1 2 [(.ret (.and (.pr (.isi .tuple) [(.var 0)]) (.and (.pr .eq [(.pr .len [(.var 0)]), (.int 2)]) (.pr .all [(.lc [1] .seq [(.var 0)] (.v 1) [] (.call 3 [(.var 1)]))]))))]
def d_is_good_fence : Df := .df 1 2 [(.ifs (.or (.pr .not [(.pr (.isi .tuple) [(.var 0)])]) (.or (.pr .ne [(.pr .len [(.var 0)]), (.int 3)]) (.pr .not [(.pr .all [(.lc [1] .seq [(.var 0)] (.v 1) [] (.call 0 [(.var 1), (.pr .neg [(.g 2)]), (.g 2)]))])]))) [(.ret (.bl false))] []), (.ret (.or (.pr .ne [(.pr .ix [(.var 0), (.int 0)]), (.int 0)]) (.pr .ne [(.pr .ix [(.var 0), (.int 1)]), (.int 0)])))]
def d_need_marks : Df := .df 1 1 [(.ifs (.pr .not [(.call 4 [(.var 0)])]) [(.raise 1 [])] [])]
def d_need_fence : Df := .df 1 1 [(.ifs (.pr .not [(.call 5 [(.var 0)])]) [(.raise 4 [])] [])]
def d_worth : Df := .df 2 2 [(.ret (.pr .add [(.pr .mul [(.pr .ix [(.var 0), (.int 0)]), (.pr .ix [(.var 1), (.int 0)])]), (.pr .mul [(.pr .ix [(.var 0), (.int 1)]), (.pr .ix [(.var 1), (.int 1)])])]))]
def d_does_part : Df := .df 2 3 [(.ifs (.pr .not [(.pr .all [(.lc [2] .seq [(.pr .ix [(.var 1), (.int 0)])] (.v 2) [] (.pr .lt [(.call 8 [(.var 0), (.var 2)]), (.pr .ix [(.var 0), (.int 2)])]))])]) [(.ret (.bl false))] []), (.ret (.pr .all [(.lc [2] .seq [(.pr .ix [(.var 1), (.int 1)])] (.v 2) [] (.pr .gt [(.call 8 [(.var 0), (.var 2)]), (.pr .ix [(.var 0), (.int 2)])]))]))]
def d_is_marks : Df := .df 1 1 [(.ret (.call 4 [(.var 0)]))]
def d_is_fence : Df := .df 1 1 [(.ret (.call 5 [(.var 0)]))]
def d_parts : Df := .df 2 2 [(.ex (.call 7 [(.var 0)])), (.ex (.call 6 [(.var 1)])), (.ret (.call 9 [(.var 0), (.var 1)]))]
def d__law_vat : Df := .df 2 3 [(.asg (.v 2) (.pr .add [(.pr .mul [(.int 7919), (.var 1)]), (.int 43)])), (.ifs (.pr .lt [(.var 1), (.pr .len [(.var 0)])]) [(.asg (.v 2) (.pr .abs [(.pr .int_ [(.pr .ix [(.var 0), (.var 1)])])]))] []), (.ret (.pr .newl [(.ifx (.pr .ge [(.var 2), (.pr .pow [(.int 10), (.int 18)])]) (.var 2) (.int 0)), (.pr .add [(.pr .mod [(.pr .int_ [(.pr .add [(.pr .add [(.pr .mul [(.var 2), (.int 131071)]), (.pr .mul [(.int 8191), (.var 1)])]), (.int 5)])]), (.int 2147483629)]), (.int 1)])]))]
def d__law_under : Df := .df 2 4 [(.ifs (.pr .gt [(.pr .ix [(.var 0), (.int 0)]), (.int 0)]) [(.asg (.v 2) (.pr .mod [(.pr .int_ [(.pr .ix [(.var 0), (.int 0)])]), (.var 1)])), (.setix (.var 0) (.int 0) (.pr .fdiv [(.pr .ix [(.var 0), (.int 0)]), (.var 1)])), (.ret (.var 2))] []), (.setix (.var 0) (.int 1) (.pr .mod [(.pr .int_ [(.pr .add [(.pr .mul [(.pr .ix [(.var 0), (.int 1)]), (.int 39373)]), (.int 101)])]), (.int 2147483629)])), (.asg (.v 3) (.pr .mod [(.pr .int_ [(.pr .mul [(.pr .ix [(.var 0), (.int 1)]), (.pr .add [(.pr .fdiv [(.pr .ix [(.var 0), (.int 1)]), (.int 5)]), (.int 9)])])]), (.int 2147483587)])), (.ret (.pr .mod [(.pr .int_ [(.pr .fdiv [(.var 3), (.int 32)])]), (.var 1)]))]
def d__law_some : Df := .df 2 2 [(.ret (.pr .ix [(.var 1), (.call 14 [(.var 0), (.pr .len [(.var 1)])])]))]
def d__law_is_whole : Df := .df 3 3 [(.ret (.and (.pr (.isi .int) [(.var 0)]) (.and (.pr .not [(.pr (.isi .bool) [(.var 0)])]) (.chain .le .le (.var 1) (.var 0) (.var 2)))))]
def d__law_truly : Df := .df 2 2 [(.ret (.and (.pr (.isi .bool) [(.var 0)]) (.pr .eq [(.var 0), (.var 1)])))]
def d__law_is_pair : Df := .df 2 3 [(.ifs (.or (.pr .not [(.pr (.isi .tuple) [(.var 0)])]) (.pr .ne [(.pr .len [(.var 0)]), (.int 2)])) [(.ret (.bl false))] []), (.ret (.pr .eq [(.lc [2] .seq [(.var 0)] (.v 2) [(.pr .not [(.call 16 [(.var 2), (.pr .sub [(.int 0), (.var 1)]), (.var 1)])])] (.var 2)), (.pr .lst [])]))]
def d__law_is_kind : Df := .df 1 2 [(.ifs (.or (.pr .not [(.pr (.isi .tuple) [(.var 0)])]) (.or (.pr .gt [(.pr .len [(.var 0)]), (.int 8)]) (.pr .ne [(.lc [1] .seq [(.var 0)] (.v 1) [(.pr .not [(.call 18 [(.var 1), (.int 50)])])] (.var 1)), (.pr .lst [])]))) [(.ret (.bl false))] []), (.ret (.pr .eq [(.pr .list_ [(.var 0)]), (.pr .sortset [(.var 0)])]))]
def d__law_is_marks : Df := .df 1 1 [(.ret (.and (.pr (.isi .tuple) [(.var 0)]) (.and (.pr .eq [(.pr .len [(.var 0)]), (.int 2)]) (.and (.call 19 [(.pr .ix [(.var 0), (.int 0)])]) (.call 19 [(.pr .ix [(.var 0), (.int 1)])])))))]
def d__law_is_fence : Df := .df 1 2 [(.ifs (.or (.pr .not [(.pr (.isi .tuple) [(.var 0)])]) (.pr .ne [(.pr .len [(.var 0)]), (.int 3)])) [(.ret (.bl false))] []), (.ret (.and (.pr .eq [(.lc [1] .seq [(.var 0)] (.v 1) [(.pr .not [(.call 16 [(.var 1), (.pr .neg [(.pr .pow [(.int 10), (.int 12)])]), (.pr .pow [(.int 10), (.int 12)])])])] (.var 1)), (.pr .lst [])]) (.pr .ne [(.sl (.var 0) [] [(.int 2)]), (.pr .tup [(.int 0), (.int 0)])])))]
def d__law_does_part : Df := .df 2 7 [(.asg (.t [(.v 2), (.v 3), (.v 4)]) (.var 0)), (.ifs (.pr .ne [(.lc [5, 6] .seq [(.pr .ix [(.var 1), (.int 0)])] (.t [(.v 5), (.v 6)]) [(.pr .ge [(.pr .add [(.pr .mul [(.var 2), (.var 5)]), (.pr .mul [(.var 3), (.var 6)])]), (.var 4)])] (.int 1)), (.pr .lst [])]) [(.ret (.bl false))] []), (.ret (.pr .eq [(.lc [5, 6] .seq [(.pr .ix [(.var 1), (.int 1)])] (.t [(.v 5), (.v 6)]) [(.pr .le [(.pr .add [(.pr .mul [(.var 2), (.var 5)]), (.pr .mul [(.var 3), (.var 6)])]), (.var 4)])] (.int 1)), (.pr .lst [])]))]
def d__law_shown : Df := .df 2 2 [(.ret (.pr .tuple_ [(.pr .sortset [(.pr .add [(.var 0), (.pr .tup [(.var 1)])])])]))]
def d__law_point : Df := .df 2 2 [(.ret (.pr .tup [(.pr .sub [(.call 14 [(.var 0), (.pr .add [(.pr .mul [(.int 2), (.var 1)]), (.int 1)])]), (.var 1)]), (.pr .sub [(.call 14 [(.var 0), (.pr .add [(.pr .mul [(.int 2), (.var 1)]), (.int 1)])]), (.var 1)])]))]
def d__law_kind : Df := .df 3 5 [(.asg (.v 3) (.pr .tup [])), (.for_ (.v 4) .r1 [(.call 14 [(.var 0), (.pr .add [(.var 1), (.int 1)])])] [(.asg (.v 3) (.call 23 [(.var 3), (.call 24 [(.var 0), (.var 2)])]))]), (.ret (.var 3))]
def d__law_marks : Df := .df 2 11 [(.par2 2 3 (.call 14 [(.var 0), (.int 4)]) (.call 15 [(.var 0), (.pr .lst [(.int 2), (.int 3), (.int 5), (.int 50)])])), (.par2 4 5 (.call 25 [(.var 0), (.var 1), (.var 3)]) (.call 25 [(.var 0), (.var 1), (.var 3)])), (.ifs (.pr .gt [(.var 2), (.int 0)]) [(.asg (.t [(.v 6), (.v 7), (.v 8)]) (.pr .tup [(.pr .sub [(.call 14 [(.var 0), (.int 9)]), (.int 4)]), (.pr .sub [(.call 14 [(.var 0), (.int 9)]), (.int 4)]), (.pr .sub [(.call 14 [(.var 0), (.pr .add [(.pr .mul [(.int 2), (.var 3)]), (.int 1)])]), (.var 3)])])), (.asg (.v 9) (.pr .tuple_ [(.pr .sortset [(.pr .add [(.var 4), (.var 5)])])])), (.asg (.v 4) (.pr .tuple_ [(.sl (.lc [10] .seq [(.var 9)] (.v 10) [(.pr .lt [(.pr .add [(.pr .mul [(.var 6), (.pr .ix [(.var 10), (.int 0)])]), (.pr .mul [(.var 7), (.pr .ix [(.var 10), (.int 1)])])]), (.var 8)])] (.var 10)) [] [(.var 1)])])), (.asg (.v 5) (.pr .tuple_ [(.sl (.lc [10] .seq [(.var 9)] (.v 10) [(.pr .gt [(.pr .add [(.pr .mul [(.var 6), (.pr .ix [(.var 10), (.int 0)])]), (.pr .mul [(.var 7), (.pr .ix [(.var 10), (.int 1)])])]), (.var 8)])] (.var 10)) [] [(.var 1)])]))] []), (.ifs (.and (.pr .eq [(.var 2), (.int 3)]) (.pr .ne [(.var 4), (.pr .tup [])])) [(.asg (.v 5) (.ifx (.pr .lt [(.pr .len [(.var 5)]), (.var 1)]) (.call 23 [(.var 5), (.call 15 [(.var 0), (.var 4)])]) (.var 5)))] []), (.ret (.pr .tup [(.var 4), (.var 5)]))]
def d__law_spoilt : Df := .df 2 4 [(.ifs (.and (.pr (.isi .tuple) [(.var 1)]) (.and (.pr .ne [(.var 1), (.pr .tup [])]) (.pr .gt [(.call 14 [(.var 0), (.int 4)]), (.int 0)]))) [(.asg (.v 2) (.call 14 [(.var 0), (.pr .len [(.var 1)])])), (.ret (.pr .add [(.pr .add [(.sl (.var 1) [] [(.var 2)]), (.pr .tup [(.call 27 [(.var 0), (.pr .ix [(.var 1), (.var 2)])])])]), (.sl (.var 1) [(.pr .add [(.var 2), (.int 1)])] [])]))] []), (.asg (.v 3) (.call 14 [(.var 0), (.int 6)])), (.ifs (.pr (.isi .tuple) [(.var 1)]) [(.ret (.pr .ix [(.pr .lst [(.pr .list_ [(.var 1)]), (.sl (.var 1) [(.int 1)] []), (.pr .add [(.var 1), (.sl (.var 1) [(.pr .neg [(.int 1)])] [])]), (.sl (.var 1) [] [(.pr .neg [(.int 1)])]), .non, (.pr .tup [(.pr .tup [(.int 0), (.int 0)]), (.var 1)])]), (.var 3)]))] []), (.ifs (.pr (.isi .str) [(.var 1)]) [(.ret (.pr .ix [(.pr .lst [(.pr .add [(.var 1), (.str "x")]), (.sl (.var 1) [(.int 1)] []), (.str "first"), (.str ""), (.int 3), (.pr .upper [(.var 1)])]), (.var 3)]))] []), (.ifs (.pr (.isi .int) [(.var 1)]) [(.ret (.pr .ix [(.pr .lst [(.pr .add [(.var 1), (.int 1)]), (.pr .sub [(.var 1), (.int 1)]), (.int 51), (.bl true), .non, (.pr .str_ [(.var 1)])]), (.var 3)]))] []), (.ret .non)]
def d__law_names : Df := .nev
def d__law_error : Df := .err
def d__law_all_refused : Df := .df 3 4 [(.ret (.pr .eq [(.lc [3] .seq [(.var 1)] (.v 3) [(.pr .ne [(.callL 29 0 [0, 3] []), (.var 2)])] (.var 3)), (.pr .lst [])]))]
def d__law_known : Df := .df 0 2 [(.asg (.t [(.v 0), (.v 1)]) (.pr .tup [(.pr .tup [(.pr .tup [(.pr .tup [(.int 0), (.int 0)]), (.pr .tup [(.int 0), (.int 2)])]), (.pr .tup [(.pr .tup [(.int 2), (.int 0)]), (.pr .tup [(.int 3), (.int 3)])])]), (.pr .tup [(.pr .tup [(.pr .tup [(.int 0), (.int 0)]), (.pr .tup [(.int 1), (.int 1)])]), (.pr .tup [(.pr .tup [(.int 0), (.int 1)]), (.pr .tup [(.int 1), (.int 0)])])])])), (.ret (.pr .lst [(.var 0), (.var 1), (.pr .tup [(.pr .tup [(.pr .tup [(.int 1), (.int 1)])]), (.pr .tup [(.pr .tup [(.int 0), (.int 0)]), (.pr .tup [(.int 0), (.int 4)]), (.pr .tup [(.int 4), (.int 0)])])])]))]
def d__law_bad_kinds : Df := .df 0 3 [(.asg (.v 1) (.pr .tuple_ [(.lc [0] .r1 [(.int 9)] (.v 0) [] (.pr .tup [(.var 0), (.int 0)]))])), (.asg (.v 2) (.pr .lst [.non, (.pr .lst [(.pr .tup [(.int 0), (.int 0)])]), (.pr .tup [(.pr .tup [(.int 0), (.int 0)]), (.pr .tup [(.int 0), (.int 0)])]), (.pr .tup [(.pr .tup [(.int 1), (.int 0)]), (.pr .tup [(.int 0), (.int 0)])]), (.pr .tup [(.pr .tup [(.int 0), (.int 51)])]), (.pr .tup [(.pr .tup [(.pr .neg [(.int 51)]), (.int 0)])]), (.pr .tup [(.pr .tup [(.int 0)])]), (.pr .tup [(.pr .tup [(.int 0), (.int 0), (.int 0)])]), (.var 1)])), (.ret (.pr .add [(.var 2), (.pr .lst [(.pr .tup [(.pr .tup [(.bl true), (.int 0)])]), (.pr .tup [.non]), (.pr .tup [(.pr .lst [(.int 0), (.int 0)])]), (.str "0,0"), (.pr .tup [(.pr .tup [(.int 0), (.str "0")])]), (.pr .tup [(.int 0), (.int 0)])])]))]
def d__law_bad_marks : Df := .df 0 2 [(.asg (.v 0) (.pr .lst [.non, (.pr .tup []), (.pr .tup [(.pr .tup [])]), (.pr .tup [(.pr .tup []), (.pr .tup []), (.pr .tup [])]), (.pr .lst [(.pr .tup []), (.pr .tup [])]), (.str "|")])), (.ret (.pr .add [(.pr .add [(.var 0), (.lc [1] .seq [(.call 32 [])] (.v 1) [] (.pr .tup [(.var 1), (.pr .tup [])]))]), (.lc [1] .seq [(.call 32 [])] (.v 1) [] (.pr .tup [(.pr .tup []), (.var 1)]))]))]
def d__law_bad_fences : Df := .df 0 1 [(.asg (.v 0) (.pr .lst [.non, (.pr .tup [(.int 0), (.int 0), (.int 1)]), (.pr .tup [(.int 1), (.int 0)]), (.pr .tup [(.int 1), (.int 0), (.int 5), (.int 0)]), (.pr .lst [(.int 1), (.int 0), (.int 5)]), (.pr .tup [(.pr .add [(.pr .pow [(.int 10), (.int 12)]), (.int 1)]), (.int 0), (.int 0)]), (.pr .tup [(.int 1), (.int 0), (.pr .sub [(.pr .neg [(.pr .pow [(.int 10), (.int 12)])]), (.int 1)])]), (.pr .tup [(.bl true), (.int 0), (.int 1)])])), (.ret (.pr .add [(.var 0), (.pr .lst [(.pr .tup [(.int 1), .non, (.int 0)]), (.str "1,0,5"), (.pr .tup [(.int 1), (.int 0), (.str "5")])])]))]
def d_law : Df := .df 1 17 [(.for_ (.v 1) .r1 [(.pr .max2 [(.int 5), (.pr .min2 [(.int 12), (.pr .len [(.var 0)])])])] [(.asg (.v 2) (.call 13 [(.var 0), (.var 1)])), (.for_ (.v 3) .r1 [(.int 4)] [(.asg (.v 4) (.call 26 [(.var 2), (.int 8)])), (.asg (.v 5) (.call 15 [(.var 2), (.pr .lst [(.int 3), (.int 50), (.pr .pow [(.int 10), (.int 9)])])])), (.asg (.v 6) (.pr .tup [(.pr .sub [(.call 14 [(.var 2), (.pr .add [(.pr .mul [(.int 2), (.var 5)]), (.int 1)])]), (.var 5)]), (.pr .sub [(.call 14 [(.var 2), (.pr .add [(.pr .mul [(.int 2), (.var 5)]), (.int 1)])]), (.var 5)]), (.pr .sub [(.call 14 [(.var 2), (.pr .mul [(.int 9), (.var 5)])]), (.pr .mul [(.int 4), (.var 5)])])])), (.asg (.v 6) (.ifx (.pr .ne [(.sl (.var 6) [] [(.int 2)]), (.pr .tup [(.int 0), (.int 0)])]) (.var 6) (.pr .tup [(.int 1), (.int 0), (.int 0)]))), (.ifs (.pr .not [(.call 17 [(.call 12 [(.var 6), (.var 4)]), (.call 22 [(.var 6), (.var 4)])])]) [(.ret (.bl false))] []), (.for_ (.v 7) .seq [(.pr .tup [(.var 4), (.var 6)])] [(.for_ (.v 8) .r1 [(.int 7)] [(.ifs (.or (.pr .not [(.call 17 [(.call 10 [(.var 7)]), (.call 20 [(.var 7)])])]) (.pr .not [(.call 17 [(.call 11 [(.var 7)]), (.call 21 [(.var 7)])])])) [(.ret (.bl false))] []), (.asg (.v 7) (.call 27 [(.var 2), (.var 7)]))])])]), (.ifs (.pr .not [(.callL 30 1 [] [(.call 34 []), (.str "fence value")])]) [(.ret (.bl false))] []), (.ifs (.pr .not [(.callL 30 2 [] [(.call 33 []), (.str "marks value")])]) [(.ret (.bl false))] [])]), (.asg (.u [(.v 9), (.v 10), (.v 11)]) (.call 31 [])), (.ifs (.or (.pr .ne [(.lc [12] .seq [(.call 33 [])] (.v 12) [(.pr .notB [(.call 10 [(.var 12)]), (.bl false)])] (.var 12)), (.pr .lst [])]) (.pr .ne [(.lc [12] .seq [(.call 34 [])] (.v 12) [(.pr .notB [(.call 11 [(.var 12)]), (.bl false)])] (.var 12)), (.pr .lst [])])) [(.ret (.bl false))] []), (.asg (.v 14) (.pr .tuple_ [(.lc [13] .r1 [(.int 8)] (.v 13) [] (.pr .tup [(.var 13), (.int 50)]))])), (.ifs (.pr .ne [(.lc [15] .seq [(.pr .tup [(.var 9), (.var 10), (.var 11), (.pr .tup [(.pr .tup []), (.pr .tup [])]), (.pr .tup [(.var 14), (.var 14)])])] (.v 15) [(.pr .notB [(.call 10 [(.var 15)]), (.bl true)])] (.var 15)), (.pr .lst [])]) [(.ret (.bl false))] []), (.ifs (.pr .ne [(.lc [15] .seq [(.pr .tup [(.pr .tup [(.int 1), (.int 0), (.int 5)]), (.pr .tup [(.int 0), (.pr .neg [(.int 1)]), (.int 0)]), (.pr .tup [(.pr .pow [(.int 10), (.int 12)]), (.pr .neg [(.pr .pow [(.int 10), (.int 12)])]), (.pr .pow [(.int 10), (.int 12)])])])] (.v 15) [(.pr .notB [(.call 11 [(.var 15)]), (.bl true)])] (.var 15)), (.pr .lst [])]) [(.ret (.bl false))] []), (.asg (.v 16) (.pr .lst [(.call 12 [(.pr .tup [(.int 1), (.int 0), (.int 1)]), (.var 9)]), (.call 12 [(.pr .tup [(.pr .neg [(.int 1)]), (.int 0), (.pr .neg [(.int 1)])]), (.var 9)]), (.call 12 [(.pr .tup [(.int 1), (.int 0), (.int 2)]), (.var 9)]), (.call 12 [(.pr .tup [(.int 1), (.int 0), (.int 0)]), (.var 9)]), (.call 12 [(.pr .tup [(.int 0), (.int 1), (.int 9)]), (.pr .tup [(.pr .tup []), (.pr .tup [])])])])), (.ret (.and (.pr .eq [(.var 16), (.pr .lst [(.bl true), (.bl false), (.bl false), (.bl false), (.bl true)])]) (.and (.call 12 [(.pr .tup [(.pr .pow [(.int 10), (.int 12)]), (.int 0), (.int 1)]), (.var 9)]) (.pr .not [(.call 12 [(.pr .tup [(.int 1), (.int 0), (.int 1)]), (.var 10)])]))))]
def gls : List D := [.int 50, .int 8, .int 1000000000000]
def l_0 : LamU := (⟨0, 2, 2, (.cv (.var 0) [(.var 1)])⟩, ((["call", "odd"] : List PySem.Str)))
def l_1 : LamU := (⟨1, 0, 1, (.call 12 [(.var 0), .non])⟩, ((["odd"] : List PySem.Str)))
def l_2 : LamU := (⟨1, 0, 1, (.call 12 [(.pr .tup [(.int 1), (.int 0), (.int 0)]), (.var 0)])⟩, ((["odd"] : List PySem.Str)))
def lts : List LamU := [l_0, l_1, l_2]
def names : List PySem.Str := ((["value", "marks value", "point value", "points value", "fence value", "number value", "facts value", "step value", "word value", "text value", "nokind value", "notparted value", "impossible value", "lacking value", "unlike value", "undo value"] : List PySem.Str))
def G : Prg := ⟨gls, [d_is_whole, d_is_pair, d_is_point, d_is_kind, d_is_good, d_is_good_fence, d_need_marks, d_need_fence, d_worth, d_does_part, d_is_marks, d_is_fence, d_parts, d__law_vat, d__law_under, d__law_some, d__law_is_whole, d__law_truly, d__law_is_pair, d__law_is_kind, d__law_is_marks, d__law_is_fence, d__law_does_part, d__law_shown, d__law_point, d__law_kind, d__law_marks, d__law_spoilt, d__law_names, d__law_error, d__law_all_refused, d__law_known, d__law_bad_kinds, d__law_bad_marks, d__law_bad_fences, d_law], lts.map (·.1), names⟩
theorem gl_EDGE : G.gl[0]? = some (.int 50) := rfl
theorem gl_MOST : G.gl[1]? = some (.int 8) := rfl
theorem gl_FAR : G.gl[2]? = some (.int 1000000000000) := rfl
abbrev i_is_whole : Nat := 0
abbrev i_is_pair : Nat := 1
abbrev i_is_point : Nat := 2
abbrev i_is_kind : Nat := 3
abbrev i_is_good : Nat := 4
abbrev i_is_good_fence : Nat := 5
abbrev i_need_marks : Nat := 6
abbrev i_need_fence : Nat := 7
abbrev i_worth : Nat := 8
abbrev i_does_part : Nat := 9
abbrev i_is_marks : Nat := 10
abbrev i_is_fence : Nat := 11
abbrev i_parts : Nat := 12
abbrev i__law_vat : Nat := 13
abbrev i__law_under : Nat := 14
abbrev i__law_some : Nat := 15
abbrev i__law_is_whole : Nat := 16
abbrev i__law_truly : Nat := 17
abbrev i__law_is_pair : Nat := 18
abbrev i__law_is_kind : Nat := 19
abbrev i__law_is_marks : Nat := 20
abbrev i__law_is_fence : Nat := 21
abbrev i__law_does_part : Nat := 22
abbrev i__law_shown : Nat := 23
abbrev i__law_point : Nat := 24
abbrev i__law_kind : Nat := 25
abbrev i__law_marks : Nat := 26
abbrev i__law_spoilt : Nat := 27
abbrev i__law_names : Nat := 28
abbrev i__law_error : Nat := 29
abbrev i__law_all_refused : Nat := 30
abbrev i__law_known : Nat := 31
abbrev i__law_bad_kinds : Nat := 32
abbrev i__law_bad_marks : Nat := 33
abbrev i__law_bad_fences : Nat := 34
abbrev i_law : Nat := 35
end SF.Law

set_option maxHeartbeats 200000
set_option Elab.async false
set_option linter.all false
set_option maxRecDepth 100000
namespace SF.Law
open PySem SF SF.M
theorem r_is_whole (n : Nat) (S : Sto) (d : D) (lo hi : Int) (h : dat d = true) : run G (n + 1) (.fn i_is_whole) [d, .int lo, .int hi] S = .ok (.bl (isW lo hi d)) S := by
  rw [run_df rfl rfl]
  cases d <;> simp [startE_def, ex_asg, ex_par2, ex_par3, ex_setix, ex_ex, ex_ret, ex_retn, ex_raise, ex_ifs, ex_pass, ex_nil, ex_cons, ev_var, ev_non, ev_bl, ev_int, ev_str, ev_g, ev_pr, ev_sl, ev_and, ev_or, ev_ifx, ev_chain, ev_call, ev_cv, ev_nil, ev_cons, evI_nil, evI_one, bT_v, bT_t, bT_u, bL_nil, bL_cons, wp_nil, wp_cons, lift_ok, lift_exc, bind_ok, bind_exc, cm_ok, ofM_some, endO_rt, endO_nx, endO_exc, bM_some, nB_some, p_add, p_sub, p_mul, p_fdiv, p_mod, p_pow, p_neg, p_not, p_eq, p_ne, p_lt, p_gt, p_le, p_ge, p_isN, p_notN, p_isB, p_notB, p_in, p_nin, p_tup, p_lst, p_newl, p_ixT, p_ixL, p_ixS, p_ixR, p_lenT, p_lenL, p_lenS, p_abs, p_min2, p_max2, p_sum, p_max1, p_min1, p_any, p_all, p_int, p_tupleL, p_tupleT, p_listL, p_listT, p_isi, p_rev, tr_non, tr_bl, tr_int, tr_tup, tr_lst, ty_non, ty_bl, ty_int, ty_str, ty_tup, ty_lst, it_seqL, it_seqT, im_zipL, im_zipT, im_enumL, im_enumT, sl_tup, sl_lst, add_ii, add_bi, add_ss, add_tt, add_ll, sub_ii, sub_bi, lt_ii, gt_ii, ge_ii, le_ii, line, eq_int, eq_K0, p_lenK, p_listK, foldK, sl_K, cutD_to, eq_bool, atI0, atI1, atI2, isW, dat] at h ⊢
  rename_i i
  by_cases h1 : lo ≤ i <;> simp [h1, bind_ok, endO_rt, startE_def, ex_asg, ex_par2, ex_par3, ex_setix, ex_ex, ex_ret, ex_retn, ex_raise, ex_ifs, ex_pass, ex_nil, ex_cons, ev_var, ev_non, ev_bl, ev_int, ev_str, ev_g, ev_pr, ev_sl, ev_and, ev_or, ev_ifx, ev_chain, ev_call, ev_cv, ev_nil, ev_cons, evI_nil, evI_one, bT_v, bT_t, bT_u, bL_nil, bL_cons, wp_nil, wp_cons, lift_ok, lift_exc, bind_ok, bind_exc, cm_ok, ofM_some, endO_rt, endO_nx, endO_exc, bM_some, nB_some, p_add, p_sub, p_mul, p_fdiv, p_mod, p_pow, p_neg, p_not, p_eq, p_ne, p_lt, p_gt, p_le, p_ge, p_isN, p_notN, p_isB, p_notB, p_in, p_nin, p_tup, p_lst, p_newl, p_ixT, p_ixL, p_ixS, p_ixR, p_lenT, p_lenL, p_lenS, p_abs, p_min2, p_max2, p_sum, p_max1, p_min1, p_any, p_all, p_int, p_tupleL, p_tupleT, p_listL, p_listT, p_isi, p_rev, tr_non, tr_bl, tr_int, tr_tup, tr_lst, ty_non, ty_bl, ty_int, ty_str, ty_tup, ty_lst, it_seqL, it_seqT, im_zipL, im_zipT, im_enumL, im_enumT, sl_tup, sl_lst, add_ii, add_bi, add_ss, add_tt, add_ll, sub_ii, sub_bi, lt_ii, gt_ii, ge_ii, le_ii, line, eq_int, eq_K0, p_lenK, p_listK, foldK, sl_K, cutD_to, eq_bool, atI0, atI1, atI2]
theorem r_is_pair (n : Nat) (S : Sto) (d : D) (m : Int) (h : dat d = true) : run G (n + 2) (.fn i_is_pair) [d, .int m] S = .ok (.bl (isPr m d)) S := by
  rw [run_df rfl rfl]
  cases d with
  | tup l =>
    match l, h with
    | [], _ => simp [startE_def, ex_asg, ex_par2, ex_par3, ex_setix, ex_ex, ex_ret, ex_retn, ex_raise, ex_ifs, ex_pass, ex_nil, ex_cons, ev_var, ev_non, ev_bl, ev_int, ev_str, ev_g, ev_pr, ev_sl, ev_and, ev_or, ev_ifx, ev_chain, ev_call, ev_cv, ev_nil, ev_cons, evI_nil, evI_one, bT_v, bT_t, bT_u, bL_nil, bL_cons, wp_nil, wp_cons, lift_ok, lift_exc, bind_ok, bind_exc, cm_ok, ofM_some, endO_rt, endO_nx, endO_exc, bM_some, nB_some, p_add, p_sub, p_mul, p_fdiv, p_mod, p_pow, p_neg, p_not, p_eq, p_ne, p_lt, p_gt, p_le, p_ge, p_isN, p_notN, p_isB, p_notB, p_in, p_nin, p_tup, p_lst, p_newl, p_ixT, p_ixL, p_ixS, p_ixR, p_lenT, p_lenL, p_lenS, p_abs, p_min2, p_max2, p_sum, p_max1, p_min1, p_any, p_all, p_int, p_tupleL, p_tupleT, p_listL, p_listT, p_isi, p_rev, tr_non, tr_bl, tr_int, tr_tup, tr_lst, ty_non, ty_bl, ty_int, ty_str, ty_tup, ty_lst, it_seqL, it_seqT, im_zipL, im_zipT, im_enumL, im_enumT, sl_tup, sl_lst, add_ii, add_bi, add_ss, add_tt, add_ll, sub_ii, sub_bi, lt_ii, gt_ii, ge_ii, le_ii, line, eq_int, eq_K0, p_lenK, p_listK, foldK, sl_K, cutD_to, eq_bool, atI0, atI1, atI2, isPr]
    | [a], h => simp [startE_def, ex_asg, ex_par2, ex_par3, ex_setix, ex_ex, ex_ret, ex_retn, ex_raise, ex_ifs, ex_pass, ex_nil, ex_cons, ev_var, ev_non, ev_bl, ev_int, ev_str, ev_g, ev_pr, ev_sl, ev_and, ev_or, ev_ifx, ev_chain, ev_call, ev_cv, ev_nil, ev_cons, evI_nil, evI_one, bT_v, bT_t, bT_u, bL_nil, bL_cons, wp_nil, wp_cons, lift_ok, lift_exc, bind_ok, bind_exc, cm_ok, ofM_some, endO_rt, endO_nx, endO_exc, bM_some, nB_some, p_add, p_sub, p_mul, p_fdiv, p_mod, p_pow, p_neg, p_not, p_eq, p_ne, p_lt, p_gt, p_le, p_ge, p_isN, p_notN, p_isB, p_notB, p_in, p_nin, p_tup, p_lst, p_newl, p_ixT, p_ixL, p_ixS, p_ixR, p_lenT, p_lenL, p_lenS, p_abs, p_min2, p_max2, p_sum, p_max1, p_min1, p_any, p_all, p_int, p_tupleL, p_tupleT, p_listL, p_listT, p_isi, p_rev, tr_non, tr_bl, tr_int, tr_tup, tr_lst, ty_non, ty_bl, ty_int, ty_str, ty_tup, ty_lst, it_seqL, it_seqT, im_zipL, im_zipT, im_enumL, im_enumT, sl_tup, sl_lst, add_ii, add_bi, add_ss, add_tt, add_ll, sub_ii, sub_bi, lt_ii, gt_ii, ge_ii, le_ii, line, eq_int, eq_K0, p_lenK, p_listK, foldK, sl_K, cutD_to, eq_bool, atI0, atI1, atI2, isPr]
    | [a, b], h =>
      simp only [dat, datL, Bool.and_true, Bool.and_eq_true] at h
      simp [startE_def, ex_asg, ex_par2, ex_par3, ex_setix, ex_ex, ex_ret, ex_retn, ex_raise, ex_ifs, ex_pass, ex_nil, ex_cons, ev_var, ev_non, ev_bl, ev_int, ev_str, ev_g, ev_pr, ev_sl, ev_and, ev_or, ev_ifx, ev_chain, ev_call, ev_cv, ev_nil, ev_cons, evI_nil, evI_one, bT_v, bT_t, bT_u, bL_nil, bL_cons, wp_nil, wp_cons, lift_ok, lift_exc, bind_ok, bind_exc, cm_ok, ofM_some, endO_rt, endO_nx, endO_exc, bM_some, nB_some, p_add, p_sub, p_mul, p_fdiv, p_mod, p_pow, p_neg, p_not, p_eq, p_ne, p_lt, p_gt, p_le, p_ge, p_isN, p_notN, p_isB, p_notB, p_in, p_nin, p_tup, p_lst, p_newl, p_ixT, p_ixL, p_ixS, p_ixR, p_lenT, p_lenL, p_lenS, p_abs, p_min2, p_max2, p_sum, p_max1, p_min1, p_any, p_all, p_int, p_tupleL, p_tupleT, p_listL, p_listT, p_isi, p_rev, tr_non, tr_bl, tr_int, tr_tup, tr_lst, ty_non, ty_bl, ty_int, ty_str, ty_tup, ty_lst, it_seqL, it_seqT, im_zipL, im_zipT, im_enumL, im_enumT, sl_tup, sl_lst, add_ii, add_bi, add_ss, add_tt, add_ll, sub_ii, sub_bi, lt_ii, gt_ii, ge_ii, le_ii, line, eq_int, eq_K0, p_lenK, p_listK, foldK, sl_K, cutD_to, eq_bool, atI0, atI1, atI2, isPr]
      rw [ev_lc0 (ds := [.tup [a, b]]) (xs := [a, b]) (g := fun x => .bl (isW (-m) m x)) (by simp [startE_def, ex_asg, ex_par2, ex_par3, ex_setix, ex_ex, ex_ret, ex_retn, ex_raise, ex_ifs, ex_pass, ex_nil, ex_cons, ev_var, ev_non, ev_bl, ev_int, ev_str, ev_g, ev_pr, ev_sl, ev_and, ev_or, ev_ifx, ev_chain, ev_call, ev_cv, ev_nil, ev_cons, evI_nil, evI_one, bT_v, bT_t, bT_u, bL_nil, bL_cons, wp_nil, wp_cons, lift_ok, lift_exc, bind_ok, bind_exc, cm_ok, ofM_some, endO_rt, endO_nx, endO_exc, bM_some, nB_some, p_add, p_sub, p_mul, p_fdiv, p_mod, p_pow, p_neg, p_not, p_eq, p_ne, p_lt, p_gt, p_le, p_ge, p_isN, p_notN, p_isB, p_notB, p_in, p_nin, p_tup, p_lst, p_newl, p_ixT, p_ixL, p_ixS, p_ixR, p_lenT, p_lenL, p_lenS, p_abs, p_min2, p_max2, p_sum, p_max1, p_min1, p_any, p_all, p_int, p_tupleL, p_tupleT, p_listL, p_listT, p_isi, p_rev, tr_non, tr_bl, tr_int, tr_tup, tr_lst, ty_non, ty_bl, ty_int, ty_str, ty_tup, ty_lst, it_seqL, it_seqT, im_zipL, im_zipT, im_enumL, im_enumT, sl_tup, sl_lst, add_ii, add_bi, add_ss, add_tt, add_ll, sub_ii, sub_bi, lt_ii, gt_ii, ge_ii, le_ii, line, eq_int, eq_K0, p_lenK, p_listK, foldK, sl_K, cutD_to, eq_bool, atI0, atI1, atI2]) rfl (fun x hx => ⟨_, rfl, by
        have hx : dat x = true := by
          simp only [List.mem_cons, List.not_mem_nil, or_false] at hx
          rcases hx with rfl | rfl
          · exact h.1
          · exact h.2
        simp [startE_def, ex_asg, ex_par2, ex_par3, ex_setix, ex_ex, ex_ret, ex_retn, ex_raise, ex_ifs, ex_pass, ex_nil, ex_cons, ev_var, ev_non, ev_bl, ev_int, ev_str, ev_g, ev_pr, ev_sl, ev_and, ev_or, ev_ifx, ev_chain, ev_call, ev_cv, ev_nil, ev_cons, evI_nil, evI_one, bT_v, bT_t, bT_u, bL_nil, bL_cons, wp_nil, wp_cons, lift_ok, lift_exc, bind_ok, bind_exc, cm_ok, ofM_some, endO_rt, endO_nx, endO_exc, bM_some, nB_some, p_add, p_sub, p_mul, p_fdiv, p_mod, p_pow, p_neg, p_not, p_eq, p_ne, p_lt, p_gt, p_le, p_ge, p_isN, p_notN, p_isB, p_notB, p_in, p_nin, p_tup, p_lst, p_newl, p_ixT, p_ixL, p_ixS, p_ixR, p_lenT, p_lenL, p_lenS, p_abs, p_min2, p_max2, p_sum, p_max1, p_min1, p_any, p_all, p_int, p_tupleL, p_tupleT, p_listL, p_listT, p_isi, p_rev, tr_non, tr_bl, tr_int, tr_tup, tr_lst, ty_non, ty_bl, ty_int, ty_str, ty_tup, ty_lst, it_seqL, it_seqT, im_zipL, im_zipT, im_enumL, im_enumT, sl_tup, sl_lst, add_ii, add_bi, add_ss, add_tt, add_ll, sub_ii, sub_bi, lt_ii, gt_ii, ge_ii, le_ii, line, eq_int, eq_K0, p_lenK, p_listK, foldK, sl_K, cutD_to, eq_bool, atI0, atI1, atI2, r_is_whole, hx]⟩) (by simp)]
      simp [startE_def, ex_asg, ex_par2, ex_par3, ex_setix, ex_ex, ex_ret, ex_retn, ex_raise, ex_ifs, ex_pass, ex_nil, ex_cons, ev_var, ev_non, ev_bl, ev_int, ev_str, ev_g, ev_pr, ev_sl, ev_and, ev_or, ev_ifx, ev_chain, ev_call, ev_cv, ev_nil, ev_cons, evI_nil, evI_one, bT_v, bT_t, bT_u, bL_nil, bL_cons, wp_nil, wp_cons, lift_ok, lift_exc, bind_ok, bind_exc, cm_ok, ofM_some, endO_rt, endO_nx, endO_exc, bM_some, nB_some, p_add, p_sub, p_mul, p_fdiv, p_mod, p_pow, p_neg, p_not, p_eq, p_ne, p_lt, p_gt, p_le, p_ge, p_isN, p_notN, p_isB, p_notB, p_in, p_nin, p_tup, p_lst, p_newl, p_ixT, p_ixL, p_ixS, p_ixR, p_lenT, p_lenL, p_lenS, p_abs, p_min2, p_max2, p_sum, p_max1, p_min1, p_any, p_all, p_int, p_tupleL, p_tupleT, p_listL, p_listT, p_isi, p_rev, tr_non, tr_bl, tr_int, tr_tup, tr_lst, ty_non, ty_bl, ty_int, ty_str, ty_tup, ty_lst, it_seqL, it_seqT, im_zipL, im_zipT, im_enumL, im_enumT, sl_tup, sl_lst, add_ii, add_bi, add_ss, add_tt, add_ll, sub_ii, sub_bi, lt_ii, gt_ii, ge_ii, le_ii, line, eq_int, eq_K0, p_lenK, p_listK, foldK, sl_K, cutD_to, eq_bool, atI0, atI1, atI2, blsOf]
    | a :: b :: c :: l, h =>
      have e : ((l.length : Int) + 1 + 1 + 1 == 2) = false := by simp; omega
      simp [startE_def, ex_asg, ex_par2, ex_par3, ex_setix, ex_ex, ex_ret, ex_retn, ex_raise, ex_ifs, ex_pass, ex_nil, ex_cons, ev_var, ev_non, ev_bl, ev_int, ev_str, ev_g, ev_pr, ev_sl, ev_and, ev_or, ev_ifx, ev_chain, ev_call, ev_cv, ev_nil, ev_cons, evI_nil, evI_one, bT_v, bT_t, bT_u, bL_nil, bL_cons, wp_nil, wp_cons, lift_ok, lift_exc, bind_ok, bind_exc, cm_ok, ofM_some, endO_rt, endO_nx, endO_exc, bM_some, nB_some, p_add, p_sub, p_mul, p_fdiv, p_mod, p_pow, p_neg, p_not, p_eq, p_ne, p_lt, p_gt, p_le, p_ge, p_isN, p_notN, p_isB, p_notB, p_in, p_nin, p_tup, p_lst, p_newl, p_ixT, p_ixL, p_ixS, p_ixR, p_lenT, p_lenL, p_lenS, p_abs, p_min2, p_max2, p_sum, p_max1, p_min1, p_any, p_all, p_int, p_tupleL, p_tupleT, p_listL, p_listT, p_isi, p_rev, tr_non, tr_bl, tr_int, tr_tup, tr_lst, ty_non, ty_bl, ty_int, ty_str, ty_tup, ty_lst, it_seqL, it_seqT, im_zipL, im_zipT, im_enumL, im_enumT, sl_tup, sl_lst, add_ii, add_bi, add_ss, add_tt, add_ll, sub_ii, sub_bi, lt_ii, gt_ii, ge_ii, le_ii, line, eq_int, eq_K0, p_lenK, p_listK, foldK, sl_K, cutD_to, eq_bool, atI0, atI1, atI2, isPr, e]
  | _ => simp [startE_def, ex_asg, ex_par2, ex_par3, ex_setix, ex_ex, ex_ret, ex_retn, ex_raise, ex_ifs, ex_pass, ex_nil, ex_cons, ev_var, ev_non, ev_bl, ev_int, ev_str, ev_g, ev_pr, ev_sl, ev_and, ev_or, ev_ifx, ev_chain, ev_call, ev_cv, ev_nil, ev_cons, evI_nil, evI_one, bT_v, bT_t, bT_u, bL_nil, bL_cons, wp_nil, wp_cons, lift_ok, lift_exc, bind_ok, bind_exc, cm_ok, ofM_some, endO_rt, endO_nx, endO_exc, bM_some, nB_some, p_add, p_sub, p_mul, p_fdiv, p_mod, p_pow, p_neg, p_not, p_eq, p_ne, p_lt, p_gt, p_le, p_ge, p_isN, p_notN, p_isB, p_notB, p_in, p_nin, p_tup, p_lst, p_newl, p_ixT, p_ixL, p_ixS, p_ixR, p_lenT, p_lenL, p_lenS, p_abs, p_min2, p_max2, p_sum, p_max1, p_min1, p_any, p_all, p_int, p_tupleL, p_tupleT, p_listL, p_listT, p_isi, p_rev, tr_non, tr_bl, tr_int, tr_tup, tr_lst, ty_non, ty_bl, ty_int, ty_str, ty_tup, ty_lst, it_seqL, it_seqT, im_zipL, im_zipT, im_enumL, im_enumT, sl_tup, sl_lst, add_ii, add_bi, add_ss, add_tt, add_ll, sub_ii, sub_bi, lt_ii, gt_ii, ge_ii, le_ii, line, eq_int, eq_K0, p_lenK, p_listK, foldK, sl_K, cutD_to, eq_bool, atI0, atI1, atI2, isPr, dat] at h ⊢
theorem r_is_point (n : Nat) (S : Sto) (d : D) (h : dat d = true) : run G (n + 3) (.fn i_is_point) [d] S = .ok (.bl (isPr 50 d)) S := by
  rw [run_df rfl rfl]
  simp [startE_def, ex_asg, ex_par2, ex_par3, ex_setix, ex_ex, ex_ret, ex_retn, ex_raise, ex_ifs, ex_pass, ex_nil, ex_cons, ev_var, ev_non, ev_bl, ev_int, ev_str, ev_g, ev_pr, ev_sl, ev_and, ev_or, ev_ifx, ev_chain, ev_call, ev_cv, ev_nil, ev_cons, evI_nil, evI_one, bT_v, bT_t, bT_u, bL_nil, bL_cons, wp_nil, wp_cons, lift_ok, lift_exc, bind_ok, bind_exc, cm_ok, ofM_some, endO_rt, endO_nx, endO_exc, bM_some, nB_some, p_add, p_sub, p_mul, p_fdiv, p_mod, p_pow, p_neg, p_not, p_eq, p_ne, p_lt, p_gt, p_le, p_ge, p_isN, p_notN, p_isB, p_notB, p_in, p_nin, p_tup, p_lst, p_newl, p_ixT, p_ixL, p_ixS, p_ixR, p_lenT, p_lenL, p_lenS, p_abs, p_min2, p_max2, p_sum, p_max1, p_min1, p_any, p_all, p_int, p_tupleL, p_tupleT, p_listL, p_listT, p_isi, p_rev, tr_non, tr_bl, tr_int, tr_tup, tr_lst, ty_non, ty_bl, ty_int, ty_str, ty_tup, ty_lst, it_seqL, it_seqT, im_zipL, im_zipT, im_enumL, im_enumT, sl_tup, sl_lst, add_ii, add_bi, add_ss, add_tt, add_ll, sub_ii, sub_bi, lt_ii, gt_ii, ge_ii, le_ii, line, eq_int, eq_K0, p_lenK, p_listK, foldK, sl_K, cutD_to, eq_bool, atI0, atI1, atI2, r_is_pair, h, gl_EDGE]
theorem r_under (n : Nat) {S : Sto} {r : Nat} {m : Int} (v : Vat S r) (h1 : 1 ≤ m) (h2 : m < 9223372036854775808) : ∃ i S', run G (n + 1) (.fn i__law_under) [.ref r, .int m] S = .ok (.int i) S' ∧ 0 ≤ i ∧ i < m ∧ Vat S' r := by
  have v0 := v
  obtain ⟨p, a, b, e, ha, hb, hb2⟩ := v
  have e2 : ∀ x y : D, (S.set r (.lst [x, y]))[r]? = some (.lst [x, y]) := fun x y => List.getElem?_set_self (List.getElem?_eq_some_iff.mp e).1
  by_cases h : 0 < a
  · refine ⟨a % m, S.set r (.lst [.int (a / m), .int b]), ?_, Int.emod_nonneg _ (by omega), Int.emod_lt_of_pos _ (by omega), v0.set (Int.ediv_nonneg ha (by omega)) hb hb2⟩
    rw [run_df rfl rfl]
    simp [startE_def, ex_asg, ex_par2, ex_par3, ex_setix, ex_ex, ex_ret, ex_retn, ex_raise, ex_ifs, ex_pass, ex_nil, ex_cons, ev_var, ev_non, ev_bl, ev_int, ev_str, ev_g, ev_pr, ev_sl, ev_and, ev_or, ev_ifx, ev_chain, ev_call, ev_cv, ev_nil, ev_cons, evI_nil, evI_one, bT_v, bT_t, bT_u, bL_nil, bL_cons, wp_nil, wp_cons, lift_ok, lift_exc, bind_ok, bind_exc, cm_ok, ofM_some, endO_rt, endO_nx, endO_exc, bM_some, nB_some, p_add, p_sub, p_mul, p_fdiv, p_mod, p_pow, p_neg, p_not, p_eq, p_ne, p_lt, p_gt, p_le, p_ge, p_isN, p_notN, p_isB, p_notB, p_in, p_nin, p_tup, p_lst, p_newl, p_ixT, p_ixL, p_ixS, p_ixR, p_lenT, p_lenL, p_lenS, p_abs, p_min2, p_max2, p_sum, p_max1, p_min1, p_any, p_all, p_int, p_tupleL, p_tupleT, p_listL, p_listT, p_isi, p_rev, tr_non, tr_bl, tr_int, tr_tup, tr_lst, ty_non, ty_bl, ty_int, ty_str, ty_tup, ty_lst, it_seqL, it_seqT, im_zipL, im_zipT, im_enumL, im_enumT, sl_tup, sl_lst, add_ii, add_bi, add_ss, add_tt, add_ll, sub_ii, sub_bi, lt_ii, gt_ii, ge_ii, le_ii, line, eq_int, eq_K0, p_lenK, p_listK, foldK, sl_K, cutD_to, eq_bool, atI0, atI1, atI2, lst_ref e, h, pMod_ok (show 0 < m by omega), pDiv_ok (show 0 < m ∧ m < 9223372036854775808 by omega), set0 e]
  · have q1 : 0 ≤ (b * 39373 + 101) % 2147483629 := Int.emod_nonneg _ (by omega)
    have q2 : (b * 39373 + 101) % 2147483629 ≤ 2147483629 := by omega
    let b' := (b * 39373 + 101) % 2147483629
    refine ⟨(b' * (b' / 5 + 9)) % 2147483587 / 32 % m, S.set r (.lst [.int a, .int ((b * 39373 + 101) % 2147483629)]), ?_, Int.emod_nonneg _ (show m ≠ 0 by omega), Int.emod_lt_of_pos _ (by omega), v0.set ha q1 q2⟩
    rw [run_df rfl rfl]
    simp [startE_def, ex_asg, ex_par2, ex_par3, ex_setix, ex_ex, ex_ret, ex_retn, ex_raise, ex_ifs, ex_pass, ex_nil, ex_cons, ev_var, ev_non, ev_bl, ev_int, ev_str, ev_g, ev_pr, ev_sl, ev_and, ev_or, ev_ifx, ev_chain, ev_call, ev_cv, ev_nil, ev_cons, evI_nil, evI_one, bT_v, bT_t, bT_u, bL_nil, bL_cons, wp_nil, wp_cons, lift_ok, lift_exc, bind_ok, bind_exc, cm_ok, ofM_some, endO_rt, endO_nx, endO_exc, bM_some, nB_some, p_add, p_sub, p_mul, p_fdiv, p_mod, p_pow, p_neg, p_not, p_eq, p_ne, p_lt, p_gt, p_le, p_ge, p_isN, p_notN, p_isB, p_notB, p_in, p_nin, p_tup, p_lst, p_newl, p_ixT, p_ixL, p_ixS, p_ixR, p_lenT, p_lenL, p_lenS, p_abs, p_min2, p_max2, p_sum, p_max1, p_min1, p_any, p_all, p_int, p_tupleL, p_tupleT, p_listL, p_listT, p_isi, p_rev, tr_non, tr_bl, tr_int, tr_tup, tr_lst, ty_non, ty_bl, ty_int, ty_str, ty_tup, ty_lst, it_seqL, it_seqT, im_zipL, im_zipT, im_enumL, im_enumT, sl_tup, sl_lst, add_ii, add_bi, add_ss, add_tt, add_ll, sub_ii, sub_bi, lt_ii, gt_ii, ge_ii, le_ii, line, eq_int, eq_K0, p_lenK, p_listK, foldK, sl_K, cutD_to, eq_bool, atI0, atI1, atI2, lst_ref e, lst_ref (e2 _ _), h, pMod_ok, pMod_ok (show 0 < m by omega), pDiv_ok, set1 e, pMul_r, pMul_l (show -9223372036854775808 < (b * 39373 + 101) % 2147483629 ∧ (b * 39373 + 101) % 2147483629 < 9223372036854775808 by omega), b']
end SF.Law

set_option maxHeartbeats 200000
set_option Elab.async false
set_option linter.all false
set_option maxRecDepth 100000
namespace SF.Law
open PySem SF SF.M
theorem r_is_kind (n : Nat) (S : Sto) (d : D) (h : dat d = true) : run G (n + 4) (.fn i_is_kind) [d] S = .ok (.bl (isKd d)) S := by
  rw [run_df rfl rfl]
  cases d with
  | tup l =>
    simp only [dat, datL_iff] at h
    by_cases h8 : 8 < l.length
    · have e8 : (8 : Int) < (l.length : Int) := by omega
      rw [isKd_long h8]
      simp [startE_def, ex_asg, ex_par2, ex_par3, ex_setix, ex_ex, ex_ret, ex_retn, ex_raise, ex_ifs, ex_pass, ex_nil, ex_cons, ev_var, ev_non, ev_bl, ev_int, ev_str, ev_g, ev_pr, ev_sl, ev_and, ev_or, ev_ifx, ev_chain, ev_call, ev_cv, ev_nil, ev_cons, evI_nil, evI_one, bT_v, bT_t, bT_u, bL_nil, bL_cons, wp_nil, wp_cons, lift_ok, lift_exc, bind_ok, bind_exc, cm_ok, ofM_some, endO_rt, endO_nx, endO_exc, bM_some, nB_some, p_add, p_sub, p_mul, p_fdiv, p_mod, p_pow, p_neg, p_not, p_eq, p_ne, p_lt, p_gt, p_le, p_ge, p_isN, p_notN, p_isB, p_notB, p_in, p_nin, p_tup, p_lst, p_newl, p_ixT, p_ixL, p_ixS, p_ixR, p_lenT, p_lenL, p_lenS, p_abs, p_min2, p_max2, p_sum, p_max1, p_min1, p_any, p_all, p_int, p_tupleL, p_tupleT, p_listL, p_listT, p_isi, p_rev, tr_non, tr_bl, tr_int, tr_tup, tr_lst, ty_non, ty_bl, ty_int, ty_str, ty_tup, ty_lst, it_seqL, it_seqT, im_zipL, im_zipT, im_enumL, im_enumT, sl_tup, sl_lst, add_ii, add_bi, add_ss, add_tt, add_ll, sub_ii, sub_bi, lt_ii, gt_ii, ge_ii, le_ii, line, eq_int, eq_K0, p_lenK, p_listK, foldK, sl_K, cutD_to, eq_bool, atI0, atI1, atI2, gl_MOST, e8]
    · have e8 : ¬ (8 : Int) < (l.length : Int) := by omega
      have h9 : l.length ≤ 100000 := by omega
      simp only [startE_def, ex_asg, ex_par2, ex_par3, ex_setix, ex_ex, ex_ret, ex_retn, ex_raise, ex_ifs, ex_pass, ex_nil, ex_cons, ev_var, ev_non, ev_bl, ev_int, ev_str, ev_g, ev_pr, ev_sl, ev_and, ev_or, ev_ifx, ev_chain, ev_call, ev_cv, ev_nil, ev_cons, evI_nil, evI_one, bT_v, bT_t, bT_u, bL_nil, bL_cons, wp_nil, wp_cons, lift_ok, lift_exc, bind_ok, bind_exc, cm_ok, ofM_some, endO_rt, endO_nx, endO_exc, bM_some, nB_some, p_add, p_sub, p_mul, p_fdiv, p_mod, p_pow, p_neg, p_not, p_eq, p_ne, p_lt, p_gt, p_le, p_ge, p_isN, p_notN, p_isB, p_notB, p_in, p_nin, p_tup, p_lst, p_newl, p_ixT, p_ixL, p_ixS, p_ixR, p_lenT, p_lenL, p_lenS, p_abs, p_min2, p_max2, p_sum, p_max1, p_min1, p_any, p_all, p_int, p_tupleL, p_tupleT, p_listL, p_listT, p_isi, p_rev, tr_non, tr_bl, tr_int, tr_tup, tr_lst, ty_non, ty_bl, ty_int, ty_str, ty_tup, ty_lst, it_seqL, it_seqT, im_zipL, im_zipT, im_enumL, im_enumT, sl_tup, sl_lst, add_ii, add_bi, add_ss, add_tt, add_ll, sub_ii, sub_bi, lt_ii, gt_ii, ge_ii, le_ii, line, eq_int, eq_K0, p_lenK, p_listK, foldK, sl_K, cutD_to, eq_bool, atI0, atI1, atI2, gl_MOST, Option.map_some, List.map_cons, List.map_nil, List.length_cons, List.length_nil, List.replicate, Nat.reduceAdd, Nat.reduceSub, List.cons_append, List.nil_append, List.getElem?_cons_zero, decide_true, Bool.not_true, e8, decide_false]
      rw [ev_lc0 (ds := [.tup l]) (xs := l) (g := fun x => .bl (isPr 50 x)) (by simp [startE_def, ex_asg, ex_par2, ex_par3, ex_setix, ex_ex, ex_ret, ex_retn, ex_raise, ex_ifs, ex_pass, ex_nil, ex_cons, ev_var, ev_non, ev_bl, ev_int, ev_str, ev_g, ev_pr, ev_sl, ev_and, ev_or, ev_ifx, ev_chain, ev_call, ev_cv, ev_nil, ev_cons, evI_nil, evI_one, bT_v, bT_t, bT_u, bL_nil, bL_cons, wp_nil, wp_cons, lift_ok, lift_exc, bind_ok, bind_exc, cm_ok, ofM_some, endO_rt, endO_nx, endO_exc, bM_some, nB_some, p_add, p_sub, p_mul, p_fdiv, p_mod, p_pow, p_neg, p_not, p_eq, p_ne, p_lt, p_gt, p_le, p_ge, p_isN, p_notN, p_isB, p_notB, p_in, p_nin, p_tup, p_lst, p_newl, p_ixT, p_ixL, p_ixS, p_ixR, p_lenT, p_lenL, p_lenS, p_abs, p_min2, p_max2, p_sum, p_max1, p_min1, p_any, p_all, p_int, p_tupleL, p_tupleT, p_listL, p_listT, p_isi, p_rev, tr_non, tr_bl, tr_int, tr_tup, tr_lst, ty_non, ty_bl, ty_int, ty_str, ty_tup, ty_lst, it_seqL, it_seqT, im_zipL, im_zipT, im_enumL, im_enumT, sl_tup, sl_lst, add_ii, add_bi, add_ss, add_tt, add_ll, sub_ii, sub_bi, lt_ii, gt_ii, ge_ii, le_ii, line, eq_int, eq_K0, p_lenK, p_listK, foldK, sl_K, cutD_to, eq_bool, atI0, atI1, atI2]) rfl (fun x hx => ⟨_, rfl, by simp [startE_def, ex_asg, ex_par2, ex_par3, ex_setix, ex_ex, ex_ret, ex_retn, ex_raise, ex_ifs, ex_pass, ex_nil, ex_cons, ev_var, ev_non, ev_bl, ev_int, ev_str, ev_g, ev_pr, ev_sl, ev_and, ev_or, ev_ifx, ev_chain, ev_call, ev_cv, ev_nil, ev_cons, evI_nil, evI_one, bT_v, bT_t, bT_u, bL_nil, bL_cons, wp_nil, wp_cons, lift_ok, lift_exc, bind_ok, bind_exc, cm_ok, ofM_some, endO_rt, endO_nx, endO_exc, bM_some, nB_some, p_add, p_sub, p_mul, p_fdiv, p_mod, p_pow, p_neg, p_not, p_eq, p_ne, p_lt, p_gt, p_le, p_ge, p_isN, p_notN, p_isB, p_notB, p_in, p_nin, p_tup, p_lst, p_newl, p_ixT, p_ixL, p_ixS, p_ixR, p_lenT, p_lenL, p_lenS, p_abs, p_min2, p_max2, p_sum, p_max1, p_min1, p_any, p_all, p_int, p_tupleL, p_tupleT, p_listL, p_listT, p_isi, p_rev, tr_non, tr_bl, tr_int, tr_tup, tr_lst, ty_non, ty_bl, ty_int, ty_str, ty_tup, ty_lst, it_seqL, it_seqT, im_zipL, im_zipT, im_enumL, im_enumT, sl_tup, sl_lst, add_ii, add_bi, add_ss, add_tt, add_ll, sub_ii, sub_bi, lt_ii, gt_ii, ge_ii, le_ii, line, eq_int, eq_K0, p_lenK, p_listK, foldK, sl_K, cutD_to, eq_bool, atI0, atI1, atI2, r_is_point, h x hx]⟩) h9]
      cases ha : l.all (isPr 50) with
      | false =>
        rw [isKd_no ha]
        have e2 : (l.map (isPr 50)).all id = false := by rw [List.all_map]; exact ha
        simp [startE_def, ex_asg, ex_par2, ex_par3, ex_setix, ex_ex, ex_ret, ex_retn, ex_raise, ex_ifs, ex_pass, ex_nil, ex_cons, ev_var, ev_non, ev_bl, ev_int, ev_str, ev_g, ev_pr, ev_sl, ev_and, ev_or, ev_ifx, ev_chain, ev_call, ev_cv, ev_nil, ev_cons, evI_nil, evI_one, bT_v, bT_t, bT_u, bL_nil, bL_cons, wp_nil, wp_cons, lift_ok, lift_exc, bind_ok, bind_exc, cm_ok, ofM_some, endO_rt, endO_nx, endO_exc, bM_some, nB_some, p_add, p_sub, p_mul, p_fdiv, p_mod, p_pow, p_neg, p_not, p_eq, p_ne, p_lt, p_gt, p_le, p_ge, p_isN, p_notN, p_isB, p_notB, p_in, p_nin, p_tup, p_lst, p_newl, p_ixT, p_ixL, p_ixS, p_ixR, p_lenT, p_lenL, p_lenS, p_abs, p_min2, p_max2, p_sum, p_max1, p_min1, p_any, p_all, p_int, p_tupleL, p_tupleT, p_listL, p_listT, p_isi, p_rev, tr_non, tr_bl, tr_int, tr_tup, tr_lst, ty_non, ty_bl, ty_int, ty_str, ty_tup, ty_lst, it_seqL, it_seqT, im_zipL, im_zipT, im_enumL, im_enumT, sl_tup, sl_lst, add_ii, add_bi, add_ss, add_tt, add_ll, sub_ii, sub_bi, lt_ii, gt_ii, ge_ii, le_ii, line, eq_int, eq_K0, p_lenK, p_listK, foldK, sl_K, cutD_to, eq_bool, atI0, atI1, atI2, bls_map, e2]
      | true =>
        obtain ⟨ps, rfl⟩ := all_pairs ha
        have e2 : ((ps.map dP).map (isPr 50)).all id = true := by rw [List.all_map]; exact ha
        simp only [bind_ok, p_all, bls_map, e2, Option.map_some, ofM_some, p_not, tr_bl, nB_some, bM_some, Bool.not_true, lift_ok, ex_nil, ex_cons, ex_ret, ev_pr, ev_cons, ev_nil]
        rw [ev_lc0 (ds := [.tup (ps.map dP), .tup ((ps.map dP).drop 1)]) (xs := zipD (ps.map dP) ((ps.map dP).drop 1)) (g := fun x => .bl (ltT x)) (by simp [startE_def, ex_asg, ex_par2, ex_par3, ex_setix, ex_ex, ex_ret, ex_retn, ex_raise, ex_ifs, ex_pass, ex_nil, ex_cons, ev_var, ev_non, ev_bl, ev_int, ev_str, ev_g, ev_pr, ev_sl, ev_and, ev_or, ev_ifx, ev_chain, ev_call, ev_cv, ev_nil, ev_cons, evI_nil, evI_one, bT_v, bT_t, bT_u, bL_nil, bL_cons, wp_nil, wp_cons, lift_ok, lift_exc, bind_ok, bind_exc, cm_ok, ofM_some, endO_rt, endO_nx, endO_exc, bM_some, nB_some, p_add, p_sub, p_mul, p_fdiv, p_mod, p_pow, p_neg, p_not, p_eq, p_ne, p_lt, p_gt, p_le, p_ge, p_isN, p_notN, p_isB, p_notB, p_in, p_nin, p_tup, p_lst, p_newl, p_ixT, p_ixL, p_ixS, p_ixR, p_lenT, p_lenL, p_lenS, p_abs, p_min2, p_max2, p_sum, p_max1, p_min1, p_any, p_all, p_int, p_tupleL, p_tupleT, p_listL, p_listT, p_isi, p_rev, tr_non, tr_bl, tr_int, tr_tup, tr_lst, ty_non, ty_bl, ty_int, ty_str, ty_tup, ty_lst, it_seqL, it_seqT, im_zipL, im_zipT, im_enumL, im_enumT, sl_tup, sl_lst, add_ii, add_bi, add_ss, add_tt, add_ll, sub_ii, sub_bi, lt_ii, gt_ii, ge_ii, le_ii, line, eq_int, eq_K0, p_lenK, p_listK, foldK, sl_K, cutD_to, eq_bool, atI0, atI1, atI2, cutD_from1]) rfl (fun x hx => by
            obtain ⟨p, q, rfl⟩ := zip_mem ps x hx
            exact ⟨_, rfl, by simp [startE_def, ex_asg, ex_par2, ex_par3, ex_setix, ex_ex, ex_ret, ex_retn, ex_raise, ex_ifs, ex_pass, ex_nil, ex_cons, ev_var, ev_non, ev_bl, ev_int, ev_str, ev_g, ev_pr, ev_sl, ev_and, ev_or, ev_ifx, ev_chain, ev_call, ev_cv, ev_nil, ev_cons, evI_nil, evI_one, bT_v, bT_t, bT_u, bL_nil, bL_cons, wp_nil, wp_cons, lift_ok, lift_exc, bind_ok, bind_exc, cm_ok, ofM_some, endO_rt, endO_nx, endO_exc, bM_some, nB_some, p_add, p_sub, p_mul, p_fdiv, p_mod, p_pow, p_neg, p_not, p_eq, p_ne, p_lt, p_gt, p_le, p_ge, p_isN, p_notN, p_isB, p_notB, p_in, p_nin, p_tup, p_lst, p_newl, p_ixT, p_ixL, p_ixS, p_ixR, p_lenT, p_lenL, p_lenS, p_abs, p_min2, p_max2, p_sum, p_max1, p_min1, p_any, p_all, p_int, p_tupleL, p_tupleT, p_listL, p_listT, p_isi, p_rev, tr_non, tr_bl, tr_int, tr_tup, tr_lst, ty_non, ty_bl, ty_int, ty_str, ty_tup, ty_lst, it_seqL, it_seqT, im_zipL, im_zipT, im_enumL, im_enumT, sl_tup, sl_lst, add_ii, add_bi, add_ss, add_tt, add_ll, sub_ii, sub_bi, lt_ii, gt_ii, ge_ii, le_ii, line, eq_int, eq_K0, p_lenK, p_listK, foldK, sl_K, cutD_to, eq_bool, atI0, atI1, atI2, ltD_P, ltT_P]⟩) (Nat.le_trans (zipM_len _ _) h9)]
        simp only [bind_ok, p_all, bls_map, Option.map_some, ofM_some, lift_ok, endO_rt, List.all_map, Function.comp_def, id, isKd_pts]
        have h8' : ps.length ≤ 8 := by rw [List.length_map] at h8; omega
        have ha' : (ps.all fun x => isPr 50 (dP x)) = true := by rw [List.all_map] at ha; exact ha
        rw [zip_asc, ha', decide_eq_true h8']
        rfl
  | _ => simp [startE_def, ex_asg, ex_par2, ex_par3, ex_setix, ex_ex, ex_ret, ex_retn, ex_raise, ex_ifs, ex_pass, ex_nil, ex_cons, ev_var, ev_non, ev_bl, ev_int, ev_str, ev_g, ev_pr, ev_sl, ev_and, ev_or, ev_ifx, ev_chain, ev_call, ev_cv, ev_nil, ev_cons, evI_nil, evI_one, bT_v, bT_t, bT_u, bL_nil, bL_cons, wp_nil, wp_cons, lift_ok, lift_exc, bind_ok, bind_exc, cm_ok, ofM_some, endO_rt, endO_nx, endO_exc, bM_some, nB_some, p_add, p_sub, p_mul, p_fdiv, p_mod, p_pow, p_neg, p_not, p_eq, p_ne, p_lt, p_gt, p_le, p_ge, p_isN, p_notN, p_isB, p_notB, p_in, p_nin, p_tup, p_lst, p_newl, p_ixT, p_ixL, p_ixS, p_ixR, p_lenT, p_lenL, p_lenS, p_abs, p_min2, p_max2, p_sum, p_max1, p_min1, p_any, p_all, p_int, p_tupleL, p_tupleT, p_listL, p_listT, p_isi, p_rev, tr_non, tr_bl, tr_int, tr_tup, tr_lst, ty_non, ty_bl, ty_int, ty_str, ty_tup, ty_lst, it_seqL, it_seqT, im_zipL, im_zipT, im_enumL, im_enumT, sl_tup, sl_lst, add_ii, add_bi, add_ss, add_tt, add_ll, sub_ii, sub_bi, lt_ii, gt_ii, ge_ii, le_ii, line, eq_int, eq_K0, p_lenK, p_listK, foldK, sl_K, cutD_to, eq_bool, atI0, atI1, atI2, isKd, dat] at h ⊢
theorem isMk_eq (a b : D) : isMk (.tup [a, b]) = (isKd a && isKd b) := rfl
theorem r_is_good (n : Nat) (S : Sto) (d : D) (h : dat d = true) : run G (n + 5) (.fn i_is_good) [d] S = .ok (.bl (isMk d)) S := by
  rw [run_df rfl rfl]
  cases d with
  | tup l =>
    match l, h with
    | [], _ => simp [startE_def, ex_asg, ex_par2, ex_par3, ex_setix, ex_ex, ex_ret, ex_retn, ex_raise, ex_ifs, ex_pass, ex_nil, ex_cons, ev_var, ev_non, ev_bl, ev_int, ev_str, ev_g, ev_pr, ev_sl, ev_and, ev_or, ev_ifx, ev_chain, ev_call, ev_cv, ev_nil, ev_cons, evI_nil, evI_one, bT_v, bT_t, bT_u, bL_nil, bL_cons, wp_nil, wp_cons, lift_ok, lift_exc, bind_ok, bind_exc, cm_ok, ofM_some, endO_rt, endO_nx, endO_exc, bM_some, nB_some, p_add, p_sub, p_mul, p_fdiv, p_mod, p_pow, p_neg, p_not, p_eq, p_ne, p_lt, p_gt, p_le, p_ge, p_isN, p_notN, p_isB, p_notB, p_in, p_nin, p_tup, p_lst, p_newl, p_ixT, p_ixL, p_ixS, p_ixR, p_lenT, p_lenL, p_lenS, p_abs, p_min2, p_max2, p_sum, p_max1, p_min1, p_any, p_all, p_int, p_tupleL, p_tupleT, p_listL, p_listT, p_isi, p_rev, tr_non, tr_bl, tr_int, tr_tup, tr_lst, ty_non, ty_bl, ty_int, ty_str, ty_tup, ty_lst, it_seqL, it_seqT, im_zipL, im_zipT, im_enumL, im_enumT, sl_tup, sl_lst, add_ii, add_bi, add_ss, add_tt, add_ll, sub_ii, sub_bi, lt_ii, gt_ii, ge_ii, le_ii, line, eq_int, eq_K0, p_lenK, p_listK, foldK, sl_K, cutD_to, eq_bool, atI0, atI1, atI2, isMk]
    | [a], h => simp [startE_def, ex_asg, ex_par2, ex_par3, ex_setix, ex_ex, ex_ret, ex_retn, ex_raise, ex_ifs, ex_pass, ex_nil, ex_cons, ev_var, ev_non, ev_bl, ev_int, ev_str, ev_g, ev_pr, ev_sl, ev_and, ev_or, ev_ifx, ev_chain, ev_call, ev_cv, ev_nil, ev_cons, evI_nil, evI_one, bT_v, bT_t, bT_u, bL_nil, bL_cons, wp_nil, wp_cons, lift_ok, lift_exc, bind_ok, bind_exc, cm_ok, ofM_some, endO_rt, endO_nx, endO_exc, bM_some, nB_some, p_add, p_sub, p_mul, p_fdiv, p_mod, p_pow, p_neg, p_not, p_eq, p_ne, p_lt, p_gt, p_le, p_ge, p_isN, p_notN, p_isB, p_notB, p_in, p_nin, p_tup, p_lst, p_newl, p_ixT, p_ixL, p_ixS, p_ixR, p_lenT, p_lenL, p_lenS, p_abs, p_min2, p_max2, p_sum, p_max1, p_min1, p_any, p_all, p_int, p_tupleL, p_tupleT, p_listL, p_listT, p_isi, p_rev, tr_non, tr_bl, tr_int, tr_tup, tr_lst, ty_non, ty_bl, ty_int, ty_str, ty_tup, ty_lst, it_seqL, it_seqT, im_zipL, im_zipT, im_enumL, im_enumT, sl_tup, sl_lst, add_ii, add_bi, add_ss, add_tt, add_ll, sub_ii, sub_bi, lt_ii, gt_ii, ge_ii, le_ii, line, eq_int, eq_K0, p_lenK, p_listK, foldK, sl_K, cutD_to, eq_bool, atI0, atI1, atI2, isMk]
    | [a, b], h =>
      simp only [dat, datL, Bool.and_true, Bool.and_eq_true] at h
      simp [startE_def, ex_asg, ex_par2, ex_par3, ex_setix, ex_ex, ex_ret, ex_retn, ex_raise, ex_ifs, ex_pass, ex_nil, ex_cons, ev_var, ev_non, ev_bl, ev_int, ev_str, ev_g, ev_pr, ev_sl, ev_and, ev_or, ev_ifx, ev_chain, ev_call, ev_cv, ev_nil, ev_cons, evI_nil, evI_one, bT_v, bT_t, bT_u, bL_nil, bL_cons, wp_nil, wp_cons, lift_ok, lift_exc, bind_ok, bind_exc, cm_ok, ofM_some, endO_rt, endO_nx, endO_exc, bM_some, nB_some, p_add, p_sub, p_mul, p_fdiv, p_mod, p_pow, p_neg, p_not, p_eq, p_ne, p_lt, p_gt, p_le, p_ge, p_isN, p_notN, p_isB, p_notB, p_in, p_nin, p_tup, p_lst, p_newl, p_ixT, p_ixL, p_ixS, p_ixR, p_lenT, p_lenL, p_lenS, p_abs, p_min2, p_max2, p_sum, p_max1, p_min1, p_any, p_all, p_int, p_tupleL, p_tupleT, p_listL, p_listT, p_isi, p_rev, tr_non, tr_bl, tr_int, tr_tup, tr_lst, ty_non, ty_bl, ty_int, ty_str, ty_tup, ty_lst, it_seqL, it_seqT, im_zipL, im_zipT, im_enumL, im_enumT, sl_tup, sl_lst, add_ii, add_bi, add_ss, add_tt, add_ll, sub_ii, sub_bi, lt_ii, gt_ii, ge_ii, le_ii, line, eq_int, eq_K0, p_lenK, p_listK, foldK, sl_K, cutD_to, eq_bool, atI0, atI1, atI2, isMk]
      rw [ev_lc0 (ds := [.tup [a, b]]) (xs := [a, b]) (g := fun x => .bl (isKd x)) (by simp [startE_def, ex_asg, ex_par2, ex_par3, ex_setix, ex_ex, ex_ret, ex_retn, ex_raise, ex_ifs, ex_pass, ex_nil, ex_cons, ev_var, ev_non, ev_bl, ev_int, ev_str, ev_g, ev_pr, ev_sl, ev_and, ev_or, ev_ifx, ev_chain, ev_call, ev_cv, ev_nil, ev_cons, evI_nil, evI_one, bT_v, bT_t, bT_u, bL_nil, bL_cons, wp_nil, wp_cons, lift_ok, lift_exc, bind_ok, bind_exc, cm_ok, ofM_some, endO_rt, endO_nx, endO_exc, bM_some, nB_some, p_add, p_sub, p_mul, p_fdiv, p_mod, p_pow, p_neg, p_not, p_eq, p_ne, p_lt, p_gt, p_le, p_ge, p_isN, p_notN, p_isB, p_notB, p_in, p_nin, p_tup, p_lst, p_newl, p_ixT, p_ixL, p_ixS, p_ixR, p_lenT, p_lenL, p_lenS, p_abs, p_min2, p_max2, p_sum, p_max1, p_min1, p_any, p_all, p_int, p_tupleL, p_tupleT, p_listL, p_listT, p_isi, p_rev, tr_non, tr_bl, tr_int, tr_tup, tr_lst, ty_non, ty_bl, ty_int, ty_str, ty_tup, ty_lst, it_seqL, it_seqT, im_zipL, im_zipT, im_enumL, im_enumT, sl_tup, sl_lst, add_ii, add_bi, add_ss, add_tt, add_ll, sub_ii, sub_bi, lt_ii, gt_ii, ge_ii, le_ii, line, eq_int, eq_K0, p_lenK, p_listK, foldK, sl_K, cutD_to, eq_bool, atI0, atI1, atI2]) rfl (fun x hx => ⟨_, rfl, by
        have hx : dat x = true := by
          simp only [List.mem_cons, List.not_mem_nil, or_false] at hx
          rcases hx with rfl | rfl
          · exact h.1
          · exact h.2
        simp [startE_def, ex_asg, ex_par2, ex_par3, ex_setix, ex_ex, ex_ret, ex_retn, ex_raise, ex_ifs, ex_pass, ex_nil, ex_cons, ev_var, ev_non, ev_bl, ev_int, ev_str, ev_g, ev_pr, ev_sl, ev_and, ev_or, ev_ifx, ev_chain, ev_call, ev_cv, ev_nil, ev_cons, evI_nil, evI_one, bT_v, bT_t, bT_u, bL_nil, bL_cons, wp_nil, wp_cons, lift_ok, lift_exc, bind_ok, bind_exc, cm_ok, ofM_some, endO_rt, endO_nx, endO_exc, bM_some, nB_some, p_add, p_sub, p_mul, p_fdiv, p_mod, p_pow, p_neg, p_not, p_eq, p_ne, p_lt, p_gt, p_le, p_ge, p_isN, p_notN, p_isB, p_notB, p_in, p_nin, p_tup, p_lst, p_newl, p_ixT, p_ixL, p_ixS, p_ixR, p_lenT, p_lenL, p_lenS, p_abs, p_min2, p_max2, p_sum, p_max1, p_min1, p_any, p_all, p_int, p_tupleL, p_tupleT, p_listL, p_listT, p_isi, p_rev, tr_non, tr_bl, tr_int, tr_tup, tr_lst, ty_non, ty_bl, ty_int, ty_str, ty_tup, ty_lst, it_seqL, it_seqT, im_zipL, im_zipT, im_enumL, im_enumT, sl_tup, sl_lst, add_ii, add_bi, add_ss, add_tt, add_ll, sub_ii, sub_bi, lt_ii, gt_ii, ge_ii, le_ii, line, eq_int, eq_K0, p_lenK, p_listK, foldK, sl_K, cutD_to, eq_bool, atI0, atI1, atI2, r_is_kind, hx]⟩) (by simp)]
      simp [startE_def, ex_asg, ex_par2, ex_par3, ex_setix, ex_ex, ex_ret, ex_retn, ex_raise, ex_ifs, ex_pass, ex_nil, ex_cons, ev_var, ev_non, ev_bl, ev_int, ev_str, ev_g, ev_pr, ev_sl, ev_and, ev_or, ev_ifx, ev_chain, ev_call, ev_cv, ev_nil, ev_cons, evI_nil, evI_one, bT_v, bT_t, bT_u, bL_nil, bL_cons, wp_nil, wp_cons, lift_ok, lift_exc, bind_ok, bind_exc, cm_ok, ofM_some, endO_rt, endO_nx, endO_exc, bM_some, nB_some, p_add, p_sub, p_mul, p_fdiv, p_mod, p_pow, p_neg, p_not, p_eq, p_ne, p_lt, p_gt, p_le, p_ge, p_isN, p_notN, p_isB, p_notB, p_in, p_nin, p_tup, p_lst, p_newl, p_ixT, p_ixL, p_ixS, p_ixR, p_lenT, p_lenL, p_lenS, p_abs, p_min2, p_max2, p_sum, p_max1, p_min1, p_any, p_all, p_int, p_tupleL, p_tupleT, p_listL, p_listT, p_isi, p_rev, tr_non, tr_bl, tr_int, tr_tup, tr_lst, ty_non, ty_bl, ty_int, ty_str, ty_tup, ty_lst, it_seqL, it_seqT, im_zipL, im_zipT, im_enumL, im_enumT, sl_tup, sl_lst, add_ii, add_bi, add_ss, add_tt, add_ll, sub_ii, sub_bi, lt_ii, gt_ii, ge_ii, le_ii, line, eq_int, eq_K0, p_lenK, p_listK, foldK, sl_K, cutD_to, eq_bool, atI0, atI1, atI2, blsOf]
    | a :: b :: c :: l, h =>
      have e : ((l.length : Int) + 1 + 1 + 1 == 2) = false := by simp; omega
      simp [startE_def, ex_asg, ex_par2, ex_par3, ex_setix, ex_ex, ex_ret, ex_retn, ex_raise, ex_ifs, ex_pass, ex_nil, ex_cons, ev_var, ev_non, ev_bl, ev_int, ev_str, ev_g, ev_pr, ev_sl, ev_and, ev_or, ev_ifx, ev_chain, ev_call, ev_cv, ev_nil, ev_cons, evI_nil, evI_one, bT_v, bT_t, bT_u, bL_nil, bL_cons, wp_nil, wp_cons, lift_ok, lift_exc, bind_ok, bind_exc, cm_ok, ofM_some, endO_rt, endO_nx, endO_exc, bM_some, nB_some, p_add, p_sub, p_mul, p_fdiv, p_mod, p_pow, p_neg, p_not, p_eq, p_ne, p_lt, p_gt, p_le, p_ge, p_isN, p_notN, p_isB, p_notB, p_in, p_nin, p_tup, p_lst, p_newl, p_ixT, p_ixL, p_ixS, p_ixR, p_lenT, p_lenL, p_lenS, p_abs, p_min2, p_max2, p_sum, p_max1, p_min1, p_any, p_all, p_int, p_tupleL, p_tupleT, p_listL, p_listT, p_isi, p_rev, tr_non, tr_bl, tr_int, tr_tup, tr_lst, ty_non, ty_bl, ty_int, ty_str, ty_tup, ty_lst, it_seqL, it_seqT, im_zipL, im_zipT, im_enumL, im_enumT, sl_tup, sl_lst, add_ii, add_bi, add_ss, add_tt, add_ll, sub_ii, sub_bi, lt_ii, gt_ii, ge_ii, le_ii, line, eq_int, eq_K0, p_lenK, p_listK, foldK, sl_K, cutD_to, eq_bool, atI0, atI1, atI2, isMk, e]
  | _ => simp [startE_def, ex_asg, ex_par2, ex_par3, ex_setix, ex_ex, ex_ret, ex_retn, ex_raise, ex_ifs, ex_pass, ex_nil, ex_cons, ev_var, ev_non, ev_bl, ev_int, ev_str, ev_g, ev_pr, ev_sl, ev_and, ev_or, ev_ifx, ev_chain, ev_call, ev_cv, ev_nil, ev_cons, evI_nil, evI_one, bT_v, bT_t, bT_u, bL_nil, bL_cons, wp_nil, wp_cons, lift_ok, lift_exc, bind_ok, bind_exc, cm_ok, ofM_some, endO_rt, endO_nx, endO_exc, bM_some, nB_some, p_add, p_sub, p_mul, p_fdiv, p_mod, p_pow, p_neg, p_not, p_eq, p_ne, p_lt, p_gt, p_le, p_ge, p_isN, p_notN, p_isB, p_notB, p_in, p_nin, p_tup, p_lst, p_newl, p_ixT, p_ixL, p_ixS, p_ixR, p_lenT, p_lenL, p_lenS, p_abs, p_min2, p_max2, p_sum, p_max1, p_min1, p_any, p_all, p_int, p_tupleL, p_tupleT, p_listL, p_listT, p_isi, p_rev, tr_non, tr_bl, tr_int, tr_tup, tr_lst, ty_non, ty_bl, ty_int, ty_str, ty_tup, ty_lst, it_seqL, it_seqT, im_zipL, im_zipT, im_enumL, im_enumT, sl_tup, sl_lst, add_ii, add_bi, add_ss, add_tt, add_ll, sub_ii, sub_bi, lt_ii, gt_ii, ge_ii, le_ii, line, eq_int, eq_K0, p_lenK, p_listK, foldK, sl_K, cutD_to, eq_bool, atI0, atI1, atI2, isMk, dat] at h ⊢
end SF.Law

set_option maxHeartbeats 200000
set_option Elab.async false
set_option linter.all false
set_option maxRecDepth 100000
namespace SF.Law
open PySem SF SF.M
theorem r_is_good_fence (n : Nat) (S : Sto) (d : D) (h : dat d = true) : run G (n + 2) (.fn i_is_good_fence) [d] S = .ok (.bl (isFn d)) S := by
  rw [run_df rfl rfl]
  cases d with
  | tup l =>
    match l, h with
    | [], _ => simp [startE_def, ex_asg, ex_par2, ex_par3, ex_setix, ex_ex, ex_ret, ex_retn, ex_raise, ex_ifs, ex_pass, ex_nil, ex_cons, ev_var, ev_non, ev_bl, ev_int, ev_str, ev_g, ev_pr, ev_sl, ev_and, ev_or, ev_ifx, ev_chain, ev_call, ev_cv, ev_nil, ev_cons, evI_nil, evI_one, bT_v, bT_t, bT_u, bL_nil, bL_cons, wp_nil, wp_cons, lift_ok, lift_exc, bind_ok, bind_exc, cm_ok, ofM_some, endO_rt, endO_nx, endO_exc, bM_some, nB_some, p_add, p_sub, p_mul, p_fdiv, p_mod, p_pow, p_neg, p_not, p_eq, p_ne, p_lt, p_gt, p_le, p_ge, p_isN, p_notN, p_isB, p_notB, p_in, p_nin, p_tup, p_lst, p_newl, p_ixT, p_ixL, p_ixS, p_ixR, p_lenT, p_lenL, p_lenS, p_abs, p_min2, p_max2, p_sum, p_max1, p_min1, p_any, p_all, p_int, p_tupleL, p_tupleT, p_listL, p_listT, p_isi, p_rev, tr_non, tr_bl, tr_int, tr_tup, tr_lst, ty_non, ty_bl, ty_int, ty_str, ty_tup, ty_lst, it_seqL, it_seqT, im_zipL, im_zipT, im_enumL, im_enumT, sl_tup, sl_lst, add_ii, add_bi, add_ss, add_tt, add_ll, sub_ii, sub_bi, lt_ii, gt_ii, ge_ii, le_ii, line, eq_int, eq_K0, p_lenK, p_listK, foldK, sl_K, cutD_to, eq_bool, atI0, atI1, atI2, isFn]
    | [a], h => simp [startE_def, ex_asg, ex_par2, ex_par3, ex_setix, ex_ex, ex_ret, ex_retn, ex_raise, ex_ifs, ex_pass, ex_nil, ex_cons, ev_var, ev_non, ev_bl, ev_int, ev_str, ev_g, ev_pr, ev_sl, ev_and, ev_or, ev_ifx, ev_chain, ev_call, ev_cv, ev_nil, ev_cons, evI_nil, evI_one, bT_v, bT_t, bT_u, bL_nil, bL_cons, wp_nil, wp_cons, lift_ok, lift_exc, bind_ok, bind_exc, cm_ok, ofM_some, endO_rt, endO_nx, endO_exc, bM_some, nB_some, p_add, p_sub, p_mul, p_fdiv, p_mod, p_pow, p_neg, p_not, p_eq, p_ne, p_lt, p_gt, p_le, p_ge, p_isN, p_notN, p_isB, p_notB, p_in, p_nin, p_tup, p_lst, p_newl, p_ixT, p_ixL, p_ixS, p_ixR, p_lenT, p_lenL, p_lenS, p_abs, p_min2, p_max2, p_sum, p_max1, p_min1, p_any, p_all, p_int, p_tupleL, p_tupleT, p_listL, p_listT, p_isi, p_rev, tr_non, tr_bl, tr_int, tr_tup, tr_lst, ty_non, ty_bl, ty_int, ty_str, ty_tup, ty_lst, it_seqL, it_seqT, im_zipL, im_zipT, im_enumL, im_enumT, sl_tup, sl_lst, add_ii, add_bi, add_ss, add_tt, add_ll, sub_ii, sub_bi, lt_ii, gt_ii, ge_ii, le_ii, line, eq_int, eq_K0, p_lenK, p_listK, foldK, sl_K, cutD_to, eq_bool, atI0, atI1, atI2, isFn]
    | [a, b], h => simp [startE_def, ex_asg, ex_par2, ex_par3, ex_setix, ex_ex, ex_ret, ex_retn, ex_raise, ex_ifs, ex_pass, ex_nil, ex_cons, ev_var, ev_non, ev_bl, ev_int, ev_str, ev_g, ev_pr, ev_sl, ev_and, ev_or, ev_ifx, ev_chain, ev_call, ev_cv, ev_nil, ev_cons, evI_nil, evI_one, bT_v, bT_t, bT_u, bL_nil, bL_cons, wp_nil, wp_cons, lift_ok, lift_exc, bind_ok, bind_exc, cm_ok, ofM_some, endO_rt, endO_nx, endO_exc, bM_some, nB_some, p_add, p_sub, p_mul, p_fdiv, p_mod, p_pow, p_neg, p_not, p_eq, p_ne, p_lt, p_gt, p_le, p_ge, p_isN, p_notN, p_isB, p_notB, p_in, p_nin, p_tup, p_lst, p_newl, p_ixT, p_ixL, p_ixS, p_ixR, p_lenT, p_lenL, p_lenS, p_abs, p_min2, p_max2, p_sum, p_max1, p_min1, p_any, p_all, p_int, p_tupleL, p_tupleT, p_listL, p_listT, p_isi, p_rev, tr_non, tr_bl, tr_int, tr_tup, tr_lst, ty_non, ty_bl, ty_int, ty_str, ty_tup, ty_lst, it_seqL, it_seqT, im_zipL, im_zipT, im_enumL, im_enumT, sl_tup, sl_lst, add_ii, add_bi, add_ss, add_tt, add_ll, sub_ii, sub_bi, lt_ii, gt_ii, ge_ii, le_ii, line, eq_int, eq_K0, p_lenK, p_listK, foldK, sl_K, cutD_to, eq_bool, atI0, atI1, atI2, isFn]
    | [a, b, c], h =>
      simp only [dat, datL, Bool.and_true, Bool.and_eq_true] at h
      simp [startE_def, ex_asg, ex_par2, ex_par3, ex_setix, ex_ex, ex_ret, ex_retn, ex_raise, ex_ifs, ex_pass, ex_nil, ex_cons, ev_var, ev_non, ev_bl, ev_int, ev_str, ev_g, ev_pr, ev_sl, ev_and, ev_or, ev_ifx, ev_chain, ev_call, ev_cv, ev_nil, ev_cons, evI_nil, evI_one, bT_v, bT_t, bT_u, bL_nil, bL_cons, wp_nil, wp_cons, lift_ok, lift_exc, bind_ok, bind_exc, cm_ok, ofM_some, endO_rt, endO_nx, endO_exc, bM_some, nB_some, p_add, p_sub, p_mul, p_fdiv, p_mod, p_pow, p_neg, p_not, p_eq, p_ne, p_lt, p_gt, p_le, p_ge, p_isN, p_notN, p_isB, p_notB, p_in, p_nin, p_tup, p_lst, p_newl, p_ixT, p_ixL, p_ixS, p_ixR, p_lenT, p_lenL, p_lenS, p_abs, p_min2, p_max2, p_sum, p_max1, p_min1, p_any, p_all, p_int, p_tupleL, p_tupleT, p_listL, p_listT, p_isi, p_rev, tr_non, tr_bl, tr_int, tr_tup, tr_lst, ty_non, ty_bl, ty_int, ty_str, ty_tup, ty_lst, it_seqL, it_seqT, im_zipL, im_zipT, im_enumL, im_enumT, sl_tup, sl_lst, add_ii, add_bi, add_ss, add_tt, add_ll, sub_ii, sub_bi, lt_ii, gt_ii, ge_ii, le_ii, line, eq_int, eq_K0, p_lenK, p_listK, foldK, sl_K, cutD_to, eq_bool, atI0, atI1, atI2, isFn]
      rw [ev_lc0 (ds := [.tup [a, b, c]]) (xs := [a, b, c]) (g := fun x => .bl (isW (-1000000000000) 1000000000000 x)) (by simp [startE_def, ex_asg, ex_par2, ex_par3, ex_setix, ex_ex, ex_ret, ex_retn, ex_raise, ex_ifs, ex_pass, ex_nil, ex_cons, ev_var, ev_non, ev_bl, ev_int, ev_str, ev_g, ev_pr, ev_sl, ev_and, ev_or, ev_ifx, ev_chain, ev_call, ev_cv, ev_nil, ev_cons, evI_nil, evI_one, bT_v, bT_t, bT_u, bL_nil, bL_cons, wp_nil, wp_cons, lift_ok, lift_exc, bind_ok, bind_exc, cm_ok, ofM_some, endO_rt, endO_nx, endO_exc, bM_some, nB_some, p_add, p_sub, p_mul, p_fdiv, p_mod, p_pow, p_neg, p_not, p_eq, p_ne, p_lt, p_gt, p_le, p_ge, p_isN, p_notN, p_isB, p_notB, p_in, p_nin, p_tup, p_lst, p_newl, p_ixT, p_ixL, p_ixS, p_ixR, p_lenT, p_lenL, p_lenS, p_abs, p_min2, p_max2, p_sum, p_max1, p_min1, p_any, p_all, p_int, p_tupleL, p_tupleT, p_listL, p_listT, p_isi, p_rev, tr_non, tr_bl, tr_int, tr_tup, tr_lst, ty_non, ty_bl, ty_int, ty_str, ty_tup, ty_lst, it_seqL, it_seqT, im_zipL, im_zipT, im_enumL, im_enumT, sl_tup, sl_lst, add_ii, add_bi, add_ss, add_tt, add_ll, sub_ii, sub_bi, lt_ii, gt_ii, ge_ii, le_ii, line, eq_int, eq_K0, p_lenK, p_listK, foldK, sl_K, cutD_to, eq_bool, atI0, atI1, atI2]) rfl (fun x hx => ⟨_, rfl, by
        have hx : dat x = true := by
          simp only [List.mem_cons, List.not_mem_nil, or_false] at hx
          rcases hx with rfl | rfl | rfl
          · exact h.1
          · exact h.2.1
          · exact h.2.2
        simp [startE_def, ex_asg, ex_par2, ex_par3, ex_setix, ex_ex, ex_ret, ex_retn, ex_raise, ex_ifs, ex_pass, ex_nil, ex_cons, ev_var, ev_non, ev_bl, ev_int, ev_str, ev_g, ev_pr, ev_sl, ev_and, ev_or, ev_ifx, ev_chain, ev_call, ev_cv, ev_nil, ev_cons, evI_nil, evI_one, bT_v, bT_t, bT_u, bL_nil, bL_cons, wp_nil, wp_cons, lift_ok, lift_exc, bind_ok, bind_exc, cm_ok, ofM_some, endO_rt, endO_nx, endO_exc, bM_some, nB_some, p_add, p_sub, p_mul, p_fdiv, p_mod, p_pow, p_neg, p_not, p_eq, p_ne, p_lt, p_gt, p_le, p_ge, p_isN, p_notN, p_isB, p_notB, p_in, p_nin, p_tup, p_lst, p_newl, p_ixT, p_ixL, p_ixS, p_ixR, p_lenT, p_lenL, p_lenS, p_abs, p_min2, p_max2, p_sum, p_max1, p_min1, p_any, p_all, p_int, p_tupleL, p_tupleT, p_listL, p_listT, p_isi, p_rev, tr_non, tr_bl, tr_int, tr_tup, tr_lst, ty_non, ty_bl, ty_int, ty_str, ty_tup, ty_lst, it_seqL, it_seqT, im_zipL, im_zipT, im_enumL, im_enumT, sl_tup, sl_lst, add_ii, add_bi, add_ss, add_tt, add_ll, sub_ii, sub_bi, lt_ii, gt_ii, ge_ii, le_ii, line, eq_int, eq_K0, p_lenK, p_listK, foldK, sl_K, cutD_to, eq_bool, atI0, atI1, atI2, r_is_whole, hx, gl_FAR]⟩) (by simp)]
      simp [startE_def, ex_asg, ex_par2, ex_par3, ex_setix, ex_ex, ex_ret, ex_retn, ex_raise, ex_ifs, ex_pass, ex_nil, ex_cons, ev_var, ev_non, ev_bl, ev_int, ev_str, ev_g, ev_pr, ev_sl, ev_and, ev_or, ev_ifx, ev_chain, ev_call, ev_cv, ev_nil, ev_cons, evI_nil, evI_one, bT_v, bT_t, bT_u, bL_nil, bL_cons, wp_nil, wp_cons, lift_ok, lift_exc, bind_ok, bind_exc, cm_ok, ofM_some, endO_rt, endO_nx, endO_exc, bM_some, nB_some, p_add, p_sub, p_mul, p_fdiv, p_mod, p_pow, p_neg, p_not, p_eq, p_ne, p_lt, p_gt, p_le, p_ge, p_isN, p_notN, p_isB, p_notB, p_in, p_nin, p_tup, p_lst, p_newl, p_ixT, p_ixL, p_ixS, p_ixR, p_lenT, p_lenL, p_lenS, p_abs, p_min2, p_max2, p_sum, p_max1, p_min1, p_any, p_all, p_int, p_tupleL, p_tupleT, p_listL, p_listT, p_isi, p_rev, tr_non, tr_bl, tr_int, tr_tup, tr_lst, ty_non, ty_bl, ty_int, ty_str, ty_tup, ty_lst, it_seqL, it_seqT, im_zipL, im_zipT, im_enumL, im_enumT, sl_tup, sl_lst, add_ii, add_bi, add_ss, add_tt, add_ll, sub_ii, sub_bi, lt_ii, gt_ii, ge_ii, le_ii, line, eq_int, eq_K0, p_lenK, p_listK, foldK, sl_K, cutD_to, eq_bool, atI0, atI1, atI2, blsOf]
      cases ha : isW (-1000000000000) 1000000000000 a
      · simp [endO_rt]
      cases hb : isW (-1000000000000) 1000000000000 b
      · simp [endO_rt]
      cases hc : isW (-1000000000000) 1000000000000 c
      · simp [endO_rt]
      obtain ⟨i, rfl, _⟩ := isW_dat ha
      obtain ⟨j, rfl, _⟩ := isW_dat hb
      by_cases h0 : i = 0
      · simp [h0, startE_def, ex_asg, ex_par2, ex_par3, ex_setix, ex_ex, ex_ret, ex_retn, ex_raise, ex_ifs, ex_pass, ex_nil, ex_cons, ev_var, ev_non, ev_bl, ev_int, ev_str, ev_g, ev_pr, ev_sl, ev_and, ev_or, ev_ifx, ev_chain, ev_call, ev_cv, ev_nil, ev_cons, evI_nil, evI_one, bT_v, bT_t, bT_u, bL_nil, bL_cons, wp_nil, wp_cons, lift_ok, lift_exc, bind_ok, bind_exc, cm_ok, ofM_some, endO_rt, endO_nx, endO_exc, bM_some, nB_some, p_add, p_sub, p_mul, p_fdiv, p_mod, p_pow, p_neg, p_not, p_eq, p_ne, p_lt, p_gt, p_le, p_ge, p_isN, p_notN, p_isB, p_notB, p_in, p_nin, p_tup, p_lst, p_newl, p_ixT, p_ixL, p_ixS, p_ixR, p_lenT, p_lenL, p_lenS, p_abs, p_min2, p_max2, p_sum, p_max1, p_min1, p_any, p_all, p_int, p_tupleL, p_tupleT, p_listL, p_listT, p_isi, p_rev, tr_non, tr_bl, tr_int, tr_tup, tr_lst, ty_non, ty_bl, ty_int, ty_str, ty_tup, ty_lst, it_seqL, it_seqT, im_zipL, im_zipT, im_enumL, im_enumT, sl_tup, sl_lst, add_ii, add_bi, add_ss, add_tt, add_ll, sub_ii, sub_bi, lt_ii, gt_ii, ge_ii, le_ii, line, eq_int, eq_K0, p_lenK, p_listK, foldK, sl_K, cutD_to, eq_bool, atI0, atI1, atI2]
      · have e0 : (i == 0) = false := by simp [h0]
        simp [e0, startE_def, ex_asg, ex_par2, ex_par3, ex_setix, ex_ex, ex_ret, ex_retn, ex_raise, ex_ifs, ex_pass, ex_nil, ex_cons, ev_var, ev_non, ev_bl, ev_int, ev_str, ev_g, ev_pr, ev_sl, ev_and, ev_or, ev_ifx, ev_chain, ev_call, ev_cv, ev_nil, ev_cons, evI_nil, evI_one, bT_v, bT_t, bT_u, bL_nil, bL_cons, wp_nil, wp_cons, lift_ok, lift_exc, bind_ok, bind_exc, cm_ok, ofM_some, endO_rt, endO_nx, endO_exc, bM_some, nB_some, p_add, p_sub, p_mul, p_fdiv, p_mod, p_pow, p_neg, p_not, p_eq, p_ne, p_lt, p_gt, p_le, p_ge, p_isN, p_notN, p_isB, p_notB, p_in, p_nin, p_tup, p_lst, p_newl, p_ixT, p_ixL, p_ixS, p_ixR, p_lenT, p_lenL, p_lenS, p_abs, p_min2, p_max2, p_sum, p_max1, p_min1, p_any, p_all, p_int, p_tupleL, p_tupleT, p_listL, p_listT, p_isi, p_rev, tr_non, tr_bl, tr_int, tr_tup, tr_lst, ty_non, ty_bl, ty_int, ty_str, ty_tup, ty_lst, it_seqL, it_seqT, im_zipL, im_zipT, im_enumL, im_enumT, sl_tup, sl_lst, add_ii, add_bi, add_ss, add_tt, add_ll, sub_ii, sub_bi, lt_ii, gt_ii, ge_ii, le_ii, line, eq_int, eq_K0, p_lenK, p_listK, foldK, sl_K, cutD_to, eq_bool, atI0, atI1, atI2]
    | a :: b :: c :: e :: l, h =>
      have e : ((l.length : Int) + 1 + 1 + 1 + 1 == 3) = false := by simp; omega
      simp [startE_def, ex_asg, ex_par2, ex_par3, ex_setix, ex_ex, ex_ret, ex_retn, ex_raise, ex_ifs, ex_pass, ex_nil, ex_cons, ev_var, ev_non, ev_bl, ev_int, ev_str, ev_g, ev_pr, ev_sl, ev_and, ev_or, ev_ifx, ev_chain, ev_call, ev_cv, ev_nil, ev_cons, evI_nil, evI_one, bT_v, bT_t, bT_u, bL_nil, bL_cons, wp_nil, wp_cons, lift_ok, lift_exc, bind_ok, bind_exc, cm_ok, ofM_some, endO_rt, endO_nx, endO_exc, bM_some, nB_some, p_add, p_sub, p_mul, p_fdiv, p_mod, p_pow, p_neg, p_not, p_eq, p_ne, p_lt, p_gt, p_le, p_ge, p_isN, p_notN, p_isB, p_notB, p_in, p_nin, p_tup, p_lst, p_newl, p_ixT, p_ixL, p_ixS, p_ixR, p_lenT, p_lenL, p_lenS, p_abs, p_min2, p_max2, p_sum, p_max1, p_min1, p_any, p_all, p_int, p_tupleL, p_tupleT, p_listL, p_listT, p_isi, p_rev, tr_non, tr_bl, tr_int, tr_tup, tr_lst, ty_non, ty_bl, ty_int, ty_str, ty_tup, ty_lst, it_seqL, it_seqT, im_zipL, im_zipT, im_enumL, im_enumT, sl_tup, sl_lst, add_ii, add_bi, add_ss, add_tt, add_ll, sub_ii, sub_bi, lt_ii, gt_ii, ge_ii, le_ii, line, eq_int, eq_K0, p_lenK, p_listK, foldK, sl_K, cutD_to, eq_bool, atI0, atI1, atI2, isFn, e]
  | _ => simp [startE_def, ex_asg, ex_par2, ex_par3, ex_setix, ex_ex, ex_ret, ex_retn, ex_raise, ex_ifs, ex_pass, ex_nil, ex_cons, ev_var, ev_non, ev_bl, ev_int, ev_str, ev_g, ev_pr, ev_sl, ev_and, ev_or, ev_ifx, ev_chain, ev_call, ev_cv, ev_nil, ev_cons, evI_nil, evI_one, bT_v, bT_t, bT_u, bL_nil, bL_cons, wp_nil, wp_cons, lift_ok, lift_exc, bind_ok, bind_exc, cm_ok, ofM_some, endO_rt, endO_nx, endO_exc, bM_some, nB_some, p_add, p_sub, p_mul, p_fdiv, p_mod, p_pow, p_neg, p_not, p_eq, p_ne, p_lt, p_gt, p_le, p_ge, p_isN, p_notN, p_isB, p_notB, p_in, p_nin, p_tup, p_lst, p_newl, p_ixT, p_ixL, p_ixS, p_ixR, p_lenT, p_lenL, p_lenS, p_abs, p_min2, p_max2, p_sum, p_max1, p_min1, p_any, p_all, p_int, p_tupleL, p_tupleT, p_listL, p_listT, p_isi, p_rev, tr_non, tr_bl, tr_int, tr_tup, tr_lst, ty_non, ty_bl, ty_int, ty_str, ty_tup, ty_lst, it_seqL, it_seqT, im_zipL, im_zipT, im_enumL, im_enumT, sl_tup, sl_lst, add_ii, add_bi, add_ss, add_tt, add_ll, sub_ii, sub_bi, lt_ii, gt_ii, ge_ii, le_ii, line, eq_int, eq_K0, p_lenK, p_listK, foldK, sl_K, cutD_to, eq_bool, atI0, atI1, atI2, isFn, dat] at h ⊢
theorem r_is_marks (n : Nat) (S : Sto) (d : D) (h : dat d = true) : run G (n + 6) (.fn i_is_marks) [d] S = .ok (.bl (isMk d)) S := by
  rw [run_df rfl rfl]
  simp [startE_def, ex_asg, ex_par2, ex_par3, ex_setix, ex_ex, ex_ret, ex_retn, ex_raise, ex_ifs, ex_pass, ex_nil, ex_cons, ev_var, ev_non, ev_bl, ev_int, ev_str, ev_g, ev_pr, ev_sl, ev_and, ev_or, ev_ifx, ev_chain, ev_call, ev_cv, ev_nil, ev_cons, evI_nil, evI_one, bT_v, bT_t, bT_u, bL_nil, bL_cons, wp_nil, wp_cons, lift_ok, lift_exc, bind_ok, bind_exc, cm_ok, ofM_some, endO_rt, endO_nx, endO_exc, bM_some, nB_some, p_add, p_sub, p_mul, p_fdiv, p_mod, p_pow, p_neg, p_not, p_eq, p_ne, p_lt, p_gt, p_le, p_ge, p_isN, p_notN, p_isB, p_notB, p_in, p_nin, p_tup, p_lst, p_newl, p_ixT, p_ixL, p_ixS, p_ixR, p_lenT, p_lenL, p_lenS, p_abs, p_min2, p_max2, p_sum, p_max1, p_min1, p_any, p_all, p_int, p_tupleL, p_tupleT, p_listL, p_listT, p_isi, p_rev, tr_non, tr_bl, tr_int, tr_tup, tr_lst, ty_non, ty_bl, ty_int, ty_str, ty_tup, ty_lst, it_seqL, it_seqT, im_zipL, im_zipT, im_enumL, im_enumT, sl_tup, sl_lst, add_ii, add_bi, add_ss, add_tt, add_ll, sub_ii, sub_bi, lt_ii, gt_ii, ge_ii, le_ii, line, eq_int, eq_K0, p_lenK, p_listK, foldK, sl_K, cutD_to, eq_bool, atI0, atI1, atI2, r_is_good, h]
theorem r_is_fence (n : Nat) (S : Sto) (d : D) (h : dat d = true) : run G (n + 3) (.fn i_is_fence) [d] S = .ok (.bl (isFn d)) S := by
  rw [run_df rfl rfl]
  simp [startE_def, ex_asg, ex_par2, ex_par3, ex_setix, ex_ex, ex_ret, ex_retn, ex_raise, ex_ifs, ex_pass, ex_nil, ex_cons, ev_var, ev_non, ev_bl, ev_int, ev_str, ev_g, ev_pr, ev_sl, ev_and, ev_or, ev_ifx, ev_chain, ev_call, ev_cv, ev_nil, ev_cons, evI_nil, evI_one, bT_v, bT_t, bT_u, bL_nil, bL_cons, wp_nil, wp_cons, lift_ok, lift_exc, bind_ok, bind_exc, cm_ok, ofM_some, endO_rt, endO_nx, endO_exc, bM_some, nB_some, p_add, p_sub, p_mul, p_fdiv, p_mod, p_pow, p_neg, p_not, p_eq, p_ne, p_lt, p_gt, p_le, p_ge, p_isN, p_notN, p_isB, p_notB, p_in, p_nin, p_tup, p_lst, p_newl, p_ixT, p_ixL, p_ixS, p_ixR, p_lenT, p_lenL, p_lenS, p_abs, p_min2, p_max2, p_sum, p_max1, p_min1, p_any, p_all, p_int, p_tupleL, p_tupleT, p_listL, p_listT, p_isi, p_rev, tr_non, tr_bl, tr_int, tr_tup, tr_lst, ty_non, ty_bl, ty_int, ty_str, ty_tup, ty_lst, it_seqL, it_seqT, im_zipL, im_zipT, im_enumL, im_enumT, sl_tup, sl_lst, add_ii, add_bi, add_ss, add_tt, add_ll, sub_ii, sub_bi, lt_ii, gt_ii, ge_ii, le_ii, line, eq_int, eq_K0, p_lenK, p_listK, foldK, sl_K, cutD_to, eq_bool, atI0, atI1, atI2, r_is_good_fence, h]
theorem r_need_marks (n : Nat) (S : Sto) (d : D) (h : dat d = true) : run G (n + 6) (.fn i_need_marks) [d] S = if isMk d then .ok .non S else .exc 1 S := by
  rw [run_df rfl rfl]
  cases e : isMk d <;> simp [startE_def, ex_asg, ex_par2, ex_par3, ex_setix, ex_ex, ex_ret, ex_retn, ex_raise, ex_ifs, ex_pass, ex_nil, ex_cons, ev_var, ev_non, ev_bl, ev_int, ev_str, ev_g, ev_pr, ev_sl, ev_and, ev_or, ev_ifx, ev_chain, ev_call, ev_cv, ev_nil, ev_cons, evI_nil, evI_one, bT_v, bT_t, bT_u, bL_nil, bL_cons, wp_nil, wp_cons, lift_ok, lift_exc, bind_ok, bind_exc, cm_ok, ofM_some, endO_rt, endO_nx, endO_exc, bM_some, nB_some, p_add, p_sub, p_mul, p_fdiv, p_mod, p_pow, p_neg, p_not, p_eq, p_ne, p_lt, p_gt, p_le, p_ge, p_isN, p_notN, p_isB, p_notB, p_in, p_nin, p_tup, p_lst, p_newl, p_ixT, p_ixL, p_ixS, p_ixR, p_lenT, p_lenL, p_lenS, p_abs, p_min2, p_max2, p_sum, p_max1, p_min1, p_any, p_all, p_int, p_tupleL, p_tupleT, p_listL, p_listT, p_isi, p_rev, tr_non, tr_bl, tr_int, tr_tup, tr_lst, ty_non, ty_bl, ty_int, ty_str, ty_tup, ty_lst, it_seqL, it_seqT, im_zipL, im_zipT, im_enumL, im_enumT, sl_tup, sl_lst, add_ii, add_bi, add_ss, add_tt, add_ll, sub_ii, sub_bi, lt_ii, gt_ii, ge_ii, le_ii, line, eq_int, eq_K0, p_lenK, p_listK, foldK, sl_K, cutD_to, eq_bool, atI0, atI1, atI2, r_is_good, h, e]
theorem r_need_fence (n : Nat) (S : Sto) (d : D) (h : dat d = true) : run G (n + 3) (.fn i_need_fence) [d] S = if isFn d then .ok .non S else .exc 4 S := by
  rw [run_df rfl rfl]
  cases e : isFn d <;> simp [startE_def, ex_asg, ex_par2, ex_par3, ex_setix, ex_ex, ex_ret, ex_retn, ex_raise, ex_ifs, ex_pass, ex_nil, ex_cons, ev_var, ev_non, ev_bl, ev_int, ev_str, ev_g, ev_pr, ev_sl, ev_and, ev_or, ev_ifx, ev_chain, ev_call, ev_cv, ev_nil, ev_cons, evI_nil, evI_one, bT_v, bT_t, bT_u, bL_nil, bL_cons, wp_nil, wp_cons, lift_ok, lift_exc, bind_ok, bind_exc, cm_ok, ofM_some, endO_rt, endO_nx, endO_exc, bM_some, nB_some, p_add, p_sub, p_mul, p_fdiv, p_mod, p_pow, p_neg, p_not, p_eq, p_ne, p_lt, p_gt, p_le, p_ge, p_isN, p_notN, p_isB, p_notB, p_in, p_nin, p_tup, p_lst, p_newl, p_ixT, p_ixL, p_ixS, p_ixR, p_lenT, p_lenL, p_lenS, p_abs, p_min2, p_max2, p_sum, p_max1, p_min1, p_any, p_all, p_int, p_tupleL, p_tupleT, p_listL, p_listT, p_isi, p_rev, tr_non, tr_bl, tr_int, tr_tup, tr_lst, ty_non, ty_bl, ty_int, ty_str, ty_tup, ty_lst, it_seqL, it_seqT, im_zipL, im_zipT, im_enumL, im_enumT, sl_tup, sl_lst, add_ii, add_bi, add_ss, add_tt, add_ll, sub_ii, sub_bi, lt_ii, gt_ii, ge_ii, le_ii, line, eq_int, eq_K0, p_lenK, p_listK, foldK, sl_K, cutD_to, eq_bool, atI0, atI1, atI2, r_is_good_fence, h, e]
theorem r_worth (n : Nat) (S : Sto) (a b : Int) (l : List D) (p : Pt) (h : Sml p.1 ∧ Sml p.2) : run G (n + 1) (.fn i_worth) [.tup (.int a :: .int b :: l), dP p] S = .ok (.int (a * p.1 + b * p.2)) S := by
  rw [run_df rfl rfl]
  simp [startE_def, ex_asg, ex_par2, ex_par3, ex_setix, ex_ex, ex_ret, ex_retn, ex_raise, ex_ifs, ex_pass, ex_nil, ex_cons, ev_var, ev_non, ev_bl, ev_int, ev_str, ev_g, ev_pr, ev_sl, ev_and, ev_or, ev_ifx, ev_chain, ev_call, ev_cv, ev_nil, ev_cons, evI_nil, evI_one, bT_v, bT_t, bT_u, bL_nil, bL_cons, wp_nil, wp_cons, lift_ok, lift_exc, bind_ok, bind_exc, cm_ok, ofM_some, endO_rt, endO_nx, endO_exc, bM_some, nB_some, p_add, p_sub, p_mul, p_fdiv, p_mod, p_pow, p_neg, p_not, p_eq, p_ne, p_lt, p_gt, p_le, p_ge, p_isN, p_notN, p_isB, p_notB, p_in, p_nin, p_tup, p_lst, p_newl, p_ixT, p_ixL, p_ixS, p_ixR, p_lenT, p_lenL, p_lenS, p_abs, p_min2, p_max2, p_sum, p_max1, p_min1, p_any, p_all, p_int, p_tupleL, p_tupleT, p_listL, p_listT, p_isi, p_rev, tr_non, tr_bl, tr_int, tr_tup, tr_lst, ty_non, ty_bl, ty_int, ty_str, ty_tup, ty_lst, it_seqL, it_seqT, im_zipL, im_zipT, im_enumL, im_enumT, sl_tup, sl_lst, add_ii, add_bi, add_ss, add_tt, add_ll, sub_ii, sub_bi, lt_ii, gt_ii, ge_ii, le_ii, line, eq_int, eq_K0, p_lenK, p_listK, foldK, sl_K, cutD_to, eq_bool, atI0, atI1, atI2, dP, pMul_r h.1, pMul_r h.2]
theorem r_does_part (n : Nat) (S : Sto) (f : Int × Int × Int) (m : List Pt × List Pt) (h1 : ∀ p ∈ m.1, Sml p.1 ∧ Sml p.2) (h2 : ∀ p ∈ m.2, Sml p.1 ∧ Sml p.2) (l1 : m.1.length ≤ 100000) (l2 : m.2.length ≤ 100000) : run G (n + 2) (.fn i_does_part) [dF f, dM m] S = .ok (.bl (partB f m)) S := by
  rw [run_df rfl rfl]
  simp [startE_def, ex_asg, ex_par2, ex_par3, ex_setix, ex_ex, ex_ret, ex_retn, ex_raise, ex_ifs, ex_pass, ex_nil, ex_cons, ev_var, ev_non, ev_bl, ev_int, ev_str, ev_g, ev_pr, ev_sl, ev_and, ev_or, ev_ifx, ev_chain, ev_call, ev_cv, ev_nil, ev_cons, evI_nil, evI_one, bT_v, bT_t, bT_u, bL_nil, bL_cons, wp_nil, wp_cons, lift_ok, lift_exc, bind_ok, bind_exc, cm_ok, ofM_some, endO_rt, endO_nx, endO_exc, bM_some, nB_some, p_add, p_sub, p_mul, p_fdiv, p_mod, p_pow, p_neg, p_not, p_eq, p_ne, p_lt, p_gt, p_le, p_ge, p_isN, p_notN, p_isB, p_notB, p_in, p_nin, p_tup, p_lst, p_newl, p_ixT, p_ixL, p_ixS, p_ixR, p_lenT, p_lenL, p_lenS, p_abs, p_min2, p_max2, p_sum, p_max1, p_min1, p_any, p_all, p_int, p_tupleL, p_tupleT, p_listL, p_listT, p_isi, p_rev, tr_non, tr_bl, tr_int, tr_tup, tr_lst, ty_non, ty_bl, ty_int, ty_str, ty_tup, ty_lst, it_seqL, it_seqT, im_zipL, im_zipT, im_enumL, im_enumT, sl_tup, sl_lst, add_ii, add_bi, add_ss, add_tt, add_ll, sub_ii, sub_bi, lt_ii, gt_ii, ge_ii, le_ii, line, eq_int, eq_K0, p_lenK, p_listK, foldK, sl_K, cutD_to, eq_bool, atI0, atI1, atI2, dM, dF]
  rw [ev_lcT (ds := [dK m.1]) (l := m.1) (f := dP) (g := fun p => .bl (decide (f.1 * p.1 + f.2.1 * p.2 < f.2.2))) (by simp [startE_def, ex_asg, ex_par2, ex_par3, ex_setix, ex_ex, ex_ret, ex_retn, ex_raise, ex_ifs, ex_pass, ex_nil, ex_cons, ev_var, ev_non, ev_bl, ev_int, ev_str, ev_g, ev_pr, ev_sl, ev_and, ev_or, ev_ifx, ev_chain, ev_call, ev_cv, ev_nil, ev_cons, evI_nil, evI_one, bT_v, bT_t, bT_u, bL_nil, bL_cons, wp_nil, wp_cons, lift_ok, lift_exc, bind_ok, bind_exc, cm_ok, ofM_some, endO_rt, endO_nx, endO_exc, bM_some, nB_some, p_add, p_sub, p_mul, p_fdiv, p_mod, p_pow, p_neg, p_not, p_eq, p_ne, p_lt, p_gt, p_le, p_ge, p_isN, p_notN, p_isB, p_notB, p_in, p_nin, p_tup, p_lst, p_newl, p_ixT, p_ixL, p_ixS, p_ixR, p_lenT, p_lenL, p_lenS, p_abs, p_min2, p_max2, p_sum, p_max1, p_min1, p_any, p_all, p_int, p_tupleL, p_tupleT, p_listL, p_listT, p_isi, p_rev, tr_non, tr_bl, tr_int, tr_tup, tr_lst, ty_non, ty_bl, ty_int, ty_str, ty_tup, ty_lst, it_seqL, it_seqT, im_zipL, im_zipT, im_enumL, im_enumT, sl_tup, sl_lst, add_ii, add_bi, add_ss, add_tt, add_ll, sub_ii, sub_bi, lt_ii, gt_ii, ge_ii, le_ii, line, eq_int, eq_K0, p_lenK, p_listK, foldK, sl_K, cutD_to, eq_bool, atI0, atI1, atI2]) rfl (fun p hp => ⟨_, rfl, by
    simp [startE_def, ex_asg, ex_par2, ex_par3, ex_setix, ex_ex, ex_ret, ex_retn, ex_raise, ex_ifs, ex_pass, ex_nil, ex_cons, ev_var, ev_non, ev_bl, ev_int, ev_str, ev_g, ev_pr, ev_sl, ev_and, ev_or, ev_ifx, ev_chain, ev_call, ev_cv, ev_nil, ev_cons, evI_nil, evI_one, bT_v, bT_t, bT_u, bL_nil, bL_cons, wp_nil, wp_cons, lift_ok, lift_exc, bind_ok, bind_exc, cm_ok, ofM_some, endO_rt, endO_nx, endO_exc, bM_some, nB_some, p_add, p_sub, p_mul, p_fdiv, p_mod, p_pow, p_neg, p_not, p_eq, p_ne, p_lt, p_gt, p_le, p_ge, p_isN, p_notN, p_isB, p_notB, p_in, p_nin, p_tup, p_lst, p_newl, p_ixT, p_ixL, p_ixS, p_ixR, p_lenT, p_lenL, p_lenS, p_abs, p_min2, p_max2, p_sum, p_max1, p_min1, p_any, p_all, p_int, p_tupleL, p_tupleT, p_listL, p_listT, p_isi, p_rev, tr_non, tr_bl, tr_int, tr_tup, tr_lst, ty_non, ty_bl, ty_int, ty_str, ty_tup, ty_lst, it_seqL, it_seqT, im_zipL, im_zipT, im_enumL, im_enumT, sl_tup, sl_lst, add_ii, add_bi, add_ss, add_tt, add_ll, sub_ii, sub_bi, lt_ii, gt_ii, ge_ii, le_ii, line, eq_int, eq_K0, p_lenK, p_listK, foldK, sl_K, cutD_to, eq_bool, atI0, atI1, atI2, r_worth _ _ _ _ _ p (h1 p hp)]⟩) l1]
  cases e : m.1.all fun p => decide (f.1 * p.1 + f.2.1 * p.2 < f.2.2) with
  | false =>
    have e2 : (m.1.map fun p => decide (f.1 * p.1 + f.2.1 * p.2 < f.2.2)).all id = false := by rw [List.all_map]; exact e
    simp [startE_def, ex_asg, ex_par2, ex_par3, ex_setix, ex_ex, ex_ret, ex_retn, ex_raise, ex_ifs, ex_pass, ex_nil, ex_cons, ev_var, ev_non, ev_bl, ev_int, ev_str, ev_g, ev_pr, ev_sl, ev_and, ev_or, ev_ifx, ev_chain, ev_call, ev_cv, ev_nil, ev_cons, evI_nil, evI_one, bT_v, bT_t, bT_u, bL_nil, bL_cons, wp_nil, wp_cons, lift_ok, lift_exc, bind_ok, bind_exc, cm_ok, ofM_some, endO_rt, endO_nx, endO_exc, bM_some, nB_some, p_add, p_sub, p_mul, p_fdiv, p_mod, p_pow, p_neg, p_not, p_eq, p_ne, p_lt, p_gt, p_le, p_ge, p_isN, p_notN, p_isB, p_notB, p_in, p_nin, p_tup, p_lst, p_newl, p_ixT, p_ixL, p_ixS, p_ixR, p_lenT, p_lenL, p_lenS, p_abs, p_min2, p_max2, p_sum, p_max1, p_min1, p_any, p_all, p_int, p_tupleL, p_tupleT, p_listL, p_listT, p_isi, p_rev, tr_non, tr_bl, tr_int, tr_tup, tr_lst, ty_non, ty_bl, ty_int, ty_str, ty_tup, ty_lst, it_seqL, it_seqT, im_zipL, im_zipT, im_enumL, im_enumT, sl_tup, sl_lst, add_ii, add_bi, add_ss, add_tt, add_ll, sub_ii, sub_bi, lt_ii, gt_ii, ge_ii, le_ii, line, eq_int, eq_K0, p_lenK, p_listK, foldK, sl_K, cutD_to, eq_bool, atI0, atI1, atI2, bls_map, e2, partB, e]
  | true =>
    have e2 : (m.1.map fun p => decide (f.1 * p.1 + f.2.1 * p.2 < f.2.2)).all id = true := by rw [List.all_map]; exact e
    simp only [bind_ok, p_all, bls_map, e2, Option.map_some, ofM_some, p_not, tr_bl, nB_some, bM_some, Bool.not_true, lift_ok, ex_nil, ex_cons, ex_ret, ev_pr, ev_cons, ev_nil]
    rw [ev_lcT (ds := [dK m.2]) (l := m.2) (f := dP) (g := fun p => .bl (decide (f.2.2 < f.1 * p.1 + f.2.1 * p.2))) (by simp [startE_def, ex_asg, ex_par2, ex_par3, ex_setix, ex_ex, ex_ret, ex_retn, ex_raise, ex_ifs, ex_pass, ex_nil, ex_cons, ev_var, ev_non, ev_bl, ev_int, ev_str, ev_g, ev_pr, ev_sl, ev_and, ev_or, ev_ifx, ev_chain, ev_call, ev_cv, ev_nil, ev_cons, evI_nil, evI_one, bT_v, bT_t, bT_u, bL_nil, bL_cons, wp_nil, wp_cons, lift_ok, lift_exc, bind_ok, bind_exc, cm_ok, ofM_some, endO_rt, endO_nx, endO_exc, bM_some, nB_some, p_add, p_sub, p_mul, p_fdiv, p_mod, p_pow, p_neg, p_not, p_eq, p_ne, p_lt, p_gt, p_le, p_ge, p_isN, p_notN, p_isB, p_notB, p_in, p_nin, p_tup, p_lst, p_newl, p_ixT, p_ixL, p_ixS, p_ixR, p_lenT, p_lenL, p_lenS, p_abs, p_min2, p_max2, p_sum, p_max1, p_min1, p_any, p_all, p_int, p_tupleL, p_tupleT, p_listL, p_listT, p_isi, p_rev, tr_non, tr_bl, tr_int, tr_tup, tr_lst, ty_non, ty_bl, ty_int, ty_str, ty_tup, ty_lst, it_seqL, it_seqT, im_zipL, im_zipT, im_enumL, im_enumT, sl_tup, sl_lst, add_ii, add_bi, add_ss, add_tt, add_ll, sub_ii, sub_bi, lt_ii, gt_ii, ge_ii, le_ii, line, eq_int, eq_K0, p_lenK, p_listK, foldK, sl_K, cutD_to, eq_bool, atI0, atI1, atI2]) rfl (fun p hp => ⟨_, rfl, by
      simp [startE_def, ex_asg, ex_par2, ex_par3, ex_setix, ex_ex, ex_ret, ex_retn, ex_raise, ex_ifs, ex_pass, ex_nil, ex_cons, ev_var, ev_non, ev_bl, ev_int, ev_str, ev_g, ev_pr, ev_sl, ev_and, ev_or, ev_ifx, ev_chain, ev_call, ev_cv, ev_nil, ev_cons, evI_nil, evI_one, bT_v, bT_t, bT_u, bL_nil, bL_cons, wp_nil, wp_cons, lift_ok, lift_exc, bind_ok, bind_exc, cm_ok, ofM_some, endO_rt, endO_nx, endO_exc, bM_some, nB_some, p_add, p_sub, p_mul, p_fdiv, p_mod, p_pow, p_neg, p_not, p_eq, p_ne, p_lt, p_gt, p_le, p_ge, p_isN, p_notN, p_isB, p_notB, p_in, p_nin, p_tup, p_lst, p_newl, p_ixT, p_ixL, p_ixS, p_ixR, p_lenT, p_lenL, p_lenS, p_abs, p_min2, p_max2, p_sum, p_max1, p_min1, p_any, p_all, p_int, p_tupleL, p_tupleT, p_listL, p_listT, p_isi, p_rev, tr_non, tr_bl, tr_int, tr_tup, tr_lst, ty_non, ty_bl, ty_int, ty_str, ty_tup, ty_lst, it_seqL, it_seqT, im_zipL, im_zipT, im_enumL, im_enumT, sl_tup, sl_lst, add_ii, add_bi, add_ss, add_tt, add_ll, sub_ii, sub_bi, lt_ii, gt_ii, ge_ii, le_ii, line, eq_int, eq_K0, p_lenK, p_listK, foldK, sl_K, cutD_to, eq_bool, atI0, atI1, atI2, r_worth _ _ _ _ _ p (h2 p hp)]⟩) l2]
    simp [bind_ok, p_all, bls_map, ofM_some, lift_ok, endO_rt, partB, e, Function.comp_def]
end SF.Law

set_option maxHeartbeats 200000
set_option Elab.async false
set_option linter.all false
set_option maxRecDepth 100000
namespace SF.Law
open PySem SF SF.M
theorem r_vat (n : Nat) {S : Sto} (ns : List Int) (k : Nat) (hk : k ≤ 1000) (hp : plainS S = true) (hn : ns.length ≤ 1000) : ∃ S', run G (n + 1) (.fn i__law_vat) [.scr ns, .int k] S = .ok (.ref S.length) S' ∧ Vat S' S.length := by
  have key : ∀ cell : Int, 0 ≤ cell → ∃ S', (endO (exL (run G n) G.gl [(.ret (.pr .newl [(.ifx (.pr .ge [(.var 2), (.pr .pow [(.int 10), (.int 18)])]) (.var 2) (.int 0)), (.pr .add [(.pr .mod [(.pr .int_ [(.pr .add [(.pr .add [(.pr .mul [(.var 2), (.int 131071)]), (.pr .mul [(.int 8191), (.var 1)])]), (.int 5)])]), (.int 2147483629)]), (.int 1)])]))] [some (.scr ns), some (.int k), some (.int cell)] S)) = .ok (.ref S.length) S' ∧ Vat S' S.length := by
    intro cell h0
    have q1 : 0 ≤ (cell * 131071 + 8191 * (k : Int) + 5) % 2147483629 := Int.emod_nonneg _ (by omega)
    have q2 : (cell * 131071 + 8191 * (k : Int) + 5) % 2147483629 < 2147483629 := Int.emod_lt_of_pos _ (by omega)
    have fin : ∀ a : Int, 0 ≤ a → Vat (S ++ [.lst [.int a, .int ((cell * 131071 + 8191 * (k : Int) + 5) % 2147483629 + 1)]]) S.length := fun a ha =>
      ⟨plain_app hp rfl, a, (cell * 131071 + 8191 * (k : Int) + 5) % 2147483629 + 1, by simp, ha, by omega, by omega⟩
    by_cases hc : 1000000000000000000 ≤ cell
    · exact ⟨_, by simp [startE_def, ex_asg, ex_par2, ex_par3, ex_setix, ex_ex, ex_ret, ex_retn, ex_raise, ex_ifs, ex_pass, ex_nil, ex_cons, ev_var, ev_non, ev_bl, ev_int, ev_str, ev_g, ev_pr, ev_sl, ev_and, ev_or, ev_ifx, ev_chain, ev_call, ev_cv, ev_nil, ev_cons, evI_nil, evI_one, bT_v, bT_t, bT_u, bL_nil, bL_cons, wp_nil, wp_cons, lift_ok, lift_exc, bind_ok, bind_exc, cm_ok, ofM_some, endO_rt, endO_nx, endO_exc, bM_some, nB_some, p_add, p_sub, p_mul, p_fdiv, p_mod, p_pow, p_neg, p_not, p_eq, p_ne, p_lt, p_gt, p_le, p_ge, p_isN, p_notN, p_isB, p_notB, p_in, p_nin, p_tup, p_lst, p_newl, p_ixT, p_ixL, p_ixS, p_ixR, p_lenT, p_lenL, p_lenS, p_abs, p_min2, p_max2, p_sum, p_max1, p_min1, p_any, p_all, p_int, p_tupleL, p_tupleT, p_listL, p_listT, p_isi, p_rev, tr_non, tr_bl, tr_int, tr_tup, tr_lst, ty_non, ty_bl, ty_int, ty_str, ty_tup, ty_lst, it_seqL, it_seqT, im_zipL, im_zipT, im_enumL, im_enumT, sl_tup, sl_lst, add_ii, add_bi, add_ss, add_tt, add_ll, sub_ii, sub_bi, lt_ii, gt_ii, ge_ii, le_ii, line, eq_int, eq_K0, p_lenK, p_listK, foldK, sl_K, cutD_to, eq_bool, atI0, atI1, atI2, pPow, pMul_r, pMul_l, pMod_ok, hc], fin cell h0⟩
    · exact ⟨_, by simp [startE_def, ex_asg, ex_par2, ex_par3, ex_setix, ex_ex, ex_ret, ex_retn, ex_raise, ex_ifs, ex_pass, ex_nil, ex_cons, ev_var, ev_non, ev_bl, ev_int, ev_str, ev_g, ev_pr, ev_sl, ev_and, ev_or, ev_ifx, ev_chain, ev_call, ev_cv, ev_nil, ev_cons, evI_nil, evI_one, bT_v, bT_t, bT_u, bL_nil, bL_cons, wp_nil, wp_cons, lift_ok, lift_exc, bind_ok, bind_exc, cm_ok, ofM_some, endO_rt, endO_nx, endO_exc, bM_some, nB_some, p_add, p_sub, p_mul, p_fdiv, p_mod, p_pow, p_neg, p_not, p_eq, p_ne, p_lt, p_gt, p_le, p_ge, p_isN, p_notN, p_isB, p_notB, p_in, p_nin, p_tup, p_lst, p_newl, p_ixT, p_ixL, p_ixS, p_ixR, p_lenT, p_lenL, p_lenS, p_abs, p_min2, p_max2, p_sum, p_max1, p_min1, p_any, p_all, p_int, p_tupleL, p_tupleT, p_listL, p_listT, p_isi, p_rev, tr_non, tr_bl, tr_int, tr_tup, tr_lst, ty_non, ty_bl, ty_int, ty_str, ty_tup, ty_lst, it_seqL, it_seqT, im_zipL, im_zipT, im_enumL, im_enumT, sl_tup, sl_lst, add_ii, add_bi, add_ss, add_tt, add_ll, sub_ii, sub_bi, lt_ii, gt_ii, ge_ii, le_ii, line, eq_int, eq_K0, p_lenK, p_listK, foldK, sl_K, cutD_to, eq_bool, atI0, atI1, atI2, pPow, pMul_r, pMul_l, pMod_ok, hc], fin 0 (by omega)⟩
  rw [run_df rfl rfl]
  by_cases hk2 : k < ns.length
  · have e1 : L2.atI ns (k : Int) = some (ns[k]) := L2.atI_nat (List.getElem?_eq_getElem hk2)
    have e2 : ((k : Int) < (ns.length : Int)) := by omega
    obtain ⟨S', e, v⟩ := key (if ns[k] < 0 then -ns[k] else ns[k]) (by split <;> omega)
    refine ⟨S', ?_, v⟩
    rw [← e]
    simp [startE_def, ex_asg, ex_par2, ex_par3, ex_setix, ex_ex, ex_ret, ex_retn, ex_raise, ex_ifs, ex_pass, ex_nil, ex_cons, ev_var, ev_non, ev_bl, ev_int, ev_str, ev_g, ev_pr, ev_sl, ev_and, ev_or, ev_ifx, ev_chain, ev_call, ev_cv, ev_nil, ev_cons, evI_nil, evI_one, bT_v, bT_t, bT_u, bL_nil, bL_cons, wp_nil, wp_cons, lift_ok, lift_exc, bind_ok, bind_exc, cm_ok, ofM_some, endO_rt, endO_nx, endO_exc, bM_some, nB_some, p_add, p_sub, p_mul, p_fdiv, p_mod, p_pow, p_neg, p_not, p_eq, p_ne, p_lt, p_gt, p_le, p_ge, p_isN, p_notN, p_isB, p_notB, p_in, p_nin, p_tup, p_lst, p_newl, p_ixT, p_ixL, p_ixS, p_ixR, p_lenT, p_lenL, p_lenS, p_abs, p_min2, p_max2, p_sum, p_max1, p_min1, p_any, p_all, p_int, p_tupleL, p_tupleT, p_listL, p_listT, p_isi, p_rev, tr_non, tr_bl, tr_int, tr_tup, tr_lst, ty_non, ty_bl, ty_int, ty_str, ty_tup, ty_lst, it_seqL, it_seqT, im_zipL, im_zipT, im_enumL, im_enumT, sl_tup, sl_lst, add_ii, add_bi, add_ss, add_tt, add_ll, sub_ii, sub_bi, lt_ii, gt_ii, ge_ii, le_ii, line, eq_int, eq_K0, p_lenK, p_listK, foldK, sl_K, cutD_to, eq_bool, atI0, atI1, atI2, pMul_r, pMul_l, e1, e2]
  · have e2 : ¬ ((k : Int) < (ns.length : Int)) := by omega
    obtain ⟨S', e, v⟩ := key (7919 * k + 43) (by omega)
    refine ⟨S', ?_, v⟩
    rw [← e]
    simp [startE_def, ex_asg, ex_par2, ex_par3, ex_setix, ex_ex, ex_ret, ex_retn, ex_raise, ex_ifs, ex_pass, ex_nil, ex_cons, ev_var, ev_non, ev_bl, ev_int, ev_str, ev_g, ev_pr, ev_sl, ev_and, ev_or, ev_ifx, ev_chain, ev_call, ev_cv, ev_nil, ev_cons, evI_nil, evI_one, bT_v, bT_t, bT_u, bL_nil, bL_cons, wp_nil, wp_cons, lift_ok, lift_exc, bind_ok, bind_exc, cm_ok, ofM_some, endO_rt, endO_nx, endO_exc, bM_some, nB_some, p_add, p_sub, p_mul, p_fdiv, p_mod, p_pow, p_neg, p_not, p_eq, p_ne, p_lt, p_gt, p_le, p_ge, p_isN, p_notN, p_isB, p_notB, p_in, p_nin, p_tup, p_lst, p_newl, p_ixT, p_ixL, p_ixS, p_ixR, p_lenT, p_lenL, p_lenS, p_abs, p_min2, p_max2, p_sum, p_max1, p_min1, p_any, p_all, p_int, p_tupleL, p_tupleT, p_listL, p_listT, p_isi, p_rev, tr_non, tr_bl, tr_int, tr_tup, tr_lst, ty_non, ty_bl, ty_int, ty_str, ty_tup, ty_lst, it_seqL, it_seqT, im_zipL, im_zipT, im_enumL, im_enumT, sl_tup, sl_lst, add_ii, add_bi, add_ss, add_tt, add_ll, sub_ii, sub_bi, lt_ii, gt_ii, ge_ii, le_ii, line, eq_int, eq_K0, p_lenK, p_listK, foldK, sl_K, cutD_to, eq_bool, atI0, atI1, atI2, pMul_r, pMul_l, e2]
theorem r_someL (n : Nat) {S : Sto} {r : Nat} (v : Vat S r) (l : List D) (h : l ≠ []) (h2 : l.length ≤ 100000) : ∃ d S', run G (n + 2) (.fn i__law_some) [.ref r, .lst l] S = .ok d S' ∧ d ∈ l ∧ Vat S' r := by
  have hl : 0 < l.length := List.length_pos_iff.mpr h
  obtain ⟨i, S', e, h3, h4, v'⟩ := r_under n v (m := l.length) (by omega) (by omega)
  obtain ⟨j, rfl⟩ := Int.eq_ofNat_of_zero_le h3
  have hj : j < l.length := by omega
  refine ⟨l[j], S', ?_, List.getElem_mem hj, v'⟩
  rw [run_df rfl rfl]
  simp [startE_def, ex_asg, ex_par2, ex_par3, ex_setix, ex_ex, ex_ret, ex_retn, ex_raise, ex_ifs, ex_pass, ex_nil, ex_cons, ev_var, ev_non, ev_bl, ev_int, ev_str, ev_g, ev_pr, ev_sl, ev_and, ev_or, ev_ifx, ev_chain, ev_call, ev_cv, ev_nil, ev_cons, evI_nil, evI_one, bT_v, bT_t, bT_u, bL_nil, bL_cons, wp_nil, wp_cons, lift_ok, lift_exc, bind_ok, bind_exc, cm_ok, ofM_some, endO_rt, endO_nx, endO_exc, bM_some, nB_some, p_add, p_sub, p_mul, p_fdiv, p_mod, p_pow, p_neg, p_not, p_eq, p_ne, p_lt, p_gt, p_le, p_ge, p_isN, p_notN, p_isB, p_notB, p_in, p_nin, p_tup, p_lst, p_newl, p_ixT, p_ixL, p_ixS, p_ixR, p_lenT, p_lenL, p_lenS, p_abs, p_min2, p_max2, p_sum, p_max1, p_min1, p_any, p_all, p_int, p_tupleL, p_tupleT, p_listL, p_listT, p_isi, p_rev, tr_non, tr_bl, tr_int, tr_tup, tr_lst, ty_non, ty_bl, ty_int, ty_str, ty_tup, ty_lst, it_seqL, it_seqT, im_zipL, im_zipT, im_enumL, im_enumT, sl_tup, sl_lst, add_ii, add_bi, add_ss, add_tt, add_ll, sub_ii, sub_bi, lt_ii, gt_ii, ge_ii, le_ii, line, eq_int, eq_K0, p_lenK, p_listK, foldK, sl_K, cutD_to, eq_bool, atI0, atI1, atI2, e, L2.atI_nat (List.getElem?_eq_getElem hj)]
theorem r_someT (n : Nat) {S : Sto} {r : Nat} (v : Vat S r) (l : List D) (h : l ≠ []) (h2 : l.length ≤ 100000) : ∃ d S', run G (n + 2) (.fn i__law_some) [.ref r, .tup l] S = .ok d S' ∧ d ∈ l ∧ Vat S' r := by
  have hl : 0 < l.length := List.length_pos_iff.mpr h
  obtain ⟨i, S', e, h3, h4, v'⟩ := r_under n v (m := l.length) (by omega) (by omega)
  obtain ⟨j, rfl⟩ := Int.eq_ofNat_of_zero_le h3
  have hj : j < l.length := by omega
  refine ⟨l[j], S', ?_, List.getElem_mem hj, v'⟩
  rw [run_df rfl rfl]
  simp [startE_def, ex_asg, ex_par2, ex_par3, ex_setix, ex_ex, ex_ret, ex_retn, ex_raise, ex_ifs, ex_pass, ex_nil, ex_cons, ev_var, ev_non, ev_bl, ev_int, ev_str, ev_g, ev_pr, ev_sl, ev_and, ev_or, ev_ifx, ev_chain, ev_call, ev_cv, ev_nil, ev_cons, evI_nil, evI_one, bT_v, bT_t, bT_u, bL_nil, bL_cons, wp_nil, wp_cons, lift_ok, lift_exc, bind_ok, bind_exc, cm_ok, ofM_some, endO_rt, endO_nx, endO_exc, bM_some, nB_some, p_add, p_sub, p_mul, p_fdiv, p_mod, p_pow, p_neg, p_not, p_eq, p_ne, p_lt, p_gt, p_le, p_ge, p_isN, p_notN, p_isB, p_notB, p_in, p_nin, p_tup, p_lst, p_newl, p_ixT, p_ixL, p_ixS, p_ixR, p_lenT, p_lenL, p_lenS, p_abs, p_min2, p_max2, p_sum, p_max1, p_min1, p_any, p_all, p_int, p_tupleL, p_tupleT, p_listL, p_listT, p_isi, p_rev, tr_non, tr_bl, tr_int, tr_tup, tr_lst, ty_non, ty_bl, ty_int, ty_str, ty_tup, ty_lst, it_seqL, it_seqT, im_zipL, im_zipT, im_enumL, im_enumT, sl_tup, sl_lst, add_ii, add_bi, add_ss, add_tt, add_ll, sub_ii, sub_bi, lt_ii, gt_ii, ge_ii, le_ii, line, eq_int, eq_K0, p_lenK, p_listK, foldK, sl_K, cutD_to, eq_bool, atI0, atI1, atI2, e, L2.atI_nat (List.getElem?_eq_getElem hj)]
theorem r_point (n : Nat) {S : Sto} {r : Nat} (v : Vat S r) (w : Int) (h : 0 ≤ w) (h2 : w ≤ 1000000000000000) : ∃ p S', run G (n + 2) (.fn i__law_point) [.ref r, .int w] S = .ok (dP p) S' ∧ ((-w ≤ p.1 ∧ p.1 ≤ w) ∧ (-w ≤ p.2 ∧ p.2 ≤ w)) ∧ Vat S' r := by
  obtain ⟨i, S1, e1, h3, h4, v1⟩ := r_under n v (m := 2 * w + 1) (by omega) (by omega)
  obtain ⟨j, S2, e2, h5, h6, v2⟩ := r_under n v1 (m := 2 * w + 1) (by omega) (by omega)
  refine ⟨(i - w, j - w), S2, ?_, by dsimp only; omega, v2⟩
  rw [run_df rfl rfl]
  simp [startE_def, ex_asg, ex_par2, ex_par3, ex_setix, ex_ex, ex_ret, ex_retn, ex_raise, ex_ifs, ex_pass, ex_nil, ex_cons, ev_var, ev_non, ev_bl, ev_int, ev_str, ev_g, ev_pr, ev_sl, ev_and, ev_or, ev_ifx, ev_chain, ev_call, ev_cv, ev_nil, ev_cons, evI_nil, evI_one, bT_v, bT_t, bT_u, bL_nil, bL_cons, wp_nil, wp_cons, lift_ok, lift_exc, bind_ok, bind_exc, cm_ok, ofM_some, endO_rt, endO_nx, endO_exc, bM_some, nB_some, p_add, p_sub, p_mul, p_fdiv, p_mod, p_pow, p_neg, p_not, p_eq, p_ne, p_lt, p_gt, p_le, p_ge, p_isN, p_notN, p_isB, p_notB, p_in, p_nin, p_tup, p_lst, p_newl, p_ixT, p_ixL, p_ixS, p_ixR, p_lenT, p_lenL, p_lenS, p_abs, p_min2, p_max2, p_sum, p_max1, p_min1, p_any, p_all, p_int, p_tupleL, p_tupleT, p_listL, p_listT, p_isi, p_rev, tr_non, tr_bl, tr_int, tr_tup, tr_lst, ty_non, ty_bl, ty_int, ty_str, ty_tup, ty_lst, it_seqL, it_seqT, im_zipL, im_zipT, im_enumL, im_enumT, sl_tup, sl_lst, add_ii, add_bi, add_ss, add_tt, add_ll, sub_ii, sub_bi, lt_ii, gt_ii, ge_ii, le_ii, line, eq_int, eq_K0, p_lenK, p_listK, foldK, sl_K, cutD_to, eq_bool, atI0, atI1, atI2, e1, e2, pMul_l, dP]
theorem r_shown (n : Nat) (S : Sto) (k : List Pt) (p : Pt) (h : k.length ≤ 29) : run G (n + 1) (.fn i__law_shown) [dK k, dP p] S = .ok (dK (sortP (k ++ [p]))) S := by
  rw [run_df rfl rfl]
  have h1 : k.length + 1 ≤ 100000 := by omega
  have h2 : k.length + 1 ≤ 30 := by omega
  simp [startE_def, ex_asg, ex_par2, ex_par3, ex_setix, ex_ex, ex_ret, ex_retn, ex_raise, ex_ifs, ex_pass, ex_nil, ex_cons, ev_var, ev_non, ev_bl, ev_int, ev_str, ev_g, ev_pr, ev_sl, ev_and, ev_or, ev_ifx, ev_chain, ev_call, ev_cv, ev_nil, ev_cons, evI_nil, evI_one, bT_v, bT_t, bT_u, bL_nil, bL_cons, wp_nil, wp_cons, lift_ok, lift_exc, bind_ok, bind_exc, cm_ok, ofM_some, endO_rt, endO_nx, endO_exc, bM_some, nB_some, p_add, p_sub, p_mul, p_fdiv, p_mod, p_pow, p_neg, p_not, p_eq, p_ne, p_lt, p_gt, p_le, p_ge, p_isN, p_notN, p_isB, p_notB, p_in, p_nin, p_tup, p_lst, p_newl, p_ixT, p_ixL, p_ixS, p_ixR, p_lenT, p_lenL, p_lenS, p_abs, p_min2, p_max2, p_sum, p_max1, p_min1, p_any, p_all, p_int, p_tupleL, p_tupleT, p_listL, p_listT, p_isi, p_rev, tr_non, tr_bl, tr_int, tr_tup, tr_lst, ty_non, ty_bl, ty_int, ty_str, ty_tup, ty_lst, it_seqL, it_seqT, im_zipL, im_zipT, im_enumL, im_enumT, sl_tup, sl_lst, add_ii, add_bi, add_ss, add_tt, add_ll, sub_ii, sub_bi, lt_ii, gt_ii, ge_ii, le_ii, line, eq_int, eq_K0, p_lenK, p_listK, foldK, sl_K, cutD_to, eq_bool, atI0, atI1, atI2, add_K1 _ _ h1, p_sortsetK, h2]
theorem r_kind (n : Nat) {S : Sto} {r : Nat} (v : Vat S r) (most : Nat) (hm : most ≤ 20) (w : Int) (h : 0 ≤ w) (h2 : w ≤ 1000000000000000) : ∃ k S', run G (n + 3) (.fn i__law_kind) [.ref r, .int most, .int w] S = .ok (dK k) S' ∧ Kd w most k ∧ Vat S' r := by
  obtain ⟨i, S1, e1, h3, h4, v1⟩ := r_under (n + 1) v (m := most + 1) (by omega) (by omega)
  obtain ⟨j, rfl⟩ := Int.eq_ofNat_of_zero_le h3
  have hj : j ≤ most := by omega
  rw [run_df rfl rfl]
  simp [startE_def, ex_asg, ex_par2, ex_par3, ex_setix, ex_ex, ex_ret, ex_retn, ex_raise, ex_ifs, ex_pass, ex_nil, ex_cons, ev_var, ev_non, ev_bl, ev_int, ev_str, ev_g, ev_pr, ev_sl, ev_and, ev_or, ev_ifx, ev_chain, ev_call, ev_cv, ev_nil, ev_cons, evI_nil, evI_one, bT_v, bT_t, bT_u, bL_nil, bL_cons, wp_nil, wp_cons, lift_ok, lift_exc, bind_ok, bind_exc, cm_ok, ofM_some, endO_rt, endO_nx, endO_exc, bM_some, nB_some, p_add, p_sub, p_mul, p_fdiv, p_mod, p_pow, p_neg, p_not, p_eq, p_ne, p_lt, p_gt, p_le, p_ge, p_isN, p_notN, p_isB, p_notB, p_in, p_nin, p_tup, p_lst, p_newl, p_ixT, p_ixL, p_ixS, p_ixR, p_lenT, p_lenL, p_lenS, p_abs, p_min2, p_max2, p_sum, p_max1, p_min1, p_any, p_all, p_int, p_tupleL, p_tupleT, p_listL, p_listT, p_isi, p_rev, tr_non, tr_bl, tr_int, tr_tup, tr_lst, ty_non, ty_bl, ty_int, ty_str, ty_tup, ty_lst, it_seqL, it_seqT, im_zipL, im_zipT, im_enumL, im_enumT, sl_tup, sl_lst, add_ii, add_bi, add_ss, add_tt, add_ll, sub_ii, sub_bi, lt_ii, gt_ii, ge_ii, le_ii, line, eq_int, eq_K0, p_lenK, p_listK, foldK, sl_K, cutD_to, eq_bool, atI0, atI1, atI2]
  rw [ex_for (ds := [.int j]) (xs := rangeD 0 1 j) (S1 := S1) (by simp [startE_def, ex_asg, ex_par2, ex_par3, ex_setix, ex_ex, ex_ret, ex_retn, ex_raise, ex_ifs, ex_pass, ex_nil, ex_cons, ev_var, ev_non, ev_bl, ev_int, ev_str, ev_g, ev_pr, ev_sl, ev_and, ev_or, ev_ifx, ev_chain, ev_call, ev_cv, ev_nil, ev_cons, evI_nil, evI_one, bT_v, bT_t, bT_u, bL_nil, bL_cons, wp_nil, wp_cons, lift_ok, lift_exc, bind_ok, bind_exc, cm_ok, ofM_some, endO_rt, endO_nx, endO_exc, bM_some, nB_some, p_add, p_sub, p_mul, p_fdiv, p_mod, p_pow, p_neg, p_not, p_eq, p_ne, p_lt, p_gt, p_le, p_ge, p_isN, p_notN, p_isB, p_notB, p_in, p_nin, p_tup, p_lst, p_newl, p_ixT, p_ixL, p_ixS, p_ixR, p_lenT, p_lenL, p_lenS, p_abs, p_min2, p_max2, p_sum, p_max1, p_min1, p_any, p_all, p_int, p_tupleL, p_tupleT, p_listL, p_listT, p_isi, p_rev, tr_non, tr_bl, tr_int, tr_tup, tr_lst, ty_non, ty_bl, ty_int, ty_str, ty_tup, ty_lst, it_seqL, it_seqT, im_zipL, im_zipT, im_enumL, im_enumT, sl_tup, sl_lst, add_ii, add_bi, add_ss, add_tt, add_ll, sub_ii, sub_bi, lt_ii, gt_ii, ge_ii, le_ii, line, eq_int, eq_K0, p_lenK, p_listK, foldK, sl_K, cutD_to, eq_bool, atI0, atI1, atI2, e1]) (by rw [im_r1 ⟨by omega, by omega⟩]; rfl)]
  obtain ⟨ρ2, S2, e2, k, d4, rfl, hk, v2⟩ := rd_go (I := fun i ρ S => ∃ k d4, ρ = [some (.ref r), some (.int most), some (.int w), some (dK k), d4] ∧ Kd w i k ∧ Vat S r) (t := .v 4) (body := exL (run G (n + 2)) G.gl [(.asg (.v 3) (.call 23 [(.var 3), (.call 24 [(.var 0), (.var 2)])]))]) j
    (fun i ρ S hi h' => by
      obtain ⟨k, d4, rfl, hk, v⟩ := h'
      obtain ⟨p, S', e, hp, v'⟩ := r_point n v w h h2
      refine ⟨_, rfl, _, S', by simp [startE_def, ex_asg, ex_par2, ex_par3, ex_setix, ex_ex, ex_ret, ex_retn, ex_raise, ex_ifs, ex_pass, ex_nil, ex_cons, ev_var, ev_non, ev_bl, ev_int, ev_str, ev_g, ev_pr, ev_sl, ev_and, ev_or, ev_ifx, ev_chain, ev_call, ev_cv, ev_nil, ev_cons, evI_nil, evI_one, bT_v, bT_t, bT_u, bL_nil, bL_cons, wp_nil, wp_cons, lift_ok, lift_exc, bind_ok, bind_exc, cm_ok, ofM_some, endO_rt, endO_nx, endO_exc, bM_some, nB_some, p_add, p_sub, p_mul, p_fdiv, p_mod, p_pow, p_neg, p_not, p_eq, p_ne, p_lt, p_gt, p_le, p_ge, p_isN, p_notN, p_isB, p_notB, p_in, p_nin, p_tup, p_lst, p_newl, p_ixT, p_ixL, p_ixS, p_ixR, p_lenT, p_lenL, p_lenS, p_abs, p_min2, p_max2, p_sum, p_max1, p_min1, p_any, p_all, p_int, p_tupleL, p_tupleT, p_listL, p_listT, p_isi, p_rev, tr_non, tr_bl, tr_int, tr_tup, tr_lst, ty_non, ty_bl, ty_int, ty_str, ty_tup, ty_lst, it_seqL, it_seqT, im_zipL, im_zipT, im_enumL, im_enumT, sl_tup, sl_lst, add_ii, add_bi, add_ss, add_tt, add_ll, sub_ii, sub_bi, lt_ii, gt_ii, ge_ii, le_ii, line, eq_int, eq_K0, p_lenK, p_listK, foldK, sl_K, cutD_to, eq_bool, atI0, atI1, atI2, e, r_shown _ _ k p (by have := hk.len; omega)]; rfl, _, _, rfl, hk.shown hp, v'⟩) [some (.ref r), some (.int most), some (.int w), some (dK []), none] S1 ⟨[], none, rfl, ⟨Nat.le_refl _, rfl, fun _ h => by cases h⟩, v1⟩
  refine ⟨k, S2, ?_, hk.mono (Int.le_refl _) hj, v2⟩
  rw [show (D.tup [] : D) = dK [] from rfl, e2]
  simp [startE_def, ex_asg, ex_par2, ex_par3, ex_setix, ex_ex, ex_ret, ex_retn, ex_raise, ex_ifs, ex_pass, ex_nil, ex_cons, ev_var, ev_non, ev_bl, ev_int, ev_str, ev_g, ev_pr, ev_sl, ev_and, ev_or, ev_ifx, ev_chain, ev_call, ev_cv, ev_nil, ev_cons, evI_nil, evI_one, bT_v, bT_t, bT_u, bL_nil, bL_cons, wp_nil, wp_cons, lift_ok, lift_exc, bind_ok, bind_exc, cm_ok, ofM_some, endO_rt, endO_nx, endO_exc, bM_some, nB_some, p_add, p_sub, p_mul, p_fdiv, p_mod, p_pow, p_neg, p_not, p_eq, p_ne, p_lt, p_gt, p_le, p_ge, p_isN, p_notN, p_isB, p_notB, p_in, p_nin, p_tup, p_lst, p_newl, p_ixT, p_ixL, p_ixS, p_ixR, p_lenT, p_lenL, p_lenS, p_abs, p_min2, p_max2, p_sum, p_max1, p_min1, p_any, p_all, p_int, p_tupleL, p_tupleT, p_listL, p_listT, p_isi, p_rev, tr_non, tr_bl, tr_int, tr_tup, tr_lst, ty_non, ty_bl, ty_int, ty_str, ty_tup, ty_lst, it_seqL, it_seqT, im_zipL, im_zipT, im_enumL, im_enumT, sl_tup, sl_lst, add_ii, add_bi, add_ss, add_tt, add_ll, sub_ii, sub_bi, lt_ii, gt_ii, ge_ii, le_ii, line, eq_int, eq_K0, p_lenK, p_listK, foldK, sl_K, cutD_to, eq_bool, atI0, atI1, atI2]
end SF.Law

set_option maxHeartbeats 200000
set_option Elab.async false
set_option linter.all false
set_option maxRecDepth 100000
namespace SF.Law
open PySem SF SF.M
theorem r_marks (n : Nat) {S : Sto} {r : Nat} (v : Vat S r) (most : Nat) (hm : most ≤ 8) : ∃ m S', run G (n + 4) (.fn i__law_marks) [.ref r, .int most] S = .ok (dM m) S' ∧ Kd 50 most m.1 ∧ Kd 50 most m.2 ∧ Vat S' r := by
  obtain ⟨w, S1, e1, w0, w4, v1⟩ := r_under (n + 2) v (m := 4) (by omega) (by omega)
  obtain ⟨d, S2, e2, hd, v2⟩ := r_someL (n + 1) v1 [.int 2, .int 3, .int 5, .int 50] (by simp) (by simp)
  obtain ⟨wd, rfl, d2, d50⟩ : ∃ wd : Int, d = .int wd ∧ 2 ≤ wd ∧ wd ≤ 50 := by
    simp only [List.mem_cons, List.not_mem_nil, or_false] at hd
    rcases hd with rfl | rfl | rfl | rfl <;> exact ⟨_, rfl, by omega, by omega⟩
  obtain ⟨k1, S3, e3, h1, v3⟩ := r_kind n v2 most (by omega) wd (by omega) (by omega)
  obtain ⟨k2, S4, e4, h2, v4⟩ := r_kind n v3 most (by omega) wd (by omega) (by omega)
  have tail : ∀ (k1 k2 : List Pt) (S : Sto) (x6 x7 x8 x9 x10 : Option D), Vat S r → Kd 50 most k1 → Kd 50 most k2 → ∃ m S', endO (exL (run G (n + 3)) G.gl [(.ifs (.and (.pr .eq [(.var 2), (.int 3)]) (.pr .ne [(.var 4), (.pr .tup [])])) [(.asg (.v 5) (.ifx (.pr .lt [(.pr .len [(.var 5)]), (.var 1)]) (.call 23 [(.var 5), (.call 15 [(.var 0), (.var 4)])]) (.var 5)))] []), (.ret (.pr .tup [(.var 4), (.var 5)]))]
      [some (.ref r), some (.int most), some (.int w), some (.int wd), some (dK k1), some (dK k2), x6, x7, x8, x9, x10] S) = .ok (dM m) S' ∧ Kd 50 most m.1 ∧ Kd 50 most m.2 ∧ Vat S' r := by
    intro k1 k2 S x6 x7 x8 x9 x10 v h1 h2
    by_cases hw : w = 3
    · cases hk : k1.isEmpty with
      | true => exact ⟨(k1, k2), S, by simp [startE_def, ex_asg, ex_par2, ex_par3, ex_setix, ex_ex, ex_ret, ex_retn, ex_raise, ex_ifs, ex_pass, ex_nil, ex_cons, ev_var, ev_non, ev_bl, ev_int, ev_str, ev_g, ev_pr, ev_sl, ev_and, ev_or, ev_ifx, ev_chain, ev_call, ev_cv, ev_nil, ev_cons, evI_nil, evI_one, bT_v, bT_t, bT_u, bL_nil, bL_cons, wp_nil, wp_cons, lift_ok, lift_exc, bind_ok, bind_exc, cm_ok, ofM_some, endO_rt, endO_nx, endO_exc, bM_some, nB_some, p_add, p_sub, p_mul, p_fdiv, p_mod, p_pow, p_neg, p_not, p_eq, p_ne, p_lt, p_gt, p_le, p_ge, p_isN, p_notN, p_isB, p_notB, p_in, p_nin, p_tup, p_lst, p_newl, p_ixT, p_ixL, p_ixS, p_ixR, p_lenT, p_lenL, p_lenS, p_abs, p_min2, p_max2, p_sum, p_max1, p_min1, p_any, p_all, p_int, p_tupleL, p_tupleT, p_listL, p_listT, p_isi, p_rev, tr_non, tr_bl, tr_int, tr_tup, tr_lst, ty_non, ty_bl, ty_int, ty_str, ty_tup, ty_lst, it_seqL, it_seqT, im_zipL, im_zipT, im_enumL, im_enumT, sl_tup, sl_lst, add_ii, add_bi, add_ss, add_tt, add_ll, sub_ii, sub_bi, lt_ii, gt_ii, ge_ii, le_ii, line, eq_int, eq_K0, p_lenK, p_listK, foldK, sl_K, cutD_to, eq_bool, atI0, atI1, atI2, hw, eq_K0, hk, dM], h1, h2, v⟩
      | false =>
        by_cases hl : k2.length < most
        · obtain ⟨d, S', e, hd, v'⟩ := r_someT (n + 1) v (k1.map dP) (by cases k1 <;> simp at hk ⊢) (by have := h1.len; rw [List.length_map]; omega)
          obtain ⟨p, hp, rfl⟩ := List.mem_map.mp hd
          have hl2 : ((k2.length : Int) < (most : Int)) := by omega
          refine ⟨(k1, sortP (k2 ++ [p])), S', ?_, h1, ?_, v'⟩
          · have e' : run G (n + 3) (.fn 15) [.ref r, dK k1] S = .ok (dP p) S' := e
            simp [startE_def, ex_asg, ex_par2, ex_par3, ex_setix, ex_ex, ex_ret, ex_retn, ex_raise, ex_ifs, ex_pass, ex_nil, ex_cons, ev_var, ev_non, ev_bl, ev_int, ev_str, ev_g, ev_pr, ev_sl, ev_and, ev_or, ev_ifx, ev_chain, ev_call, ev_cv, ev_nil, ev_cons, evI_nil, evI_one, bT_v, bT_t, bT_u, bL_nil, bL_cons, wp_nil, wp_cons, lift_ok, lift_exc, bind_ok, bind_exc, cm_ok, ofM_some, endO_rt, endO_nx, endO_exc, bM_some, nB_some, p_add, p_sub, p_mul, p_fdiv, p_mod, p_pow, p_neg, p_not, p_eq, p_ne, p_lt, p_gt, p_le, p_ge, p_isN, p_notN, p_isB, p_notB, p_in, p_nin, p_tup, p_lst, p_newl, p_ixT, p_ixL, p_ixS, p_ixR, p_lenT, p_lenL, p_lenS, p_abs, p_min2, p_max2, p_sum, p_max1, p_min1, p_any, p_all, p_int, p_tupleL, p_tupleT, p_listL, p_listT, p_isi, p_rev, tr_non, tr_bl, tr_int, tr_tup, tr_lst, ty_non, ty_bl, ty_int, ty_str, ty_tup, ty_lst, it_seqL, it_seqT, im_zipL, im_zipT, im_enumL, im_enumT, sl_tup, sl_lst, add_ii, add_bi, add_ss, add_tt, add_ll, sub_ii, sub_bi, lt_ii, gt_ii, ge_ii, le_ii, line, eq_int, eq_K0, p_lenK, p_listK, foldK, sl_K, cutD_to, eq_bool, atI0, atI1, atI2, hw, eq_K0, hk, e', hl2, r_shown _ _ k2 p (by have := h2.len; omega), dM]
          · have q : Kd 50 k2.length k2 := ⟨Nat.le_refl _, h2.as, h2.rg⟩
            exact (q.shown (h1.rg p hp)).mono (by omega) (by omega)
        · have hl2 : ¬ ((k2.length : Int) < (most : Int)) := by omega
          refine ⟨(k1, k2), S, ?_, h1, h2, v⟩
          simp [startE_def, ex_asg, ex_par2, ex_par3, ex_setix, ex_ex, ex_ret, ex_retn, ex_raise, ex_ifs, ex_pass, ex_nil, ex_cons, ev_var, ev_non, ev_bl, ev_int, ev_str, ev_g, ev_pr, ev_sl, ev_and, ev_or, ev_ifx, ev_chain, ev_call, ev_cv, ev_nil, ev_cons, evI_nil, evI_one, bT_v, bT_t, bT_u, bL_nil, bL_cons, wp_nil, wp_cons, lift_ok, lift_exc, bind_ok, bind_exc, cm_ok, ofM_some, endO_rt, endO_nx, endO_exc, bM_some, nB_some, p_add, p_sub, p_mul, p_fdiv, p_mod, p_pow, p_neg, p_not, p_eq, p_ne, p_lt, p_gt, p_le, p_ge, p_isN, p_notN, p_isB, p_notB, p_in, p_nin, p_tup, p_lst, p_newl, p_ixT, p_ixL, p_ixS, p_ixR, p_lenT, p_lenL, p_lenS, p_abs, p_min2, p_max2, p_sum, p_max1, p_min1, p_any, p_all, p_int, p_tupleL, p_tupleT, p_listL, p_listT, p_isi, p_rev, tr_non, tr_bl, tr_int, tr_tup, tr_lst, ty_non, ty_bl, ty_int, ty_str, ty_tup, ty_lst, it_seqL, it_seqT, im_zipL, im_zipT, im_enumL, im_enumT, sl_tup, sl_lst, add_ii, add_bi, add_ss, add_tt, add_ll, sub_ii, sub_bi, lt_ii, gt_ii, ge_ii, le_ii, line, eq_int, eq_K0, p_lenK, p_listK, foldK, sl_K, cutD_to, eq_bool, atI0, atI1, atI2, hw, eq_K0, hk, hl2, dM]
    · exact ⟨(k1, k2), S, by simp [startE_def, ex_asg, ex_par2, ex_par3, ex_setix, ex_ex, ex_ret, ex_retn, ex_raise, ex_ifs, ex_pass, ex_nil, ex_cons, ev_var, ev_non, ev_bl, ev_int, ev_str, ev_g, ev_pr, ev_sl, ev_and, ev_or, ev_ifx, ev_chain, ev_call, ev_cv, ev_nil, ev_cons, evI_nil, evI_one, bT_v, bT_t, bT_u, bL_nil, bL_cons, wp_nil, wp_cons, lift_ok, lift_exc, bind_ok, bind_exc, cm_ok, ofM_some, endO_rt, endO_nx, endO_exc, bM_some, nB_some, p_add, p_sub, p_mul, p_fdiv, p_mod, p_pow, p_neg, p_not, p_eq, p_ne, p_lt, p_gt, p_le, p_ge, p_isN, p_notN, p_isB, p_notB, p_in, p_nin, p_tup, p_lst, p_newl, p_ixT, p_ixL, p_ixS, p_ixR, p_lenT, p_lenL, p_lenS, p_abs, p_min2, p_max2, p_sum, p_max1, p_min1, p_any, p_all, p_int, p_tupleL, p_tupleT, p_listL, p_listT, p_isi, p_rev, tr_non, tr_bl, tr_int, tr_tup, tr_lst, ty_non, ty_bl, ty_int, ty_str, ty_tup, ty_lst, it_seqL, it_seqT, im_zipL, im_zipT, im_enumL, im_enumT, sl_tup, sl_lst, add_ii, add_bi, add_ss, add_tt, add_ll, sub_ii, sub_bi, lt_ii, gt_ii, ge_ii, le_ii, line, eq_int, eq_K0, p_lenK, p_listK, foldK, sl_K, cutD_to, eq_bool, atI0, atI1, atI2, beq_no hw, dM], h1, h2, v⟩
  rw [run_df rfl rfl]
  by_cases hw : 0 < w
  · obtain ⟨a, S5, e5, a0, a1, v5⟩ := r_under (n + 2) v4 (m := 9) (by omega) (by omega)
    obtain ⟨b, S6, e6, b0, b1, v6⟩ := r_under (n + 2) v5 (m := 9) (by omega) (by omega)
    obtain ⟨c, S7, e7, c0, c1, v7⟩ := r_under (n + 2) v6 (m := 2 * wd + 1) (by omega) (by omega)
    have l1 : k1.length + k2.length ≤ 100000 := by have := h1.len; have := h2.len; omega
    have l2 : k1.length + k2.length ≤ 30 := by have := h1.len; have := h2.len; omega
    have rg : ∀ p ∈ sortP (k1 ++ k2), (-50 ≤ p.1 ∧ p.1 ≤ 50) ∧ (-50 ≤ p.2 ∧ p.2 ≤ 50) := fun p hp => by
      rw [mem_sortM, List.mem_append] at hp
      rcases hp with hp | hp
      · have := h1.rg p hp; omega
      · have := h2.rg p hp; omega
    have ls : (sortP (k1 ++ k2)).length ≤ 100000 := by have := sortP_len (k1 ++ k2); rw [List.length_append] at this; omega
    have kd : ∀ c : Pt → Bool, Kd 50 most (((sortP (k1 ++ k2)).filter c).take most) := fun c =>
      ⟨List.length_take_le .., (asc_iff _).mpr ((sortP_pw _).sublist ((List.take_sublist ..).trans List.filter_sublist)), fun p hp => rg p ((List.mem_filter.mp (List.mem_of_mem_take hp)).1)⟩
    obtain ⟨m, S', e, hm1, hm2, v'⟩ := tail (((sortP (k1 ++ k2)).filter fun p => decide ((a - 4) * p.1 + (b - 4) * p.2 < c - wd)).take most) (((sortP (k1 ++ k2)).filter fun p => decide (c - wd < (a - 4) * p.1 + (b - 4) * p.2)).take most) S7 (some (.int (a - 4))) (some (.int (b - 4))) (some (.int (c - wd))) (some (dK (sortP (k1 ++ k2)))) none v7 (kd _) (kd _)
    refine ⟨m, S', ?_, hm1, hm2, v'⟩
    rw [← e]
    simp [startE_def, ex_asg, ex_par2, ex_par3, ex_setix, ex_ex, ex_ret, ex_retn, ex_raise, ex_ifs, ex_pass, ex_nil, ex_cons, ev_var, ev_non, ev_bl, ev_int, ev_str, ev_g, ev_pr, ev_sl, ev_and, ev_or, ev_ifx, ev_chain, ev_call, ev_cv, ev_nil, ev_cons, evI_nil, evI_one, bT_v, bT_t, bT_u, bL_nil, bL_cons, wp_nil, wp_cons, lift_ok, lift_exc, bind_ok, bind_exc, cm_ok, ofM_some, endO_rt, endO_nx, endO_exc, bM_some, nB_some, p_add, p_sub, p_mul, p_fdiv, p_mod, p_pow, p_neg, p_not, p_eq, p_ne, p_lt, p_gt, p_le, p_ge, p_isN, p_notN, p_isB, p_notB, p_in, p_nin, p_tup, p_lst, p_newl, p_ixT, p_ixL, p_ixS, p_ixR, p_lenT, p_lenL, p_lenS, p_abs, p_min2, p_max2, p_sum, p_max1, p_min1, p_any, p_all, p_int, p_tupleL, p_tupleT, p_listL, p_listT, p_isi, p_rev, tr_non, tr_bl, tr_int, tr_tup, tr_lst, ty_non, ty_bl, ty_int, ty_str, ty_tup, ty_lst, it_seqL, it_seqT, im_zipL, im_zipT, im_enumL, im_enumT, sl_tup, sl_lst, add_ii, add_bi, add_ss, add_tt, add_ll, sub_ii, sub_bi, lt_ii, gt_ii, ge_ii, le_ii, line, eq_int, eq_K0, p_lenK, p_listK, foldK, sl_K, cutD_to, eq_bool, atI0, atI1, atI2, e1, e2, e3, e4, e5, e6, e7, hw, add_KK _ _ l1, p_sortsetK, l2, pMul_l]
    rw [ev_lcF (ds := [dK (sortP (k1 ++ k2))]) (l := sortP (k1 ++ k2)) (f := dP) (g := dP) (c := fun p => decide ((a - 4) * p.1 + (b - 4) * p.2 < c - wd)) (by simp [startE_def, ex_asg, ex_par2, ex_par3, ex_setix, ex_ex, ex_ret, ex_retn, ex_raise, ex_ifs, ex_pass, ex_nil, ex_cons, ev_var, ev_non, ev_bl, ev_int, ev_str, ev_g, ev_pr, ev_sl, ev_and, ev_or, ev_ifx, ev_chain, ev_call, ev_cv, ev_nil, ev_cons, evI_nil, evI_one, bT_v, bT_t, bT_u, bL_nil, bL_cons, wp_nil, wp_cons, lift_ok, lift_exc, bind_ok, bind_exc, cm_ok, ofM_some, endO_rt, endO_nx, endO_exc, bM_some, nB_some, p_add, p_sub, p_mul, p_fdiv, p_mod, p_pow, p_neg, p_not, p_eq, p_ne, p_lt, p_gt, p_le, p_ge, p_isN, p_notN, p_isB, p_notB, p_in, p_nin, p_tup, p_lst, p_newl, p_ixT, p_ixL, p_ixS, p_ixR, p_lenT, p_lenL, p_lenS, p_abs, p_min2, p_max2, p_sum, p_max1, p_min1, p_any, p_all, p_int, p_tupleL, p_tupleT, p_listL, p_listT, p_isi, p_rev, tr_non, tr_bl, tr_int, tr_tup, tr_lst, ty_non, ty_bl, ty_int, ty_str, ty_tup, ty_lst, it_seqL, it_seqT, im_zipL, im_zipT, im_enumL, im_enumT, sl_tup, sl_lst, add_ii, add_bi, add_ss, add_tt, add_ll, sub_ii, sub_bi, lt_ii, gt_ii, ge_ii, le_ii, line, eq_int, eq_K0, p_lenK, p_listK, foldK, sl_K, cutD_to, eq_bool, atI0, atI1, atI2]) rfl (fun p hp => ⟨_, rfl, by
      have := rg p hp
      simp [startE_def, ex_asg, ex_par2, ex_par3, ex_setix, ex_ex, ex_ret, ex_retn, ex_raise, ex_ifs, ex_pass, ex_nil, ex_cons, ev_var, ev_non, ev_bl, ev_int, ev_str, ev_g, ev_pr, ev_sl, ev_and, ev_or, ev_ifx, ev_chain, ev_call, ev_cv, ev_nil, ev_cons, evI_nil, evI_one, bT_v, bT_t, bT_u, bL_nil, bL_cons, wp_nil, wp_cons, lift_ok, lift_exc, bind_ok, bind_exc, cm_ok, ofM_some, endO_rt, endO_nx, endO_exc, bM_some, nB_some, p_add, p_sub, p_mul, p_fdiv, p_mod, p_pow, p_neg, p_not, p_eq, p_ne, p_lt, p_gt, p_le, p_ge, p_isN, p_notN, p_isB, p_notB, p_in, p_nin, p_tup, p_lst, p_newl, p_ixT, p_ixL, p_ixS, p_ixR, p_lenT, p_lenL, p_lenS, p_abs, p_min2, p_max2, p_sum, p_max1, p_min1, p_any, p_all, p_int, p_tupleL, p_tupleT, p_listL, p_listT, p_isi, p_rev, tr_non, tr_bl, tr_int, tr_tup, tr_lst, ty_non, ty_bl, ty_int, ty_str, ty_tup, ty_lst, it_seqL, it_seqT, im_zipL, im_zipT, im_enumL, im_enumT, sl_tup, sl_lst, add_ii, add_bi, add_ss, add_tt, add_ll, sub_ii, sub_bi, lt_ii, gt_ii, ge_ii, le_ii, line, eq_int, eq_K0, p_lenK, p_listK, foldK, sl_K, cutD_to, eq_bool, atI0, atI1, atI2, dP, pMul_l (i := a - 4) ⟨by omega, by omega⟩, pMul_l (i := b - 4) ⟨by omega, by omega⟩], fun _ => by simp [startE_def, ex_asg, ex_par2, ex_par3, ex_setix, ex_ex, ex_ret, ex_retn, ex_raise, ex_ifs, ex_pass, ex_nil, ex_cons, ev_var, ev_non, ev_bl, ev_int, ev_str, ev_g, ev_pr, ev_sl, ev_and, ev_or, ev_ifx, ev_chain, ev_call, ev_cv, ev_nil, ev_cons, evI_nil, evI_one, bT_v, bT_t, bT_u, bL_nil, bL_cons, wp_nil, wp_cons, lift_ok, lift_exc, bind_ok, bind_exc, cm_ok, ofM_some, endO_rt, endO_nx, endO_exc, bM_some, nB_some, p_add, p_sub, p_mul, p_fdiv, p_mod, p_pow, p_neg, p_not, p_eq, p_ne, p_lt, p_gt, p_le, p_ge, p_isN, p_notN, p_isB, p_notB, p_in, p_nin, p_tup, p_lst, p_newl, p_ixT, p_ixL, p_ixS, p_ixR, p_lenT, p_lenL, p_lenS, p_abs, p_min2, p_max2, p_sum, p_max1, p_min1, p_any, p_all, p_int, p_tupleL, p_tupleT, p_listL, p_listT, p_isi, p_rev, tr_non, tr_bl, tr_int, tr_tup, tr_lst, ty_non, ty_bl, ty_int, ty_str, ty_tup, ty_lst, it_seqL, it_seqT, im_zipL, im_zipT, im_enumL, im_enumT, sl_tup, sl_lst, add_ii, add_bi, add_ss, add_tt, add_ll, sub_ii, sub_bi, lt_ii, gt_ii, ge_ii, le_ii, line, eq_int, eq_K0, p_lenK, p_listK, foldK, sl_K, cutD_to, eq_bool, atI0, atI1, atI2]⟩) ls]
    simp only [bind_ok, ofM_some, lift_ok, sl_lst, cutD_to, p_tupleL, foldK]
    rw [ev_lcF (ds := [dK (sortP (k1 ++ k2))]) (l := sortP (k1 ++ k2)) (f := dP) (g := dP) (c := fun p => decide (c - wd < (a - 4) * p.1 + (b - 4) * p.2)) (by simp [startE_def, ex_asg, ex_par2, ex_par3, ex_setix, ex_ex, ex_ret, ex_retn, ex_raise, ex_ifs, ex_pass, ex_nil, ex_cons, ev_var, ev_non, ev_bl, ev_int, ev_str, ev_g, ev_pr, ev_sl, ev_and, ev_or, ev_ifx, ev_chain, ev_call, ev_cv, ev_nil, ev_cons, evI_nil, evI_one, bT_v, bT_t, bT_u, bL_nil, bL_cons, wp_nil, wp_cons, lift_ok, lift_exc, bind_ok, bind_exc, cm_ok, ofM_some, endO_rt, endO_nx, endO_exc, bM_some, nB_some, p_add, p_sub, p_mul, p_fdiv, p_mod, p_pow, p_neg, p_not, p_eq, p_ne, p_lt, p_gt, p_le, p_ge, p_isN, p_notN, p_isB, p_notB, p_in, p_nin, p_tup, p_lst, p_newl, p_ixT, p_ixL, p_ixS, p_ixR, p_lenT, p_lenL, p_lenS, p_abs, p_min2, p_max2, p_sum, p_max1, p_min1, p_any, p_all, p_int, p_tupleL, p_tupleT, p_listL, p_listT, p_isi, p_rev, tr_non, tr_bl, tr_int, tr_tup, tr_lst, ty_non, ty_bl, ty_int, ty_str, ty_tup, ty_lst, it_seqL, it_seqT, im_zipL, im_zipT, im_enumL, im_enumT, sl_tup, sl_lst, add_ii, add_bi, add_ss, add_tt, add_ll, sub_ii, sub_bi, lt_ii, gt_ii, ge_ii, le_ii, line, eq_int, eq_K0, p_lenK, p_listK, foldK, sl_K, cutD_to, eq_bool, atI0, atI1, atI2]) rfl (fun p hp => ⟨_, rfl, by
      have := rg p hp
      simp [startE_def, ex_asg, ex_par2, ex_par3, ex_setix, ex_ex, ex_ret, ex_retn, ex_raise, ex_ifs, ex_pass, ex_nil, ex_cons, ev_var, ev_non, ev_bl, ev_int, ev_str, ev_g, ev_pr, ev_sl, ev_and, ev_or, ev_ifx, ev_chain, ev_call, ev_cv, ev_nil, ev_cons, evI_nil, evI_one, bT_v, bT_t, bT_u, bL_nil, bL_cons, wp_nil, wp_cons, lift_ok, lift_exc, bind_ok, bind_exc, cm_ok, ofM_some, endO_rt, endO_nx, endO_exc, bM_some, nB_some, p_add, p_sub, p_mul, p_fdiv, p_mod, p_pow, p_neg, p_not, p_eq, p_ne, p_lt, p_gt, p_le, p_ge, p_isN, p_notN, p_isB, p_notB, p_in, p_nin, p_tup, p_lst, p_newl, p_ixT, p_ixL, p_ixS, p_ixR, p_lenT, p_lenL, p_lenS, p_abs, p_min2, p_max2, p_sum, p_max1, p_min1, p_any, p_all, p_int, p_tupleL, p_tupleT, p_listL, p_listT, p_isi, p_rev, tr_non, tr_bl, tr_int, tr_tup, tr_lst, ty_non, ty_bl, ty_int, ty_str, ty_tup, ty_lst, it_seqL, it_seqT, im_zipL, im_zipT, im_enumL, im_enumT, sl_tup, sl_lst, add_ii, add_bi, add_ss, add_tt, add_ll, sub_ii, sub_bi, lt_ii, gt_ii, ge_ii, le_ii, line, eq_int, eq_K0, p_lenK, p_listK, foldK, sl_K, cutD_to, eq_bool, atI0, atI1, atI2, dP, pMul_l (i := a - 4) ⟨by omega, by omega⟩, pMul_l (i := b - 4) ⟨by omega, by omega⟩], fun _ => by simp [startE_def, ex_asg, ex_par2, ex_par3, ex_setix, ex_ex, ex_ret, ex_retn, ex_raise, ex_ifs, ex_pass, ex_nil, ex_cons, ev_var, ev_non, ev_bl, ev_int, ev_str, ev_g, ev_pr, ev_sl, ev_and, ev_or, ev_ifx, ev_chain, ev_call, ev_cv, ev_nil, ev_cons, evI_nil, evI_one, bT_v, bT_t, bT_u, bL_nil, bL_cons, wp_nil, wp_cons, lift_ok, lift_exc, bind_ok, bind_exc, cm_ok, ofM_some, endO_rt, endO_nx, endO_exc, bM_some, nB_some, p_add, p_sub, p_mul, p_fdiv, p_mod, p_pow, p_neg, p_not, p_eq, p_ne, p_lt, p_gt, p_le, p_ge, p_isN, p_notN, p_isB, p_notB, p_in, p_nin, p_tup, p_lst, p_newl, p_ixT, p_ixL, p_ixS, p_ixR, p_lenT, p_lenL, p_lenS, p_abs, p_min2, p_max2, p_sum, p_max1, p_min1, p_any, p_all, p_int, p_tupleL, p_tupleT, p_listL, p_listT, p_isi, p_rev, tr_non, tr_bl, tr_int, tr_tup, tr_lst, ty_non, ty_bl, ty_int, ty_str, ty_tup, ty_lst, it_seqL, it_seqT, im_zipL, im_zipT, im_enumL, im_enumT, sl_tup, sl_lst, add_ii, add_bi, add_ss, add_tt, add_ll, sub_ii, sub_bi, lt_ii, gt_ii, ge_ii, le_ii, line, eq_int, eq_K0, p_lenK, p_listK, foldK, sl_K, cutD_to, eq_bool, atI0, atI1, atI2]⟩) ls]
    simp [-List.map_take, startE_def, ex_asg, ex_par2, ex_par3, ex_setix, ex_ex, ex_ret, ex_retn, ex_raise, ex_ifs, ex_pass, ex_nil, ex_cons, ev_var, ev_non, ev_bl, ev_int, ev_str, ev_g, ev_pr, ev_sl, ev_and, ev_or, ev_ifx, ev_chain, ev_call, ev_cv, ev_nil, ev_cons, evI_nil, evI_one, bT_v, bT_t, bT_u, bL_nil, bL_cons, wp_nil, wp_cons, lift_ok, lift_exc, bind_ok, bind_exc, cm_ok, ofM_some, endO_rt, endO_nx, endO_exc, bM_some, nB_some, p_add, p_sub, p_mul, p_fdiv, p_mod, p_pow, p_neg, p_not, p_eq, p_ne, p_lt, p_gt, p_le, p_ge, p_isN, p_notN, p_isB, p_notB, p_in, p_nin, p_tup, p_lst, p_newl, p_ixT, p_ixL, p_ixS, p_ixR, p_lenT, p_lenL, p_lenS, p_abs, p_min2, p_max2, p_sum, p_max1, p_min1, p_any, p_all, p_int, p_tupleL, p_tupleT, p_listL, p_listT, p_isi, p_rev, tr_non, tr_bl, tr_int, tr_tup, tr_lst, ty_non, ty_bl, ty_int, ty_str, ty_tup, ty_lst, it_seqL, it_seqT, im_zipL, im_zipT, im_enumL, im_enumT, sl_tup, sl_lst, add_ii, add_bi, add_ss, add_tt, add_ll, sub_ii, sub_bi, lt_ii, gt_ii, ge_ii, le_ii, line, eq_int, eq_K0, p_lenK, p_listK, foldK, sl_K, cutD_to, eq_bool, atI0, atI1, atI2]
  · obtain ⟨m, S', e, h5, h6, v'⟩ := tail k1 k2 S4 none none none none none v4 (h1.mono d50 (Nat.le_refl _)) (h2.mono d50 (Nat.le_refl _))
    refine ⟨m, S', ?_, h5, h6, v'⟩
    rw [← e]
    simp [startE_def, ex_asg, ex_par2, ex_par3, ex_setix, ex_ex, ex_ret, ex_retn, ex_raise, ex_ifs, ex_pass, ex_nil, ex_cons, ev_var, ev_non, ev_bl, ev_int, ev_str, ev_g, ev_pr, ev_sl, ev_and, ev_or, ev_ifx, ev_chain, ev_call, ev_cv, ev_nil, ev_cons, evI_nil, evI_one, bT_v, bT_t, bT_u, bL_nil, bL_cons, wp_nil, wp_cons, lift_ok, lift_exc, bind_ok, bind_exc, cm_ok, ofM_some, endO_rt, endO_nx, endO_exc, bM_some, nB_some, p_add, p_sub, p_mul, p_fdiv, p_mod, p_pow, p_neg, p_not, p_eq, p_ne, p_lt, p_gt, p_le, p_ge, p_isN, p_notN, p_isB, p_notB, p_in, p_nin, p_tup, p_lst, p_newl, p_ixT, p_ixL, p_ixS, p_ixR, p_lenT, p_lenL, p_lenS, p_abs, p_min2, p_max2, p_sum, p_max1, p_min1, p_any, p_all, p_int, p_tupleL, p_tupleT, p_listL, p_listT, p_isi, p_rev, tr_non, tr_bl, tr_int, tr_tup, tr_lst, ty_non, ty_bl, ty_int, ty_str, ty_tup, ty_lst, it_seqL, it_seqT, im_zipL, im_zipT, im_enumL, im_enumT, sl_tup, sl_lst, add_ii, add_bi, add_ss, add_tt, add_ll, sub_ii, sub_bi, lt_ii, gt_ii, ge_ii, le_ii, line, eq_int, eq_K0, p_lenK, p_listK, foldK, sl_K, cutD_to, eq_bool, atI0, atI1, atI2, e1, e2, e3, e4, hw]
end SF.Law

set_option maxHeartbeats 200000
set_option Elab.async false
set_option linter.all false
set_option maxRecDepth 100000
namespace SF.Law
open PySem SF SF.M
theorem atI_in {l : List D} {i : Int} (h0 : 0 ≤ i) (h : i < l.length) : ∃ x, L2.atI l i = some x ∧ x ∈ l := by
  obtain ⟨j, rfl⟩ := Int.eq_ofNat_of_zero_le h0
  have hj : j < l.length := by omega
  exact ⟨l[j], L2.atI_nat (List.getElem?_eq_getElem hj), List.getElem_mem hj⟩
theorem spoilt2 (k : Nat) {S : Sto} {r m q : Nat} (v : Vat S r) (d : D) (x2 : Option D) (hd : Sp m q d) (hm : m ≤ 50) (hq : q ≤ 1000) : ∃ d' S', endO (exL (run G (k + 1)) G.gl [(.asg (.v 3) (.call 14 [(.var 0), (.int 6)])), (.ifs (.pr (.isi .tuple) [(.var 1)]) [(.ret (.pr .ix [(.pr .lst [(.pr .list_ [(.var 1)]), (.sl (.var 1) [(.int 1)] []), (.pr .add [(.var 1), (.sl (.var 1) [(.pr .neg [(.int 1)])] [])]), (.sl (.var 1) [] [(.pr .neg [(.int 1)])]), .non, (.pr .tup [(.pr .tup [(.int 0), (.int 0)]), (.var 1)])]), (.var 3)]))] []), (.ifs (.pr (.isi .str) [(.var 1)]) [(.ret (.pr .ix [(.pr .lst [(.pr .add [(.var 1), (.str "x")]), (.sl (.var 1) [(.int 1)] []), (.str "first"), (.str ""), (.int 3), (.pr .upper [(.var 1)])]), (.var 3)]))] []), (.ifs (.pr (.isi .int) [(.var 1)]) [(.ret (.pr .ix [(.pr .lst [(.pr .add [(.var 1), (.int 1)]), (.pr .sub [(.var 1), (.int 1)]), (.int 51), (.bl true), .non, (.pr .str_ [(.var 1)])]), (.var 3)]))] []), (.ret .non)]
    [some (.ref r), some d, x2, none] S) = .ok d' S' ∧ Sp (m + 1) (q + 1) d' ∧ Vat S' r := by
  obtain ⟨i, S1, e1, i0, i6, v1⟩ := r_under k v (m := 6) (by omega) (by omega)
  cases d with
  | tup l =>
    obtain ⟨k, rfl, hl, hx⟩ := hd.tup'
    have l1 : l.length ≤ 100000 := by omega
    have l2 : l.length + (cutD l (some (-1)) none).length ≤ 100000 := by have := cut_len l (some (-1)) none; omega
    obtain ⟨d', e2, hm2⟩ := atI_in (l := [.lst l, .tup (cutD l (some 1) none), .tup (l ++ cutD l (some (-1)) none), .tup (cutD l none (some (-1))), .non, .tup [.tup [.int 0, .int 0], .tup l]]) i0 (by simpa using i6)
    refine ⟨d', S1, by simp [startE_def, ex_asg, ex_par2, ex_par3, ex_setix, ex_ex, ex_ret, ex_retn, ex_raise, ex_ifs, ex_pass, ex_nil, ex_cons, ev_var, ev_non, ev_bl, ev_int, ev_str, ev_g, ev_pr, ev_sl, ev_and, ev_or, ev_ifx, ev_chain, ev_call, ev_cv, ev_nil, ev_cons, evI_nil, evI_one, bT_v, bT_t, bT_u, bL_nil, bL_cons, wp_nil, wp_cons, lift_ok, lift_exc, bind_ok, bind_exc, cm_ok, ofM_some, endO_rt, endO_nx, endO_exc, bM_some, nB_some, p_add, p_sub, p_mul, p_fdiv, p_mod, p_pow, p_neg, p_not, p_eq, p_ne, p_lt, p_gt, p_le, p_ge, p_isN, p_notN, p_isB, p_notB, p_in, p_nin, p_tup, p_lst, p_newl, p_ixT, p_ixL, p_ixS, p_ixR, p_lenT, p_lenL, p_lenS, p_abs, p_min2, p_max2, p_sum, p_max1, p_min1, p_any, p_all, p_int, p_tupleL, p_tupleT, p_listL, p_listT, p_isi, p_rev, tr_non, tr_bl, tr_int, tr_tup, tr_lst, ty_non, ty_bl, ty_int, ty_str, ty_tup, ty_lst, it_seqL, it_seqT, im_zipL, im_zipT, im_enumL, im_enumT, sl_tup, sl_lst, add_ii, add_bi, add_ss, add_tt, add_ll, sub_ii, sub_bi, lt_ii, gt_ii, ge_ii, le_ii, line, eq_int, eq_K0, p_lenK, p_listK, foldK, sl_K, cutD_to, eq_bool, atI0, atI1, atI2, e1, e2, l1, l2], ?_, v1⟩
    simp only [List.mem_cons, List.not_mem_nil, or_false] at hm2
    have hx' : ∀ x ∈ l, Sp (k + 1) (q + 1) x := fun x h => (hx x h).mono (by omega) (by omega)
    rcases hm2 with rfl | rfl | rfl | rfl | rfl | rfl
    · exact Sp.lst _ _ _ (by omega) hx'
    · exact Sp.tup _ _ _ (by have := cut_len l (some 1) none; omega) fun x h => hx' x (cut_mem h)
    · refine Sp.tup _ _ _ ?_ fun x h => ?_
      · rw [List.length_append]
        have : (cutD l (some (-1)) none).length ≤ 1 := by
          unfold cutD
          rw [HT.sIx_none, List.length_take, List.length_drop]
          have : HT.sIx l.length 0 (some (-1)) = ((-1) + (l.length : Int)).toNat := rfl
          rw [this]
          omega
        omega
      · rcases List.mem_append.mp h with h | h
        · exact hx' x h
        · exact hx' x (cut_mem h)
    · exact Sp.tup _ _ _ (by have := cut_len l none (some (-1)); omega) fun x h => hx' x (cut_mem h)
    · exact Sp.non _ _
    · refine Sp.tup _ _ _ (by simp; omega) fun x h => ?_
      simp only [List.mem_cons, List.not_mem_nil, or_false] at h
      rcases h with rfl | rfl
      · refine Sp.tup _ _ _ (by simp; omega) fun x h => ?_
        simp only [List.mem_cons, List.not_mem_nil, or_false, or_self] at h
        subst h
        exact Sp.int _ _ _ (by simp; try omega)
      · exact hd.mono (by omega) (by omega)
  | str s =>
    have hb := hd.b
    simp only [bd, Bool.and_eq_true, decide_eq_true_eq] at hb
    obtain ⟨hl, ha⟩ := hb
    have l1 : s.length ≤ 100000 := by omega
    have l2 : s.length + ("x" : PySem.Str).length ≤ 100000 := by
      have : ("x" : PySem.Str).length = 1 := by decide +kernel
      omega
    obtain ⟨d', e2, hm2⟩ := atI_in (l := [.str (s ++ "x"), .str (L2.cutS s (some 1) none), .str "first", .str "", .int 3, .str (Txt.upper s)]) i0 (by simpa using i6)
    refine ⟨d', S1, by simp [startE_def, ex_asg, ex_par2, ex_par3, ex_setix, ex_ex, ex_ret, ex_retn, ex_raise, ex_ifs, ex_pass, ex_nil, ex_cons, ev_var, ev_non, ev_bl, ev_int, ev_str, ev_g, ev_pr, ev_sl, ev_and, ev_or, ev_ifx, ev_chain, ev_call, ev_cv, ev_nil, ev_cons, evI_nil, evI_one, bT_v, bT_t, bT_u, bL_nil, bL_cons, wp_nil, wp_cons, lift_ok, lift_exc, bind_ok, bind_exc, cm_ok, ofM_some, endO_rt, endO_nx, endO_exc, bM_some, nB_some, p_add, p_sub, p_mul, p_fdiv, p_mod, p_pow, p_neg, p_not, p_eq, p_ne, p_lt, p_gt, p_le, p_ge, p_isN, p_notN, p_isB, p_notB, p_in, p_nin, p_tup, p_lst, p_newl, p_ixT, p_ixL, p_ixS, p_ixR, p_lenT, p_lenL, p_lenS, p_abs, p_min2, p_max2, p_sum, p_max1, p_min1, p_any, p_all, p_int, p_tupleL, p_tupleT, p_listL, p_listT, p_isi, p_rev, tr_non, tr_bl, tr_int, tr_tup, tr_lst, ty_non, ty_bl, ty_int, ty_str, ty_tup, ty_lst, it_seqL, it_seqT, im_zipL, im_zipT, im_enumL, im_enumT, sl_tup, sl_lst, add_ii, add_bi, add_ss, add_tt, add_ll, sub_ii, sub_bi, lt_ii, gt_ii, ge_ii, le_ii, line, eq_int, eq_K0, p_lenK, p_listK, foldK, sl_K, cutD_to, eq_bool, atI0, atI1, atI2, e1, e2, l1, l2, sl_str, p_upper], ?_, v1⟩
    simp only [List.mem_cons, List.not_mem_nil, or_false] at hm2
    rcases hm2 with rfl | rfl | rfl | rfl | rfl | rfl
    · refine Sp.str _ _ _ ?_ ?_
      · rw [len_app]
        have : ("x" : PySem.Str).length = 1 := by decide +kernel
        omega
      · rw [asB_app, ha]
        decide +kernel
    · exact Sp.str _ _ _ (by have := len_cut s (some 1) none; omega) (asB_cut _ _ _ ha)
    · exact Sp.str _ _ _ (by have : ("first" : PySem.Str).length = 5 := by decide +kernel
                             omega) (by decide +kernel)
    · exact Sp.str _ _ _ (by have : ("" : PySem.Str).length = 0 := by decide +kernel
                             omega) (by decide +kernel)
    · exact Sp.int _ _ _ (by simp; try omega)
    · have := asB_up s ha
      exact Sp.str _ _ _ (by omega) this.1
  | int j =>
    have hb := hd.b
    simp only [bd, decide_eq_true_eq] at hb
    have h51 : (2 : Nat) ^ 51 = 2251799813685248 := by decide
    have hj0 : 1000000000000000 + q < 2 ^ 51 := by omega
    have hj : j.natAbs < 2 ^ 1900 := Nat.lt_of_le_of_lt hb (Nat.lt_of_lt_of_le hj0 (Nat.pow_le_pow_right (by decide) (by decide)))
    obtain ⟨d', e2, hm2⟩ := atI_in (l := [.int (j + 1), .int (j - 1), .int 51, .bl true, .non, .str (PySem.Str.ofString (toString j))]) i0 (by simpa using i6)
    have e3 := e2
    rw [show (toString j : String) = j.repr from rfl] at e3
    refine ⟨d', S1, by simp [startE_def, ex_asg, ex_par2, ex_par3, ex_setix, ex_ex, ex_ret, ex_retn, ex_raise, ex_ifs, ex_pass, ex_nil, ex_cons, ev_var, ev_non, ev_bl, ev_int, ev_str, ev_g, ev_pr, ev_sl, ev_and, ev_or, ev_ifx, ev_chain, ev_call, ev_cv, ev_nil, ev_cons, evI_nil, evI_one, bT_v, bT_t, bT_u, bL_nil, bL_cons, wp_nil, wp_cons, lift_ok, lift_exc, bind_ok, bind_exc, cm_ok, ofM_some, endO_rt, endO_nx, endO_exc, bM_some, nB_some, p_add, p_sub, p_mul, p_fdiv, p_mod, p_pow, p_neg, p_not, p_eq, p_ne, p_lt, p_gt, p_le, p_ge, p_isN, p_notN, p_isB, p_notB, p_in, p_nin, p_tup, p_lst, p_newl, p_ixT, p_ixL, p_ixS, p_ixR, p_lenT, p_lenL, p_lenS, p_abs, p_min2, p_max2, p_sum, p_max1, p_min1, p_any, p_all, p_int, p_tupleL, p_tupleT, p_listL, p_listT, p_isi, p_rev, tr_non, tr_bl, tr_int, tr_tup, tr_lst, ty_non, ty_bl, ty_int, ty_str, ty_tup, ty_lst, it_seqL, it_seqT, im_zipL, im_zipT, im_enumL, im_enumT, sl_tup, sl_lst, add_ii, add_bi, add_ss, add_tt, add_ll, sub_ii, sub_bi, lt_ii, gt_ii, ge_ii, le_ii, line, eq_int, eq_K0, p_lenK, p_listK, foldK, sl_K, cutD_to, eq_bool, atI0, atI1, atI2, e1, e3, p_strI _ _ hj], ?_, v1⟩
    simp only [List.mem_cons, List.not_mem_nil, or_false] at hm2
    rcases hm2 with rfl | rfl | rfl | rfl | rfl | rfl
    · exact Sp.int _ _ _ (by omega)
    · exact Sp.int _ _ _ (by omega)
    · exact Sp.int _ _ _ (by omega)
    · exact Sp.bl _ _ _
    · exact Sp.non _ _
    · have := asB_int j (by omega)
      exact Sp.str _ _ _ (by omega) this.1
  | bl b =>
    obtain ⟨d', e2, hm2⟩ := atI_in (l := [.int (b2 b + 1), .int (b2 b - 1), .int 51, .bl true, .non, .str (if b then "True" else "False")]) i0 (by simpa using i6)
    refine ⟨d', S1, by simp [startE_def, ex_asg, ex_par2, ex_par3, ex_setix, ex_ex, ex_ret, ex_retn, ex_raise, ex_ifs, ex_pass, ex_nil, ex_cons, ev_var, ev_non, ev_bl, ev_int, ev_str, ev_g, ev_pr, ev_sl, ev_and, ev_or, ev_ifx, ev_chain, ev_call, ev_cv, ev_nil, ev_cons, evI_nil, evI_one, bT_v, bT_t, bT_u, bL_nil, bL_cons, wp_nil, wp_cons, lift_ok, lift_exc, bind_ok, bind_exc, cm_ok, ofM_some, endO_rt, endO_nx, endO_exc, bM_some, nB_some, p_add, p_sub, p_mul, p_fdiv, p_mod, p_pow, p_neg, p_not, p_eq, p_ne, p_lt, p_gt, p_le, p_ge, p_isN, p_notN, p_isB, p_notB, p_in, p_nin, p_tup, p_lst, p_newl, p_ixT, p_ixL, p_ixS, p_ixR, p_lenT, p_lenL, p_lenS, p_abs, p_min2, p_max2, p_sum, p_max1, p_min1, p_any, p_all, p_int, p_tupleL, p_tupleT, p_listL, p_listT, p_isi, p_rev, tr_non, tr_bl, tr_int, tr_tup, tr_lst, ty_non, ty_bl, ty_int, ty_str, ty_tup, ty_lst, it_seqL, it_seqT, im_zipL, im_zipT, im_enumL, im_enumT, sl_tup, sl_lst, add_ii, add_bi, add_ss, add_tt, add_ll, sub_ii, sub_bi, lt_ii, gt_ii, ge_ii, le_ii, line, eq_int, eq_K0, p_lenK, p_listK, foldK, sl_K, cutD_to, eq_bool, atI0, atI1, atI2, e1, e2, p_strB], ?_, v1⟩
    have hb : b2 b = 0 ∨ b2 b = 1 := by cases b <;> simp [b2]
    simp only [List.mem_cons, List.not_mem_nil, or_false] at hm2
    rcases hm2 with rfl | rfl | rfl | rfl | rfl | rfl
    · exact Sp.int _ _ _ (by omega)
    · exact Sp.int _ _ _ (by omega)
    · exact Sp.int _ _ _ (by omega)
    · exact Sp.bl _ _ _
    · exact Sp.non _ _
    · refine Sp.str _ _ _ ?_ ?_
      · have : (if b then ("True" : PySem.Str) else "False").length ≤ 5 := by cases b <;> decide +kernel
        omega
      · cases b <;> decide +kernel
  | non => exact ⟨.non, S1, by simp [startE_def, ex_asg, ex_par2, ex_par3, ex_setix, ex_ex, ex_ret, ex_retn, ex_raise, ex_ifs, ex_pass, ex_nil, ex_cons, ev_var, ev_non, ev_bl, ev_int, ev_str, ev_g, ev_pr, ev_sl, ev_and, ev_or, ev_ifx, ev_chain, ev_call, ev_cv, ev_nil, ev_cons, evI_nil, evI_one, bT_v, bT_t, bT_u, bL_nil, bL_cons, wp_nil, wp_cons, lift_ok, lift_exc, bind_ok, bind_exc, cm_ok, ofM_some, endO_rt, endO_nx, endO_exc, bM_some, nB_some, p_add, p_sub, p_mul, p_fdiv, p_mod, p_pow, p_neg, p_not, p_eq, p_ne, p_lt, p_gt, p_le, p_ge, p_isN, p_notN, p_isB, p_notB, p_in, p_nin, p_tup, p_lst, p_newl, p_ixT, p_ixL, p_ixS, p_ixR, p_lenT, p_lenL, p_lenS, p_abs, p_min2, p_max2, p_sum, p_max1, p_min1, p_any, p_all, p_int, p_tupleL, p_tupleT, p_listL, p_listT, p_isi, p_rev, tr_non, tr_bl, tr_int, tr_tup, tr_lst, ty_non, ty_bl, ty_int, ty_str, ty_tup, ty_lst, it_seqL, it_seqT, im_zipL, im_zipT, im_enumL, im_enumT, sl_tup, sl_lst, add_ii, add_bi, add_ss, add_tt, add_ll, sub_ii, sub_bi, lt_ii, gt_ii, ge_ii, le_ii, line, eq_int, eq_K0, p_lenK, p_listK, foldK, sl_K, cutD_to, eq_bool, atI0, atI1, atI2, e1], Sp.non _ _, v1⟩
  | lst l => exact ⟨.non, S1, by simp [startE_def, ex_asg, ex_par2, ex_par3, ex_setix, ex_ex, ex_ret, ex_retn, ex_raise, ex_ifs, ex_pass, ex_nil, ex_cons, ev_var, ev_non, ev_bl, ev_int, ev_str, ev_g, ev_pr, ev_sl, ev_and, ev_or, ev_ifx, ev_chain, ev_call, ev_cv, ev_nil, ev_cons, evI_nil, evI_one, bT_v, bT_t, bT_u, bL_nil, bL_cons, wp_nil, wp_cons, lift_ok, lift_exc, bind_ok, bind_exc, cm_ok, ofM_some, endO_rt, endO_nx, endO_exc, bM_some, nB_some, p_add, p_sub, p_mul, p_fdiv, p_mod, p_pow, p_neg, p_not, p_eq, p_ne, p_lt, p_gt, p_le, p_ge, p_isN, p_notN, p_isB, p_notB, p_in, p_nin, p_tup, p_lst, p_newl, p_ixT, p_ixL, p_ixS, p_ixR, p_lenT, p_lenL, p_lenS, p_abs, p_min2, p_max2, p_sum, p_max1, p_min1, p_any, p_all, p_int, p_tupleL, p_tupleT, p_listL, p_listT, p_isi, p_rev, tr_non, tr_bl, tr_int, tr_tup, tr_lst, ty_non, ty_bl, ty_int, ty_str, ty_tup, ty_lst, it_seqL, it_seqT, im_zipL, im_zipT, im_enumL, im_enumT, sl_tup, sl_lst, add_ii, add_bi, add_ss, add_tt, add_ll, sub_ii, sub_bi, lt_ii, gt_ii, ge_ii, le_ii, line, eq_int, eq_K0, p_lenK, p_listK, foldK, sl_K, cutD_to, eq_bool, atI0, atI1, atI2, e1], Sp.non _ _, v1⟩
  | _ => have := hd.b; simp [bd] at this
theorem r_spoilt : ∀ (m n : Nat) {S : Sto} {r : Nat} {q : Nat} (v : Vat S r) (d : D), Sp m q d → m ≤ 50 → q ≤ 1000 → ∃ d' S', run G (n + m + 2) (.fn i__law_spoilt) [.ref r, d] S = .ok d' S' ∧ Sp (m + 1) (q + 1) d' ∧ Vat S' r := by
  intro m
  induction m with
  | zero =>
    intro n S r q v d hd hm hq
    obtain ⟨d', S', e, h, v'⟩ := spoilt2 n v d none hd hm hq
    refine ⟨d', S', ?_, h, v'⟩
    rw [← e, run_df rfl rfl]
    cases d with
    | tup l => have := hd.g; simp [good] at this
    | _ => first
      | (have := hd.b; simp [bd] at this; done)
      | simp [startE_def, ex_asg, ex_par2, ex_par3, ex_setix, ex_ex, ex_ret, ex_retn, ex_raise, ex_ifs, ex_pass, ex_nil, ex_cons, ev_var, ev_non, ev_bl, ev_int, ev_str, ev_g, ev_pr, ev_sl, ev_and, ev_or, ev_ifx, ev_chain, ev_call, ev_cv, ev_nil, ev_cons, evI_nil, evI_one, bT_v, bT_t, bT_u, bL_nil, bL_cons, wp_nil, wp_cons, lift_ok, lift_exc, bind_ok, bind_exc, cm_ok, ofM_some, endO_rt, endO_nx, endO_exc, bM_some, nB_some, p_add, p_sub, p_mul, p_fdiv, p_mod, p_pow, p_neg, p_not, p_eq, p_ne, p_lt, p_gt, p_le, p_ge, p_isN, p_notN, p_isB, p_notB, p_in, p_nin, p_tup, p_lst, p_newl, p_ixT, p_ixL, p_ixS, p_ixR, p_lenT, p_lenL, p_lenS, p_abs, p_min2, p_max2, p_sum, p_max1, p_min1, p_any, p_all, p_int, p_tupleL, p_tupleT, p_listL, p_listT, p_isi, p_rev, tr_non, tr_bl, tr_int, tr_tup, tr_lst, ty_non, ty_bl, ty_int, ty_str, ty_tup, ty_lst, it_seqL, it_seqT, im_zipL, im_zipT, im_enumL, im_enumT, sl_tup, sl_lst, add_ii, add_bi, add_ss, add_tt, add_ll, sub_ii, sub_bi, lt_ii, gt_ii, ge_ii, le_ii, line, eq_int, eq_K0, p_lenK, p_listK, foldK, sl_K, cutD_to, eq_bool, atI0, atI1, atI2]
  | succ m ih =>
    intro n S r q v d hd hm hq
    cases d with
    | tup l =>
      obtain ⟨k, hk, hl, hx⟩ := hd.tup'
      obtain rfl : k = m := by omega
      have en : eqD S (.tup l) (.tup []) = some l.isEmpty := eq_nilT S (Sp.goodL hx) (by omega)
      cases he : l.isEmpty with
      | true =>
        obtain ⟨d', S', e, h, v'⟩ := spoilt2 (n + k + 1) v (.tup l) none hd hm hq
        refine ⟨d', S', ?_, h, v'⟩
        rw [← e, show n + (k + 1) + 2 = n + k + 1 + 1 + 1 by omega, run_df rfl rfl]
        simp [startE_def, ex_asg, ex_par2, ex_par3, ex_setix, ex_ex, ex_ret, ex_retn, ex_raise, ex_ifs, ex_pass, ex_nil, ex_cons, ev_var, ev_non, ev_bl, ev_int, ev_str, ev_g, ev_pr, ev_sl, ev_and, ev_or, ev_ifx, ev_chain, ev_call, ev_cv, ev_nil, ev_cons, evI_nil, evI_one, bT_v, bT_t, bT_u, bL_nil, bL_cons, wp_nil, wp_cons, lift_ok, lift_exc, bind_ok, bind_exc, cm_ok, ofM_some, endO_rt, endO_nx, endO_exc, bM_some, nB_some, p_add, p_sub, p_mul, p_fdiv, p_mod, p_pow, p_neg, p_not, p_eq, p_ne, p_lt, p_gt, p_le, p_ge, p_isN, p_notN, p_isB, p_notB, p_in, p_nin, p_tup, p_lst, p_newl, p_ixT, p_ixL, p_ixS, p_ixR, p_lenT, p_lenL, p_lenS, p_abs, p_min2, p_max2, p_sum, p_max1, p_min1, p_any, p_all, p_int, p_tupleL, p_tupleT, p_listL, p_listT, p_isi, p_rev, tr_non, tr_bl, tr_int, tr_tup, tr_lst, ty_non, ty_bl, ty_int, ty_str, ty_tup, ty_lst, it_seqL, it_seqT, im_zipL, im_zipT, im_enumL, im_enumT, sl_tup, sl_lst, add_ii, add_bi, add_ss, add_tt, add_ll, sub_ii, sub_bi, lt_ii, gt_ii, ge_ii, le_ii, line, eq_int, eq_K0, p_lenK, p_listK, foldK, sl_K, cutD_to, eq_bool, atI0, atI1, atI2, en, he]
      | false =>
        obtain ⟨i, S1, e1, i0, i4, v1⟩ := r_under (n + k + 1) v (m := 4) (by omega) (by omega)
        by_cases h0 : 0 < i
        · have hpos : 0 < l.length := by cases l with
            | nil => cases he
            | cons a l => simp
          obtain ⟨j, S2, e2, j0, j4, v2⟩ := r_under (n + k + 1) v1 (m := l.length) (by omega) (by omega)
          obtain ⟨j, rfl⟩ := Int.eq_ofNat_of_zero_le j0
          have hj : j < l.length := by omega
          obtain ⟨d', S3, e3, hd', v3⟩ := ih n v2 l[j] (hx _ (List.getElem_mem hj)) (by omega) hq
          have e4 : L2.atI l (j : Int) = some l[j] := L2.atI_nat (List.getElem?_eq_getElem hj)
          have l1 : (l.take j).length + 1 ≤ 100000 := by rw [List.length_take]; omega
          have l2 : (l.take j ++ [d']).length + (l.drop (j + 1)).length ≤ 100000 := by rw [List.length_append, List.length_take, List.length_drop]; simp; omega
          have e5 : cutD l (some ((j : Int) + 1)) none = l.drop (j + 1) := cut_from l (j + 1)
          refine ⟨.tup ((l.take j ++ [d']) ++ l.drop (j + 1)), S3, ?_, ?_, v3⟩
          · rw [show n + (k + 1) + 2 = n + k + 2 + 1 by omega, run_df rfl rfl]
            simp [-List.map_take, startE_def, ex_asg, ex_par2, ex_par3, ex_setix, ex_ex, ex_ret, ex_retn, ex_raise, ex_ifs, ex_pass, ex_nil, ex_cons, ev_var, ev_non, ev_bl, ev_int, ev_str, ev_g, ev_pr, ev_sl, ev_and, ev_or, ev_ifx, ev_chain, ev_call, ev_cv, ev_nil, ev_cons, evI_nil, evI_one, bT_v, bT_t, bT_u, bL_nil, bL_cons, wp_nil, wp_cons, lift_ok, lift_exc, bind_ok, bind_exc, cm_ok, ofM_some, endO_rt, endO_nx, endO_exc, bM_some, nB_some, p_add, p_sub, p_mul, p_fdiv, p_mod, p_pow, p_neg, p_not, p_eq, p_ne, p_lt, p_gt, p_le, p_ge, p_isN, p_notN, p_isB, p_notB, p_in, p_nin, p_tup, p_lst, p_newl, p_ixT, p_ixL, p_ixS, p_ixR, p_lenT, p_lenL, p_lenS, p_abs, p_min2, p_max2, p_sum, p_max1, p_min1, p_any, p_all, p_int, p_tupleL, p_tupleT, p_listL, p_listT, p_isi, p_rev, tr_non, tr_bl, tr_int, tr_tup, tr_lst, ty_non, ty_bl, ty_int, ty_str, ty_tup, ty_lst, it_seqL, it_seqT, im_zipL, im_zipT, im_enumL, im_enumT, sl_tup, sl_lst, add_ii, add_bi, add_ss, add_tt, add_ll, sub_ii, sub_bi, lt_ii, gt_ii, ge_ii, le_ii, line, eq_int, eq_K0, p_lenK, p_listK, foldK, sl_K, cutD_to, eq_bool, atI0, atI1, atI2, en, he, e1, h0, e2, e3, e4, e5, cut_to, hj, p_lenT]
            rw [if_pos (show min j l.length ≤ 99999 by omega)]
            simp [-List.map_take, startE_def, ex_asg, ex_par2, ex_par3, ex_setix, ex_ex, ex_ret, ex_retn, ex_raise, ex_ifs, ex_pass, ex_nil, ex_cons, ev_var, ev_non, ev_bl, ev_int, ev_str, ev_g, ev_pr, ev_sl, ev_and, ev_or, ev_ifx, ev_chain, ev_call, ev_cv, ev_nil, ev_cons, evI_nil, evI_one, bT_v, bT_t, bT_u, bL_nil, bL_cons, wp_nil, wp_cons, lift_ok, lift_exc, bind_ok, bind_exc, cm_ok, ofM_some, endO_rt, endO_nx, endO_exc, bM_some, nB_some, p_add, p_sub, p_mul, p_fdiv, p_mod, p_pow, p_neg, p_not, p_eq, p_ne, p_lt, p_gt, p_le, p_ge, p_isN, p_notN, p_isB, p_notB, p_in, p_nin, p_tup, p_lst, p_newl, p_ixT, p_ixL, p_ixS, p_ixR, p_lenT, p_lenL, p_lenS, p_abs, p_min2, p_max2, p_sum, p_max1, p_min1, p_any, p_all, p_int, p_tupleL, p_tupleT, p_listL, p_listT, p_isi, p_rev, tr_non, tr_bl, tr_int, tr_tup, tr_lst, ty_non, ty_bl, ty_int, ty_str, ty_tup, ty_lst, it_seqL, it_seqT, im_zipL, im_zipT, im_enumL, im_enumT, sl_tup, sl_lst, add_ii, add_bi, add_ss, add_tt, add_ll, sub_ii, sub_bi, lt_ii, gt_ii, ge_ii, le_ii, line, eq_int, eq_K0, p_lenK, p_listK, foldK, sl_K, cutD_to, eq_bool, atI0, atI1, atI2]
            rw [if_pos (show min j l.length + 1 + (l.length - (j + 1)) ≤ 100000 by omega)]
            simp [-List.map_take, ofM_some, lift_ok, endO_rt]
          · refine Sp.tup _ _ _ ?_ fun x h => ?_
            · rw [List.length_append, List.length_append, List.length_take, List.length_drop]; simp; omega
            · rw [List.mem_append, List.mem_append, List.mem_singleton] at h
              rcases h with (h | rfl) | h
              · exact (hx x (List.mem_of_mem_take h)).mono (by omega) (by omega)
              · exact hd'
              · exact (hx x (List.mem_of_mem_drop h)).mono (by omega) (by omega)
        · obtain ⟨d', S', e, h, v'⟩ := spoilt2 (n + k + 1) v1 (.tup l) none hd hm hq
          refine ⟨d', S', ?_, h, v'⟩
          rw [← e, show n + (k + 1) + 2 = n + k + 1 + 1 + 1 by omega, run_df rfl rfl]
          simp [startE_def, ex_asg, ex_par2, ex_par3, ex_setix, ex_ex, ex_ret, ex_retn, ex_raise, ex_ifs, ex_pass, ex_nil, ex_cons, ev_var, ev_non, ev_bl, ev_int, ev_str, ev_g, ev_pr, ev_sl, ev_and, ev_or, ev_ifx, ev_chain, ev_call, ev_cv, ev_nil, ev_cons, evI_nil, evI_one, bT_v, bT_t, bT_u, bL_nil, bL_cons, wp_nil, wp_cons, lift_ok, lift_exc, bind_ok, bind_exc, cm_ok, ofM_some, endO_rt, endO_nx, endO_exc, bM_some, nB_some, p_add, p_sub, p_mul, p_fdiv, p_mod, p_pow, p_neg, p_not, p_eq, p_ne, p_lt, p_gt, p_le, p_ge, p_isN, p_notN, p_isB, p_notB, p_in, p_nin, p_tup, p_lst, p_newl, p_ixT, p_ixL, p_ixS, p_ixR, p_lenT, p_lenL, p_lenS, p_abs, p_min2, p_max2, p_sum, p_max1, p_min1, p_any, p_all, p_int, p_tupleL, p_tupleT, p_listL, p_listT, p_isi, p_rev, tr_non, tr_bl, tr_int, tr_tup, tr_lst, ty_non, ty_bl, ty_int, ty_str, ty_tup, ty_lst, it_seqL, it_seqT, im_zipL, im_zipT, im_enumL, im_enumT, sl_tup, sl_lst, add_ii, add_bi, add_ss, add_tt, add_ll, sub_ii, sub_bi, lt_ii, gt_ii, ge_ii, le_ii, line, eq_int, eq_K0, p_lenK, p_listK, foldK, sl_K, cutD_to, eq_bool, atI0, atI1, atI2, en, he, e1, h0]
    | _ =>
      first
      | (have := hd.b; simp [bd] at this; done)
      | (obtain ⟨d', S', e, h, v'⟩ := spoilt2 (n + m + 1) v _ none hd hm hq
         refine ⟨d', S', ?_, h, v'⟩
         rw [← e, show n + (m + 1) + 2 = n + m + 1 + 1 + 1 by omega, run_df rfl rfl]
         simp [startE_def, ex_asg, ex_par2, ex_par3, ex_setix, ex_ex, ex_ret, ex_retn, ex_raise, ex_ifs, ex_pass, ex_nil, ex_cons, ev_var, ev_non, ev_bl, ev_int, ev_str, ev_g, ev_pr, ev_sl, ev_and, ev_or, ev_ifx, ev_chain, ev_call, ev_cv, ev_nil, ev_cons, evI_nil, evI_one, bT_v, bT_t, bT_u, bL_nil, bL_cons, wp_nil, wp_cons, lift_ok, lift_exc, bind_ok, bind_exc, cm_ok, ofM_some, endO_rt, endO_nx, endO_exc, bM_some, nB_some, p_add, p_sub, p_mul, p_fdiv, p_mod, p_pow, p_neg, p_not, p_eq, p_ne, p_lt, p_gt, p_le, p_ge, p_isN, p_notN, p_isB, p_notB, p_in, p_nin, p_tup, p_lst, p_newl, p_ixT, p_ixL, p_ixS, p_ixR, p_lenT, p_lenL, p_lenS, p_abs, p_min2, p_max2, p_sum, p_max1, p_min1, p_any, p_all, p_int, p_tupleL, p_tupleT, p_listL, p_listT, p_isi, p_rev, tr_non, tr_bl, tr_int, tr_tup, tr_lst, ty_non, ty_bl, ty_int, ty_str, ty_tup, ty_lst, it_seqL, it_seqT, im_zipL, im_zipT, im_enumL, im_enumT, sl_tup, sl_lst, add_ii, add_bi, add_ss, add_tt, add_ll, sub_ii, sub_bi, lt_ii, gt_ii, ge_ii, le_ii, line, eq_int, eq_K0, p_lenK, p_listK, foldK, sl_K, cutD_to, eq_bool, atI0, atI1, atI2])
end SF.Law

set_option maxHeartbeats 200000
set_option Elab.async false
set_option linter.all false
set_option maxRecDepth 100000
namespace SF.Law
open PySem SF SF.M
theorem r_lwhole (n : Nat) (S : Sto) (d : D) (lo hi : Int) (h : dat d = true) : run G (n + 1) (.fn i__law_is_whole) [d, .int lo, .int hi] S = .ok (.bl (isW lo hi d)) S := by
  rw [run_df rfl rfl]
  cases d <;> simp [startE_def, ex_asg, ex_par2, ex_par3, ex_setix, ex_ex, ex_ret, ex_retn, ex_raise, ex_ifs, ex_pass, ex_nil, ex_cons, ev_var, ev_non, ev_bl, ev_int, ev_str, ev_g, ev_pr, ev_sl, ev_and, ev_or, ev_ifx, ev_chain, ev_call, ev_cv, ev_nil, ev_cons, evI_nil, evI_one, bT_v, bT_t, bT_u, bL_nil, bL_cons, wp_nil, wp_cons, lift_ok, lift_exc, bind_ok, bind_exc, cm_ok, ofM_some, endO_rt, endO_nx, endO_exc, bM_some, nB_some, p_add, p_sub, p_mul, p_fdiv, p_mod, p_pow, p_neg, p_not, p_eq, p_ne, p_lt, p_gt, p_le, p_ge, p_isN, p_notN, p_isB, p_notB, p_in, p_nin, p_tup, p_lst, p_newl, p_ixT, p_ixL, p_ixS, p_ixR, p_lenT, p_lenL, p_lenS, p_abs, p_min2, p_max2, p_sum, p_max1, p_min1, p_any, p_all, p_int, p_tupleL, p_tupleT, p_listL, p_listT, p_isi, p_rev, tr_non, tr_bl, tr_int, tr_tup, tr_lst, ty_non, ty_bl, ty_int, ty_str, ty_tup, ty_lst, it_seqL, it_seqT, im_zipL, im_zipT, im_enumL, im_enumT, sl_tup, sl_lst, add_ii, add_bi, add_ss, add_tt, add_ll, sub_ii, sub_bi, lt_ii, gt_ii, ge_ii, le_ii, line, eq_int, eq_K0, p_lenK, p_listK, foldK, sl_K, cutD_to, eq_bool, atI0, atI1, atI2, isW, dat] at h ⊢
  rename_i i
  by_cases h1 : lo ≤ i <;> simp [h1, bind_ok, endO_rt, startE_def, ex_asg, ex_par2, ex_par3, ex_setix, ex_ex, ex_ret, ex_retn, ex_raise, ex_ifs, ex_pass, ex_nil, ex_cons, ev_var, ev_non, ev_bl, ev_int, ev_str, ev_g, ev_pr, ev_sl, ev_and, ev_or, ev_ifx, ev_chain, ev_call, ev_cv, ev_nil, ev_cons, evI_nil, evI_one, bT_v, bT_t, bT_u, bL_nil, bL_cons, wp_nil, wp_cons, lift_ok, lift_exc, bind_ok, bind_exc, cm_ok, ofM_some, endO_rt, endO_nx, endO_exc, bM_some, nB_some, p_add, p_sub, p_mul, p_fdiv, p_mod, p_pow, p_neg, p_not, p_eq, p_ne, p_lt, p_gt, p_le, p_ge, p_isN, p_notN, p_isB, p_notB, p_in, p_nin, p_tup, p_lst, p_newl, p_ixT, p_ixL, p_ixS, p_ixR, p_lenT, p_lenL, p_lenS, p_abs, p_min2, p_max2, p_sum, p_max1, p_min1, p_any, p_all, p_int, p_tupleL, p_tupleT, p_listL, p_listT, p_isi, p_rev, tr_non, tr_bl, tr_int, tr_tup, tr_lst, ty_non, ty_bl, ty_int, ty_str, ty_tup, ty_lst, it_seqL, it_seqT, im_zipL, im_zipT, im_enumL, im_enumT, sl_tup, sl_lst, add_ii, add_bi, add_ss, add_tt, add_ll, sub_ii, sub_bi, lt_ii, gt_ii, ge_ii, le_ii, line, eq_int, eq_K0, p_lenK, p_listK, foldK, sl_K, cutD_to, eq_bool, atI0, atI1, atI2]
theorem r_truly (n : Nat) (S : Sto) (a b : Bool) : run G (n + 1) (.fn i__law_truly) [.bl a, .bl b] S = .ok (.bl (a == b)) S := by
  rw [run_df rfl rfl]
  simp [startE_def, ex_asg, ex_par2, ex_par3, ex_setix, ex_ex, ex_ret, ex_retn, ex_raise, ex_ifs, ex_pass, ex_nil, ex_cons, ev_var, ev_non, ev_bl, ev_int, ev_str, ev_g, ev_pr, ev_sl, ev_and, ev_or, ev_ifx, ev_chain, ev_call, ev_cv, ev_nil, ev_cons, evI_nil, evI_one, bT_v, bT_t, bT_u, bL_nil, bL_cons, wp_nil, wp_cons, lift_ok, lift_exc, bind_ok, bind_exc, cm_ok, ofM_some, endO_rt, endO_nx, endO_exc, bM_some, nB_some, p_add, p_sub, p_mul, p_fdiv, p_mod, p_pow, p_neg, p_not, p_eq, p_ne, p_lt, p_gt, p_le, p_ge, p_isN, p_notN, p_isB, p_notB, p_in, p_nin, p_tup, p_lst, p_newl, p_ixT, p_ixL, p_ixS, p_ixR, p_lenT, p_lenL, p_lenS, p_abs, p_min2, p_max2, p_sum, p_max1, p_min1, p_any, p_all, p_int, p_tupleL, p_tupleT, p_listL, p_listT, p_isi, p_rev, tr_non, tr_bl, tr_int, tr_tup, tr_lst, ty_non, ty_bl, ty_int, ty_str, ty_tup, ty_lst, it_seqL, it_seqT, im_zipL, im_zipT, im_enumL, im_enumT, sl_tup, sl_lst, add_ii, add_bi, add_ss, add_tt, add_ll, sub_ii, sub_bi, lt_ii, gt_ii, ge_ii, le_ii, line, eq_int, eq_K0, p_lenK, p_listK, foldK, sl_K, cutD_to, eq_bool, atI0, atI1, atI2]
theorem r_lpair (n : Nat) (S : Sto) {q : Nat} (d : D) (m : Int) (h : good q d = true) (hq : q ≤ 60) : run G (n + 2) (.fn i__law_is_pair) [d, .int m] S = .ok (.bl (isPr m d)) S := by
  rw [run_df rfl rfl]
  cases d with
  | tup l =>
    cases q with
    | zero => simp [good] at h
    | succ q =>
    simp only [good] at h
    have hg := goodL_iff.mp h
    match l, h with
    | [], _ => simp [startE_def, ex_asg, ex_par2, ex_par3, ex_setix, ex_ex, ex_ret, ex_retn, ex_raise, ex_ifs, ex_pass, ex_nil, ex_cons, ev_var, ev_non, ev_bl, ev_int, ev_str, ev_g, ev_pr, ev_sl, ev_and, ev_or, ev_ifx, ev_chain, ev_call, ev_cv, ev_nil, ev_cons, evI_nil, evI_one, bT_v, bT_t, bT_u, bL_nil, bL_cons, wp_nil, wp_cons, lift_ok, lift_exc, bind_ok, bind_exc, cm_ok, ofM_some, endO_rt, endO_nx, endO_exc, bM_some, nB_some, p_add, p_sub, p_mul, p_fdiv, p_mod, p_pow, p_neg, p_not, p_eq, p_ne, p_lt, p_gt, p_le, p_ge, p_isN, p_notN, p_isB, p_notB, p_in, p_nin, p_tup, p_lst, p_newl, p_ixT, p_ixL, p_ixS, p_ixR, p_lenT, p_lenL, p_lenS, p_abs, p_min2, p_max2, p_sum, p_max1, p_min1, p_any, p_all, p_int, p_tupleL, p_tupleT, p_listL, p_listT, p_isi, p_rev, tr_non, tr_bl, tr_int, tr_tup, tr_lst, ty_non, ty_bl, ty_int, ty_str, ty_tup, ty_lst, it_seqL, it_seqT, im_zipL, im_zipT, im_enumL, im_enumT, sl_tup, sl_lst, add_ii, add_bi, add_ss, add_tt, add_ll, sub_ii, sub_bi, lt_ii, gt_ii, ge_ii, le_ii, line, eq_int, eq_K0, p_lenK, p_listK, foldK, sl_K, cutD_to, eq_bool, atI0, atI1, atI2, isPr]
    | [a], h => simp [startE_def, ex_asg, ex_par2, ex_par3, ex_setix, ex_ex, ex_ret, ex_retn, ex_raise, ex_ifs, ex_pass, ex_nil, ex_cons, ev_var, ev_non, ev_bl, ev_int, ev_str, ev_g, ev_pr, ev_sl, ev_and, ev_or, ev_ifx, ev_chain, ev_call, ev_cv, ev_nil, ev_cons, evI_nil, evI_one, bT_v, bT_t, bT_u, bL_nil, bL_cons, wp_nil, wp_cons, lift_ok, lift_exc, bind_ok, bind_exc, cm_ok, ofM_some, endO_rt, endO_nx, endO_exc, bM_some, nB_some, p_add, p_sub, p_mul, p_fdiv, p_mod, p_pow, p_neg, p_not, p_eq, p_ne, p_lt, p_gt, p_le, p_ge, p_isN, p_notN, p_isB, p_notB, p_in, p_nin, p_tup, p_lst, p_newl, p_ixT, p_ixL, p_ixS, p_ixR, p_lenT, p_lenL, p_lenS, p_abs, p_min2, p_max2, p_sum, p_max1, p_min1, p_any, p_all, p_int, p_tupleL, p_tupleT, p_listL, p_listT, p_isi, p_rev, tr_non, tr_bl, tr_int, tr_tup, tr_lst, ty_non, ty_bl, ty_int, ty_str, ty_tup, ty_lst, it_seqL, it_seqT, im_zipL, im_zipT, im_enumL, im_enumT, sl_tup, sl_lst, add_ii, add_bi, add_ss, add_tt, add_ll, sub_ii, sub_bi, lt_ii, gt_ii, ge_ii, le_ii, line, eq_int, eq_K0, p_lenK, p_listK, foldK, sl_K, cutD_to, eq_bool, atI0, atI1, atI2, isPr]
    | [a, b], h =>
      simp [startE_def, ex_asg, ex_par2, ex_par3, ex_setix, ex_ex, ex_ret, ex_retn, ex_raise, ex_ifs, ex_pass, ex_nil, ex_cons, ev_var, ev_non, ev_bl, ev_int, ev_str, ev_g, ev_pr, ev_sl, ev_and, ev_or, ev_ifx, ev_chain, ev_call, ev_cv, ev_nil, ev_cons, evI_nil, evI_one, bT_v, bT_t, bT_u, bL_nil, bL_cons, wp_nil, wp_cons, lift_ok, lift_exc, bind_ok, bind_exc, cm_ok, ofM_some, endO_rt, endO_nx, endO_exc, bM_some, nB_some, p_add, p_sub, p_mul, p_fdiv, p_mod, p_pow, p_neg, p_not, p_eq, p_ne, p_lt, p_gt, p_le, p_ge, p_isN, p_notN, p_isB, p_notB, p_in, p_nin, p_tup, p_lst, p_newl, p_ixT, p_ixL, p_ixS, p_ixR, p_lenT, p_lenL, p_lenS, p_abs, p_min2, p_max2, p_sum, p_max1, p_min1, p_any, p_all, p_int, p_tupleL, p_tupleT, p_listL, p_listT, p_isi, p_rev, tr_non, tr_bl, tr_int, tr_tup, tr_lst, ty_non, ty_bl, ty_int, ty_str, ty_tup, ty_lst, it_seqL, it_seqT, im_zipL, im_zipT, im_enumL, im_enumT, sl_tup, sl_lst, add_ii, add_bi, add_ss, add_tt, add_ll, sub_ii, sub_bi, lt_ii, gt_ii, ge_ii, le_ii, line, eq_int, eq_K0, p_lenK, p_listK, foldK, sl_K, cutD_to, eq_bool, atI0, atI1, atI2, isPr]
      rw [ev_lc1 (ds := [.tup [a, b]]) (xs := [a, b]) (g := fun x => x) (c := fun x => !isW (-m) m x) (by simp [startE_def, ex_asg, ex_par2, ex_par3, ex_setix, ex_ex, ex_ret, ex_retn, ex_raise, ex_ifs, ex_pass, ex_nil, ex_cons, ev_var, ev_non, ev_bl, ev_int, ev_str, ev_g, ev_pr, ev_sl, ev_and, ev_or, ev_ifx, ev_chain, ev_call, ev_cv, ev_nil, ev_cons, evI_nil, evI_one, bT_v, bT_t, bT_u, bL_nil, bL_cons, wp_nil, wp_cons, lift_ok, lift_exc, bind_ok, bind_exc, cm_ok, ofM_some, endO_rt, endO_nx, endO_exc, bM_some, nB_some, p_add, p_sub, p_mul, p_fdiv, p_mod, p_pow, p_neg, p_not, p_eq, p_ne, p_lt, p_gt, p_le, p_ge, p_isN, p_notN, p_isB, p_notB, p_in, p_nin, p_tup, p_lst, p_newl, p_ixT, p_ixL, p_ixS, p_ixR, p_lenT, p_lenL, p_lenS, p_abs, p_min2, p_max2, p_sum, p_max1, p_min1, p_any, p_all, p_int, p_tupleL, p_tupleT, p_listL, p_listT, p_isi, p_rev, tr_non, tr_bl, tr_int, tr_tup, tr_lst, ty_non, ty_bl, ty_int, ty_str, ty_tup, ty_lst, it_seqL, it_seqT, im_zipL, im_zipT, im_enumL, im_enumT, sl_tup, sl_lst, add_ii, add_bi, add_ss, add_tt, add_ll, sub_ii, sub_bi, lt_ii, gt_ii, ge_ii, le_ii, line, eq_int, eq_K0, p_lenK, p_listK, foldK, sl_K, cutD_to, eq_bool, atI0, atI1, atI2]) rfl (fun x hx => ⟨_, rfl, by
        simp [startE_def, ex_asg, ex_par2, ex_par3, ex_setix, ex_ex, ex_ret, ex_retn, ex_raise, ex_ifs, ex_pass, ex_nil, ex_cons, ev_var, ev_non, ev_bl, ev_int, ev_str, ev_g, ev_pr, ev_sl, ev_and, ev_or, ev_ifx, ev_chain, ev_call, ev_cv, ev_nil, ev_cons, evI_nil, evI_one, bT_v, bT_t, bT_u, bL_nil, bL_cons, wp_nil, wp_cons, lift_ok, lift_exc, bind_ok, bind_exc, cm_ok, ofM_some, endO_rt, endO_nx, endO_exc, bM_some, nB_some, p_add, p_sub, p_mul, p_fdiv, p_mod, p_pow, p_neg, p_not, p_eq, p_ne, p_lt, p_gt, p_le, p_ge, p_isN, p_notN, p_isB, p_notB, p_in, p_nin, p_tup, p_lst, p_newl, p_ixT, p_ixL, p_ixS, p_ixR, p_lenT, p_lenL, p_lenS, p_abs, p_min2, p_max2, p_sum, p_max1, p_min1, p_any, p_all, p_int, p_tupleL, p_tupleT, p_listL, p_listT, p_isi, p_rev, tr_non, tr_bl, tr_int, tr_tup, tr_lst, ty_non, ty_bl, ty_int, ty_str, ty_tup, ty_lst, it_seqL, it_seqT, im_zipL, im_zipT, im_enumL, im_enumT, sl_tup, sl_lst, add_ii, add_bi, add_ss, add_tt, add_ll, sub_ii, sub_bi, lt_ii, gt_ii, ge_ii, le_ii, line, eq_int, eq_K0, p_lenK, p_listK, foldK, sl_K, cutD_to, eq_bool, atI0, atI1, atI2, r_lwhole _ _ _ _ _ (good_dat q x (hg x hx))], fun _ => by simp [startE_def, ex_asg, ex_par2, ex_par3, ex_setix, ex_ex, ex_ret, ex_retn, ex_raise, ex_ifs, ex_pass, ex_nil, ex_cons, ev_var, ev_non, ev_bl, ev_int, ev_str, ev_g, ev_pr, ev_sl, ev_and, ev_or, ev_ifx, ev_chain, ev_call, ev_cv, ev_nil, ev_cons, evI_nil, evI_one, bT_v, bT_t, bT_u, bL_nil, bL_cons, wp_nil, wp_cons, lift_ok, lift_exc, bind_ok, bind_exc, cm_ok, ofM_some, endO_rt, endO_nx, endO_exc, bM_some, nB_some, p_add, p_sub, p_mul, p_fdiv, p_mod, p_pow, p_neg, p_not, p_eq, p_ne, p_lt, p_gt, p_le, p_ge, p_isN, p_notN, p_isB, p_notB, p_in, p_nin, p_tup, p_lst, p_newl, p_ixT, p_ixL, p_ixS, p_ixR, p_lenT, p_lenL, p_lenS, p_abs, p_min2, p_max2, p_sum, p_max1, p_min1, p_any, p_all, p_int, p_tupleL, p_tupleT, p_listL, p_listT, p_isi, p_rev, tr_non, tr_bl, tr_int, tr_tup, tr_lst, ty_non, ty_bl, ty_int, ty_str, ty_tup, ty_lst, it_seqL, it_seqT, im_zipL, im_zipT, im_enumL, im_enumT, sl_tup, sl_lst, add_ii, add_bi, add_ss, add_tt, add_ll, sub_ii, sub_bi, lt_ii, gt_ii, ge_ii, le_ii, line, eq_int, eq_K0, p_lenK, p_listK, foldK, sl_K, cutD_to, eq_bool, atI0, atI1, atI2]⟩) (by simp)]
      have e : eqD S (.lst (([a, b].filter fun x => !isW (-m) m x).map fun x => x)) (.lst []) = some (([a, b].filter fun x => !isW (-m) m x).map fun x => x).isEmpty := eq_nilL S (n := q) (goodL_iff.mpr fun x hx => by
        rw [List.map_id'] at hx
        exact hg x (List.mem_filter.mp hx).1) (by omega)
      simp only [startE_def, ex_asg, ex_par2, ex_par3, ex_setix, ex_ex, ex_ret, ex_retn, ex_raise, ex_ifs, ex_pass, ex_nil, ex_cons, ev_var, ev_non, ev_bl, ev_int, ev_str, ev_g, ev_pr, ev_sl, ev_and, ev_or, ev_ifx, ev_chain, ev_call, ev_cv, ev_nil, ev_cons, evI_nil, evI_one, bT_v, bT_t, bT_u, bL_nil, bL_cons, wp_nil, wp_cons, lift_ok, lift_exc, bind_ok, bind_exc, cm_ok, ofM_some, endO_rt, endO_nx, endO_exc, bM_some, nB_some, p_add, p_sub, p_mul, p_fdiv, p_mod, p_pow, p_neg, p_not, p_eq, p_ne, p_lt, p_gt, p_le, p_ge, p_isN, p_notN, p_isB, p_notB, p_in, p_nin, p_tup, p_lst, p_newl, p_ixT, p_ixL, p_ixS, p_ixR, p_lenT, p_lenL, p_lenS, p_abs, p_min2, p_max2, p_sum, p_max1, p_min1, p_any, p_all, p_int, p_tupleL, p_tupleT, p_listL, p_listT, p_isi, p_rev, tr_non, tr_bl, tr_int, tr_tup, tr_lst, ty_non, ty_bl, ty_int, ty_str, ty_tup, ty_lst, it_seqL, it_seqT, im_zipL, im_zipT, im_enumL, im_enumT, sl_tup, sl_lst, add_ii, add_bi, add_ss, add_tt, add_ll, sub_ii, sub_bi, lt_ii, gt_ii, ge_ii, le_ii, line, eq_int, eq_K0, p_lenK, p_listK, foldK, sl_K, cutD_to, eq_bool, atI0, atI1, atI2, e]
      cases ha : isW (-m) m a <;> cases hb : isW (-m) m b <;> simp [ha, hb, lift_ok, endO_rt]
    | a :: b :: c :: l, h =>
      have e : ((l.length : Int) + 1 + 1 + 1 == 2) = false := by simp; omega
      simp [startE_def, ex_asg, ex_par2, ex_par3, ex_setix, ex_ex, ex_ret, ex_retn, ex_raise, ex_ifs, ex_pass, ex_nil, ex_cons, ev_var, ev_non, ev_bl, ev_int, ev_str, ev_g, ev_pr, ev_sl, ev_and, ev_or, ev_ifx, ev_chain, ev_call, ev_cv, ev_nil, ev_cons, evI_nil, evI_one, bT_v, bT_t, bT_u, bL_nil, bL_cons, wp_nil, wp_cons, lift_ok, lift_exc, bind_ok, bind_exc, cm_ok, ofM_some, endO_rt, endO_nx, endO_exc, bM_some, nB_some, p_add, p_sub, p_mul, p_fdiv, p_mod, p_pow, p_neg, p_not, p_eq, p_ne, p_lt, p_gt, p_le, p_ge, p_isN, p_notN, p_isB, p_notB, p_in, p_nin, p_tup, p_lst, p_newl, p_ixT, p_ixL, p_ixS, p_ixR, p_lenT, p_lenL, p_lenS, p_abs, p_min2, p_max2, p_sum, p_max1, p_min1, p_any, p_all, p_int, p_tupleL, p_tupleT, p_listL, p_listT, p_isi, p_rev, tr_non, tr_bl, tr_int, tr_tup, tr_lst, ty_non, ty_bl, ty_int, ty_str, ty_tup, ty_lst, it_seqL, it_seqT, im_zipL, im_zipT, im_enumL, im_enumT, sl_tup, sl_lst, add_ii, add_bi, add_ss, add_tt, add_ll, sub_ii, sub_bi, lt_ii, gt_ii, ge_ii, le_ii, line, eq_int, eq_K0, p_lenK, p_listK, foldK, sl_K, cutD_to, eq_bool, atI0, atI1, atI2, isPr, e]
  | _ => first
    | (simp [good] at h; done)
    | simp [startE_def, ex_asg, ex_par2, ex_par3, ex_setix, ex_ex, ex_ret, ex_retn, ex_raise, ex_ifs, ex_pass, ex_nil, ex_cons, ev_var, ev_non, ev_bl, ev_int, ev_str, ev_g, ev_pr, ev_sl, ev_and, ev_or, ev_ifx, ev_chain, ev_call, ev_cv, ev_nil, ev_cons, evI_nil, evI_one, bT_v, bT_t, bT_u, bL_nil, bL_cons, wp_nil, wp_cons, lift_ok, lift_exc, bind_ok, bind_exc, cm_ok, ofM_some, endO_rt, endO_nx, endO_exc, bM_some, nB_some, p_add, p_sub, p_mul, p_fdiv, p_mod, p_pow, p_neg, p_not, p_eq, p_ne, p_lt, p_gt, p_le, p_ge, p_isN, p_notN, p_isB, p_notB, p_in, p_nin, p_tup, p_lst, p_newl, p_ixT, p_ixL, p_ixS, p_ixR, p_lenT, p_lenL, p_lenS, p_abs, p_min2, p_max2, p_sum, p_max1, p_min1, p_any, p_all, p_int, p_tupleL, p_tupleT, p_listL, p_listT, p_isi, p_rev, tr_non, tr_bl, tr_int, tr_tup, tr_lst, ty_non, ty_bl, ty_int, ty_str, ty_tup, ty_lst, it_seqL, it_seqT, im_zipL, im_zipT, im_enumL, im_enumT, sl_tup, sl_lst, add_ii, add_bi, add_ss, add_tt, add_ll, sub_ii, sub_bi, lt_ii, gt_ii, ge_ii, le_ii, line, eq_int, eq_K0, p_lenK, p_listK, foldK, sl_K, cutD_to, eq_bool, atI0, atI1, atI2, isPr]
theorem fil_emp (l : List D) (f : D → Bool) : (l.filter fun x => !f x).isEmpty = l.all f := by
  induction l with
  | nil => rfl
  | cons a l ih => cases ha : f a <;> simp [List.filter_cons, ha] <;> simpa using ih
theorem r_lkind (n : Nat) (S : Sto) {q : Nat} (d : D) (h : good q d = true) (hq : q ≤ 60) : run G (n + 3) (.fn i__law_is_kind) [d] S = .ok (.bl (isKd d)) S := by
  rw [run_df rfl rfl]
  cases d with
  | tup l =>
    cases q with
    | zero => simp [good] at h
    | succ q =>
    simp only [good] at h
    have hg := goodL_iff.mp h
    by_cases h8 : 8 < l.length
    · have e8 : (8 : Int) < (l.length : Int) := by omega
      rw [isKd_long h8]
      simp [startE_def, ex_asg, ex_par2, ex_par3, ex_setix, ex_ex, ex_ret, ex_retn, ex_raise, ex_ifs, ex_pass, ex_nil, ex_cons, ev_var, ev_non, ev_bl, ev_int, ev_str, ev_g, ev_pr, ev_sl, ev_and, ev_or, ev_ifx, ev_chain, ev_call, ev_cv, ev_nil, ev_cons, evI_nil, evI_one, bT_v, bT_t, bT_u, bL_nil, bL_cons, wp_nil, wp_cons, lift_ok, lift_exc, bind_ok, bind_exc, cm_ok, ofM_some, endO_rt, endO_nx, endO_exc, bM_some, nB_some, p_add, p_sub, p_mul, p_fdiv, p_mod, p_pow, p_neg, p_not, p_eq, p_ne, p_lt, p_gt, p_le, p_ge, p_isN, p_notN, p_isB, p_notB, p_in, p_nin, p_tup, p_lst, p_newl, p_ixT, p_ixL, p_ixS, p_ixR, p_lenT, p_lenL, p_lenS, p_abs, p_min2, p_max2, p_sum, p_max1, p_min1, p_any, p_all, p_int, p_tupleL, p_tupleT, p_listL, p_listT, p_isi, p_rev, tr_non, tr_bl, tr_int, tr_tup, tr_lst, ty_non, ty_bl, ty_int, ty_str, ty_tup, ty_lst, it_seqL, it_seqT, im_zipL, im_zipT, im_enumL, im_enumT, sl_tup, sl_lst, add_ii, add_bi, add_ss, add_tt, add_ll, sub_ii, sub_bi, lt_ii, gt_ii, ge_ii, le_ii, line, eq_int, eq_K0, p_lenK, p_listK, foldK, sl_K, cutD_to, eq_bool, atI0, atI1, atI2, e8]
    · have e8 : ¬ (8 : Int) < (l.length : Int) := by omega
      have h9 : l.length ≤ 100000 := by omega
      simp [startE_def, ex_asg, ex_par2, ex_par3, ex_setix, ex_ex, ex_ret, ex_retn, ex_raise, ex_ifs, ex_pass, ex_nil, ex_cons, ev_var, ev_non, ev_bl, ev_int, ev_str, ev_g, ev_pr, ev_sl, ev_and, ev_or, ev_ifx, ev_chain, ev_call, ev_cv, ev_nil, ev_cons, evI_nil, evI_one, bT_v, bT_t, bT_u, bL_nil, bL_cons, wp_nil, wp_cons, lift_ok, lift_exc, bind_ok, bind_exc, cm_ok, ofM_some, endO_rt, endO_nx, endO_exc, bM_some, nB_some, p_add, p_sub, p_mul, p_fdiv, p_mod, p_pow, p_neg, p_not, p_eq, p_ne, p_lt, p_gt, p_le, p_ge, p_isN, p_notN, p_isB, p_notB, p_in, p_nin, p_tup, p_lst, p_newl, p_ixT, p_ixL, p_ixS, p_ixR, p_lenT, p_lenL, p_lenS, p_abs, p_min2, p_max2, p_sum, p_max1, p_min1, p_any, p_all, p_int, p_tupleL, p_tupleT, p_listL, p_listT, p_isi, p_rev, tr_non, tr_bl, tr_int, tr_tup, tr_lst, ty_non, ty_bl, ty_int, ty_str, ty_tup, ty_lst, it_seqL, it_seqT, im_zipL, im_zipT, im_enumL, im_enumT, sl_tup, sl_lst, add_ii, add_bi, add_ss, add_tt, add_ll, sub_ii, sub_bi, lt_ii, gt_ii, ge_ii, le_ii, line, eq_int, eq_K0, p_lenK, p_listK, foldK, sl_K, cutD_to, eq_bool, atI0, atI1, atI2, e8]
      rw [ev_lc1 (ds := [.tup l]) (xs := l) (g := fun x => x) (c := fun x => !isPr 50 x) (by simp [startE_def, ex_asg, ex_par2, ex_par3, ex_setix, ex_ex, ex_ret, ex_retn, ex_raise, ex_ifs, ex_pass, ex_nil, ex_cons, ev_var, ev_non, ev_bl, ev_int, ev_str, ev_g, ev_pr, ev_sl, ev_and, ev_or, ev_ifx, ev_chain, ev_call, ev_cv, ev_nil, ev_cons, evI_nil, evI_one, bT_v, bT_t, bT_u, bL_nil, bL_cons, wp_nil, wp_cons, lift_ok, lift_exc, bind_ok, bind_exc, cm_ok, ofM_some, endO_rt, endO_nx, endO_exc, bM_some, nB_some, p_add, p_sub, p_mul, p_fdiv, p_mod, p_pow, p_neg, p_not, p_eq, p_ne, p_lt, p_gt, p_le, p_ge, p_isN, p_notN, p_isB, p_notB, p_in, p_nin, p_tup, p_lst, p_newl, p_ixT, p_ixL, p_ixS, p_ixR, p_lenT, p_lenL, p_lenS, p_abs, p_min2, p_max2, p_sum, p_max1, p_min1, p_any, p_all, p_int, p_tupleL, p_tupleT, p_listL, p_listT, p_isi, p_rev, tr_non, tr_bl, tr_int, tr_tup, tr_lst, ty_non, ty_bl, ty_int, ty_str, ty_tup, ty_lst, it_seqL, it_seqT, im_zipL, im_zipT, im_enumL, im_enumT, sl_tup, sl_lst, add_ii, add_bi, add_ss, add_tt, add_ll, sub_ii, sub_bi, lt_ii, gt_ii, ge_ii, le_ii, line, eq_int, eq_K0, p_lenK, p_listK, foldK, sl_K, cutD_to, eq_bool, atI0, atI1, atI2]) rfl (fun x hx => ⟨_, rfl, by
        simp [startE_def, ex_asg, ex_par2, ex_par3, ex_setix, ex_ex, ex_ret, ex_retn, ex_raise, ex_ifs, ex_pass, ex_nil, ex_cons, ev_var, ev_non, ev_bl, ev_int, ev_str, ev_g, ev_pr, ev_sl, ev_and, ev_or, ev_ifx, ev_chain, ev_call, ev_cv, ev_nil, ev_cons, evI_nil, evI_one, bT_v, bT_t, bT_u, bL_nil, bL_cons, wp_nil, wp_cons, lift_ok, lift_exc, bind_ok, bind_exc, cm_ok, ofM_some, endO_rt, endO_nx, endO_exc, bM_some, nB_some, p_add, p_sub, p_mul, p_fdiv, p_mod, p_pow, p_neg, p_not, p_eq, p_ne, p_lt, p_gt, p_le, p_ge, p_isN, p_notN, p_isB, p_notB, p_in, p_nin, p_tup, p_lst, p_newl, p_ixT, p_ixL, p_ixS, p_ixR, p_lenT, p_lenL, p_lenS, p_abs, p_min2, p_max2, p_sum, p_max1, p_min1, p_any, p_all, p_int, p_tupleL, p_tupleT, p_listL, p_listT, p_isi, p_rev, tr_non, tr_bl, tr_int, tr_tup, tr_lst, ty_non, ty_bl, ty_int, ty_str, ty_tup, ty_lst, it_seqL, it_seqT, im_zipL, im_zipT, im_enumL, im_enumT, sl_tup, sl_lst, add_ii, add_bi, add_ss, add_tt, add_ll, sub_ii, sub_bi, lt_ii, gt_ii, ge_ii, le_ii, line, eq_int, eq_K0, p_lenK, p_listK, foldK, sl_K, cutD_to, eq_bool, atI0, atI1, atI2, r_lpair _ _ _ _ (hg x hx) (by omega)], fun _ => by simp [startE_def, ex_asg, ex_par2, ex_par3, ex_setix, ex_ex, ex_ret, ex_retn, ex_raise, ex_ifs, ex_pass, ex_nil, ex_cons, ev_var, ev_non, ev_bl, ev_int, ev_str, ev_g, ev_pr, ev_sl, ev_and, ev_or, ev_ifx, ev_chain, ev_call, ev_cv, ev_nil, ev_cons, evI_nil, evI_one, bT_v, bT_t, bT_u, bL_nil, bL_cons, wp_nil, wp_cons, lift_ok, lift_exc, bind_ok, bind_exc, cm_ok, ofM_some, endO_rt, endO_nx, endO_exc, bM_some, nB_some, p_add, p_sub, p_mul, p_fdiv, p_mod, p_pow, p_neg, p_not, p_eq, p_ne, p_lt, p_gt, p_le, p_ge, p_isN, p_notN, p_isB, p_notB, p_in, p_nin, p_tup, p_lst, p_newl, p_ixT, p_ixL, p_ixS, p_ixR, p_lenT, p_lenL, p_lenS, p_abs, p_min2, p_max2, p_sum, p_max1, p_min1, p_any, p_all, p_int, p_tupleL, p_tupleT, p_listL, p_listT, p_isi, p_rev, tr_non, tr_bl, tr_int, tr_tup, tr_lst, ty_non, ty_bl, ty_int, ty_str, ty_tup, ty_lst, it_seqL, it_seqT, im_zipL, im_zipT, im_enumL, im_enumT, sl_tup, sl_lst, add_ii, add_bi, add_ss, add_tt, add_ll, sub_ii, sub_bi, lt_ii, gt_ii, ge_ii, le_ii, line, eq_int, eq_K0, p_lenK, p_listK, foldK, sl_K, cutD_to, eq_bool, atI0, atI1, atI2]⟩) h9]
      have e : eqD S (.lst ((l.filter fun x => !isPr 50 x).map fun x => x)) (.lst []) = some ((l.filter fun x => !isPr 50 x).map fun x => x).isEmpty := eq_nilL S (n := q) (goodL_iff.mpr fun x hx => by
        rw [List.map_id'] at hx
        exact hg x (List.mem_filter.mp hx).1) (by omega)
      have e2 : ((l.filter fun x => !isPr 50 x).map fun x => x).isEmpty = l.all (isPr 50) := by
        rw [List.map_id']
        exact fil_emp l _
      rw [e2] at e
      cases ha : l.all (isPr 50) with
      | false =>
        rw [isKd_no ha]
        rw [ha] at e
        simp only [startE_def, ex_asg, ex_par2, ex_par3, ex_setix, ex_ex, ex_ret, ex_retn, ex_raise, ex_ifs, ex_pass, ex_nil, ex_cons, ev_var, ev_non, ev_bl, ev_int, ev_str, ev_g, ev_pr, ev_sl, ev_and, ev_or, ev_ifx, ev_chain, ev_call, ev_cv, ev_nil, ev_cons, evI_nil, evI_one, bT_v, bT_t, bT_u, bL_nil, bL_cons, wp_nil, wp_cons, lift_ok, lift_exc, bind_ok, bind_exc, cm_ok, ofM_some, endO_rt, endO_nx, endO_exc, bM_some, nB_some, p_add, p_sub, p_mul, p_fdiv, p_mod, p_pow, p_neg, p_not, p_eq, p_ne, p_lt, p_gt, p_le, p_ge, p_isN, p_notN, p_isB, p_notB, p_in, p_nin, p_tup, p_lst, p_newl, p_ixT, p_ixL, p_ixS, p_ixR, p_lenT, p_lenL, p_lenS, p_abs, p_min2, p_max2, p_sum, p_max1, p_min1, p_any, p_all, p_int, p_tupleL, p_tupleT, p_listL, p_listT, p_isi, p_rev, tr_non, tr_bl, tr_int, tr_tup, tr_lst, ty_non, ty_bl, ty_int, ty_str, ty_tup, ty_lst, it_seqL, it_seqT, im_zipL, im_zipT, im_enumL, im_enumT, sl_tup, sl_lst, add_ii, add_bi, add_ss, add_tt, add_ll, sub_ii, sub_bi, lt_ii, gt_ii, ge_ii, le_ii, line, eq_int, eq_K0, p_lenK, p_listK, foldK, sl_K, cutD_to, eq_bool, atI0, atI1, atI2, e, Bool.not_false]
      | true =>
        rw [ha] at e
        obtain ⟨ps, rfl⟩ := all_pairs ha
        have h8' : ps.length ≤ 8 := by rw [List.length_map] at h8; omega
        have ha' : (ps.all fun x => isPr 50 (dP x)) = true := by rw [List.all_map] at ha; exact ha
        have e3 : eqD S (.lst (ps.map dP)) (.lst ((sortP ps).map dP)) = some (asc ps) := by
          rw [eq_LL]
          congr 1
          cases hs : asc ps with
          | true => rw [sortP_id hs]; simp
          | false =>
            apply decide_eq_false
            intro e
            rw [e, sortP_asc] at hs
            cases hs
        simp only [startE_def, ex_asg, ex_par2, ex_par3, ex_setix, ex_ex, ex_ret, ex_retn, ex_raise, ex_ifs, ex_pass, ex_nil, ex_cons, ev_var, ev_non, ev_bl, ev_int, ev_str, ev_g, ev_pr, ev_sl, ev_and, ev_or, ev_ifx, ev_chain, ev_call, ev_cv, ev_nil, ev_cons, evI_nil, evI_one, bT_v, bT_t, bT_u, bL_nil, bL_cons, wp_nil, wp_cons, lift_ok, lift_exc, bind_ok, bind_exc, cm_ok, ofM_some, endO_rt, endO_nx, endO_exc, bM_some, nB_some, p_add, p_sub, p_mul, p_fdiv, p_mod, p_pow, p_neg, p_not, p_eq, p_ne, p_lt, p_gt, p_le, p_ge, p_isN, p_notN, p_isB, p_notB, p_in, p_nin, p_tup, p_lst, p_newl, p_ixT, p_ixL, p_ixS, p_ixR, p_lenT, p_lenL, p_lenS, p_abs, p_min2, p_max2, p_sum, p_max1, p_min1, p_any, p_all, p_int, p_tupleL, p_tupleT, p_listL, p_listT, p_isi, p_rev, tr_non, tr_bl, tr_int, tr_tup, tr_lst, ty_non, ty_bl, ty_int, ty_str, ty_tup, ty_lst, it_seqL, it_seqT, im_zipL, im_zipT, im_enumL, im_enumT, sl_tup, sl_lst, add_ii, add_bi, add_ss, add_tt, add_ll, sub_ii, sub_bi, lt_ii, gt_ii, ge_ii, le_ii, line, eq_int, eq_K0, p_lenK, p_listK, foldK, sl_K, cutD_to, eq_bool, atI0, atI1, atI2, e, Bool.not_true, List.getElem?_cons_zero, p_sortsetK _ _ (show ps.length ≤ 30 by omega), e3]
        rw [show isKd (dK ps) = _ from isKd_pts ps, ha, decide_eq_true h8']
        rfl
  | _ => first
    | (simp [good] at h; done)
    | simp [startE_def, ex_asg, ex_par2, ex_par3, ex_setix, ex_ex, ex_ret, ex_retn, ex_raise, ex_ifs, ex_pass, ex_nil, ex_cons, ev_var, ev_non, ev_bl, ev_int, ev_str, ev_g, ev_pr, ev_sl, ev_and, ev_or, ev_ifx, ev_chain, ev_call, ev_cv, ev_nil, ev_cons, evI_nil, evI_one, bT_v, bT_t, bT_u, bL_nil, bL_cons, wp_nil, wp_cons, lift_ok, lift_exc, bind_ok, bind_exc, cm_ok, ofM_some, endO_rt, endO_nx, endO_exc, bM_some, nB_some, p_add, p_sub, p_mul, p_fdiv, p_mod, p_pow, p_neg, p_not, p_eq, p_ne, p_lt, p_gt, p_le, p_ge, p_isN, p_notN, p_isB, p_notB, p_in, p_nin, p_tup, p_lst, p_newl, p_ixT, p_ixL, p_ixS, p_ixR, p_lenT, p_lenL, p_lenS, p_abs, p_min2, p_max2, p_sum, p_max1, p_min1, p_any, p_all, p_int, p_tupleL, p_tupleT, p_listL, p_listT, p_isi, p_rev, tr_non, tr_bl, tr_int, tr_tup, tr_lst, ty_non, ty_bl, ty_int, ty_str, ty_tup, ty_lst, it_seqL, it_seqT, im_zipL, im_zipT, im_enumL, im_enumT, sl_tup, sl_lst, add_ii, add_bi, add_ss, add_tt, add_ll, sub_ii, sub_bi, lt_ii, gt_ii, ge_ii, le_ii, line, eq_int, eq_K0, p_lenK, p_listK, foldK, sl_K, cutD_to, eq_bool, atI0, atI1, atI2, isKd]
theorem r_lmarks (n : Nat) (S : Sto) {q : Nat} (d : D) (h : good q d = true) (hq : q ≤ 60) : run G (n + 4) (.fn i__law_is_marks) [d] S = .ok (.bl (isMk d)) S := by
  rw [run_df rfl rfl]
  cases d with
  | tup l =>
    cases q with
    | zero => simp [good] at h
    | succ q =>
    simp only [good] at h
    have hg := goodL_iff.mp h
    match l, h with
    | [], _ => simp [startE_def, ex_asg, ex_par2, ex_par3, ex_setix, ex_ex, ex_ret, ex_retn, ex_raise, ex_ifs, ex_pass, ex_nil, ex_cons, ev_var, ev_non, ev_bl, ev_int, ev_str, ev_g, ev_pr, ev_sl, ev_and, ev_or, ev_ifx, ev_chain, ev_call, ev_cv, ev_nil, ev_cons, evI_nil, evI_one, bT_v, bT_t, bT_u, bL_nil, bL_cons, wp_nil, wp_cons, lift_ok, lift_exc, bind_ok, bind_exc, cm_ok, ofM_some, endO_rt, endO_nx, endO_exc, bM_some, nB_some, p_add, p_sub, p_mul, p_fdiv, p_mod, p_pow, p_neg, p_not, p_eq, p_ne, p_lt, p_gt, p_le, p_ge, p_isN, p_notN, p_isB, p_notB, p_in, p_nin, p_tup, p_lst, p_newl, p_ixT, p_ixL, p_ixS, p_ixR, p_lenT, p_lenL, p_lenS, p_abs, p_min2, p_max2, p_sum, p_max1, p_min1, p_any, p_all, p_int, p_tupleL, p_tupleT, p_listL, p_listT, p_isi, p_rev, tr_non, tr_bl, tr_int, tr_tup, tr_lst, ty_non, ty_bl, ty_int, ty_str, ty_tup, ty_lst, it_seqL, it_seqT, im_zipL, im_zipT, im_enumL, im_enumT, sl_tup, sl_lst, add_ii, add_bi, add_ss, add_tt, add_ll, sub_ii, sub_bi, lt_ii, gt_ii, ge_ii, le_ii, line, eq_int, eq_K0, p_lenK, p_listK, foldK, sl_K, cutD_to, eq_bool, atI0, atI1, atI2, isMk]
    | [a], h => simp [startE_def, ex_asg, ex_par2, ex_par3, ex_setix, ex_ex, ex_ret, ex_retn, ex_raise, ex_ifs, ex_pass, ex_nil, ex_cons, ev_var, ev_non, ev_bl, ev_int, ev_str, ev_g, ev_pr, ev_sl, ev_and, ev_or, ev_ifx, ev_chain, ev_call, ev_cv, ev_nil, ev_cons, evI_nil, evI_one, bT_v, bT_t, bT_u, bL_nil, bL_cons, wp_nil, wp_cons, lift_ok, lift_exc, bind_ok, bind_exc, cm_ok, ofM_some, endO_rt, endO_nx, endO_exc, bM_some, nB_some, p_add, p_sub, p_mul, p_fdiv, p_mod, p_pow, p_neg, p_not, p_eq, p_ne, p_lt, p_gt, p_le, p_ge, p_isN, p_notN, p_isB, p_notB, p_in, p_nin, p_tup, p_lst, p_newl, p_ixT, p_ixL, p_ixS, p_ixR, p_lenT, p_lenL, p_lenS, p_abs, p_min2, p_max2, p_sum, p_max1, p_min1, p_any, p_all, p_int, p_tupleL, p_tupleT, p_listL, p_listT, p_isi, p_rev, tr_non, tr_bl, tr_int, tr_tup, tr_lst, ty_non, ty_bl, ty_int, ty_str, ty_tup, ty_lst, it_seqL, it_seqT, im_zipL, im_zipT, im_enumL, im_enumT, sl_tup, sl_lst, add_ii, add_bi, add_ss, add_tt, add_ll, sub_ii, sub_bi, lt_ii, gt_ii, ge_ii, le_ii, line, eq_int, eq_K0, p_lenK, p_listK, foldK, sl_K, cutD_to, eq_bool, atI0, atI1, atI2, isMk]
    | [a, b], h =>
      have ha : good q a = true := hg a (by simp)
      have hb : good q b = true := hg b (by simp)
      cases e : isKd a <;> simp [startE_def, ex_asg, ex_par2, ex_par3, ex_setix, ex_ex, ex_ret, ex_retn, ex_raise, ex_ifs, ex_pass, ex_nil, ex_cons, ev_var, ev_non, ev_bl, ev_int, ev_str, ev_g, ev_pr, ev_sl, ev_and, ev_or, ev_ifx, ev_chain, ev_call, ev_cv, ev_nil, ev_cons, evI_nil, evI_one, bT_v, bT_t, bT_u, bL_nil, bL_cons, wp_nil, wp_cons, lift_ok, lift_exc, bind_ok, bind_exc, cm_ok, ofM_some, endO_rt, endO_nx, endO_exc, bM_some, nB_some, p_add, p_sub, p_mul, p_fdiv, p_mod, p_pow, p_neg, p_not, p_eq, p_ne, p_lt, p_gt, p_le, p_ge, p_isN, p_notN, p_isB, p_notB, p_in, p_nin, p_tup, p_lst, p_newl, p_ixT, p_ixL, p_ixS, p_ixR, p_lenT, p_lenL, p_lenS, p_abs, p_min2, p_max2, p_sum, p_max1, p_min1, p_any, p_all, p_int, p_tupleL, p_tupleT, p_listL, p_listT, p_isi, p_rev, tr_non, tr_bl, tr_int, tr_tup, tr_lst, ty_non, ty_bl, ty_int, ty_str, ty_tup, ty_lst, it_seqL, it_seqT, im_zipL, im_zipT, im_enumL, im_enumT, sl_tup, sl_lst, add_ii, add_bi, add_ss, add_tt, add_ll, sub_ii, sub_bi, lt_ii, gt_ii, ge_ii, le_ii, line, eq_int, eq_K0, p_lenK, p_listK, foldK, sl_K, cutD_to, eq_bool, atI0, atI1, atI2, isMk, r_lkind _ _ _ ha (by omega), r_lkind _ _ _ hb (by omega), e]
    | a :: b :: c :: l, h =>
      have e : ((l.length : Int) + 1 + 1 + 1 == 2) = false := by simp; omega
      simp [startE_def, ex_asg, ex_par2, ex_par3, ex_setix, ex_ex, ex_ret, ex_retn, ex_raise, ex_ifs, ex_pass, ex_nil, ex_cons, ev_var, ev_non, ev_bl, ev_int, ev_str, ev_g, ev_pr, ev_sl, ev_and, ev_or, ev_ifx, ev_chain, ev_call, ev_cv, ev_nil, ev_cons, evI_nil, evI_one, bT_v, bT_t, bT_u, bL_nil, bL_cons, wp_nil, wp_cons, lift_ok, lift_exc, bind_ok, bind_exc, cm_ok, ofM_some, endO_rt, endO_nx, endO_exc, bM_some, nB_some, p_add, p_sub, p_mul, p_fdiv, p_mod, p_pow, p_neg, p_not, p_eq, p_ne, p_lt, p_gt, p_le, p_ge, p_isN, p_notN, p_isB, p_notB, p_in, p_nin, p_tup, p_lst, p_newl, p_ixT, p_ixL, p_ixS, p_ixR, p_lenT, p_lenL, p_lenS, p_abs, p_min2, p_max2, p_sum, p_max1, p_min1, p_any, p_all, p_int, p_tupleL, p_tupleT, p_listL, p_listT, p_isi, p_rev, tr_non, tr_bl, tr_int, tr_tup, tr_lst, ty_non, ty_bl, ty_int, ty_str, ty_tup, ty_lst, it_seqL, it_seqT, im_zipL, im_zipT, im_enumL, im_enumT, sl_tup, sl_lst, add_ii, add_bi, add_ss, add_tt, add_ll, sub_ii, sub_bi, lt_ii, gt_ii, ge_ii, le_ii, line, eq_int, eq_K0, p_lenK, p_listK, foldK, sl_K, cutD_to, eq_bool, atI0, atI1, atI2, isMk, e]
  | _ => first
    | (simp [good] at h; done)
    | simp [startE_def, ex_asg, ex_par2, ex_par3, ex_setix, ex_ex, ex_ret, ex_retn, ex_raise, ex_ifs, ex_pass, ex_nil, ex_cons, ev_var, ev_non, ev_bl, ev_int, ev_str, ev_g, ev_pr, ev_sl, ev_and, ev_or, ev_ifx, ev_chain, ev_call, ev_cv, ev_nil, ev_cons, evI_nil, evI_one, bT_v, bT_t, bT_u, bL_nil, bL_cons, wp_nil, wp_cons, lift_ok, lift_exc, bind_ok, bind_exc, cm_ok, ofM_some, endO_rt, endO_nx, endO_exc, bM_some, nB_some, p_add, p_sub, p_mul, p_fdiv, p_mod, p_pow, p_neg, p_not, p_eq, p_ne, p_lt, p_gt, p_le, p_ge, p_isN, p_notN, p_isB, p_notB, p_in, p_nin, p_tup, p_lst, p_newl, p_ixT, p_ixL, p_ixS, p_ixR, p_lenT, p_lenL, p_lenS, p_abs, p_min2, p_max2, p_sum, p_max1, p_min1, p_any, p_all, p_int, p_tupleL, p_tupleT, p_listL, p_listT, p_isi, p_rev, tr_non, tr_bl, tr_int, tr_tup, tr_lst, ty_non, ty_bl, ty_int, ty_str, ty_tup, ty_lst, it_seqL, it_seqT, im_zipL, im_zipT, im_enumL, im_enumT, sl_tup, sl_lst, add_ii, add_bi, add_ss, add_tt, add_ll, sub_ii, sub_bi, lt_ii, gt_ii, ge_ii, le_ii, line, eq_int, eq_K0, p_lenK, p_listK, foldK, sl_K, cutD_to, eq_bool, atI0, atI1, atI2, isMk]
theorem r_lfence (n : Nat) (S : Sto) {q : Nat} (d : D) (h : good q d = true) (hq : q ≤ 60) : run G (n + 2) (.fn i__law_is_fence) [d] S = .ok (.bl (isFn d)) S := by
  rw [run_df rfl rfl]
  cases d with
  | tup l =>
    cases q with
    | zero => simp [good] at h
    | succ q =>
    simp only [good] at h
    have hg := goodL_iff.mp h
    match l, h with
    | [], _ => simp [startE_def, ex_asg, ex_par2, ex_par3, ex_setix, ex_ex, ex_ret, ex_retn, ex_raise, ex_ifs, ex_pass, ex_nil, ex_cons, ev_var, ev_non, ev_bl, ev_int, ev_str, ev_g, ev_pr, ev_sl, ev_and, ev_or, ev_ifx, ev_chain, ev_call, ev_cv, ev_nil, ev_cons, evI_nil, evI_one, bT_v, bT_t, bT_u, bL_nil, bL_cons, wp_nil, wp_cons, lift_ok, lift_exc, bind_ok, bind_exc, cm_ok, ofM_some, endO_rt, endO_nx, endO_exc, bM_some, nB_some, p_add, p_sub, p_mul, p_fdiv, p_mod, p_pow, p_neg, p_not, p_eq, p_ne, p_lt, p_gt, p_le, p_ge, p_isN, p_notN, p_isB, p_notB, p_in, p_nin, p_tup, p_lst, p_newl, p_ixT, p_ixL, p_ixS, p_ixR, p_lenT, p_lenL, p_lenS, p_abs, p_min2, p_max2, p_sum, p_max1, p_min1, p_any, p_all, p_int, p_tupleL, p_tupleT, p_listL, p_listT, p_isi, p_rev, tr_non, tr_bl, tr_int, tr_tup, tr_lst, ty_non, ty_bl, ty_int, ty_str, ty_tup, ty_lst, it_seqL, it_seqT, im_zipL, im_zipT, im_enumL, im_enumT, sl_tup, sl_lst, add_ii, add_bi, add_ss, add_tt, add_ll, sub_ii, sub_bi, lt_ii, gt_ii, ge_ii, le_ii, line, eq_int, eq_K0, p_lenK, p_listK, foldK, sl_K, cutD_to, eq_bool, atI0, atI1, atI2, isFn]
    | [a], h => simp [startE_def, ex_asg, ex_par2, ex_par3, ex_setix, ex_ex, ex_ret, ex_retn, ex_raise, ex_ifs, ex_pass, ex_nil, ex_cons, ev_var, ev_non, ev_bl, ev_int, ev_str, ev_g, ev_pr, ev_sl, ev_and, ev_or, ev_ifx, ev_chain, ev_call, ev_cv, ev_nil, ev_cons, evI_nil, evI_one, bT_v, bT_t, bT_u, bL_nil, bL_cons, wp_nil, wp_cons, lift_ok, lift_exc, bind_ok, bind_exc, cm_ok, ofM_some, endO_rt, endO_nx, endO_exc, bM_some, nB_some, p_add, p_sub, p_mul, p_fdiv, p_mod, p_pow, p_neg, p_not, p_eq, p_ne, p_lt, p_gt, p_le, p_ge, p_isN, p_notN, p_isB, p_notB, p_in, p_nin, p_tup, p_lst, p_newl, p_ixT, p_ixL, p_ixS, p_ixR, p_lenT, p_lenL, p_lenS, p_abs, p_min2, p_max2, p_sum, p_max1, p_min1, p_any, p_all, p_int, p_tupleL, p_tupleT, p_listL, p_listT, p_isi, p_rev, tr_non, tr_bl, tr_int, tr_tup, tr_lst, ty_non, ty_bl, ty_int, ty_str, ty_tup, ty_lst, it_seqL, it_seqT, im_zipL, im_zipT, im_enumL, im_enumT, sl_tup, sl_lst, add_ii, add_bi, add_ss, add_tt, add_ll, sub_ii, sub_bi, lt_ii, gt_ii, ge_ii, le_ii, line, eq_int, eq_K0, p_lenK, p_listK, foldK, sl_K, cutD_to, eq_bool, atI0, atI1, atI2, isFn]
    | [a, b], h => simp [startE_def, ex_asg, ex_par2, ex_par3, ex_setix, ex_ex, ex_ret, ex_retn, ex_raise, ex_ifs, ex_pass, ex_nil, ex_cons, ev_var, ev_non, ev_bl, ev_int, ev_str, ev_g, ev_pr, ev_sl, ev_and, ev_or, ev_ifx, ev_chain, ev_call, ev_cv, ev_nil, ev_cons, evI_nil, evI_one, bT_v, bT_t, bT_u, bL_nil, bL_cons, wp_nil, wp_cons, lift_ok, lift_exc, bind_ok, bind_exc, cm_ok, ofM_some, endO_rt, endO_nx, endO_exc, bM_some, nB_some, p_add, p_sub, p_mul, p_fdiv, p_mod, p_pow, p_neg, p_not, p_eq, p_ne, p_lt, p_gt, p_le, p_ge, p_isN, p_notN, p_isB, p_notB, p_in, p_nin, p_tup, p_lst, p_newl, p_ixT, p_ixL, p_ixS, p_ixR, p_lenT, p_lenL, p_lenS, p_abs, p_min2, p_max2, p_sum, p_max1, p_min1, p_any, p_all, p_int, p_tupleL, p_tupleT, p_listL, p_listT, p_isi, p_rev, tr_non, tr_bl, tr_int, tr_tup, tr_lst, ty_non, ty_bl, ty_int, ty_str, ty_tup, ty_lst, it_seqL, it_seqT, im_zipL, im_zipT, im_enumL, im_enumT, sl_tup, sl_lst, add_ii, add_bi, add_ss, add_tt, add_ll, sub_ii, sub_bi, lt_ii, gt_ii, ge_ii, le_ii, line, eq_int, eq_K0, p_lenK, p_listK, foldK, sl_K, cutD_to, eq_bool, atI0, atI1, atI2, isFn]
    | [a, b, c], h =>
      simp [startE_def, ex_asg, ex_par2, ex_par3, ex_setix, ex_ex, ex_ret, ex_retn, ex_raise, ex_ifs, ex_pass, ex_nil, ex_cons, ev_var, ev_non, ev_bl, ev_int, ev_str, ev_g, ev_pr, ev_sl, ev_and, ev_or, ev_ifx, ev_chain, ev_call, ev_cv, ev_nil, ev_cons, evI_nil, evI_one, bT_v, bT_t, bT_u, bL_nil, bL_cons, wp_nil, wp_cons, lift_ok, lift_exc, bind_ok, bind_exc, cm_ok, ofM_some, endO_rt, endO_nx, endO_exc, bM_some, nB_some, p_add, p_sub, p_mul, p_fdiv, p_mod, p_pow, p_neg, p_not, p_eq, p_ne, p_lt, p_gt, p_le, p_ge, p_isN, p_notN, p_isB, p_notB, p_in, p_nin, p_tup, p_lst, p_newl, p_ixT, p_ixL, p_ixS, p_ixR, p_lenT, p_lenL, p_lenS, p_abs, p_min2, p_max2, p_sum, p_max1, p_min1, p_any, p_all, p_int, p_tupleL, p_tupleT, p_listL, p_listT, p_isi, p_rev, tr_non, tr_bl, tr_int, tr_tup, tr_lst, ty_non, ty_bl, ty_int, ty_str, ty_tup, ty_lst, it_seqL, it_seqT, im_zipL, im_zipT, im_enumL, im_enumT, sl_tup, sl_lst, add_ii, add_bi, add_ss, add_tt, add_ll, sub_ii, sub_bi, lt_ii, gt_ii, ge_ii, le_ii, line, eq_int, eq_K0, p_lenK, p_listK, foldK, sl_K, cutD_to, eq_bool, atI0, atI1, atI2, isFn]
      rw [ev_lc1 (ds := [.tup [a, b, c]]) (xs := [a, b, c]) (g := fun x => x) (c := fun x => !isW (-1000000000000) 1000000000000 x) (by simp [startE_def, ex_asg, ex_par2, ex_par3, ex_setix, ex_ex, ex_ret, ex_retn, ex_raise, ex_ifs, ex_pass, ex_nil, ex_cons, ev_var, ev_non, ev_bl, ev_int, ev_str, ev_g, ev_pr, ev_sl, ev_and, ev_or, ev_ifx, ev_chain, ev_call, ev_cv, ev_nil, ev_cons, evI_nil, evI_one, bT_v, bT_t, bT_u, bL_nil, bL_cons, wp_nil, wp_cons, lift_ok, lift_exc, bind_ok, bind_exc, cm_ok, ofM_some, endO_rt, endO_nx, endO_exc, bM_some, nB_some, p_add, p_sub, p_mul, p_fdiv, p_mod, p_pow, p_neg, p_not, p_eq, p_ne, p_lt, p_gt, p_le, p_ge, p_isN, p_notN, p_isB, p_notB, p_in, p_nin, p_tup, p_lst, p_newl, p_ixT, p_ixL, p_ixS, p_ixR, p_lenT, p_lenL, p_lenS, p_abs, p_min2, p_max2, p_sum, p_max1, p_min1, p_any, p_all, p_int, p_tupleL, p_tupleT, p_listL, p_listT, p_isi, p_rev, tr_non, tr_bl, tr_int, tr_tup, tr_lst, ty_non, ty_bl, ty_int, ty_str, ty_tup, ty_lst, it_seqL, it_seqT, im_zipL, im_zipT, im_enumL, im_enumT, sl_tup, sl_lst, add_ii, add_bi, add_ss, add_tt, add_ll, sub_ii, sub_bi, lt_ii, gt_ii, ge_ii, le_ii, line, eq_int, eq_K0, p_lenK, p_listK, foldK, sl_K, cutD_to, eq_bool, atI0, atI1, atI2]) rfl (fun x hx => ⟨_, rfl, by
        simp [startE_def, ex_asg, ex_par2, ex_par3, ex_setix, ex_ex, ex_ret, ex_retn, ex_raise, ex_ifs, ex_pass, ex_nil, ex_cons, ev_var, ev_non, ev_bl, ev_int, ev_str, ev_g, ev_pr, ev_sl, ev_and, ev_or, ev_ifx, ev_chain, ev_call, ev_cv, ev_nil, ev_cons, evI_nil, evI_one, bT_v, bT_t, bT_u, bL_nil, bL_cons, wp_nil, wp_cons, lift_ok, lift_exc, bind_ok, bind_exc, cm_ok, ofM_some, endO_rt, endO_nx, endO_exc, bM_some, nB_some, p_add, p_sub, p_mul, p_fdiv, p_mod, p_pow, p_neg, p_not, p_eq, p_ne, p_lt, p_gt, p_le, p_ge, p_isN, p_notN, p_isB, p_notB, p_in, p_nin, p_tup, p_lst, p_newl, p_ixT, p_ixL, p_ixS, p_ixR, p_lenT, p_lenL, p_lenS, p_abs, p_min2, p_max2, p_sum, p_max1, p_min1, p_any, p_all, p_int, p_tupleL, p_tupleT, p_listL, p_listT, p_isi, p_rev, tr_non, tr_bl, tr_int, tr_tup, tr_lst, ty_non, ty_bl, ty_int, ty_str, ty_tup, ty_lst, it_seqL, it_seqT, im_zipL, im_zipT, im_enumL, im_enumT, sl_tup, sl_lst, add_ii, add_bi, add_ss, add_tt, add_ll, sub_ii, sub_bi, lt_ii, gt_ii, ge_ii, le_ii, line, eq_int, eq_K0, p_lenK, p_listK, foldK, sl_K, cutD_to, eq_bool, atI0, atI1, atI2, pPow, r_lwhole _ _ _ _ _ (good_dat q x (hg x hx))], fun _ => by simp [startE_def, ex_asg, ex_par2, ex_par3, ex_setix, ex_ex, ex_ret, ex_retn, ex_raise, ex_ifs, ex_pass, ex_nil, ex_cons, ev_var, ev_non, ev_bl, ev_int, ev_str, ev_g, ev_pr, ev_sl, ev_and, ev_or, ev_ifx, ev_chain, ev_call, ev_cv, ev_nil, ev_cons, evI_nil, evI_one, bT_v, bT_t, bT_u, bL_nil, bL_cons, wp_nil, wp_cons, lift_ok, lift_exc, bind_ok, bind_exc, cm_ok, ofM_some, endO_rt, endO_nx, endO_exc, bM_some, nB_some, p_add, p_sub, p_mul, p_fdiv, p_mod, p_pow, p_neg, p_not, p_eq, p_ne, p_lt, p_gt, p_le, p_ge, p_isN, p_notN, p_isB, p_notB, p_in, p_nin, p_tup, p_lst, p_newl, p_ixT, p_ixL, p_ixS, p_ixR, p_lenT, p_lenL, p_lenS, p_abs, p_min2, p_max2, p_sum, p_max1, p_min1, p_any, p_all, p_int, p_tupleL, p_tupleT, p_listL, p_listT, p_isi, p_rev, tr_non, tr_bl, tr_int, tr_tup, tr_lst, ty_non, ty_bl, ty_int, ty_str, ty_tup, ty_lst, it_seqL, it_seqT, im_zipL, im_zipT, im_enumL, im_enumT, sl_tup, sl_lst, add_ii, add_bi, add_ss, add_tt, add_ll, sub_ii, sub_bi, lt_ii, gt_ii, ge_ii, le_ii, line, eq_int, eq_K0, p_lenK, p_listK, foldK, sl_K, cutD_to, eq_bool, atI0, atI1, atI2]⟩) (by simp)]
      have e : eqD S (.lst (([a, b, c].filter fun x => !isW (-1000000000000) 1000000000000 x).map fun x => x)) (.lst []) = some ([a, b, c].all (isW (-1000000000000) 1000000000000)) := by
        rw [eq_nilL S (n := q) (goodL_iff.mpr fun x hx => by
          rw [List.map_id'] at hx
          exact hg x (List.mem_filter.mp hx).1) (by omega), List.map_id', fil_emp]
      simp only [startE_def, ex_asg, ex_par2, ex_par3, ex_setix, ex_ex, ex_ret, ex_retn, ex_raise, ex_ifs, ex_pass, ex_nil, ex_cons, ev_var, ev_non, ev_bl, ev_int, ev_str, ev_g, ev_pr, ev_sl, ev_and, ev_or, ev_ifx, ev_chain, ev_call, ev_cv, ev_nil, ev_cons, evI_nil, evI_one, bT_v, bT_t, bT_u, bL_nil, bL_cons, wp_nil, wp_cons, lift_ok, lift_exc, bind_ok, bind_exc, cm_ok, ofM_some, endO_rt, endO_nx, endO_exc, bM_some, nB_some, p_add, p_sub, p_mul, p_fdiv, p_mod, p_pow, p_neg, p_not, p_eq, p_ne, p_lt, p_gt, p_le, p_ge, p_isN, p_notN, p_isB, p_notB, p_in, p_nin, p_tup, p_lst, p_newl, p_ixT, p_ixL, p_ixS, p_ixR, p_lenT, p_lenL, p_lenS, p_abs, p_min2, p_max2, p_sum, p_max1, p_min1, p_any, p_all, p_int, p_tupleL, p_tupleT, p_listL, p_listT, p_isi, p_rev, tr_non, tr_bl, tr_int, tr_tup, tr_lst, ty_non, ty_bl, ty_int, ty_str, ty_tup, ty_lst, it_seqL, it_seqT, im_zipL, im_zipT, im_enumL, im_enumT, sl_tup, sl_lst, add_ii, add_bi, add_ss, add_tt, add_ll, sub_ii, sub_bi, lt_ii, gt_ii, ge_ii, le_ii, line, eq_int, eq_K0, p_lenK, p_listK, foldK, sl_K, cutD_to, eq_bool, atI0, atI1, atI2, e]
      cases ha : isW (-1000000000000) 1000000000000 a
      · simp [startE_def, ex_asg, ex_par2, ex_par3, ex_setix, ex_ex, ex_ret, ex_retn, ex_raise, ex_ifs, ex_pass, ex_nil, ex_cons, ev_var, ev_non, ev_bl, ev_int, ev_str, ev_g, ev_pr, ev_sl, ev_and, ev_or, ev_ifx, ev_chain, ev_call, ev_cv, ev_nil, ev_cons, evI_nil, evI_one, bT_v, bT_t, bT_u, bL_nil, bL_cons, wp_nil, wp_cons, lift_ok, lift_exc, bind_ok, bind_exc, cm_ok, ofM_some, endO_rt, endO_nx, endO_exc, bM_some, nB_some, p_add, p_sub, p_mul, p_fdiv, p_mod, p_pow, p_neg, p_not, p_eq, p_ne, p_lt, p_gt, p_le, p_ge, p_isN, p_notN, p_isB, p_notB, p_in, p_nin, p_tup, p_lst, p_newl, p_ixT, p_ixL, p_ixS, p_ixR, p_lenT, p_lenL, p_lenS, p_abs, p_min2, p_max2, p_sum, p_max1, p_min1, p_any, p_all, p_int, p_tupleL, p_tupleT, p_listL, p_listT, p_isi, p_rev, tr_non, tr_bl, tr_int, tr_tup, tr_lst, ty_non, ty_bl, ty_int, ty_str, ty_tup, ty_lst, it_seqL, it_seqT, im_zipL, im_zipT, im_enumL, im_enumT, sl_tup, sl_lst, add_ii, add_bi, add_ss, add_tt, add_ll, sub_ii, sub_bi, lt_ii, gt_ii, ge_ii, le_ii, line, eq_int, eq_K0, p_lenK, p_listK, foldK, sl_K, cutD_to, eq_bool, atI0, atI1, atI2, ha]
      cases hb : isW (-1000000000000) 1000000000000 b
      · simp [startE_def, ex_asg, ex_par2, ex_par3, ex_setix, ex_ex, ex_ret, ex_retn, ex_raise, ex_ifs, ex_pass, ex_nil, ex_cons, ev_var, ev_non, ev_bl, ev_int, ev_str, ev_g, ev_pr, ev_sl, ev_and, ev_or, ev_ifx, ev_chain, ev_call, ev_cv, ev_nil, ev_cons, evI_nil, evI_one, bT_v, bT_t, bT_u, bL_nil, bL_cons, wp_nil, wp_cons, lift_ok, lift_exc, bind_ok, bind_exc, cm_ok, ofM_some, endO_rt, endO_nx, endO_exc, bM_some, nB_some, p_add, p_sub, p_mul, p_fdiv, p_mod, p_pow, p_neg, p_not, p_eq, p_ne, p_lt, p_gt, p_le, p_ge, p_isN, p_notN, p_isB, p_notB, p_in, p_nin, p_tup, p_lst, p_newl, p_ixT, p_ixL, p_ixS, p_ixR, p_lenT, p_lenL, p_lenS, p_abs, p_min2, p_max2, p_sum, p_max1, p_min1, p_any, p_all, p_int, p_tupleL, p_tupleT, p_listL, p_listT, p_isi, p_rev, tr_non, tr_bl, tr_int, tr_tup, tr_lst, ty_non, ty_bl, ty_int, ty_str, ty_tup, ty_lst, it_seqL, it_seqT, im_zipL, im_zipT, im_enumL, im_enumT, sl_tup, sl_lst, add_ii, add_bi, add_ss, add_tt, add_ll, sub_ii, sub_bi, lt_ii, gt_ii, ge_ii, le_ii, line, eq_int, eq_K0, p_lenK, p_listK, foldK, sl_K, cutD_to, eq_bool, atI0, atI1, atI2, ha, hb]
      cases hc : isW (-1000000000000) 1000000000000 c
      · simp [startE_def, ex_asg, ex_par2, ex_par3, ex_setix, ex_ex, ex_ret, ex_retn, ex_raise, ex_ifs, ex_pass, ex_nil, ex_cons, ev_var, ev_non, ev_bl, ev_int, ev_str, ev_g, ev_pr, ev_sl, ev_and, ev_or, ev_ifx, ev_chain, ev_call, ev_cv, ev_nil, ev_cons, evI_nil, evI_one, bT_v, bT_t, bT_u, bL_nil, bL_cons, wp_nil, wp_cons, lift_ok, lift_exc, bind_ok, bind_exc, cm_ok, ofM_some, endO_rt, endO_nx, endO_exc, bM_some, nB_some, p_add, p_sub, p_mul, p_fdiv, p_mod, p_pow, p_neg, p_not, p_eq, p_ne, p_lt, p_gt, p_le, p_ge, p_isN, p_notN, p_isB, p_notB, p_in, p_nin, p_tup, p_lst, p_newl, p_ixT, p_ixL, p_ixS, p_ixR, p_lenT, p_lenL, p_lenS, p_abs, p_min2, p_max2, p_sum, p_max1, p_min1, p_any, p_all, p_int, p_tupleL, p_tupleT, p_listL, p_listT, p_isi, p_rev, tr_non, tr_bl, tr_int, tr_tup, tr_lst, ty_non, ty_bl, ty_int, ty_str, ty_tup, ty_lst, it_seqL, it_seqT, im_zipL, im_zipT, im_enumL, im_enumT, sl_tup, sl_lst, add_ii, add_bi, add_ss, add_tt, add_ll, sub_ii, sub_bi, lt_ii, gt_ii, ge_ii, le_ii, line, eq_int, eq_K0, p_lenK, p_listK, foldK, sl_K, cutD_to, eq_bool, atI0, atI1, atI2, ha, hb, hc]
      obtain ⟨i, rfl, _⟩ := isW_dat ha
      obtain ⟨j, rfl, _⟩ := isW_dat hb
      have e2 : eqD S (.tup [.int i, .int j]) (.tup [.int 0, .int 0]) = some (decide ((i, j) = (0, 0))) := eq_PP S (i, j) (0, 0)
      have e3 : cutD [.int i, .int j, c] none (some 2) = [.int i, .int j] := rfl
      simp [startE_def, ex_asg, ex_par2, ex_par3, ex_setix, ex_ex, ex_ret, ex_retn, ex_raise, ex_ifs, ex_pass, ex_nil, ex_cons, ev_var, ev_non, ev_bl, ev_int, ev_str, ev_g, ev_pr, ev_sl, ev_and, ev_or, ev_ifx, ev_chain, ev_call, ev_cv, ev_nil, ev_cons, evI_nil, evI_one, bT_v, bT_t, bT_u, bL_nil, bL_cons, wp_nil, wp_cons, lift_ok, lift_exc, bind_ok, bind_exc, cm_ok, ofM_some, endO_rt, endO_nx, endO_exc, bM_some, nB_some, p_add, p_sub, p_mul, p_fdiv, p_mod, p_pow, p_neg, p_not, p_eq, p_ne, p_lt, p_gt, p_le, p_ge, p_isN, p_notN, p_isB, p_notB, p_in, p_nin, p_tup, p_lst, p_newl, p_ixT, p_ixL, p_ixS, p_ixR, p_lenT, p_lenL, p_lenS, p_abs, p_min2, p_max2, p_sum, p_max1, p_min1, p_any, p_all, p_int, p_tupleL, p_tupleT, p_listL, p_listT, p_isi, p_rev, tr_non, tr_bl, tr_int, tr_tup, tr_lst, ty_non, ty_bl, ty_int, ty_str, ty_tup, ty_lst, it_seqL, it_seqT, im_zipL, im_zipT, im_enumL, im_enumT, sl_tup, sl_lst, add_ii, add_bi, add_ss, add_tt, add_ll, sub_ii, sub_bi, lt_ii, gt_ii, ge_ii, le_ii, line, eq_int, eq_K0, p_lenK, p_listK, foldK, sl_K, cutD_to, eq_bool, atI0, atI1, atI2, ha, hb, hc, e2, e3]
      by_cases h0 : i = 0 <;> by_cases h1 : j = 0 <;> simp [h0, h1]
    | a :: b :: c :: e :: l, h =>
      have e : ((l.length : Int) + 1 + 1 + 1 + 1 == 3) = false := by simp; omega
      simp [startE_def, ex_asg, ex_par2, ex_par3, ex_setix, ex_ex, ex_ret, ex_retn, ex_raise, ex_ifs, ex_pass, ex_nil, ex_cons, ev_var, ev_non, ev_bl, ev_int, ev_str, ev_g, ev_pr, ev_sl, ev_and, ev_or, ev_ifx, ev_chain, ev_call, ev_cv, ev_nil, ev_cons, evI_nil, evI_one, bT_v, bT_t, bT_u, bL_nil, bL_cons, wp_nil, wp_cons, lift_ok, lift_exc, bind_ok, bind_exc, cm_ok, ofM_some, endO_rt, endO_nx, endO_exc, bM_some, nB_some, p_add, p_sub, p_mul, p_fdiv, p_mod, p_pow, p_neg, p_not, p_eq, p_ne, p_lt, p_gt, p_le, p_ge, p_isN, p_notN, p_isB, p_notB, p_in, p_nin, p_tup, p_lst, p_newl, p_ixT, p_ixL, p_ixS, p_ixR, p_lenT, p_lenL, p_lenS, p_abs, p_min2, p_max2, p_sum, p_max1, p_min1, p_any, p_all, p_int, p_tupleL, p_tupleT, p_listL, p_listT, p_isi, p_rev, tr_non, tr_bl, tr_int, tr_tup, tr_lst, ty_non, ty_bl, ty_int, ty_str, ty_tup, ty_lst, it_seqL, it_seqT, im_zipL, im_zipT, im_enumL, im_enumT, sl_tup, sl_lst, add_ii, add_bi, add_ss, add_tt, add_ll, sub_ii, sub_bi, lt_ii, gt_ii, ge_ii, le_ii, line, eq_int, eq_K0, p_lenK, p_listK, foldK, sl_K, cutD_to, eq_bool, atI0, atI1, atI2, isFn, e]
  | _ => first
    | (simp [good] at h; done)
    | simp [startE_def, ex_asg, ex_par2, ex_par3, ex_setix, ex_ex, ex_ret, ex_retn, ex_raise, ex_ifs, ex_pass, ex_nil, ex_cons, ev_var, ev_non, ev_bl, ev_int, ev_str, ev_g, ev_pr, ev_sl, ev_and, ev_or, ev_ifx, ev_chain, ev_call, ev_cv, ev_nil, ev_cons, evI_nil, evI_one, bT_v, bT_t, bT_u, bL_nil, bL_cons, wp_nil, wp_cons, lift_ok, lift_exc, bind_ok, bind_exc, cm_ok, ofM_some, endO_rt, endO_nx, endO_exc, bM_some, nB_some, p_add, p_sub, p_mul, p_fdiv, p_mod, p_pow, p_neg, p_not, p_eq, p_ne, p_lt, p_gt, p_le, p_ge, p_isN, p_notN, p_isB, p_notB, p_in, p_nin, p_tup, p_lst, p_newl, p_ixT, p_ixL, p_ixS, p_ixR, p_lenT, p_lenL, p_lenS, p_abs, p_min2, p_max2, p_sum, p_max1, p_min1, p_any, p_all, p_int, p_tupleL, p_tupleT, p_listL, p_listT, p_isi, p_rev, tr_non, tr_bl, tr_int, tr_tup, tr_lst, ty_non, ty_bl, ty_int, ty_str, ty_tup, ty_lst, it_seqL, it_seqT, im_zipL, im_zipT, im_enumL, im_enumT, sl_tup, sl_lst, add_ii, add_bi, add_ss, add_tt, add_ll, sub_ii, sub_bi, lt_ii, gt_ii, ge_ii, le_ii, line, eq_int, eq_K0, p_lenK, p_listK, foldK, sl_K, cutD_to, eq_bool, atI0, atI1, atI2, isFn]
theorem r_lpart (n : Nat) (S : Sto) (f : Int × Int × Int) (m : List Pt × List Pt) (h1 : ∀ p ∈ m.1, Sml p.1 ∧ Sml p.2) (h2 : ∀ p ∈ m.2, Sml p.1 ∧ Sml p.2) (l1 : m.1.length ≤ 100000) (l2 : m.2.length ≤ 100000) : run G (n + 1) (.fn i__law_does_part) [dF f, dM m] S = .ok (.bl (partB f m)) S := by
  rw [run_df rfl rfl]
  obtain ⟨a, b, c⟩ := f
  simp [startE_def, ex_asg, ex_par2, ex_par3, ex_setix, ex_ex, ex_ret, ex_retn, ex_raise, ex_ifs, ex_pass, ex_nil, ex_cons, ev_var, ev_non, ev_bl, ev_int, ev_str, ev_g, ev_pr, ev_sl, ev_and, ev_or, ev_ifx, ev_chain, ev_call, ev_cv, ev_nil, ev_cons, evI_nil, evI_one, bT_v, bT_t, bT_u, bL_nil, bL_cons, wp_nil, wp_cons, lift_ok, lift_exc, bind_ok, bind_exc, cm_ok, ofM_some, endO_rt, endO_nx, endO_exc, bM_some, nB_some, p_add, p_sub, p_mul, p_fdiv, p_mod, p_pow, p_neg, p_not, p_eq, p_ne, p_lt, p_gt, p_le, p_ge, p_isN, p_notN, p_isB, p_notB, p_in, p_nin, p_tup, p_lst, p_newl, p_ixT, p_ixL, p_ixS, p_ixR, p_lenT, p_lenL, p_lenS, p_abs, p_min2, p_max2, p_sum, p_max1, p_min1, p_any, p_all, p_int, p_tupleL, p_tupleT, p_listL, p_listT, p_isi, p_rev, tr_non, tr_bl, tr_int, tr_tup, tr_lst, ty_non, ty_bl, ty_int, ty_str, ty_tup, ty_lst, it_seqL, it_seqT, im_zipL, im_zipT, im_enumL, im_enumT, sl_tup, sl_lst, add_ii, add_bi, add_ss, add_tt, add_ll, sub_ii, sub_bi, lt_ii, gt_ii, ge_ii, le_ii, line, eq_int, eq_K0, p_lenK, p_listK, foldK, sl_K, cutD_to, eq_bool, atI0, atI1, atI2, dF, dM]
  rw [ev_lcF (ds := [dK m.1]) (l := m.1) (f := dP) (g := fun _ => .int 1) (c := fun p => decide (c ≤ a * p.1 + b * p.2)) (by simp [startE_def, ex_asg, ex_par2, ex_par3, ex_setix, ex_ex, ex_ret, ex_retn, ex_raise, ex_ifs, ex_pass, ex_nil, ex_cons, ev_var, ev_non, ev_bl, ev_int, ev_str, ev_g, ev_pr, ev_sl, ev_and, ev_or, ev_ifx, ev_chain, ev_call, ev_cv, ev_nil, ev_cons, evI_nil, evI_one, bT_v, bT_t, bT_u, bL_nil, bL_cons, wp_nil, wp_cons, lift_ok, lift_exc, bind_ok, bind_exc, cm_ok, ofM_some, endO_rt, endO_nx, endO_exc, bM_some, nB_some, p_add, p_sub, p_mul, p_fdiv, p_mod, p_pow, p_neg, p_not, p_eq, p_ne, p_lt, p_gt, p_le, p_ge, p_isN, p_notN, p_isB, p_notB, p_in, p_nin, p_tup, p_lst, p_newl, p_ixT, p_ixL, p_ixS, p_ixR, p_lenT, p_lenL, p_lenS, p_abs, p_min2, p_max2, p_sum, p_max1, p_min1, p_any, p_all, p_int, p_tupleL, p_tupleT, p_listL, p_listT, p_isi, p_rev, tr_non, tr_bl, tr_int, tr_tup, tr_lst, ty_non, ty_bl, ty_int, ty_str, ty_tup, ty_lst, it_seqL, it_seqT, im_zipL, im_zipT, im_enumL, im_enumT, sl_tup, sl_lst, add_ii, add_bi, add_ss, add_tt, add_ll, sub_ii, sub_bi, lt_ii, gt_ii, ge_ii, le_ii, line, eq_int, eq_K0, p_lenK, p_listK, foldK, sl_K, cutD_to, eq_bool, atI0, atI1, atI2]) rfl (fun p hp => ⟨_, rfl, by
    simp [startE_def, ex_asg, ex_par2, ex_par3, ex_setix, ex_ex, ex_ret, ex_retn, ex_raise, ex_ifs, ex_pass, ex_nil, ex_cons, ev_var, ev_non, ev_bl, ev_int, ev_str, ev_g, ev_pr, ev_sl, ev_and, ev_or, ev_ifx, ev_chain, ev_call, ev_cv, ev_nil, ev_cons, evI_nil, evI_one, bT_v, bT_t, bT_u, bL_nil, bL_cons, wp_nil, wp_cons, lift_ok, lift_exc, bind_ok, bind_exc, cm_ok, ofM_some, endO_rt, endO_nx, endO_exc, bM_some, nB_some, p_add, p_sub, p_mul, p_fdiv, p_mod, p_pow, p_neg, p_not, p_eq, p_ne, p_lt, p_gt, p_le, p_ge, p_isN, p_notN, p_isB, p_notB, p_in, p_nin, p_tup, p_lst, p_newl, p_ixT, p_ixL, p_ixS, p_ixR, p_lenT, p_lenL, p_lenS, p_abs, p_min2, p_max2, p_sum, p_max1, p_min1, p_any, p_all, p_int, p_tupleL, p_tupleT, p_listL, p_listT, p_isi, p_rev, tr_non, tr_bl, tr_int, tr_tup, tr_lst, ty_non, ty_bl, ty_int, ty_str, ty_tup, ty_lst, it_seqL, it_seqT, im_zipL, im_zipT, im_enumL, im_enumT, sl_tup, sl_lst, add_ii, add_bi, add_ss, add_tt, add_ll, sub_ii, sub_bi, lt_ii, gt_ii, ge_ii, le_ii, line, eq_int, eq_K0, p_lenK, p_listK, foldK, sl_K, cutD_to, eq_bool, atI0, atI1, atI2, pMul_r (h1 p hp).1, pMul_r (h1 p hp).2], fun _ => by simp [startE_def, ex_asg, ex_par2, ex_par3, ex_setix, ex_ex, ex_ret, ex_retn, ex_raise, ex_ifs, ex_pass, ex_nil, ex_cons, ev_var, ev_non, ev_bl, ev_int, ev_str, ev_g, ev_pr, ev_sl, ev_and, ev_or, ev_ifx, ev_chain, ev_call, ev_cv, ev_nil, ev_cons, evI_nil, evI_one, bT_v, bT_t, bT_u, bL_nil, bL_cons, wp_nil, wp_cons, lift_ok, lift_exc, bind_ok, bind_exc, cm_ok, ofM_some, endO_rt, endO_nx, endO_exc, bM_some, nB_some, p_add, p_sub, p_mul, p_fdiv, p_mod, p_pow, p_neg, p_not, p_eq, p_ne, p_lt, p_gt, p_le, p_ge, p_isN, p_notN, p_isB, p_notB, p_in, p_nin, p_tup, p_lst, p_newl, p_ixT, p_ixL, p_ixS, p_ixR, p_lenT, p_lenL, p_lenS, p_abs, p_min2, p_max2, p_sum, p_max1, p_min1, p_any, p_all, p_int, p_tupleL, p_tupleT, p_listL, p_listT, p_isi, p_rev, tr_non, tr_bl, tr_int, tr_tup, tr_lst, ty_non, ty_bl, ty_int, ty_str, ty_tup, ty_lst, it_seqL, it_seqT, im_zipL, im_zipT, im_enumL, im_enumT, sl_tup, sl_lst, add_ii, add_bi, add_ss, add_tt, add_ll, sub_ii, sub_bi, lt_ii, gt_ii, ge_ii, le_ii, line, eq_int, eq_K0, p_lenK, p_listK, foldK, sl_K, cutD_to, eq_bool, atI0, atI1, atI2]⟩) l1]
  have e1 : ∀ l : List Pt, eqD S (.lst (l.map fun _ => .int 1)) (.lst []) = some l.isEmpty := fun l => by
    rw [eq_nilL S (n := 0) (goodL_iff.mpr fun x hx => by obtain ⟨_, _, rfl⟩ := List.mem_map.mp hx; rfl) (by omega), List.isEmpty_map]
  have fe : ∀ (l : List Pt) (f g : Pt → Bool), (∀ p, f p = !g p) → (l.filter f).isEmpty = l.all g := fun l f g h => by
    induction l with
    | nil => rfl
    | cons x l ih => cases hx : g x <;> simp [List.filter_cons, h, hx] <;> simpa [h] using ih
  have q1 := fe m.1 (fun p => decide (c ≤ a * p.1 + b * p.2)) (fun p => decide (a * p.1 + b * p.2 < c)) fun p => by rw [← decide_not]; simp
  have q2 := fe m.2 (fun p => decide (a * p.1 + b * p.2 ≤ c)) (fun p => decide (c < a * p.1 + b * p.2)) fun p => by rw [← decide_not]; simp
  simp only [startE_def, ex_asg, ex_par2, ex_par3, ex_setix, ex_ex, ex_ret, ex_retn, ex_raise, ex_ifs, ex_pass, ex_nil, ex_cons, ev_var, ev_non, ev_bl, ev_int, ev_str, ev_g, ev_pr, ev_sl, ev_and, ev_or, ev_ifx, ev_chain, ev_call, ev_cv, ev_nil, ev_cons, evI_nil, evI_one, bT_v, bT_t, bT_u, bL_nil, bL_cons, wp_nil, wp_cons, lift_ok, lift_exc, bind_ok, bind_exc, cm_ok, ofM_some, endO_rt, endO_nx, endO_exc, bM_some, nB_some, p_add, p_sub, p_mul, p_fdiv, p_mod, p_pow, p_neg, p_not, p_eq, p_ne, p_lt, p_gt, p_le, p_ge, p_isN, p_notN, p_isB, p_notB, p_in, p_nin, p_tup, p_lst, p_newl, p_ixT, p_ixL, p_ixS, p_ixR, p_lenT, p_lenL, p_lenS, p_abs, p_min2, p_max2, p_sum, p_max1, p_min1, p_any, p_all, p_int, p_tupleL, p_tupleT, p_listL, p_listT, p_isi, p_rev, tr_non, tr_bl, tr_int, tr_tup, tr_lst, ty_non, ty_bl, ty_int, ty_str, ty_tup, ty_lst, it_seqL, it_seqT, im_zipL, im_zipT, im_enumL, im_enumT, sl_tup, sl_lst, add_ii, add_bi, add_ss, add_tt, add_ll, sub_ii, sub_bi, lt_ii, gt_ii, ge_ii, le_ii, line, eq_int, eq_K0, p_lenK, p_listK, foldK, sl_K, cutD_to, eq_bool, atI0, atI1, atI2, e1, q1]
  cases e : m.1.all fun p => decide (a * p.1 + b * p.2 < c) with
  | false => simp [startE_def, ex_asg, ex_par2, ex_par3, ex_setix, ex_ex, ex_ret, ex_retn, ex_raise, ex_ifs, ex_pass, ex_nil, ex_cons, ev_var, ev_non, ev_bl, ev_int, ev_str, ev_g, ev_pr, ev_sl, ev_and, ev_or, ev_ifx, ev_chain, ev_call, ev_cv, ev_nil, ev_cons, evI_nil, evI_one, bT_v, bT_t, bT_u, bL_nil, bL_cons, wp_nil, wp_cons, lift_ok, lift_exc, bind_ok, bind_exc, cm_ok, ofM_some, endO_rt, endO_nx, endO_exc, bM_some, nB_some, p_add, p_sub, p_mul, p_fdiv, p_mod, p_pow, p_neg, p_not, p_eq, p_ne, p_lt, p_gt, p_le, p_ge, p_isN, p_notN, p_isB, p_notB, p_in, p_nin, p_tup, p_lst, p_newl, p_ixT, p_ixL, p_ixS, p_ixR, p_lenT, p_lenL, p_lenS, p_abs, p_min2, p_max2, p_sum, p_max1, p_min1, p_any, p_all, p_int, p_tupleL, p_tupleT, p_listL, p_listT, p_isi, p_rev, tr_non, tr_bl, tr_int, tr_tup, tr_lst, ty_non, ty_bl, ty_int, ty_str, ty_tup, ty_lst, it_seqL, it_seqT, im_zipL, im_zipT, im_enumL, im_enumT, sl_tup, sl_lst, add_ii, add_bi, add_ss, add_tt, add_ll, sub_ii, sub_bi, lt_ii, gt_ii, ge_ii, le_ii, line, eq_int, eq_K0, p_lenK, p_listK, foldK, sl_K, cutD_to, eq_bool, atI0, atI1, atI2, partB, e]
  | true =>
    simp [startE_def, ex_asg, ex_par2, ex_par3, ex_setix, ex_ex, ex_ret, ex_retn, ex_raise, ex_ifs, ex_pass, ex_nil, ex_cons, ev_var, ev_non, ev_bl, ev_int, ev_str, ev_g, ev_pr, ev_sl, ev_and, ev_or, ev_ifx, ev_chain, ev_call, ev_cv, ev_nil, ev_cons, evI_nil, evI_one, bT_v, bT_t, bT_u, bL_nil, bL_cons, wp_nil, wp_cons, lift_ok, lift_exc, bind_ok, bind_exc, cm_ok, ofM_some, endO_rt, endO_nx, endO_exc, bM_some, nB_some, p_add, p_sub, p_mul, p_fdiv, p_mod, p_pow, p_neg, p_not, p_eq, p_ne, p_lt, p_gt, p_le, p_ge, p_isN, p_notN, p_isB, p_notB, p_in, p_nin, p_tup, p_lst, p_newl, p_ixT, p_ixL, p_ixS, p_ixR, p_lenT, p_lenL, p_lenS, p_abs, p_min2, p_max2, p_sum, p_max1, p_min1, p_any, p_all, p_int, p_tupleL, p_tupleT, p_listL, p_listT, p_isi, p_rev, tr_non, tr_bl, tr_int, tr_tup, tr_lst, ty_non, ty_bl, ty_int, ty_str, ty_tup, ty_lst, it_seqL, it_seqT, im_zipL, im_zipT, im_enumL, im_enumT, sl_tup, sl_lst, add_ii, add_bi, add_ss, add_tt, add_ll, sub_ii, sub_bi, lt_ii, gt_ii, ge_ii, le_ii, line, eq_int, eq_K0, p_lenK, p_listK, foldK, sl_K, cutD_to, eq_bool, atI0, atI1, atI2, partB, e]
    rw [ev_lcF (ds := [dK m.2]) (l := m.2) (f := dP) (g := fun _ => .int 1) (c := fun p => decide (a * p.1 + b * p.2 ≤ c)) (by simp [startE_def, ex_asg, ex_par2, ex_par3, ex_setix, ex_ex, ex_ret, ex_retn, ex_raise, ex_ifs, ex_pass, ex_nil, ex_cons, ev_var, ev_non, ev_bl, ev_int, ev_str, ev_g, ev_pr, ev_sl, ev_and, ev_or, ev_ifx, ev_chain, ev_call, ev_cv, ev_nil, ev_cons, evI_nil, evI_one, bT_v, bT_t, bT_u, bL_nil, bL_cons, wp_nil, wp_cons, lift_ok, lift_exc, bind_ok, bind_exc, cm_ok, ofM_some, endO_rt, endO_nx, endO_exc, bM_some, nB_some, p_add, p_sub, p_mul, p_fdiv, p_mod, p_pow, p_neg, p_not, p_eq, p_ne, p_lt, p_gt, p_le, p_ge, p_isN, p_notN, p_isB, p_notB, p_in, p_nin, p_tup, p_lst, p_newl, p_ixT, p_ixL, p_ixS, p_ixR, p_lenT, p_lenL, p_lenS, p_abs, p_min2, p_max2, p_sum, p_max1, p_min1, p_any, p_all, p_int, p_tupleL, p_tupleT, p_listL, p_listT, p_isi, p_rev, tr_non, tr_bl, tr_int, tr_tup, tr_lst, ty_non, ty_bl, ty_int, ty_str, ty_tup, ty_lst, it_seqL, it_seqT, im_zipL, im_zipT, im_enumL, im_enumT, sl_tup, sl_lst, add_ii, add_bi, add_ss, add_tt, add_ll, sub_ii, sub_bi, lt_ii, gt_ii, ge_ii, le_ii, line, eq_int, eq_K0, p_lenK, p_listK, foldK, sl_K, cutD_to, eq_bool, atI0, atI1, atI2]) rfl (fun p hp => ⟨_, rfl, by
      simp [startE_def, ex_asg, ex_par2, ex_par3, ex_setix, ex_ex, ex_ret, ex_retn, ex_raise, ex_ifs, ex_pass, ex_nil, ex_cons, ev_var, ev_non, ev_bl, ev_int, ev_str, ev_g, ev_pr, ev_sl, ev_and, ev_or, ev_ifx, ev_chain, ev_call, ev_cv, ev_nil, ev_cons, evI_nil, evI_one, bT_v, bT_t, bT_u, bL_nil, bL_cons, wp_nil, wp_cons, lift_ok, lift_exc, bind_ok, bind_exc, cm_ok, ofM_some, endO_rt, endO_nx, endO_exc, bM_some, nB_some, p_add, p_sub, p_mul, p_fdiv, p_mod, p_pow, p_neg, p_not, p_eq, p_ne, p_lt, p_gt, p_le, p_ge, p_isN, p_notN, p_isB, p_notB, p_in, p_nin, p_tup, p_lst, p_newl, p_ixT, p_ixL, p_ixS, p_ixR, p_lenT, p_lenL, p_lenS, p_abs, p_min2, p_max2, p_sum, p_max1, p_min1, p_any, p_all, p_int, p_tupleL, p_tupleT, p_listL, p_listT, p_isi, p_rev, tr_non, tr_bl, tr_int, tr_tup, tr_lst, ty_non, ty_bl, ty_int, ty_str, ty_tup, ty_lst, it_seqL, it_seqT, im_zipL, im_zipT, im_enumL, im_enumT, sl_tup, sl_lst, add_ii, add_bi, add_ss, add_tt, add_ll, sub_ii, sub_bi, lt_ii, gt_ii, ge_ii, le_ii, line, eq_int, eq_K0, p_lenK, p_listK, foldK, sl_K, cutD_to, eq_bool, atI0, atI1, atI2, pMul_r (h2 p hp).1, pMul_r (h2 p hp).2], fun _ => by simp [startE_def, ex_asg, ex_par2, ex_par3, ex_setix, ex_ex, ex_ret, ex_retn, ex_raise, ex_ifs, ex_pass, ex_nil, ex_cons, ev_var, ev_non, ev_bl, ev_int, ev_str, ev_g, ev_pr, ev_sl, ev_and, ev_or, ev_ifx, ev_chain, ev_call, ev_cv, ev_nil, ev_cons, evI_nil, evI_one, bT_v, bT_t, bT_u, bL_nil, bL_cons, wp_nil, wp_cons, lift_ok, lift_exc, bind_ok, bind_exc, cm_ok, ofM_some, endO_rt, endO_nx, endO_exc, bM_some, nB_some, p_add, p_sub, p_mul, p_fdiv, p_mod, p_pow, p_neg, p_not, p_eq, p_ne, p_lt, p_gt, p_le, p_ge, p_isN, p_notN, p_isB, p_notB, p_in, p_nin, p_tup, p_lst, p_newl, p_ixT, p_ixL, p_ixS, p_ixR, p_lenT, p_lenL, p_lenS, p_abs, p_min2, p_max2, p_sum, p_max1, p_min1, p_any, p_all, p_int, p_tupleL, p_tupleT, p_listL, p_listT, p_isi, p_rev, tr_non, tr_bl, tr_int, tr_tup, tr_lst, ty_non, ty_bl, ty_int, ty_str, ty_tup, ty_lst, it_seqL, it_seqT, im_zipL, im_zipT, im_enumL, im_enumT, sl_tup, sl_lst, add_ii, add_bi, add_ss, add_tt, add_ll, sub_ii, sub_bi, lt_ii, gt_ii, ge_ii, le_ii, line, eq_int, eq_K0, p_lenK, p_listK, foldK, sl_K, cutD_to, eq_bool, atI0, atI1, atI2]⟩) l2]
    simp only [startE_def, ex_asg, ex_par2, ex_par3, ex_setix, ex_ex, ex_ret, ex_retn, ex_raise, ex_ifs, ex_pass, ex_nil, ex_cons, ev_var, ev_non, ev_bl, ev_int, ev_str, ev_g, ev_pr, ev_sl, ev_and, ev_or, ev_ifx, ev_chain, ev_call, ev_cv, ev_nil, ev_cons, evI_nil, evI_one, bT_v, bT_t, bT_u, bL_nil, bL_cons, wp_nil, wp_cons, lift_ok, lift_exc, bind_ok, bind_exc, cm_ok, ofM_some, endO_rt, endO_nx, endO_exc, bM_some, nB_some, p_add, p_sub, p_mul, p_fdiv, p_mod, p_pow, p_neg, p_not, p_eq, p_ne, p_lt, p_gt, p_le, p_ge, p_isN, p_notN, p_isB, p_notB, p_in, p_nin, p_tup, p_lst, p_newl, p_ixT, p_ixL, p_ixS, p_ixR, p_lenT, p_lenL, p_lenS, p_abs, p_min2, p_max2, p_sum, p_max1, p_min1, p_any, p_all, p_int, p_tupleL, p_tupleT, p_listL, p_listT, p_isi, p_rev, tr_non, tr_bl, tr_int, tr_tup, tr_lst, ty_non, ty_bl, ty_int, ty_str, ty_tup, ty_lst, it_seqL, it_seqT, im_zipL, im_zipT, im_enumL, im_enumT, sl_tup, sl_lst, add_ii, add_bi, add_ss, add_tt, add_ll, sub_ii, sub_bi, lt_ii, gt_ii, ge_ii, le_ii, line, eq_int, eq_K0, p_lenK, p_listK, foldK, sl_K, cutD_to, eq_bool, atI0, atI1, atI2, e1, q2]
end SF.Law

set_option maxHeartbeats 200000
set_option Elab.async false
set_option linter.all false
set_option maxRecDepth 100000
namespace SF.Law
open PySem SF SF.M
theorem r_parts (n : Nat) (S : Sto) (f : Int × Int × Int) (m : List Pt × List Pt) (hf : isFn (dF f) = true) (h1 : Kd 50 8 m.1) (h2 : Kd 50 8 m.2) : run G (n + 7) (.fn i_parts) [dF f, dM m] S = .ok (.bl (partB f m)) S := by
  rw [run_df rfl rfl]
  have hm : isMk (dM m) = true := by rw [show isMk (dM m) = (isKd (dK m.1) && isKd (dK m.2)) from rfl, h1.is, h2.is]; rfl
  have e1 := r_need_fence (n + 3) S (dF f) rfl
  rw [hf, if_pos rfl] at e1
  have e2 := r_need_marks n S (dM m) (good_dat _ _ (good_dM m))
  rw [hm, if_pos rfl] at e2
  have e3 := r_does_part (n + 4) S f m (fun p hp => by have := h1.rg p hp; exact ⟨by omega, by omega⟩) (fun p hp => by have := h2.rg p hp; exact ⟨by omega, by omega⟩) (by have := h1.len; omega) (by have := h2.len; omega)
  simp [startE_def, ex_asg, ex_par2, ex_par3, ex_setix, ex_ex, ex_ret, ex_retn, ex_raise, ex_ifs, ex_pass, ex_nil, ex_cons, ev_var, ev_non, ev_bl, ev_int, ev_str, ev_g, ev_pr, ev_sl, ev_and, ev_or, ev_ifx, ev_chain, ev_call, ev_cv, ev_nil, ev_cons, evI_nil, evI_one, bT_v, bT_t, bT_u, bL_nil, bL_cons, wp_nil, wp_cons, lift_ok, lift_exc, bind_ok, bind_exc, cm_ok, ofM_some, endO_rt, endO_nx, endO_exc, bM_some, nB_some, p_add, p_sub, p_mul, p_fdiv, p_mod, p_pow, p_neg, p_not, p_eq, p_ne, p_lt, p_gt, p_le, p_ge, p_isN, p_notN, p_isB, p_notB, p_in, p_nin, p_tup, p_lst, p_newl, p_ixT, p_ixL, p_ixS, p_ixR, p_lenT, p_lenL, p_lenS, p_abs, p_min2, p_max2, p_sum, p_max1, p_min1, p_any, p_all, p_int, p_tupleL, p_tupleT, p_listL, p_listT, p_isi, p_rev, tr_non, tr_bl, tr_int, tr_tup, tr_lst, ty_non, ty_bl, ty_int, ty_str, ty_tup, ty_lst, it_seqL, it_seqT, im_zipL, im_zipT, im_enumL, im_enumT, sl_tup, sl_lst, add_ii, add_bi, add_ss, add_tt, add_ll, sub_ii, sub_bi, lt_ii, gt_ii, ge_ii, le_ii, line, eq_int, eq_K0, p_lenK, p_listK, foldK, sl_K, cutD_to, eq_bool, atI0, atI1, atI2, e1, e2, e3]
def lawBody : List Sm := match d_law with
  | .df _ _ b => b
  | _ => []
def lawTail : List Sm := lawBody.drop 1
def ref1 : Sm := match lawBody with
  | (.for_ _ _ _ b) :: _ => b.getD 2 .pass
  | _ => .pass
def ref2 : Sm := match lawBody with
  | (.for_ _ _ _ b) :: _ => b.getD 3 .pass
  | _ => .pass
theorem tail_ok (x0 x1 x2 x3 x4 x5 x6 x7 x8 x9 x10 x11 x12 x13 x14 x15 x16 : Option D) : exL (run G 60) G.gl lawTail [x0, x1, x2, x3, x4, x5, x6, x7, x8, x9, x10, x11, x12, x13, x14, x15, x16] [] = .rt (.bl true) [] := by
  kernel_rfl
theorem ref1_ok (x0 x1 x2 x3 x4 x5 x6 x7 x8 x9 x10 x11 x12 x13 x14 x15 x16 : Option D) : ex (run G 60) G.gl ref1 [x0, x1, x2, x3, x4, x5, x6, x7, x8, x9, x10, x11, x12, x13, x14, x15, x16] [] = .nx [x0, x1, x2, x3, x4, x5, x6, x7, x8, x9, x10, x11, x12, x13, x14, x15, x16] [] := by
  kernel_rfl
theorem ref2_ok (x0 x1 x2 x3 x4 x5 x6 x7 x8 x9 x10 x11 x12 x13 x14 x15 x16 : Option D) : ex (run G 60) G.gl ref2 [x0, x1, x2, x3, x4, x5, x6, x7, x8, x9, x10, x11, x12, x13, x14, x15, x16] [] = .nx [x0, x1, x2, x3, x4, x5, x6, x7, x8, x9, x10, x11, x12, x13, x14, x15, x16] [] := by
  kernel_rfl
end SF.Law

set_option maxHeartbeats 200000
set_option Elab.async false
set_option linter.all false
set_option maxRecDepth 100000
namespace SF.Law
open PySem SF SF.M
/-- seven values, each spoilt from the one before -/
def loop8 : Sm := match lawBody with
  | (.for_ _ _ _ [_, .for_ _ _ _ b, _, _]) :: _ => (match b with
    | [_, _, _, _, _, .for_ _ _ _ [s]] => s
    | _ => .pass)
  | _ => .pass
theorem r_loop8 {S : Sto} {r : Nat} (v : Vat S r) (d : D) (hd : Sp 10 0 d) (x0 x1 x3 x4 x5 x6 x8 x9 x10 x11 x12 x13 x14 x15 x16 : Option D) :
    ∃ x7 y8 S', ex (run G 60) G.gl loop8 [x0, x1, some (.ref r), x3, x4, x5, x6, some d, x8, x9, x10, x11, x12, x13, x14, x15, x16] S = .nx [x0, x1, some (.ref r), x3, x4, x5, x6, x7, y8, x9, x10, x11, x12, x13, x14, x15, x16] S' ∧ Vat S' r := by
  unfold loop8 lawBody d_law
  simp only []
  rw [ex_for (ds := [.int 7]) (xs := rangeD 0 1 7) (S1 := S) (by simp [startE_def, ex_asg, ex_par2, ex_par3, ex_setix, ex_ex, ex_ret, ex_retn, ex_raise, ex_ifs, ex_pass, ex_nil, ex_cons, ev_var, ev_non, ev_bl, ev_int, ev_str, ev_g, ev_pr, ev_sl, ev_and, ev_or, ev_ifx, ev_chain, ev_call, ev_cv, ev_nil, ev_cons, evI_nil, evI_one, bT_v, bT_t, bT_u, bL_nil, bL_cons, wp_nil, wp_cons, lift_ok, lift_exc, bind_ok, bind_exc, cm_ok, ofM_some, endO_rt, endO_nx, endO_exc, bM_some, nB_some, p_add, p_sub, p_mul, p_fdiv, p_mod, p_pow, p_neg, p_not, p_eq, p_ne, p_lt, p_gt, p_le, p_ge, p_isN, p_notN, p_isB, p_notB, p_in, p_nin, p_tup, p_lst, p_newl, p_ixT, p_ixL, p_ixS, p_ixR, p_lenT, p_lenL, p_lenS, p_abs, p_min2, p_max2, p_sum, p_max1, p_min1, p_any, p_all, p_int, p_tupleL, p_tupleT, p_listL, p_listT, p_isi, p_rev, tr_non, tr_bl, tr_int, tr_tup, tr_lst, ty_non, ty_bl, ty_int, ty_str, ty_tup, ty_lst, it_seqL, it_seqT, im_zipL, im_zipT, im_enumL, im_enumT, sl_tup, sl_lst, add_ii, add_bi, add_ss, add_tt, add_ll, sub_ii, sub_bi, lt_ii, gt_ii, ge_ii, le_ii, line, eq_int, eq_K0, p_lenK, p_listK, foldK, sl_K, cutD_to, eq_bool, atI0, atI1, atI2]) (by rw [im_r1 ⟨by omega, by omega⟩]; rfl)]
  have h := rd_go (I := fun j ρ S => ∃ d x8, ρ = [x0, x1, some (.ref r), x3, x4, x5, x6, some d, x8, x9, x10, x11, x12, x13, x14, x15, x16] ∧ Sp (10 + j) j d ∧ Vat S r) (t := .v 8) (body := exL (run G 60) G.gl (match loop8 with
    | .for_ _ _ _ b => b
    | _ => [])) 7
    (fun j ρ S hj h' => by
      obtain ⟨d, x8, rfl, hd, v⟩ := h'
      obtain ⟨d', S', e, hd', v'⟩ := r_spoilt (10 + j) (48 - j) v d hd (by omega) (by omega)
      rw [show 48 - j + (10 + j) + 2 = 60 by omega] at e
      have e1 := r_is_marks 54 S d (good_dat _ _ hd.g)
      have e2 := r_lmarks 56 S d hd.g (by omega)
      have e3 := r_is_fence 57 S d (good_dat _ _ hd.g)
      have e4 := r_lfence 58 S d hd.g (by omega)
      refine ⟨_, rfl, _, S', by unfold loop8 lawBody d_law; simp [startE_def, ex_asg, ex_par2, ex_par3, ex_setix, ex_ex, ex_ret, ex_retn, ex_raise, ex_ifs, ex_pass, ex_nil, ex_cons, ev_var, ev_non, ev_bl, ev_int, ev_str, ev_g, ev_pr, ev_sl, ev_and, ev_or, ev_ifx, ev_chain, ev_call, ev_cv, ev_nil, ev_cons, evI_nil, evI_one, bT_v, bT_t, bT_u, bL_nil, bL_cons, wp_nil, wp_cons, lift_ok, lift_exc, bind_ok, bind_exc, cm_ok, ofM_some, endO_rt, endO_nx, endO_exc, bM_some, nB_some, p_add, p_sub, p_mul, p_fdiv, p_mod, p_pow, p_neg, p_not, p_eq, p_ne, p_lt, p_gt, p_le, p_ge, p_isN, p_notN, p_isB, p_notB, p_in, p_nin, p_tup, p_lst, p_newl, p_ixT, p_ixL, p_ixS, p_ixR, p_lenT, p_lenL, p_lenS, p_abs, p_min2, p_max2, p_sum, p_max1, p_min1, p_any, p_all, p_int, p_tupleL, p_tupleT, p_listL, p_listT, p_isi, p_rev, tr_non, tr_bl, tr_int, tr_tup, tr_lst, ty_non, ty_bl, ty_int, ty_str, ty_tup, ty_lst, it_seqL, it_seqT, im_zipL, im_zipT, im_enumL, im_enumT, sl_tup, sl_lst, add_ii, add_bi, add_ss, add_tt, add_ll, sub_ii, sub_bi, lt_ii, gt_ii, ge_ii, le_ii, line, eq_int, eq_K0, p_lenK, p_listK, foldK, sl_K, cutD_to, eq_bool, atI0, atI1, atI2, e, e1, e2, e3, e4, r_truly]; rfl, _, _, rfl, hd', v'⟩) [x0, x1, some (.ref r), x3, x4, x5, x6, some d, x8, x9, x10, x11, x12, x13, x14, x15, x16] S ⟨d, x8, rfl, hd, v⟩
  obtain ⟨ρ2, S2, e, d', x8', rfl, _, v2⟩ := h
  exact ⟨some d', x8', S2, e, v2⟩
end SF.Law

set_option maxHeartbeats 200000
set_option Elab.async false
set_option linter.all false
set_option maxRecDepth 100000
namespace SF.Law
open PySem SF SF.M
theorem sp_P {w : Int} {p : Pt} (h : (-w ≤ p.1 ∧ p.1 ≤ w) ∧ (-w ≤ p.2 ∧ p.2 ≤ w)) (hw : w ≤ 1000000000000000) : Sp 1 0 (dP p) := by
  refine Sp.tup 0 0 _ (by simp) fun x hx => ?_
  simp only [List.mem_cons, List.not_mem_nil, or_false] at hx
  rcases hx with rfl | rfl
  · exact Sp.int _ _ _ (by omega)
  · exact Sp.int _ _ _ (by omega)
theorem sp_K {w : Int} {n : Nat} {k : List Pt} (h : Kd w n k) (hw : w ≤ 1000000000000000) (hn : n ≤ 1000) : Sp 2 0 (dK k) := by
  refine Sp.tup 1 0 _ (by have := h.len; rw [List.length_map]; omega) fun x hx => ?_
  obtain ⟨p, hp, rfl⟩ := List.mem_map.mp hx
  exact sp_P (h.rg p hp) hw
theorem sp_M {m : List Pt × List Pt} (h1 : Kd 50 8 m.1) (h2 : Kd 50 8 m.2) : Sp 10 0 (dM m) := by
  refine (Sp.tup 2 0 _ (by simp) fun x hx => ?_).mono (by omega) (by omega)
  simp only [List.mem_cons, List.not_mem_nil, or_false] at hx
  rcases hx with rfl | rfl
  · exact sp_K h1 (by omega) (by omega)
  · exact sp_K h2 (by omega) (by omega)
theorem sp_F {f : Int × Int × Int} (h : isFn (dF f) = true) : Sp 10 0 (dF f) := by
  obtain ⟨a, b, c⟩ := f
  simp only [isFn, dF, isW, Bool.and_eq_true, decide_eq_true_eq] at h
  refine (Sp.tup 0 0 _ (by simp) fun x hx => ?_).mono (by omega) (by omega)
  simp only [List.mem_cons, List.not_mem_nil, or_false] at hx
  rcases hx with rfl | rfl | rfl
  · exact Sp.int _ _ _ (by omega)
  · exact Sp.int _ _ _ (by omega)
  · exact Sp.int _ _ _ (by omega)
/-- one turn -/
def turnB : List Sm := match lawBody with
  | (.for_ _ _ _ [_, .for_ _ _ _ b, _, _]) :: _ => b
  | _ => []
theorem r_turn {S : Sto} {r : Nat} (v : Vat S r) (x0 x1 x3 x4 x5 x6 x7 x8 x9 x10 x11 x12 x13 x14 x15 x16 : Option D) :
    ∃ y4 y5 y6 y7 y8 S', exL (run G 60) G.gl turnB [x0, x1, some (.ref r), x3, x4, x5, x6, x7, x8, x9, x10, x11, x12, x13, x14, x15, x16] S = .nx [x0, x1, some (.ref r), x3, y4, y5, y6, y7, y8, x9, x10, x11, x12, x13, x14, x15, x16] S' ∧ Vat S' r := by
  obtain ⟨m, S1, e1, h1, h2, v1⟩ := r_marks 56 v 8 (by omega)
  have e1 : run G 60 (.fn i__law_marks) [.ref r, .int 8] S = .ok (dM m) S1 := e1
  obtain ⟨d, S2, e2, hd, v2⟩ := r_someL 58 v1 [.int 3, .int 50, .int 1000000000] (by simp) (by simp)
  obtain ⟨w, rfl, w3, w9⟩ : ∃ wd : Int, d = .int wd ∧ 3 ≤ wd ∧ wd ≤ 1000000000 := by
    simp only [List.mem_cons, List.not_mem_nil, or_false] at hd
    rcases hd with rfl | rfl | rfl <;> exact ⟨_, rfl, by omega, by omega⟩
  obtain ⟨a, S3, e3, a0, a1, v3⟩ := r_under 59 v2 (m := 2 * w + 1) (by omega) (by omega)
  obtain ⟨b, S4, e4, b0, b1, v4⟩ := r_under 59 v3 (m := 2 * w + 1) (by omega) (by omega)
  obtain ⟨c, S5, e5, c0, c1, v5⟩ := r_under 59 v4 (m := 9 * w) (by omega) (by omega)
  obtain ⟨f, ef, hf⟩ : ∃ f : Int × Int × Int, (if decide ((a - w, b - w) = ((0, 0) : Pt)) = false then D.tup [.int (a - w), .int (b - w), .int (c - 4 * w)] else .tup [.int 1, .int 0, .int 0]) = dF f ∧ isFn (dF f) = true := by
    by_cases h : a - w = 0 ∧ b - w = 0
    · refine ⟨(1, 0, 0), by rw [h.1, h.2]; rfl, by decide⟩
    · refine ⟨(a - w, b - w, c - 4 * w), ?_, ?_⟩
      · rw [if_pos]
        · rfl
        · apply decide_eq_false
          intro z
          injection z with z1 z2
          exact h ⟨z1, z2⟩
      · simp only [isFn, dF, isW, Bool.and_eq_true, decide_eq_true_eq, Bool.not_eq_true', Bool.and_eq_false_iff, beq_eq_false_iff_ne]
        omega
  have e6 := r_parts 53 S5 f m hf h1 h2
  have e7 := r_lpart 59 S5 f m (fun p hp => by have := h1.rg p hp; exact ⟨by omega, by omega⟩) (fun p hp => by have := h2.rg p hp; exact ⟨by omega, by omega⟩) (by have := h1.len; omega) (by have := h2.len; omega)
  obtain ⟨y7, y8, S6, e8, v6⟩ := r_loop8 v5 (dM m) (sp_M h1 h2) x0 x1 x3 (some (dM m)) (some (.int w)) (some (dF f)) x8 x9 x10 x11 x12 x13 x14 x15 x16
  obtain ⟨z7, z8, S7, e9, v7⟩ := r_loop8 v6 (dF f) (sp_F hf) x0 x1 x3 (some (dM m)) (some (.int w)) (some (dF f)) y8 x9 x10 x11 x12 x13 x14 x15 x16
  refine ⟨some (dM m), some (.int w), some (dF f), z7, z8, S7, ?_, v7⟩
  have eq2 : eqD S5 (.tup [.int (a - w), .int (b - w)]) (.tup [.int 0, .int 0]) = some (decide ((a - w, b - w) = ((0, 0) : Pt))) := eq_PP S5 (a - w, b - w) (0, 0)
  have ec : cutD [D.int (a - w), D.int (b - w), D.int (c - 4 * w)] none (some 2) = [.int (a - w), .int (b - w)] := rfl
  unfold loop8 lawBody d_law at e8 e9
  simp only [] at e8 e9
  unfold turnB lawBody d_law
  simp only []
  have fin : ∀ x7, exL (run G 60) G.gl (turnB.drop 4) [x0, x1, some (.ref r), x3, some (dM m), some (.int w), some (dF f), x7, x8, x9, x10, x11, x12, x13, x14, x15, x16] S5 = .nx [x0, x1, some (.ref r), x3, some (dM m), some (.int w), some (dF f), z7, z8, x9, x10, x11, x12, x13, x14, x15, x16] S7 := fun x7 => by
    unfold turnB lawBody d_law
    simp [startE_def, ex_asg, ex_par2, ex_par3, ex_setix, ex_ex, ex_ret, ex_retn, ex_raise, ex_ifs, ex_pass, ex_nil, ex_cons, ev_var, ev_non, ev_bl, ev_int, ev_str, ev_g, ev_pr, ev_sl, ev_and, ev_or, ev_ifx, ev_chain, ev_call, ev_cv, ev_nil, ev_cons, evI_nil, evI_one, bT_v, bT_t, bT_u, bL_nil, bL_cons, wp_nil, wp_cons, lift_ok, lift_exc, bind_ok, bind_exc, cm_ok, ofM_some, endO_rt, endO_nx, endO_exc, bM_some, nB_some, p_add, p_sub, p_mul, p_fdiv, p_mod, p_pow, p_neg, p_not, p_eq, p_ne, p_lt, p_gt, p_le, p_ge, p_isN, p_notN, p_isB, p_notB, p_in, p_nin, p_tup, p_lst, p_newl, p_ixT, p_ixL, p_ixS, p_ixR, p_lenT, p_lenL, p_lenS, p_abs, p_min2, p_max2, p_sum, p_max1, p_min1, p_any, p_all, p_int, p_tupleL, p_tupleT, p_listL, p_listT, p_isi, p_rev, tr_non, tr_bl, tr_int, tr_tup, tr_lst, ty_non, ty_bl, ty_int, ty_str, ty_tup, ty_lst, it_seqL, it_seqT, im_zipL, im_zipT, im_enumL, im_enumT, sl_tup, sl_lst, add_ii, add_bi, add_ss, add_tt, add_ll, sub_ii, sub_bi, lt_ii, gt_ii, ge_ii, le_ii, line, eq_int, eq_K0, p_lenK, p_listK, foldK, sl_K, cutD_to, eq_bool, atI0, atI1, atI2, e6, e7, r_truly]
    rw [ex_for (ds := [.tup [dM m, dF f]]) (xs := [dM m, dF f]) (S1 := S5) (by simp [startE_def, ex_asg, ex_par2, ex_par3, ex_setix, ex_ex, ex_ret, ex_retn, ex_raise, ex_ifs, ex_pass, ex_nil, ex_cons, ev_var, ev_non, ev_bl, ev_int, ev_str, ev_g, ev_pr, ev_sl, ev_and, ev_or, ev_ifx, ev_chain, ev_call, ev_cv, ev_nil, ev_cons, evI_nil, evI_one, bT_v, bT_t, bT_u, bL_nil, bL_cons, wp_nil, wp_cons, lift_ok, lift_exc, bind_ok, bind_exc, cm_ok, ofM_some, endO_rt, endO_nx, endO_exc, bM_some, nB_some, p_add, p_sub, p_mul, p_fdiv, p_mod, p_pow, p_neg, p_not, p_eq, p_ne, p_lt, p_gt, p_le, p_ge, p_isN, p_notN, p_isB, p_notB, p_in, p_nin, p_tup, p_lst, p_newl, p_ixT, p_ixL, p_ixS, p_ixR, p_lenT, p_lenL, p_lenS, p_abs, p_min2, p_max2, p_sum, p_max1, p_min1, p_any, p_all, p_int, p_tupleL, p_tupleT, p_listL, p_listT, p_isi, p_rev, tr_non, tr_bl, tr_int, tr_tup, tr_lst, ty_non, ty_bl, ty_int, ty_str, ty_tup, ty_lst, it_seqL, it_seqT, im_zipL, im_zipT, im_enumL, im_enumT, sl_tup, sl_lst, add_ii, add_bi, add_ss, add_tt, add_ll, sub_ii, sub_bi, lt_ii, gt_ii, ge_ii, le_ii, line, eq_int, eq_K0, p_lenK, p_listK, foldK, sl_K, cutD_to, eq_bool, atI0, atI1, atI2]) rfl]
    simp [forLoop, bT_v, ex_cons, ex_nil, e8, e9]
  unfold turnB lawBody d_law at fin
  simp only [List.drop] at fin
  refine ex_step (ρ1 := [x0, x1, some (.ref r), x3, some (dM m), x5, x6, x7, x8, x9, x10, x11, x12, x13, x14, x15, x16]) (S1 := S1) (by simp [startE_def, ex_asg, ex_par2, ex_par3, ex_setix, ex_ex, ex_ret, ex_retn, ex_raise, ex_ifs, ex_pass, ex_nil, ex_cons, ev_var, ev_non, ev_bl, ev_int, ev_str, ev_g, ev_pr, ev_sl, ev_and, ev_or, ev_ifx, ev_chain, ev_call, ev_cv, ev_nil, ev_cons, evI_nil, evI_one, bT_v, bT_t, bT_u, bL_nil, bL_cons, wp_nil, wp_cons, lift_ok, lift_exc, bind_ok, bind_exc, cm_ok, ofM_some, endO_rt, endO_nx, endO_exc, bM_some, nB_some, p_add, p_sub, p_mul, p_fdiv, p_mod, p_pow, p_neg, p_not, p_eq, p_ne, p_lt, p_gt, p_le, p_ge, p_isN, p_notN, p_isB, p_notB, p_in, p_nin, p_tup, p_lst, p_newl, p_ixT, p_ixL, p_ixS, p_ixR, p_lenT, p_lenL, p_lenS, p_abs, p_min2, p_max2, p_sum, p_max1, p_min1, p_any, p_all, p_int, p_tupleL, p_tupleT, p_listL, p_listT, p_isi, p_rev, tr_non, tr_bl, tr_int, tr_tup, tr_lst, ty_non, ty_bl, ty_int, ty_str, ty_tup, ty_lst, it_seqL, it_seqT, im_zipL, im_zipT, im_enumL, im_enumT, sl_tup, sl_lst, add_ii, add_bi, add_ss, add_tt, add_ll, sub_ii, sub_bi, lt_ii, gt_ii, ge_ii, le_ii, line, eq_int, eq_K0, p_lenK, p_listK, foldK, sl_K, cutD_to, eq_bool, atI0, atI1, atI2, e1]) ?_
  refine ex_step (ρ1 := [x0, x1, some (.ref r), x3, some (dM m), some (.int w), x6, x7, x8, x9, x10, x11, x12, x13, x14, x15, x16]) (S1 := S2) (by simp [startE_def, ex_asg, ex_par2, ex_par3, ex_setix, ex_ex, ex_ret, ex_retn, ex_raise, ex_ifs, ex_pass, ex_nil, ex_cons, ev_var, ev_non, ev_bl, ev_int, ev_str, ev_g, ev_pr, ev_sl, ev_and, ev_or, ev_ifx, ev_chain, ev_call, ev_cv, ev_nil, ev_cons, evI_nil, evI_one, bT_v, bT_t, bT_u, bL_nil, bL_cons, wp_nil, wp_cons, lift_ok, lift_exc, bind_ok, bind_exc, cm_ok, ofM_some, endO_rt, endO_nx, endO_exc, bM_some, nB_some, p_add, p_sub, p_mul, p_fdiv, p_mod, p_pow, p_neg, p_not, p_eq, p_ne, p_lt, p_gt, p_le, p_ge, p_isN, p_notN, p_isB, p_notB, p_in, p_nin, p_tup, p_lst, p_newl, p_ixT, p_ixL, p_ixS, p_ixR, p_lenT, p_lenL, p_lenS, p_abs, p_min2, p_max2, p_sum, p_max1, p_min1, p_any, p_all, p_int, p_tupleL, p_tupleT, p_listL, p_listT, p_isi, p_rev, tr_non, tr_bl, tr_int, tr_tup, tr_lst, ty_non, ty_bl, ty_int, ty_str, ty_tup, ty_lst, it_seqL, it_seqT, im_zipL, im_zipT, im_enumL, im_enumT, sl_tup, sl_lst, add_ii, add_bi, add_ss, add_tt, add_ll, sub_ii, sub_bi, lt_ii, gt_ii, ge_ii, le_ii, line, eq_int, eq_K0, p_lenK, p_listK, foldK, sl_K, cutD_to, eq_bool, atI0, atI1, atI2, e2, pPow]) ?_
  refine ex_step (ρ1 := [x0, x1, some (.ref r), x3, some (dM m), some (.int w), some (.tup [.int (a - w), .int (b - w), .int (c - 4 * w)]), x7, x8, x9, x10, x11, x12, x13, x14, x15, x16]) (S1 := S5) (by simp [startE_def, ex_asg, ex_par2, ex_par3, ex_setix, ex_ex, ex_ret, ex_retn, ex_raise, ex_ifs, ex_pass, ex_nil, ex_cons, ev_var, ev_non, ev_bl, ev_int, ev_str, ev_g, ev_pr, ev_sl, ev_and, ev_or, ev_ifx, ev_chain, ev_call, ev_cv, ev_nil, ev_cons, evI_nil, evI_one, bT_v, bT_t, bT_u, bL_nil, bL_cons, wp_nil, wp_cons, lift_ok, lift_exc, bind_ok, bind_exc, cm_ok, ofM_some, endO_rt, endO_nx, endO_exc, bM_some, nB_some, p_add, p_sub, p_mul, p_fdiv, p_mod, p_pow, p_neg, p_not, p_eq, p_ne, p_lt, p_gt, p_le, p_ge, p_isN, p_notN, p_isB, p_notB, p_in, p_nin, p_tup, p_lst, p_newl, p_ixT, p_ixL, p_ixS, p_ixR, p_lenT, p_lenL, p_lenS, p_abs, p_min2, p_max2, p_sum, p_max1, p_min1, p_any, p_all, p_int, p_tupleL, p_tupleT, p_listL, p_listT, p_isi, p_rev, tr_non, tr_bl, tr_int, tr_tup, tr_lst, ty_non, ty_bl, ty_int, ty_str, ty_tup, ty_lst, it_seqL, it_seqT, im_zipL, im_zipT, im_enumL, im_enumT, sl_tup, sl_lst, add_ii, add_bi, add_ss, add_tt, add_ll, sub_ii, sub_bi, lt_ii, gt_ii, ge_ii, le_ii, line, eq_int, eq_K0, p_lenK, p_listK, foldK, sl_K, cutD_to, eq_bool, atI0, atI1, atI2, e3, e4, e5, pMul_l]) ?_
  refine ex_step (ρ1 := [x0, x1, some (.ref r), x3, some (dM m), some (.int w), some (dF f), x7, x8, x9, x10, x11, x12, x13, x14, x15, x16]) (S1 := S5) ?_ (fin x7)
  cases hq : decide ((a - w, b - w) = ((0, 0) : Pt)) with
  | true =>
    rw [hq] at ef eq2
    rw [← ef]
    simp [startE_def, ex_asg, ex_par2, ex_par3, ex_setix, ex_ex, ex_ret, ex_retn, ex_raise, ex_ifs, ex_pass, ex_nil, ex_cons, ev_var, ev_non, ev_bl, ev_int, ev_str, ev_g, ev_pr, ev_sl, ev_and, ev_or, ev_ifx, ev_chain, ev_call, ev_cv, ev_nil, ev_cons, evI_nil, evI_one, bT_v, bT_t, bT_u, bL_nil, bL_cons, wp_nil, wp_cons, lift_ok, lift_exc, bind_ok, bind_exc, cm_ok, ofM_some, endO_rt, endO_nx, endO_exc, bM_some, nB_some, p_add, p_sub, p_mul, p_fdiv, p_mod, p_pow, p_neg, p_not, p_eq, p_ne, p_lt, p_gt, p_le, p_ge, p_isN, p_notN, p_isB, p_notB, p_in, p_nin, p_tup, p_lst, p_newl, p_ixT, p_ixL, p_ixS, p_ixR, p_lenT, p_lenL, p_lenS, p_abs, p_min2, p_max2, p_sum, p_max1, p_min1, p_any, p_all, p_int, p_tupleL, p_tupleT, p_listL, p_listT, p_isi, p_rev, tr_non, tr_bl, tr_int, tr_tup, tr_lst, ty_non, ty_bl, ty_int, ty_str, ty_tup, ty_lst, it_seqL, it_seqT, im_zipL, im_zipT, im_enumL, im_enumT, sl_tup, sl_lst, add_ii, add_bi, add_ss, add_tt, add_ll, sub_ii, sub_bi, lt_ii, gt_ii, ge_ii, le_ii, line, eq_int, eq_K0, p_lenK, p_listK, foldK, sl_K, cutD_to, eq_bool, atI0, atI1, atI2, ec, eq2]
  | false =>
    rw [hq] at ef eq2
    rw [← ef]
    simp [startE_def, ex_asg, ex_par2, ex_par3, ex_setix, ex_ex, ex_ret, ex_retn, ex_raise, ex_ifs, ex_pass, ex_nil, ex_cons, ev_var, ev_non, ev_bl, ev_int, ev_str, ev_g, ev_pr, ev_sl, ev_and, ev_or, ev_ifx, ev_chain, ev_call, ev_cv, ev_nil, ev_cons, evI_nil, evI_one, bT_v, bT_t, bT_u, bL_nil, bL_cons, wp_nil, wp_cons, lift_ok, lift_exc, bind_ok, bind_exc, cm_ok, ofM_some, endO_rt, endO_nx, endO_exc, bM_some, nB_some, p_add, p_sub, p_mul, p_fdiv, p_mod, p_pow, p_neg, p_not, p_eq, p_ne, p_lt, p_gt, p_le, p_ge, p_isN, p_notN, p_isB, p_notB, p_in, p_nin, p_tup, p_lst, p_newl, p_ixT, p_ixL, p_ixS, p_ixR, p_lenT, p_lenL, p_lenS, p_abs, p_min2, p_max2, p_sum, p_max1, p_min1, p_any, p_all, p_int, p_tupleL, p_tupleT, p_listL, p_listT, p_isi, p_rev, tr_non, tr_bl, tr_int, tr_tup, tr_lst, ty_non, ty_bl, ty_int, ty_str, ty_tup, ty_lst, it_seqL, it_seqT, im_zipL, im_zipT, im_enumL, im_enumT, sl_tup, sl_lst, add_ii, add_bi, add_ss, add_tt, add_ll, sub_ii, sub_bi, lt_ii, gt_ii, ge_ii, le_ii, line, eq_int, eq_K0, p_lenK, p_listK, foldK, sl_K, cutD_to, eq_bool, atI0, atI1, atI2, ec, eq2]
theorem r_turns {S : Sto} {r : Nat} (v : Vat S r) (x0 x1 x3 x4 x5 x6 x7 x8 x9 x10 x11 x12 x13 x14 x15 x16 : Option D) :
    ∃ y3 y4 y5 y6 y7 y8 S', ex (run G 60) G.gl (.for_ (.v 3) .r1 [.int 4] turnB) [x0, x1, some (.ref r), x3, x4, x5, x6, x7, x8, x9, x10, x11, x12, x13, x14, x15, x16] S = .nx [x0, x1, some (.ref r), y3, y4, y5, y6, y7, y8, x9, x10, x11, x12, x13, x14, x15, x16] S' ∧ Vat S' r := by
  have h := rd_go (I := fun j ρ S => ∃ x3 x4 x5 x6 x7 x8, ρ = [x0, x1, some (.ref r), x3, x4, x5, x6, x7, x8, x9, x10, x11, x12, x13, x14, x15, x16] ∧ Vat S r) (t := .v 3) (body := exL (run G 60) G.gl turnB) 4
    (fun j ρ S hj h' => by
      obtain ⟨x3, x4, x5, x6, x7, x8, rfl, v⟩ := h'
      obtain ⟨y4, y5, y6, y7, y8, S', e, v'⟩ := r_turn v x0 x1 (some (.int j)) x4 x5 x6 x7 x8 x9 x10 x11 x12 x13 x14 x15 x16
      exact ⟨_, rfl, _, S', e, _, _, _, _, _, _, rfl, v'⟩) [x0, x1, some (.ref r), x3, x4, x5, x6, x7, x8, x9, x10, x11, x12, x13, x14, x15, x16] S ⟨x3, x4, x5, x6, x7, x8, rfl, v⟩
  obtain ⟨ρ2, S2, e, y3, y4, y5, y6, y7, y8, rfl, v2⟩ := h
  refine ⟨y3, y4, y5, y6, y7, y8, S2, ?_, v2⟩
  rw [ex_for (ds := [.int 4]) (xs := rangeD 0 1 4) (S1 := S) (by simp [startE_def, ex_asg, ex_par2, ex_par3, ex_setix, ex_ex, ex_ret, ex_retn, ex_raise, ex_ifs, ex_pass, ex_nil, ex_cons, ev_var, ev_non, ev_bl, ev_int, ev_str, ev_g, ev_pr, ev_sl, ev_and, ev_or, ev_ifx, ev_chain, ev_call, ev_cv, ev_nil, ev_cons, evI_nil, evI_one, bT_v, bT_t, bT_u, bL_nil, bL_cons, wp_nil, wp_cons, lift_ok, lift_exc, bind_ok, bind_exc, cm_ok, ofM_some, endO_rt, endO_nx, endO_exc, bM_some, nB_some, p_add, p_sub, p_mul, p_fdiv, p_mod, p_pow, p_neg, p_not, p_eq, p_ne, p_lt, p_gt, p_le, p_ge, p_isN, p_notN, p_isB, p_notB, p_in, p_nin, p_tup, p_lst, p_newl, p_ixT, p_ixL, p_ixS, p_ixR, p_lenT, p_lenL, p_lenS, p_abs, p_min2, p_max2, p_sum, p_max1, p_min1, p_any, p_all, p_int, p_tupleL, p_tupleT, p_listL, p_listT, p_isi, p_rev, tr_non, tr_bl, tr_int, tr_tup, tr_lst, ty_non, ty_bl, ty_int, ty_str, ty_tup, ty_lst, it_seqL, it_seqT, im_zipL, im_zipT, im_enumL, im_enumT, sl_tup, sl_lst, add_ii, add_bi, add_ss, add_tt, add_ll, sub_ii, sub_bi, lt_ii, gt_ii, ge_ii, le_ii, line, eq_int, eq_K0, p_lenK, p_listK, foldK, sl_K, cutD_to, eq_bool, atI0, atI1, atI2]) (by rw [im_r1 ⟨by omega, by omega⟩]; rfl)]
  exact e
theorem main (ns : List Int) (hl : ns.length ≤ 63) : ∃ S, run G 61 (.fn i_law) [.scr ns] [] = .ok (.bl true) S := by
  obtain ⟨N, hN, hN2⟩ : ∃ N : Nat, (if (if (ns.length : Int) < 12 then (ns.length : Int) else 12) > 5 then (if (ns.length : Int) < 12 then (ns.length : Int) else 12) else 5) = (N : Int) ∧ N ≤ 12 := by
    by_cases h : (ns.length : Int) < 12
    · rw [if_pos h]
      by_cases h5 : (ns.length : Int) > 5
      · exact ⟨ns.length, by rw [if_pos h5], by omega⟩
      · exact ⟨5, by rw [if_neg h5]; rfl, by omega⟩
    · exact ⟨12, by rw [if_neg h]; rfl, by omega⟩
  have h := rd_go (I := fun j ρ S => ∃ x1 x2 x3 x4 x5 x6 x7 x8 x9 x10 x11 x12 x13 x14 x15 x16, ρ = [some (.scr ns), x1, x2, x3, x4, x5, x6, x7, x8, x9, x10, x11, x12, x13, x14, x15, x16] ∧ plainS S = true) (t := .v 1) (body := exL (run G 60) G.gl (match lawBody with
    | (.for_ _ _ _ b) :: _ => b
    | _ => [])) N
    (fun j ρ S hj h' => by
      obtain ⟨x1, x2, x3, x4, x5, x6, x7, x8, x9, x10, x11, x12, x13, x14, x15, x16, rfl, hp⟩ := h'
      obtain ⟨S1, e1, v1⟩ := r_vat 59 (S := S) ns j (by omega) hp (by omega)
      obtain ⟨y3, y4, y5, y6, y7, y8, S2, e2, v2⟩ := r_turns v1 (some (.scr ns)) (some (.int j)) x3 x4 x5 x6 x7 x8 x9 x10 x11 x12 x13 x14 x15 x16
      have e3 := ex_any (ref1_ok (some (.scr ns)) (some (.int j)) (some (.ref S.length)) y3 y4 y5 y6 y7 y8 x9 x10 x11 x12 x13 x14 x15 x16) v2.pl
      have e4 := ex_any (ref2_ok (some (.scr ns)) (some (.int j)) (some (.ref S.length)) y3 y4 y5 y6 y7 y8 x9 x10 x11 x12 x13 x14 x15 x16) v2.pl
      refine ⟨_, rfl, _, S2, ?_, some (.int j), some (.ref S.length), y3, y4, y5, y6, y7, y8, x9, x10, x11, x12, x13, x14, x15, x16, rfl, v2.pl⟩
      refine ex_step (ρ1 := [some (.scr ns), some (.int j), some (.ref S.length), x3, x4, x5, x6, x7, x8, x9, x10, x11, x12, x13, x14, x15, x16]) (S1 := S1) (by simp [startE_def, ex_asg, ex_par2, ex_par3, ex_setix, ex_ex, ex_ret, ex_retn, ex_raise, ex_ifs, ex_pass, ex_nil, ex_cons, ev_var, ev_non, ev_bl, ev_int, ev_str, ev_g, ev_pr, ev_sl, ev_and, ev_or, ev_ifx, ev_chain, ev_call, ev_cv, ev_nil, ev_cons, evI_nil, evI_one, bT_v, bT_t, bT_u, bL_nil, bL_cons, wp_nil, wp_cons, lift_ok, lift_exc, bind_ok, bind_exc, cm_ok, ofM_some, endO_rt, endO_nx, endO_exc, bM_some, nB_some, p_add, p_sub, p_mul, p_fdiv, p_mod, p_pow, p_neg, p_not, p_eq, p_ne, p_lt, p_gt, p_le, p_ge, p_isN, p_notN, p_isB, p_notB, p_in, p_nin, p_tup, p_lst, p_newl, p_ixT, p_ixL, p_ixS, p_ixR, p_lenT, p_lenL, p_lenS, p_abs, p_min2, p_max2, p_sum, p_max1, p_min1, p_any, p_all, p_int, p_tupleL, p_tupleT, p_listL, p_listT, p_isi, p_rev, tr_non, tr_bl, tr_int, tr_tup, tr_lst, ty_non, ty_bl, ty_int, ty_str, ty_tup, ty_lst, it_seqL, it_seqT, im_zipL, im_zipT, im_enumL, im_enumT, sl_tup, sl_lst, add_ii, add_bi, add_ss, add_tt, add_ll, sub_ii, sub_bi, lt_ii, gt_ii, ge_ii, le_ii, line, eq_int, eq_K0, p_lenK, p_listK, foldK, sl_K, cutD_to, eq_bool, atI0, atI1, atI2, e1]) ?_
      refine ex_step e2 ?_
      refine ex_step e3 ?_
      refine ex_step e4 ?_
      rw [ex_nil]) [some (.scr ns), none, none, none, none, none, none, none, none, none, none, none, none, none, none, none, none] [] ⟨_, _, _, _, _, _, _, _, _, _, _, _, _, _, _, _, rfl, rfl⟩
  obtain ⟨ρ2, S2, e, x1, x2, x3, x4, x5, x6, x7, x8, x9, x10, x11, x12, x13, x14, x15, x16, rfl, hp⟩ := h
  refine ⟨S2, ?_⟩
  rw [run_df rfl rfl]
  have e5 := exL_any (tail_ok (some (.scr ns)) x1 x2 x3 x4 x5 x6 x7 x8 x9 x10 x11 x12 x13 x14 x15 x16) hp
  have e6 : exL (run G 60) G.gl lawBody [some (.scr ns), none, none, none, none, none, none, none, none, none, none, none, none, none, none, none, none] [] = .rt (.bl true) S2 := by
    refine ex_step (ρ1 := _) (S1 := S2) (?_ : ex (run G 60) G.gl (.for_ (.v 1) .r1 [(.pr .max2 [(.int 5), (.pr .min2 [(.int 12), (.pr .len [(.var 0)])])])] (match lawBody with
      | (.for_ _ _ _ b) :: _ => b
      | _ => [])) _ _ = _) e5
    rw [ex_for (ds := [.int N]) (xs := rangeD 0 1 N) (S1 := []) ?_ (by rw [im_r1 ⟨by omega, by omega⟩]; rfl)]
    · exact e
    · simp [startE_def, ex_asg, ex_par2, ex_par3, ex_setix, ex_ex, ex_ret, ex_retn, ex_raise, ex_ifs, ex_pass, ex_nil, ex_cons, ev_var, ev_non, ev_bl, ev_int, ev_str, ev_g, ev_pr, ev_sl, ev_and, ev_or, ev_ifx, ev_chain, ev_call, ev_cv, ev_nil, ev_cons, evI_nil, evI_one, bT_v, bT_t, bT_u, bL_nil, bL_cons, wp_nil, wp_cons, lift_ok, lift_exc, bind_ok, bind_exc, cm_ok, ofM_some, endO_rt, endO_nx, endO_exc, bM_some, nB_some, p_add, p_sub, p_mul, p_fdiv, p_mod, p_pow, p_neg, p_not, p_eq, p_ne, p_lt, p_gt, p_le, p_ge, p_isN, p_notN, p_isB, p_notB, p_in, p_nin, p_tup, p_lst, p_newl, p_ixT, p_ixL, p_ixS, p_ixR, p_lenT, p_lenL, p_lenS, p_abs, p_min2, p_max2, p_sum, p_max1, p_min1, p_any, p_all, p_int, p_tupleL, p_tupleT, p_listL, p_listT, p_isi, p_rev, tr_non, tr_bl, tr_int, tr_tup, tr_lst, ty_non, ty_bl, ty_int, ty_str, ty_tup, ty_lst, it_seqL, it_seqT, im_zipL, im_zipT, im_enumL, im_enumT, sl_tup, sl_lst, add_ii, add_bi, add_ss, add_tt, add_ll, sub_ii, sub_bi, lt_ii, gt_ii, ge_ii, le_ii, line, eq_int, eq_K0, p_lenK, p_listK, foldK, sl_K, cutD_to, eq_bool, atI0, atI1, atI2]
      exact hN
  exact congrArg endO e6
end SF.Law

set_option maxHeartbeats 200000
set_option Elab.async false
set_option linter.all false
set_option maxRecDepth 100000
set_option maxHeartbeats 0
namespace SF.Law
open PySem SF SF.M
def top (i : Nat) : Stmt := PySem.Challenge.pw_straightfence_k01_marks_and_fences.main.body.getD i (.Pass ⟨0, 0, 0, 0⟩)
def D0 : Gd := ⟨((["abs", "len", "sum", "any", "all", "max", "min", "int", "str", "bool", "tuple", "list", "sorted", "set", "isinstance", "range", "zip", "enumerate", "ValueError"] : List PySem.Str)), ((["is_whole", "is_pair", "is_point", "is_kind", "is_good", "is_good_fence", "need_marks", "need_fence", "worth", "does_part", "is_marks", "is_fence", "parts", "_law_vat", "_law_under", "_law_some", "_law_is_whole", "_law_truly", "_law_is_pair", "_law_is_kind"] : List PySem.Str) ++ (["_law_is_marks", "_law_is_fence", "_law_does_part", "_law_shown", "_law_point", "_law_kind", "_law_marks", "_law_spoilt", "_law_names", "_law_error", "_law_all_refused", "_law_known", "_law_bad_kinds", "_law_bad_marks", "_law_bad_fences", "law"] : List PySem.Str)), ((["FenceError", "InvalidMarks", "InvalidPoint", "InvalidPoints", "InvalidFence", "InvalidNumber", "InvalidFacts", "InvalidStep", "InvalidWord", "InvalidText", "NoKind", "NotParted", "Impossible", "Lacking", "Unlike", "NothingToUndo", "TooMany"] : List PySem.Str)), ((["EDGE", "MOST", "FAR"] : List PySem.Str)), fun _ _ _ _ => false, fun i => match lts[i]? with
  | some l => LamT.cs l
  | none => [], false⟩
def D : Gd := { D0 with lc := fun i params body scope => match lts[i]? with
  | some l => lamChk D0 l params body scope
  | none => false }
def f_is_whole : Dfn := ⟨"is_whole", ((["value", "low", "high"] : List PySem.Str)), ((["value", "low", "high"] : List PySem.Str)), top 22, false⟩
def f_is_pair : Dfn := ⟨"is_pair", ((["value", "most", "one"] : List PySem.Str)), ((["value", "most"] : List PySem.Str)), top 23, false⟩
def f_is_point : Dfn := ⟨"is_point", ((["value"] : List PySem.Str)), ((["value"] : List PySem.Str)), top 24, false⟩
def f_is_kind : Dfn := ⟨"is_kind", ((["value", "one", "other"] : List PySem.Str)), ((["value"] : List PySem.Str)), top 25, false⟩
def f_is_good : Dfn := ⟨"is_good", ((["value", "kind"] : List PySem.Str)), ((["value"] : List PySem.Str)), top 26, false⟩
def f_is_good_fence : Dfn := ⟨"is_good_fence", ((["value", "one"] : List PySem.Str)), ((["value"] : List PySem.Str)), top 27, false⟩
def f_need_marks : Dfn := ⟨"need_marks", ((["marks"] : List PySem.Str)), ((["marks"] : List PySem.Str)), top 28, false⟩
def f_need_fence : Dfn := ⟨"need_fence", ((["fence"] : List PySem.Str)), ((["fence"] : List PySem.Str)), top 29, false⟩
def f_worth : Dfn := ⟨"worth", ((["one", "other"] : List PySem.Str)), ((["one", "other"] : List PySem.Str)), top 30, false⟩
def f_does_part : Dfn := ⟨"does_part", ((["fence", "marks", "one"] : List PySem.Str)), ((["fence", "marks"] : List PySem.Str)), top 32, false⟩
def f_is_marks : Dfn := ⟨"is_marks", ((["value"] : List PySem.Str)), ((["value"] : List PySem.Str)), top 33, false⟩
def f_is_fence : Dfn := ⟨"is_fence", ((["value"] : List PySem.Str)), ((["value"] : List PySem.Str)), top 34, false⟩
def f_parts : Dfn := ⟨"parts", ((["fence", "marks"] : List PySem.Str)), ((["fence", "marks"] : List PySem.Str)), top 35, false⟩
def f__law_vat : Dfn := ⟨"_law_vat", ((["script", "k", "cell"] : List PySem.Str)), ((["script", "k"] : List PySem.Str)), top 37, false⟩
def f__law_under : Dfn := ⟨"_law_under", ((["vat", "many", "found", "wide"] : List PySem.Str)), ((["vat", "many"] : List PySem.Str)), top 38, false⟩
def f__law_some : Dfn := ⟨"_law_some", ((["vat", "things"] : List PySem.Str)), ((["vat", "things"] : List PySem.Str)), top 39, false⟩
def f__law_is_whole : Dfn := ⟨"_law_is_whole", ((["value", "low", "high"] : List PySem.Str)), ((["value", "low", "high"] : List PySem.Str)), top 40, false⟩
def f__law_truly : Dfn := ⟨"_law_truly", ((["found", "due"] : List PySem.Str)), ((["found", "due"] : List PySem.Str)), top 41, false⟩
def f__law_is_pair : Dfn := ⟨"_law_is_pair", ((["value", "most", "one"] : List PySem.Str)), ((["value", "most"] : List PySem.Str)), top 42, false⟩
def f__law_is_kind : Dfn := ⟨"_law_is_kind", ((["value", "one"] : List PySem.Str)), ((["value"] : List PySem.Str)), top 43, false⟩
def f__law_is_marks : Dfn := ⟨"_law_is_marks", ((["value"] : List PySem.Str)), ((["value"] : List PySem.Str)), top 44, false⟩
def f__law_is_fence : Dfn := ⟨"_law_is_fence", ((["value", "one"] : List PySem.Str)), ((["value"] : List PySem.Str)), top 45, false⟩
def f__law_does_part : Dfn := ⟨"_law_does_part", ((["fence_so", "marks_so", "a", "b", "c", "x", "y"] : List PySem.Str)), ((["fence_so", "marks_so"] : List PySem.Str)), top 46, false⟩
def f__law_shown : Dfn := ⟨"_law_shown", ((["kind_so", "point_so"] : List PySem.Str)), ((["kind_so", "point_so"] : List PySem.Str)), top 47, false⟩
def f__law_point : Dfn := ⟨"_law_point", ((["vat", "wide"] : List PySem.Str)), ((["vat", "wide"] : List PySem.Str)), top 48, false⟩
def f__law_kind : Dfn := ⟨"_law_kind", ((["vat", "most", "wide", "found", "turn"] : List PySem.Str)), ((["vat", "most", "wide"] : List PySem.Str)), top 49, false⟩
def f__law_marks : Dfn := ⟨"_law_marks", ((["vat", "most", "way", "wide", "first", "second", "a", "b", "c", "every", "one"] : List PySem.Str)), ((["vat", "most"] : List PySem.Str)), top 50, false⟩
def f__law_spoilt : Dfn := ⟨"_law_spoilt", ((["vat", "value", "at", "way"] : List PySem.Str)), ((["vat", "value"] : List PySem.Str)), top 51, false⟩
def f__law_names : Dfn := ⟨"_law_names", ((["e"] : List PySem.Str)), ((["e"] : List PySem.Str)), top 52, false⟩
def f__law_error : Dfn := ⟨"_law_error", ((["call"] : List PySem.Str)), ((["call"] : List PySem.Str)), top 53, false⟩
def f__law_all_refused : Dfn := ⟨"_law_all_refused", ((["call", "odds", "name", "odd"] : List PySem.Str)), ((["call", "odds", "name"] : List PySem.Str)), top 54, true⟩
def f__law_known : Dfn := ⟨"_law_known", ((["one", "two"] : List PySem.Str)), (([] : List PySem.Str)), top 55, false⟩
def f__law_bad_kinds : Dfn := ⟨"_law_bad_kinds", ((["at", "row", "some"] : List PySem.Str)), (([] : List PySem.Str)), top 56, false⟩
def f__law_bad_marks : Dfn := ⟨"_law_bad_marks", ((["some", "kind_so"] : List PySem.Str)), (([] : List PySem.Str)), top 57, false⟩
def f__law_bad_fences : Dfn := ⟨"_law_bad_fences", ((["some"] : List PySem.Str)), (([] : List PySem.Str)), top 58, false⟩
def f_law : Dfn := ⟨"law", ((["script", "k", "vat", "turn", "marks_so", "wide", "fence_so", "value", "again", "a", "x", "m", "odd", "at", "eight", "good", "told_so"] : List PySem.Str)), ((["script"] : List PySem.Str)), top 59, true⟩
def ds : List Dfn := [f_is_whole, f_is_pair, f_is_point, f_is_kind, f_is_good, f_is_good_fence, f_need_marks, f_need_fence, f_worth, f_does_part, f_is_marks, f_is_fence, f_parts, f__law_vat, f__law_under, f__law_some, f__law_is_whole, f__law_truly, f__law_is_pair, f__law_is_kind, f__law_is_marks, f__law_is_fence, f__law_does_part, f__law_shown, f__law_point, f__law_kind, f__law_marks, f__law_spoilt, f__law_names, f__law_error, f__law_all_refused, f__law_known, f__law_bad_kinds, f__law_bad_marks, f__law_bad_fences, f_law]
theorem k_is_whole : okDf D f_is_whole d_is_whole = true := by decide +kernel
theorem k_is_pair : okDf D f_is_pair d_is_pair = true := by decide +kernel
theorem k_is_point : okDf D f_is_point d_is_point = true := by decide +kernel
theorem k_is_kind : okDf D f_is_kind d_is_kind = true := by decide +kernel
theorem k_is_good : okDf D f_is_good d_is_good = true := by decide +kernel
theorem k_is_good_fence : okDf D f_is_good_fence d_is_good_fence = true := by decide +kernel
theorem k_need_marks : okDf D f_need_marks d_need_marks = true := by decide +kernel
theorem k_need_fence : okDf D f_need_fence d_need_fence = true := by decide +kernel
theorem k_worth : okDf D f_worth d_worth = true := by decide +kernel
theorem k_does_part : okDf D f_does_part d_does_part = true := by decide +kernel
theorem k_is_marks : okDf D f_is_marks d_is_marks = true := by decide +kernel
theorem k_is_fence : okDf D f_is_fence d_is_fence = true := by decide +kernel
theorem k_parts : okDf D f_parts d_parts = true := by decide +kernel
theorem k__law_vat : okDf D f__law_vat d__law_vat = true := by decide +kernel
theorem k__law_under : okDf D f__law_under d__law_under = true := by decide +kernel
theorem k__law_some : okDf D f__law_some d__law_some = true := by decide +kernel
theorem k__law_is_whole : okDf D f__law_is_whole d__law_is_whole = true := by decide +kernel
theorem k__law_truly : okDf D f__law_truly d__law_truly = true := by decide +kernel
theorem k__law_is_pair : okDf D f__law_is_pair d__law_is_pair = true := by decide +kernel
theorem k__law_is_kind : okDf D f__law_is_kind d__law_is_kind = true := by decide +kernel
theorem k__law_is_marks : okDf D f__law_is_marks d__law_is_marks = true := by decide +kernel
theorem k__law_is_fence : okDf D f__law_is_fence d__law_is_fence = true := by decide +kernel
theorem k__law_does_part : okDf D f__law_does_part d__law_does_part = true := by decide +kernel
theorem k__law_shown : okDf D f__law_shown d__law_shown = true := by decide +kernel
theorem k__law_point : okDf D f__law_point d__law_point = true := by decide +kernel
theorem k__law_kind : okDf D f__law_kind d__law_kind = true := by decide +kernel
theorem k__law_marks : okDf D f__law_marks d__law_marks = true := by decide +kernel
theorem k__law_spoilt : okDf D f__law_spoilt d__law_spoilt = true := by decide +kernel
theorem k__law_names : okDf D f__law_names d__law_names = true := by decide +kernel
theorem k__law_error : okDf D f__law_error d__law_error = true := by decide +kernel
theorem k__law_all_refused : okDf D f__law_all_refused d__law_all_refused = true := by decide +kernel
theorem k__law_known : okDf D f__law_known d__law_known = true := by decide +kernel
theorem k__law_bad_kinds : okDf D f__law_bad_kinds d__law_bad_kinds = true := by decide +kernel
theorem k__law_bad_marks : okDf D f__law_bad_marks d__law_bad_marks = true := by decide +kernel
theorem k__law_bad_fences : okDf D f__law_bad_fences d__law_bad_fences = true := by decide +kernel
theorem k_law : okDf D f_law d_law = true := by decide +kernel
theorem oks : ∀ (i : Nat) (d : Dfn) (f : Df), ds[i]? = some d → G.defs[i]? = some f → okDf D d f = true
  | 0, _, _, h1, h2 => by cases h1; cases h2; exact k_is_whole
  | 1, _, _, h1, h2 => by cases h1; cases h2; exact k_is_pair
  | 2, _, _, h1, h2 => by cases h1; cases h2; exact k_is_point
  | 3, _, _, h1, h2 => by cases h1; cases h2; exact k_is_kind
  | 4, _, _, h1, h2 => by cases h1; cases h2; exact k_is_good
  | 5, _, _, h1, h2 => by cases h1; cases h2; exact k_is_good_fence
  | 6, _, _, h1, h2 => by cases h1; cases h2; exact k_need_marks
  | 7, _, _, h1, h2 => by cases h1; cases h2; exact k_need_fence
  | 8, _, _, h1, h2 => by cases h1; cases h2; exact k_worth
  | 9, _, _, h1, h2 => by cases h1; cases h2; exact k_does_part
  | 10, _, _, h1, h2 => by cases h1; cases h2; exact k_is_marks
  | 11, _, _, h1, h2 => by cases h1; cases h2; exact k_is_fence
  | 12, _, _, h1, h2 => by cases h1; cases h2; exact k_parts
  | 13, _, _, h1, h2 => by cases h1; cases h2; exact k__law_vat
  | 14, _, _, h1, h2 => by cases h1; cases h2; exact k__law_under
  | 15, _, _, h1, h2 => by cases h1; cases h2; exact k__law_some
  | 16, _, _, h1, h2 => by cases h1; cases h2; exact k__law_is_whole
  | 17, _, _, h1, h2 => by cases h1; cases h2; exact k__law_truly
  | 18, _, _, h1, h2 => by cases h1; cases h2; exact k__law_is_pair
  | 19, _, _, h1, h2 => by cases h1; cases h2; exact k__law_is_kind
  | 20, _, _, h1, h2 => by cases h1; cases h2; exact k__law_is_marks
  | 21, _, _, h1, h2 => by cases h1; cases h2; exact k__law_is_fence
  | 22, _, _, h1, h2 => by cases h1; cases h2; exact k__law_does_part
  | 23, _, _, h1, h2 => by cases h1; cases h2; exact k__law_shown
  | 24, _, _, h1, h2 => by cases h1; cases h2; exact k__law_point
  | 25, _, _, h1, h2 => by cases h1; cases h2; exact k__law_kind
  | 26, _, _, h1, h2 => by cases h1; cases h2; exact k__law_marks
  | 27, _, _, h1, h2 => by cases h1; cases h2; exact k__law_spoilt
  | 28, _, _, h1, h2 => by cases h1; cases h2; exact k__law_names
  | 29, _, _, h1, h2 => by cases h1; cases h2; exact k__law_error
  | 30, _, _, h1, h2 => by cases h1; cases h2; exact k__law_all_refused
  | 31, _, _, h1, h2 => by cases h1; cases h2; exact k__law_known
  | 32, _, _, h1, h2 => by cases h1; cases h2; exact k__law_bad_kinds
  | 33, _, _, h1, h2 => by cases h1; cases h2; exact k__law_bad_marks
  | 34, _, _, h1, h2 => by cases h1; cases h2; exact k__law_bad_fences
  | 35, _, _, h1, h2 => by cases h1; cases h2; exact k_law
  | n + 36, _, _, h1, _ => by cases h1
def nat : NatT := ⟨"marks point points fence number facts step word text nokind notparted impossible lacking unlike undo many", ((["InvalidMarks", "InvalidPoint", "InvalidPoints", "InvalidFence", "InvalidNumber", "InvalidFacts", "InvalidStep", "InvalidWord", "InvalidText", "NoKind", "NotParted", "Impossible", "Lacking", "Unlike", "NothingToUndo", "TooMany", "ValueError"] : List PySem.Str)), [[false, false, false, false, false, false, false, false, false, false, false, false, false, false, false, false, true], [true, false, false, false, false, false, false, false, false, false, false, false, false, false, false, false, true], [false, true, false, false, false, false, false, false, false, false, false, false, false, false, false, false, true], [false, false, true, false, false, false, false, false, false, false, false, false, false, false, false, false, true], [false, false, false, true, false, false, false, false, false, false, false, false, false, false, false, false, true], [false, false, false, false, true, false, false, false, false, false, false, false, false, false, false, false, true], [false, false, false, false, false, true, false, false, false, false, false, false, false, false, false, false, true], [false, false, false, false, false, false, true, false, false, false, false, false, false, false, false, false, true], [false, false, false, false, false, false, false, true, false, false, false, false, false, false, false, false, true], [false, false, false, false, false, false, false, false, true, false, false, false, false, false, false, false, true], [false, false, false, false, false, false, false, false, false, true, false, false, false, false, false, false, true], [false, false, false, false, false, false, false, false, false, false, true, false, false, false, false, false, true], [false, false, false, false, false, false, false, false, false, false, false, true, false, false, false, false, true], [false, false, false, false, false, false, false, false, false, false, false, false, true, false, false, false, true], [false, false, false, false, false, false, false, false, false, false, false, false, false, true, false, false, true], [false, false, false, false, false, false, false, false, false, false, false, false, false, false, true, false, true]], 28⟩
theorem natOk : natText nat G.names D ds = true := by decide +kernel
abbrev nt : PySem.W.Frag → Bool := natK nat D
def loose : List PySem.Str := ((["FenceError", "InvalidMarks", "InvalidPoint", "InvalidPoints", "InvalidFence", "InvalidNumber", "InvalidFacts", "InvalidStep", "InvalidWord", "InvalidText", "NoKind", "NotParted", "Impossible", "Lacking", "Unlike", "NothingToUndo", "TooMany", "EDGE", "MOST", "FAR"] : List PySem.Str) ++ (["is_whole", "is_pair", "is_point", "is_kind", "is_good", "is_good_fence", "need_marks", "need_fence", "worth", "does_part", "is_marks", "is_fence", "parts", "_law_vat", "_law_under", "_law_some", "_law_is_whole", "_law_truly", "_law_is_pair", "_law_is_kind"] : List PySem.Str) ++ (["_law_is_marks", "_law_is_fence", "_law_does_part", "_law_shown", "_law_point", "_law_kind", "_law_marks", "_law_spoilt", "_law_names", "_law_error", "_law_all_refused", "_law_known", "_law_bad_kinds", "_law_bad_marks", "_law_bad_fences"] : List PySem.Str))
abbrev R : PySem.W.OpenRow := PySem.W.OpenLaw.row PySem.Challenge.rw_straightfence_k01_marks_and_fences
theorem txt : Txt G D ds lts where
  ml := rfl
  len := by decide +kernel
  nm := by decide +kernel
  gdb := by decide +kernel
  lam := rfl
  caps := fun i l e => by
    show (match lts[i]? with
      | some l => LamT.cs l
      | none => []) = LamT.cs l
    rw [e]
  lc := fun i params body scope h => by
    have h : (match lts[i]? with
      | some l => lamChk D0 l params body scope
      | none => false) = true := h
    cases e : lts[i]? with
    | none => rw [e] at h; cases h
    | some l => rw [e] at h; exact ⟨l, fun _ _ _ _ => false, rfl, h⟩
theorem head (w : World) : HandSHeadRun.RunEq R (PySem.W.view R.prog [59]) (hkOf G D ds nt) (obOf G D ds nt) 20000 loose w := by
  intro os
  kernel_rfl
theorem sysL {w : World} {K : PySem.W.Frag} {mg : PySem.Str → Option Value} {h : Heap} (X : K.In h) (hG : h.Ns mainGlobals mg) (c : He.SaysX (faOf D) (ds.map ddOf) [] (tfOf ds) (exOf D G.gl ds nt) w h K) (n : Nat) (base : Heap) (M : ModOk K mg base (cnOf K D ds) G D ds lts (fnAt K D) (clAt K D) (tabT K ds)) :
    Sys PySem.Challenge.rw_straightfence_k01_marks_and_fences.prog w K mg base (cnOf K D ds) G D n := sysOk M (natM txt X hG c natOk) oks n
theorem lawL (main : ∀ ns : List Int, ns.length ≤ 63 → (∀ z ∈ ns, Builtin.Int.intBits z ≤ 1048576) → ∃ S, run G 61 (.fn 35) [.scr ns] [] = .ok (.bl true) S) : PySem.Challenge.rw_straightfence_k01_marks_and_fences.Holds := by
  open PySem.W PySem.Calls in
  w_on; o_law
  refine HandSHeadRun.head_any (r := PySem.W.OpenLaw.row PySem.Challenge.rw_straightfence_k01_marks_and_fences) (q := PySem.W.view (PySem.W.OpenLaw.row PySem.Challenge.rw_straightfence_k01_marks_and_fences).prog [59]) (H := hkOf G D ds nt) (ob := obOf G D ds nt) (M := 20000) (loose := loose) (d := HandSHeadRun.topDef (PySem.W.OpenLaw.row PySem.Challenge.rw_straightfence_k01_marks_and_fences).prog 59) (kwd := []) obOf_eq
    (by kernel_rfl) (fun s => by kernel_rfl) head (by kernel_rfl) (by kernel_rfl) (by kernel_rfl) (by rfl) (by first | assumption | decide +kernel) (by decide +kernel) ⟨rfl, rfl, rfl, rfl, rfl, by decide +kernel⟩ ?hw ?hc
  case hw => w_witness2
  case hc =>
    refine LamX.walk_ofTsE (l := PySem.Challenge.rw_straightfence_k01_marks_and_fences) (n := 63) (k := 61) (x := "script") (CX := fun w => L2N.CX PySem.Challenge.rw_straightfence_k01_marks_and_fences.prog w) rfl (by decide) (by kernel_rfl) ⟨rfl, by decide, by decide⟩ ?F ?C
    case C => exact fun _ _ _ _ _ z => cx_none z
    intro w mg fa h Y hG hmg0
    obtain ⟨K, KX, c⟩ := Y
    have hmg : mg ("law" : PySem.Str) = some (.ref fa) := by
      have e : (HandSHeadRun.topDef (PySem.W.OpenLaw.row PySem.Challenge.rw_straightfence_k01_marks_and_fences).prog 59).name = ("law" : PySem.Str) := by kernel_rfl
      rw [← e]
      exact hmg0
    exact ⟨K, KX, lawAt (d := f_law) (i := 35) (nN := 17) (k := 60) txt KX hG hmg c rfl rfl rfl (oks 35 f_law _ rfl rfl) (by decide) (fun base _ _ _ M => sysL KX hG c 60 base M) main⟩
end SF.Law

set_option maxHeartbeats 200000
set_option maxRecDepth 100000 in
set_option maxHeartbeats 0 in
theorem PySem.Challenge.cw_straightfence_k01_marks_and_fences_holds : PySem.Challenge.rw_straightfence_k01_marks_and_fences.Holds := by
  exact SF.Law.lawL fun ns h _ => SF.Law.main ns h
