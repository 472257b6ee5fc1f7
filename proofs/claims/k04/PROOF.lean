import PyProof.Rows.All
import Wide.All
import OpenK.AllK
import Wide.FinOn
import KE.KStateDown
import Lean
import HandS.Base
import HandS.Call
import HandS.Ends
import HandS.More
import HandS.Words
import HandS.WordsExc
import HandS.Defaults
import HandS.Head0
import HandS.Head1
import HandS.Head2
import HandS.HeadEnd
import HandS.HeadHook1
import HandS.HeadHook2
import HandS.HeadNt
import KE.GoesNew
import HandS.Property
import HandS.ClsMeth
import HandS.ExcOwn
import HandS.Star
import HandS.List
import HandS.Style
import HandS.TupAny
import HandS.IsInst
import HandS.FStr
import HandS.ForMost
import HandS.Deep
import HandS.Wide
import PyProof.StrLawsIn
import HandS.Text
import OpenK.KOps
import OpenK.KMeth
import KE.KOpsOwn
import KE.KDictZip
import KE.KUnpackStar
import PySem.Challenge.RW_fewdays_k04_shifts_of_workers
set_option Elab.async false
section
/-! A small interpreter for the part of Python that this program uses, over plain data. -/
set_option autoImplicit false
set_option linter.all false
namespace PI

abbrev Tx := List Nat
inductive Ty where
  | int | str | bool | list | tuple | dict
  deriving DecidableEq

/-- data: what a value is worth; ref n is the n-th cell of the small heap -/
inductive D where
  | non | bl (b : Bool) | int (i : Int) | str (x : Tx)
  | tup (xs : List D) | lst (xs : List D) | dct (kvs : List (D × D))
  | ins (c : Nat) (fs : List (Nat × D)) | ref (n : Nat) | cls (c : Nat)
  deriving Inhabited

/-- what stands in a cell, or is held by a name alone -/
inductive O where
  | lst (xs : List D) | dct (kvs : List (D × D)) | ins (c : Nat) (fs : List (Nat × D))
abbrev Hh := List O
inductive Sl where
  | val (d : D) | own (o : O)
abbrev En := List (Option Sl)
def O.d : O → D
  | .lst xs => .lst xs
  | .dct kvs => .dct kvs
  | .ins c fs => .ins c fs

inductive R (α : Type) where
  | ok (a : α) (h : Hh) | exc (c : Nat) (fs : List (Nat × D)) (h : Hh) | bad
def R.bind {α β : Type} (r : R α) (f : α → Hh → R β) : R β :=
  match r with
  | .ok a h => f a h
  | .exc c fs h => .exc c fs h
  | .bad => .bad

inductive TyC where
  | own (c : Nat) | blt (t : Ty)

inductive Op where
  | add | sub | mul | fdiv | mod | pow | band | neg
  | eq | ne | lt | le | gt | ge | isN | notN | isTrue | notTrue | isin | notin
  | idx | slc (lo hi : Bool) | rev
  | len | all | any | max | maxd | min | sum | int | str | list | tuple | repr
  | isi (ts : List TyC)
  | split | join | count | kget (kvs : List (Tx × Int))
  | fmt (ps : List (Option Tx))

mutual
inductive E where
  | v (i : Nat) | k (d : D)
  | op (o : Op) (es : List E)
  | chain (o o' : Op) (a b c : E)
  | mt (o : Op) (a b : E) | sl3 (a b c : E)
  | opd1 (o : Op) (a : E) | opd2 (o : Op) (a b : E) | opx (o : Op) (a b : E)
  | lmul (es : List It) (k : Nat)
  | and (a b : E) | or (a b : E) | not (a : E) | ite (c a b : E)
  | tup (es : List It) | lst (es : List It) | cell (es : List It)
  | fld (a : E) (f : Nat)
  | call (f : Nat) (es : List It) (ks : List (Nat × E))
  | new (c : Nat) (es : List It) (ks : List (Nat × E))
  | newv (i : Nat) (es : List It) (ks : List (Nat × E))
  | meth (a : E) (m : Nat) (es : List It) (ks : List (Nat × E))
  | comp (elt : E) (tg : Tg) (it : I) (c : Option E)
  | comp2 (elt : E) (tg : Tg) (it : I) (tg2 : Tg) (it2 : I) (c : Option E)
inductive It where
  | one (e : E) | star (e : E)
inductive Tg where
  | n (i : Nat) | t (l : List Tg)
inductive I where
  | seq (e : E) | range (es : List E) | enum (e : E) | zip (a b : E) | enumz (a b : E)
end
inductive S where
  | set (i : Nat) (e : E) | own (i : Nat) (e : E) | frz (i : Nat)
  | asg (t : Tg) (e : E)
  | unp (l : List Nat) (e : E) | unps (l : List Nat) (i : Nat) (e : E) | par (l : List Nat) (es : List E)
  | setI (a i e : E)
  | setF (a : E) (f : Nat) (e : E)
  | app (i : Nat) (e : E)
  | exp (e : E) | ret (e : E) | retN
  | iff (c : E) (a b : List S)
  | for (tg : Tg) (it : I) (b : List S)
  | whl (c : E) (b : List S)
  | brk | cnt | pass | never

inductive RS where
  | nx (ρ : En) (h : Hh) | rt (d : D) (h : Hh) | bk (ρ : En) (h : Hh) | ct (ρ : En) (h : Hh)
  | exc (c : Nat) (fs : List (Nat × D)) (ρ : En) (h : Hh) | bad
/-- a run within a statement, at the names ρ -/
def R.toS {α : Type} (r : R α) (ρ : En) (f : α → Hh → RS) : RS :=
  match r with
  | .ok a h => f a h
  | .exc c fs h => .exc c fs ρ h
  | .bad => .bad

/-- a def: its slots, positional parameters (by name, with what is taken when one is not given), whether more may follow, parameters by name alone -/
structure Fn where
  slots : Nat
  pos : List (Nat × Option D)
  var : Bool
  kwo : List (Nat × Option D)
  body : List S
structure Cl where
  frozen : Bool
  init : Option Nat
  meths : List (Nat × Nat)
  props : List (Nat × Nat)
  consts : List (Nat × D)
  bases : List Nat
  cmeths : List (Nat × Nat)
structure Pg where
  fn : Nat → Option Fn
  cl : Nat → Option Cl

/-! ### plain operations -/
mutual
def deq : D → D → Bool
  | .non, .non => true
  | .bl a, .bl b => a == b
  | .bl a, .int j => (if a then 1 else 0) == j
  | .int i, .bl b => i == (if b then 1 else 0)
  | .int i, .int j => i == j
  | .str x, .str y => x == y
  | .lst xs, .lst ys => deqs xs ys
  | .tup xs, .tup ys => deqs xs ys
  | _, _ => false
def deqs : List D → List D → Bool
  | [], [] => true
  | x :: xs, y :: ys => deq x y && deqs xs ys
  | _, _ => false
end
mutual
/-- data that == tells of: no instance, no dict, no cell within -/
def dat : D → Bool
  | .non | .bl _ | .int _ => true
  | .str x => x.all (fun c => Nat.blt c 1114112)
  | .lst xs | .tup xs => dats xs
  | _ => false
def dats : List D → Bool
  | [] => true
  | x :: xs => dat x && dats xs
end
mutual
def dep : D → Nat
  | .lst xs | .tup xs => deps xs + 1
  | _ => 0
def deps : List D → Nat
  | [] => 0
  | x :: xs => Nat.max (dep x) (deps xs)
end
def line : Nat := 16777216
def okD (d : D) : Bool := dat d && Nat.ble (dep d) 64
def flat : D → Bool
  | .non | .bl _ | .int _ | .str _ => true
  | _ => false
/-- two plain things that are told apart at once -/
def scalD : D → D → Bool
  | .bl _, .int _ => false
  | .int _, .bl _ => false
  | a, b => flat a && flat b
def eqD (a b : D) : Option Bool := if scalD a b || (okD a && okD b) then some (deq a b) else none

def ixOf (n : Nat) (i : Int) : Option Nat :=
  if 0 ≤ i then (if i < n then some i.toNat else none) else if -(n : Int) ≤ i then some (i + n).toNat else none
def at? {α : Type} (xs : List α) (i : Int) : Option α := (ixOf xs.length i).bind fun j => xs[j]?
def clip (n d : Nat) : Option Int → Nat
  | none => d
  | some v => if v < 0 then (v + n).toNat else min v.toNat n
def cut {α : Type} (xs : List α) (lo hi : Option Int) : List α :=
  (xs.drop (clip xs.length 0 lo)).take (clip xs.length xs.length hi - clip xs.length 0 lo)

def ints? : List D → Option (List Int)
  | [] => some []
  | .int i :: r => (ints? r).map (i :: ·)
  | _ => none
def bools? : List D → Option (List Bool)
  | [] => some []
  | .bl i :: r => (bools? r).map (i :: ·)
  | _ => none
def strs? : List D → Option (List Tx)
  | [] => some []
  | .str i :: r => (strs? r).map (i :: ·)
  | _ => none
def maxI : Int → List Int → Int
  | m, [] => m
  | m, x :: r => maxI (if m < x then x else m) r
def minI : Int → List Int → Int
  | m, [] => m
  | m, x :: r => minI (if x < m then x else m) r
def splitOn (c : Nat) : Tx → List Tx
  | [] => [[]]
  | x :: r => if x == c then [] :: splitOn c r else
    match splitOn c r with
    | [] => [[x]]
    | a :: t => (x :: a) :: t
def joinT (sep : Tx) : List Tx → Tx
  | [] => []
  | [x] => x
  | x :: y :: r => x ++ sep ++ joinT sep (y :: r)
def ltT : Tx → Tx → Bool
  | [], [] => false
  | [], _ :: _ => true
  | _ :: _, [] => false
  | x :: xs, y :: ys => if x == y then ltT xs ys else Nat.blt x y
def digitsA : Nat → Nat → Tx → Tx
  | 0, _, acc => acc
  | f + 1, n, acc => if Nat.blt n 10 then (48 + n) :: acc else digitsA f (n / 10) ((48 + n % 10) :: acc)
def natT (n : Nat) : Tx := digitsA (n + 1) n []
def intT (i : Int) : Tx := if i < 0 then 45 :: natT i.natAbs else natT i.natAbs
def lim : Int := 18446744073709551616
def okMul (i j : Int) : Bool := (decide (-lim < i) && decide (i < lim)) || (decide (-lim < j) && decide (j < lim))
def sizeOk (n : Nat) : Bool := Nat.ble n line
def seqOf : D → Option (List D)
  | .lst xs => some xs
  | .tup xs => some xs
  | .str x => some (x.map fun c => .str [c])
  | _ => none
def tyIs : D → Ty → Bool
  | .int _, .int => true
  | .bl _, .int => true
  | .bl _, .bool => true
  | .str _, .str => true
  | .lst _, .list => true
  | .tup _, .tuple => true
  | .dct _, .dict => true
  | _, _ => false
def kfind (kvs : List (Tx × Int)) (x : Tx) : Option Int :=
  match kvs with
  | [] => none
  | (y, v) :: r => if y == x then some v else kfind r x
/-- the parts of a formatted text: a written part, or the next operand -/
def fmtT : List (Option Tx) → List D → Option Tx
  | [], [] => some []
  | some x :: r, ds => (fmtT r ds).map (x ++ ·)
  | none :: r, .str x :: ds => (fmtT r ds).map (x ++ ·)
  | none :: r, .int i :: ds => (fmtT r ds).map (intT i ++ ·)
  | _, _ => none

def oAdd : D → D → Option D
  | .int i, .int j => some (.int (i + j))
  | .str x, .str y => if sizeOk (x.length + y.length) then some (.str (x ++ y)) else none
  | .lst x, .lst y => if sizeOk (x.length + y.length) then some (.lst (x ++ y)) else none
  | .tup x, .tup y => if sizeOk (x.length + y.length) then some (.tup (x ++ y)) else none
  | _, _ => none
def oSub : D → D → Option D
  | .int i, .int j => some (.int (i - j))
  | _, _ => none
def oMul : D → D → Option D
  | .int i, .int j => if okMul i j then some (.int (i * j)) else none
  | _, _ => none
def oDiv : D → D → Option D
  | .int i, .int j => if decide (0 < j) && decide (j < 1000000000000000000000000000000) then some (.int (i / j)) else none
  | _, _ => none
def oMod : D → D → Option D
  | .int i, .int j => if 0 < j then some (.int (i % j)) else none
  | _, _ => none
def oPow : D → D → Option D
  | .int i, .int j => if decide (0 ≤ j) && decide (j ≤ 1000000) && decide (i.natAbs < 18446744073709551616) then some (.int (i ^ j.toNat)) else none
  | _, _ => none
def oLt : D → D → Option D
  | .int i, .int j => some (.bl (decide (i < j)))
  | .str x, .str y => some (.bl (decide (x < y)))
  | _, _ => none
def oLe : D → D → Option D
  | .int i, .int j => some (.bl (decide (i ≤ j)))
  | _, _ => none
def oGt : D → D → Option D
  | .int i, .int j => some (.bl (decide (j < i)))
  | _, _ => none
def oGe : D → D → Option D
  | .int i, .int j => some (.bl (decide (j ≤ i)))
  | _, _ => none
def isNone : D → Bool
  | .non => true
  | _ => false
def oIn : D → D → Option Bool
  | .str [c], .str y => some (y.contains c)
  | x, .lst ys => if (flat x && ys.all flat) || (okD x && okD (.lst ys)) then some (ys.any fun y => deq y x) else none
  | x, .tup ys => if flat x && ys.all flat then some (ys.any fun y => deq y x) else none
  | _, _ => none
def oIdx : D → D → Option D
  | .lst xs, .int i => at? xs i
  | .tup xs, .int i => at? xs i
  | .str x, .int i => if sizeOk x.length then (at? x i).map fun c => .str [c] else none
  | _, _ => none
def oCut (a : D) (lo hi : Option Int) : Option D :=
  match a with
  | .lst xs => some (.lst (cut xs lo hi))
  | .tup xs => some (.tup (cut xs lo hi))
  | .str x => if sizeOk x.length then some (.str (cut x lo hi)) else none
  | _ => none
def int? : D → Option Int
  | .int i => some i
  | _ => none
def oLen : D → Option D
  | .lst xs => some (.int xs.length)
  | .tup xs => some (.int xs.length)
  | .str x => if sizeOk x.length then some (.int x.length) else none
  | _ => none
def oBools (f : List Bool → Bool) : D → Option D
  | .lst xs => (bools? xs).map fun bs => .bl (f bs)
  | _ => none
def oMax2 : D → D → Option D
  | .int i, .int j => some (.int (if j > i then j else i))
  | _, _ => none
def oMin2 : D → D → Option D
  | .int i, .int j => some (.int (if j < i then j else i))
  | _, _ => none
def oMax : D → Option D
  | .lst xs => match ints? xs with | some (a :: r) => some (.int (maxI a r)) | _ => none
  | _ => none
def oMin : D → Option D
  | .lst xs => match ints? xs with | some (a :: r) => some (.int (minI a r)) | _ => none
  | _ => none
def oMaxD : D → D → Option D
  | .lst xs, d => match ints? xs with | some (a :: r) => some (.int (maxI a r)) | some [] => some d | none => none
  | _, _ => none
def oSum : D → Option D
  | .lst xs => (ints? xs).map fun ns => .int ns.sum
  | _ => none
def oInt : D → Option D
  | .int i => some (.int i)
  | _ => none
def oStr : D → Option D
  | .int i => if decide (i.natAbs < 10 ^ 100) then some (.str (intT i)) else none
  | _ => none
def oList : D → Option D
  | .lst xs => some (.lst xs)
  | .tup xs => some (.lst xs)
  | _ => none
def oTup : D → Option D
  | .lst xs => some (.tup xs)
  | .tup xs => some (.tup xs)
  | _ => none
def oRev : D → Option D
  | .lst xs => some (.lst xs.reverse)
  | _ => none
def isC (pg : Pg) (d : D) : TyC → Bool
  | .blt t => tyIs d t
  | .own c => match d with
    | .ins c' _ => c' == c || (match pg.cl c' with | some cl => cl.bases.contains c | none => false)
    | _ => false
def known (pg : Pg) : D → Bool
  | .ins c _ => (pg.cl c).isSome
  | .ref _ | .cls _ | .dct _ => false
  | _ => true
def oSplit : D → D → Option D
  | .str x, .str [c] => if Nat.blt c 256 && sizeOk (x.length + 2) then some (.lst ((splitOn c x).map .str)) else none
  | _, _ => none
def oJoin : D → D → Option D
  | .str x, .lst xs => match strs? xs with
      | some ts => if sizeOk ((ts.map List.length).sum + ts.length * x.length) then some (.str (joinT x ts)) else none
      | none => none
  | _, _ => none
def oCount : D → D → Option D
  | .str x, .str [c] => some (.int (x.count c))
  | _, _ => none
def oKget (kvs : List (Tx × Int)) : D → D → Option D
  | .str x, d => some (match kfind kvs x with | some i => .int i | none => d)
  | _, _ => none
def oFmt (ps : List (Option Tx)) (ds : List D) : Option D :=
  match fmtT ps ds with
  | some x => if sizeOk x.length then some (.str x) else none
  | none => none
def op1 (pg : Pg) : Op → D → Option D
  | .neg, .int i => some (.int (-i))
  | .isN, d => some (.bl (isNone d))
  | .notN, d => some (.bl (!isNone d))
  | .isTrue, .bl b => some (.bl b)
  | .notTrue, .bl b => some (.bl (!b))
  | .rev, d => oRev d
  | .len, d => oLen d
  | .all, d => oBools (fun bs => bs.all id) d
  | .any, d => oBools (fun bs => bs.any id) d
  | .max, d => oMax d
  | .min, d => oMin d
  | .sum, d => oSum d
  | .int, d => oInt d
  | .str, d => oStr d
  | .list, d => oList d
  | .tuple, d => oTup d
  | .slc false false, d => oCut d none none
  | .isi ts, d => if known pg d then some (.bl (ts.any (isC pg d))) else none
  | _, _ => none
def op2 : Op → D → D → Option D
  | .add, a, b => oAdd a b
  | .sub, a, b => oSub a b
  | .mul, a, b => oMul a b
  | .fdiv, a, b => oDiv a b
  | .mod, a, b => oMod a b
  | .pow, a, b => oPow a b
  | .eq, a, b => (eqD a b).map .bl
  | .ne, a, b => (eqD a b).map fun c => .bl (!c)
  | .lt, a, b => oLt a b
  | .le, a, b => oLe a b
  | .gt, a, b => oGt a b
  | .ge, a, b => oGe a b
  | .isin, a, b => (oIn a b).map .bl
  | .notin, a, b => (oIn a b).map fun c => .bl (!c)
  | .idx, a, b => oIdx a b
  | .slc true false, a, b => (int? b).bind fun i => oCut a (some i) none
  | .slc false true, a, b => (int? b).bind fun i => oCut a none (some i)
  | .max, a, b => oMax2 a b
  | .min, a, b => oMin2 a b
  | .maxd, a, b => oMaxD a b
  | .split, a, b => oSplit a b
  | .join, a, b => oJoin a b
  | .count, a, b => oCount a b
  | .kget kvs, a, b => oKget kvs a b
  | _, _, _ => none
def opf (pg : Pg) (o : Op) (ds : List D) : Option D :=
  match o with
  | .fmt ps => oFmt ps ds
  | o => match ds with
    | [a] => op1 pg o a
    | [a, b] => op2 o a b
    | _ => none

/-- a cell seen through -/
def vw (h : Hh) : D → D
  | .ref n => match h[n]? with
    | some o => o.d
    | none => .ref n
  | d => d
def afind {α : Type} : List (Nat × α) → Nat → Option α
  | [], _ => none
  | (k, v) :: r, f => if k == f then some v else afind r f
def aput {α : Type} (f : Nat) (v : α) : List (Nat × α) → List (Nat × α)
  | [] => [(f, v)]
  | (k, x) :: r => if k == f then (k, v) :: r else (k, x) :: aput f v r

/-! ### names of the special methods -/
def mEq : Nat := 0
def mLen : Nat := 1
def mHas : Nat := 2
def mAdd : Nat := 3
def mSub : Nat := 4
def mAnd : Nat := 5
def mIdx : Nat := 6
def mBool : Nat := 7
def mRepr : Nat := 8
def mCall : Nat := 9

def clsOf : D → Option Nat
  | .ins c _ => some c
  | _ => none
/-- an operator that an own class defines: the def, its operands in order, whether the answer is turned -/
def dun (pg : Pg) (h : Hh) (o : Op) (ds : List D) : Option (Nat × List D × Bool) :=
  let go (m : Nat) (a : D) (args : List D) (neg : Bool) : Option (Nat × List D × Bool) :=
    match clsOf (vw h a) with
    | some c => match pg.cl c with
      | some cl => (afind cl.meths m).map fun f => (f, a :: args, neg)
      | none => none
    | none => none
  match o, ds with
  | .eq, [a, b] => go mEq a [b] false
  | .ne, [a, b] => go mEq a [b] true
  | .len, [a] => go mLen a [] false
  | .isin, [a, b] => go mHas b [a] false
  | .notin, [a, b] => go mHas b [a] true
  | .add, [a, b] => go mAdd a [b] false
  | .sub, [a, b] => go mSub a [b] false
  | .band, [a, b] => go mAnd a [b] false
  | .idx, [a, b] => go mIdx a [b] false
  | .repr, [a] => go mRepr a [] false
  | _, _ => none

/-! ### binding -/
def kwTake (ks : List (Nat × D)) : List (Nat × Option D) → Option (List D)
  | [] => some []
  | (n, d) :: r => match afind ks n with
    | some v => (kwTake ks r).map (v :: ·)
    | none => match d with
      | some v => (kwTake ks r).map (v :: ·)
      | none => none
/-- the names given are names of l, each once -/
def ksOk (l : List Nat) : List (Nat × D) → Bool
  | [] => true
  | (n, _) :: r => l.contains n && ksOk (l.filter fun m => !(m == n)) r
/-- the parameters' values: the positional ones, those by name alone, what is left over -/
def bindA (f : Fn) (ps : List D) (ks : List (Nat × D)) : Option (List D) :=
  let n := f.pos.length
  let late := f.pos.drop ps.length ++ f.kwo
  if ksOk (late.map (·.1)) ks && (Nat.ble ps.length n || (f.var && sizeOk ps.length)) then
    match kwTake ks late with
    | some a => some (ps.take n ++ a ++ (if f.var then [.tup (ps.drop n)] else []))
    | none => none
  else none

/-! ### running -/
/-- defs, as they may be called; instances, as they may be made -/
structure Cf where
  f : Nat → List D → Hh → R D
  i : Nat → Nat → List D → Hh → R D
structure Ev where
  c : Cf
  e : E → En → Hh → R D
  s : List S → En → Hh → RS

def badCf : Cf := ⟨fun _ _ _ => .bad, fun _ _ _ _ => .bad⟩
def badEv (c : Cf) : Ev := ⟨c, fun _ _ _ => .bad, fun _ _ _ => .bad⟩

section
variable (pg : Pg) (r : Ev)
/-- an operand: a name that holds a thing alone is looked at -/
def evA (e : E) (ρ : En) (h : Hh) : R D :=
  match e with
  | .v i => match ρ[i]? with
    | some (some (.val d)) => .ok d h
    | some (some (.own o)) => .ok o.d h
    | _ => .bad
  | e => r.e e ρ h
def evAs : List E → En → Hh → R (List D)
  | [], _, h => .ok [] h
  | e :: es, ρ, h => (evA r e ρ h).bind fun d h1 => (evAs es ρ h1).bind fun ds h2 => .ok (d :: ds) h2
def evIts : List It → En → Hh → R (List D)
  | [], _, h => .ok [] h
  | .one e :: es, ρ, h => (r.e e ρ h).bind fun d h1 => (evIts es ρ h1).bind fun ds h2 => .ok (d :: ds) h2
  | .star e :: es, ρ, h => (evA r e ρ h).bind fun d h1 => match vw h1 d with
    | .lst xs => (evIts es ρ h1).bind fun ds h2 => .ok (xs ++ ds) h2
    | .tup xs => (evIts es ρ h1).bind fun ds h2 => .ok (xs ++ ds) h2
    | _ => .bad
def evKs : List (Nat × E) → En → Hh → R (List (Nat × D))
  | [], _, h => .ok [] h
  | (n, e) :: es, ρ, h => (r.e e ρ h).bind fun d h1 => (evKs es ρ h1).bind fun ds h2 => .ok ((n, d) :: ds) h2
/-- no operand is a thing that a name holds alone -/
def clean (ρ : En) : E → Bool
  | .v i => match ρ[i]? with
    | some (some (.own _)) => false
    | _ => true
  | _ => true
def cleanI (ρ : En) : I → Bool
  | .seq e => clean ρ e
  | .range _ => true
  | .enum e => clean ρ e
  | .zip a b => clean ρ a && clean ρ b
  | .enumz a b => clean ρ a && clean ρ b
/-- an operation on values -/
def evOp (o : Op) (ds : List D) (h : Hh) : R D :=
  match dun pg h o ds with
  | some _ => .bad
  | none => match opf pg o (ds.map (vw h)) with
    | some d => .ok d h
    | none => .bad
def truthV : D → Option Bool
  | .non => some false
  | .bl b => some b
  | .int i => some (i != 0)
  | .str x => if sizeOk x.length then some (!x.isEmpty) else none
  | .lst xs => some (!xs.isEmpty)
  | .tup xs => some (!xs.isEmpty)
  | _ => none
def truthD (d : D) (h : Hh) : R Bool :=
  match truthV (vw h d) with
  | some b => .ok b h
  | none => .bad
/-- a test -/
def evT : Nat → E → En → Hh → R Bool
  | 0, _, _, _ => .bad
  | n + 1, e, ρ, h => match e with
    | .and a b => (evT n a ρ h).bind fun c h1 => if c then evT n b ρ h1 else .ok false h1
    | .or a b => (evT n a ρ h).bind fun c h1 => if c then .ok true h1 else evT n b ρ h1
    | .not a => (evT n a ρ h).bind fun c h1 => .ok (!c) h1
    | e => (evA r e ρ h).bind fun d h1 => truthD d h1
def setN (ρ : En) (i : Nat) (d : D) : En := ρ.set i (some (.val d))
def setNs : En → List Nat → List D → Option En
  | ρ, [], [] => some ρ
  | ρ, i :: l, d :: ds => setNs (setN ρ i d) l ds
  | _, _, _ => none
mutual
def bindTg : Tg → D → En → Option En
  | .n i, d, ρ => some (setN ρ i d)
  | .t l, .tup ds, ρ => bindTgs l ds ρ
  | _, _, _ => none
def bindTgs : List Tg → List D → En → Option En
  | [], [], ρ => some ρ
  | t :: l, d :: ds, ρ => (bindTg t d ρ).bind fun ρ1 => bindTgs l ds ρ1
  | _, _, _ => none
end
def countUp : Nat → Int → List D
  | 0, _ => []
  | n + 1, i => .int i :: countUp n (i + 1)
def enumD : Int → List D → List D
  | _, [] => []
  | i, d :: r => .tup [.int i, d] :: enumD (i + 1) r
def zipD : List D → List D → List D
  | x :: xs, y :: ys => .tup [x, y] :: zipD xs ys
  | _, _ => []
def big : Int := 4611686018427387904
def rangeOk (i : Int) : Bool := decide (-big ≤ i) && decide (i < big)
def zipOf (x y : D) : Option (List D) :=
  match seqOf x, seqOf y with
  | some xs, some ys => some (zipD xs ys)
  | _, _ => none
def evI (it : I) (ρ : En) (h : Hh) : R (List D) :=
  match it with
  | .seq e => (evA r e ρ h).bind fun d h1 => match seqOf d with | some xs => .ok xs h1 | none => .bad
  | .range es => (evAs r es ρ h).bind fun ds h1 => match ds with
    | [.int j] => if rangeOk j then .ok (countUp j.toNat 0) h1 else .bad
    | [.int i, .int j] => if rangeOk i && rangeOk j then .ok (countUp (j - i).toNat i) h1 else .bad
    | _ => .bad
  | .enum e => (evA r e ρ h).bind fun d h1 => match seqOf d with
    | some xs => .ok (enumD 0 xs) h1
    | none => .bad
  | .zip a b => (evAs r [a, b] ρ h).bind fun ds h1 => match ds with
    | [x, y] => match zipOf x y with
      | some xs => .ok xs h1
      | none => .bad
    | _ => .bad
  | .enumz a b => (evAs r [a, b] ρ h).bind fun ds h1 => match ds with
    | [x, y] => match zipOf x y with
      | some xs => .ok (enumD 0 xs) h1
      | none => .bad
    | _ => .bad
mutual
def tgS : Tg → List Nat
  | .n i => [i]
  | .t l => tgsS l
def tgsS : List Tg → List Nat
  | [] => []
  | t :: l => tgS t ++ tgsS l
end
def wipeR (ρ : En) : List Nat → En
  | [] => ρ
  | v :: vs => (wipeR ρ vs).set v none
/-- a comprehension's turns -/
def evC (n : Nat) (elt : E) (tg : Tg) (c : Option E) (ρ : En) : List D → Hh → R (List D)
  | [], h => .ok [] h
  | d :: ds, h => match bindTg tg d ρ with
    | none => .bad
    | some ρ1 =>
      let rest := fun h2 => evC n elt tg c ρ ds h2
      let one := fun h1 => (r.e elt ρ1 h1).bind fun x h2 => (rest h2).bind fun xs h3 => .ok (x :: xs) h3
      match c with
      | none => one h
      | some c => (evT r n c ρ1 h).bind fun b h1 => if b then one h1 else rest h1
def evC2 (elt : E) (tg : Tg) (tg2 : Tg) (it2 : I) (c : Option E) (n : Nat) (ρ : En) : List D → Hh → R (List D)
  | [], h => .ok [] h
  | d :: ds, h => match bindTg tg d ρ with
    | none => .bad
    | some ρ1 => if !cleanI ρ1 it2 then .bad else (evI r it2 ρ1 h).bind fun ys h1 => (evC r n elt tg2 c ρ1 ys h1).bind fun xs h2 =>
      (evC2 elt tg tg2 it2 c n ρ ds h2).bind fun zs h3 => .ok (xs ++ zs) h3
/-- a new instance: its __init__ runs with it as the first parameter; an instance of a frozen class is a plain value behind -/
def initOk (c : Nat) : Bool := match pg.cl c with
  | some cl => match cl.init with
    | some f => (pg.fn f).isSome
    | none => false
  | none => false
def evNew (n : Nat) (c : Nat) (ps : List D) (ks : List (Nat × D)) (h : Hh) : R D :=
  match pg.cl c with
  | none => .bad
  | some cl => match cl.init with
    | none => .bad
    | some f => match pg.fn f with
      | none => .bad
      | some fn => match bindA fn (.non :: ps) ks with
        | none => .bad
        | some as => r.c.i c f as h
def evCall (f : Nat) (ps : List D) (ks : List (Nat × D)) (h : Hh) : R D :=
  match pg.fn f with
  | none => .bad
  | some fn => match bindA fn ps ks with
    | none => .bad
    | some as => r.c.f f as h
/-- nothing is let out -/
def noExc {α : Type} (r : R α) : R α := match r with
  | .exc _ _ _ => .bad
  | x => x
/-- what an own operator's answer becomes -/
def dunBack (o : Op) (neg : Bool) (d : D) (h : Hh) : R D :=
  match o, d with
  | .eq, .bl b => .ok (.bl b) h
  | .isin, .bl b => .ok (.bl b) h
  | .notin, .bl b => .ok (.bl (!b)) h
  | .len, .int i => if decide (0 ≤ i) && decide (i < 9223372036854775808) then .ok (.int i) h else .bad
  | .repr, .str x => .ok (.str x) h
  | _, _ => .bad
/-- what == may be asked with -/
def eqTo (d e : D) : Bool :=
  match d, e with
  | .ins c _, .ins c2 _ => c == c2
  | .ins _ _, .str _ => true
  | .ins _ _, .int _ => true
  | .ins _ _, .bl _ => true
  | .ins _ _, .non => true
  | _, _ => false
def dunOk (h : Hh) (o : Op) (ds : List D) : Bool :=
  match o, ds with
  | .eq, [a, b] => eqTo (vw h a) (vw h b)
  | .eq, _ => false
  | _, _ => true
/-- an operator of an own class -/
def evDun (o : Op) (ds : List D) (h : Hh) : R D :=
  match dun pg h o ds with
  | some (f, as, neg) => if dunOk h o ds then (noExc (evCall pg r f as [] h)).bind fun d h1 => dunBack o neg d h1 else .bad
  | none => .bad
/-- an operator of an own class that may let errors out -/
def evDunX (o : Op) (ds : List D) (h : Hh) : R D :=
  match dun pg h o ds with
  | some (f, as, neg) => evCall pg r f as [] h
  | none => .bad
/-- a name that is no class's own -/
def free (cl : Cl) (f : Nat) : Bool := (afind cl.meths f).isNone && (afind cl.props f).isNone && (afind cl.consts f).isNone
/-- an attribute -/
def evFld (k : Bool) (d : D) (f : Nat) (h : Hh) : R D :=
  match vw h d with
  | .ins c fs => match pg.cl c with
    | none => .bad
    | some cl => match afind fs f with
      | some x => if free cl f then .ok x h else .bad
      | none => match afind cl.props f with
        | some g => if k then noExc (evCall pg r g [d] [] h) else .bad
        | none => match afind cl.consts f with
          | some x => .ok x h
          | none => .bad
  | _ => .bad
/-- a method of an instance -/
def methOf (c : Nat) (fs : List (Nat × D)) (m : Nat) : Option Nat :=
  match afind fs m, pg.cl c with
  | none, some cl => afind cl.meths m
  | _, _ => none
def stepE (n : Nat) (e : E) (ρ : En) (h : Hh) : R D :=
  match e with
  | .v i => match ρ[i]? with
    | some (some (.val d)) => .ok d h
    | _ => .bad
  | .k d => .ok d h
  | .op o es => (evAs r es ρ h).bind fun ds h1 => evOp pg o ds h1
  | .opd1 o a => (r.e a ρ h).bind fun x h1 => evDun pg r o [x] h1
  | .opd2 o a b => (r.e a ρ h).bind fun x h1 => (r.e b ρ h1).bind fun y h2 => evDun pg r o [x, y] h2
  | .opx o a b => (r.e a ρ h).bind fun x h1 => (r.e b ρ h1).bind fun y h2 => evDunX pg r o [x, y] h2
  | .lmul es k => (evIts r es ρ h).bind fun ds h1 => if sizeOk ds.length && sizeOk (ds.length * k) then .ok (.lst (List.replicate k ds).flatten) h1 else .bad
  | .chain o o' a b c => (evA r a ρ h).bind fun x h1 => (evA r b ρ h1).bind fun y h2 => (evOp pg o [x, y] h2).bind fun z h3 => match z with
    | .bl true => (evA r c ρ h3).bind fun u h4 => evOp pg o' [y, u] h4
    | .bl false => .ok (.bl false) h3
    | _ => .bad
  | .mt o a b => (evA r a ρ h).bind fun x h1 => match x with
    | .str s => (evA r b ρ h1).bind fun y h2 => evOp pg o [.str s, y] h2
    | _ => .bad
  | .sl3 a b c => (evA r a ρ h).bind fun x h1 => (evA r b ρ h1).bind fun y h2 => match y with
    | .int i => (evA r c ρ h2).bind fun z h3 => match z with
      | .int j => match oCut (vw h3 x) (some i) (some j) with
        | some d => .ok d h3
        | none => .bad
      | _ => .bad
    | _ => .bad
  | .and a b => (r.e a ρ h).bind fun d h1 => (truthD d h1).bind fun c h2 => if c then r.e b ρ h2 else .ok d h2
  | .or a b => (r.e a ρ h).bind fun d h1 => (truthD d h1).bind fun c h2 => if c then .ok d h2 else r.e b ρ h2
  | .not a => (evT r n a ρ h).bind fun c h1 => .ok (.bl (!c)) h1
  | .ite c a b => (evT r n c ρ h).bind fun c h1 => if c then r.e a ρ h1 else r.e b ρ h1
  | .tup es => (evIts r es ρ h).bind fun ds h1 => if sizeOk ds.length then .ok (.tup ds) h1 else .bad
  | .lst es => (evIts r es ρ h).bind fun ds h1 => if sizeOk ds.length then .ok (.lst ds) h1 else .bad
  | .cell es => (evIts r es ρ h).bind fun ds h1 => if sizeOk ds.length then .ok (.ref h1.length) (h1 ++ [.lst ds]) else .bad
  | .fld a f => (evA r a ρ h).bind fun d h1 => evFld pg r (clean ρ a) d f h1
  | .call f es ks => (evIts r es ρ h).bind fun ps h1 => (evKs r ks ρ h1).bind fun kv h2 => evCall pg r f ps kv h2
  | .new c es ks => (evIts r es ρ h).bind fun ps h1 => (evKs r ks ρ h1).bind fun kv h2 => evNew pg r n c ps kv h2
  | .newv i es ks => match ρ[i]? with
    | some (some (.val (.cls c))) => if initOk pg c then (evIts r es ρ h).bind fun ps h1 => (evKs r ks ρ h1).bind fun kv h2 => evNew pg r n c ps kv h2 else .bad
    | _ => .bad
  | .meth a m es ks => (r.e a ρ h).bind fun d h1 => match vw h1 d with
    | .ins c fs => match methOf pg c fs m with
      | some g => (evIts r es ρ h1).bind fun ps h2 => (evKs r ks ρ h2).bind fun kv h3 => evCall pg r g (d :: ps) kv h3
      | none => .bad
    | _ => .bad
  | .comp elt tg it c => (evI r it ρ h).bind fun ds h1 => match evC r n elt tg c (wipeR ρ (tgS tg)) ds h1 with
    | .ok xs h2 => if sizeOk xs.length then .ok (.lst xs) h2 else .bad
    | _ => .bad
  | .comp2 elt tg it tg2 it2 c => (evI r it ρ h).bind fun ds h1 => match evC2 r elt tg tg2 it2 c n (wipeR ρ (tgS tg ++ tgS tg2)) ds h1 with
    | .ok xs h2 => if sizeOk xs.length then .ok (.lst xs) h2 else .bad
    | _ => .bad

def oOf : D → Option O
  | .lst xs => some (.lst xs)
  | .dct kvs => some (.dct kvs)
  | .ins c fs => some (.ins c fs)
  | _ => none
/-- an expression that makes a new thing -/
def fresh : E → Bool
  | .lst _ | .comp _ _ _ _ | .comp2 _ _ _ _ _ _ | .op .list _ | .op .add _ | .op (.slc _ _) _ => true
  | _ => false

/-- a loop's turns -/
def evFor (tg : Tg) (b : List S) : List D → En → Hh → RS
  | [], ρ, h => .nx ρ h
  | d :: ds, ρ, h => match bindTg tg d ρ with
    | none => .bad
    | some ρ1 => match r.s b ρ1 h with
      | .nx ρ2 h2 => evFor tg b ds ρ2 h2
      | .ct ρ2 h2 => evFor tg b ds ρ2 h2
      | .bk ρ2 h2 => .nx ρ2 h2
      | x => x
def putI (o i e : D) (h : Hh) : Option Hh :=
  match o, i with
  | .ref n, .int k => match h[n]? with
    | some (.lst xs) => match ixOf xs.length k with
      | some j => some (h.set n (.lst (xs.set j e)))
      | none => none
    | _ => none
  | _, _ => none
/-- the first ones by name, the others in a list -/
def unpsB (l : List Nat) (i : Nat) (ds : List D) (ρ : En) (h : Hh) : RS :=
  if Nat.ble l.length ds.length && sizeOk ds.length then match bindTgs ((l ++ [i]).map .n) (ds.take l.length ++ [.lst (ds.drop l.length)]) ρ with
    | some ρ1 => .nx ρ1 h
    | none => .bad
  else .bad
/-- a while's turns, at most k -/
def evW (n : Nat) (c : E) (b : List S) : Nat → En → Hh → RS
  | 0, _, _ => .bad
  | k + 1, ρ, h => (evT r n c ρ h).toS ρ fun t h1 => if t then
      match r.s b ρ h1 with
      | .nx ρ2 h2 => evW n c b k ρ2 h2
      | .ct ρ2 h2 => evW n c b k ρ2 h2
      | .bk ρ2 h2 => .nx ρ2 h2
      | x => x
    else .nx ρ h1
def stepS1 (w n : Nat) (s : S) (ρ : En) (h : Hh) : RS :=
  match s with
  | .set i e => (r.e e ρ h).toS ρ fun d h1 => .nx (setN ρ i d) h1
  | .own i e => if fresh e then (r.e e ρ h).toS ρ fun d h1 => match oOf d with
      | some o => .nx (ρ.set i (some (.own o))) h1
      | none => .bad
    else .bad
  | .frz i => match ρ[i]? with
    | some (some (.own o)) => .nx (setN ρ i o.d) h
    | some (some (.val d)) => .nx ρ h
    | _ => .bad
  | .asg t e => (r.e e ρ h).toS ρ fun d h1 => match bindTg t d ρ with
    | some ρ1 => .nx ρ1 h1
    | none => .bad
  | .unp l e => (evA r e ρ h).toS ρ fun d h1 => match vw h1 d with
    | .tup ds => match setNs ρ l ds with | some ρ1 => .nx ρ1 h1 | none => .bad
    | .lst ds => match setNs ρ l ds with | some ρ1 => .nx ρ1 h1 | none => .bad
    | _ => .bad
  | .unps l i e => (r.e e ρ h).toS ρ fun d h1 => match vw h1 d with
    | .tup ds => unpsB l i ds ρ h1
    | .lst ds => unpsB l i ds ρ h1
    | _ => .bad
  | .par l es => (evIts r (es.map .one) ρ h).toS ρ fun ds h1 => match setNs ρ l ds with
    | some ρ1 => .nx ρ1 h1
    | none => .bad
  | .setI a i e => (r.e e ρ h).toS ρ fun x h1 => (r.e a ρ h1).toS ρ fun d h2 => (r.e i ρ h2).toS ρ fun k h3 => match putI d k x h3 with
    | some h4 => .nx ρ h4
    | none => .bad
  | .setF a f e => (r.e e ρ h).toS ρ fun x h1 => match a with
    | .v j => match ρ[j]? with
      | some (some (.own (.ins c fs))) => if Nat.blt fs.length 900 && (match pg.cl c with | some cl => free cl f | none => false) then .nx (ρ.set j (some (.own (.ins c (aput f x fs))))) h1 else .bad
      | some (some (.val (.ref m))) => match h1[m]? with
        | some (.ins c fs) => if Nat.blt fs.length 900 && (match pg.cl c with | some cl => free cl f | none => false) then .nx ρ (h1.set m (.ins c (aput f x fs))) else .bad
        | _ => .bad
      | _ => .bad
    | _ => .bad
  | .app i e => match ρ[i]? with
    | some (some (.own (.lst xs))) => (r.e e ρ h).toS ρ fun x h1 => if Nat.blt xs.length line then .nx (ρ.set i (some (.own (.lst (xs ++ [x]))))) h1 else .bad
    | _ => .bad
  | .exp e => (r.e e ρ h).toS ρ fun _ h1 => .nx ρ h1
  | .ret e => (r.e e ρ h).toS ρ fun d h1 => .rt d h1
  | .retN => .rt .non h
  | .iff c a b => (evT r n c ρ h).toS ρ fun c h1 => if c then r.s a ρ h1 else r.s b ρ h1
  | .for tg it b => if !cleanI ρ it then .bad else (evI r it ρ h).toS ρ fun ds h1 => evFor r tg b ds ρ h1
  | .whl c b => evW r n c b w ρ h
  | .brk => .bk ρ h
  | .cnt => .ct ρ h
  | .pass => .nx ρ h
  | .never => .bad
def stepSs (w n : Nat) : List S → En → Hh → RS
  | [], ρ, h => .nx ρ h
  | s :: ss, ρ, h => match stepS1 pg r w n s ρ h with
    | .nx ρ1 h1 => stepSs w n ss ρ1 h1
    | x => x
/-- the names at a def's entry -/
def start (n : Nat) (as : List D) : En := as.map (fun d => some (.val d)) ++ List.replicate (n - as.length) none
def stepF (f : Nat) (as : List D) (h : Hh) : R D :=
  match pg.fn f with
  | none => .bad
  | some fn => match r.s fn.body (start fn.slots as) h with
    | .nx _ h1 => .ok .non h1
    | .rt d h1 => .ok d h1
    | .exc c fs _ h1 => .exc c fs h1
    | _ => .bad
/-- __init__ of an instance that is held by its first name alone -/
def stepI (c f : Nat) (as : List D) (h : Hh) : R D :=
  match pg.fn f, pg.cl c with
  | some fn, some cl =>
    if cl.frozen then
      match r.s fn.body ((start fn.slots as).set 0 (some (.own (.ins c [])))) h with
      | .nx ρ h1 => match ρ[0]? with
        | some (some (Sl.own (O.ins c' fs))) => .ok (.ins c' fs) h1
        | _ => .bad
      | .exc c fs _ h1 => .exc c fs h1
      | _ => .bad
    else .bad
  | _, _ => .bad
end
/-- n: how deep within a def -/
def inner (pg : Pg) (w : Nat) (c : Cf) : Nat → Ev
  | 0 => badEv c
  | n + 1 => ⟨c, stepE pg (inner pg w c n) n, stepSs pg (inner pg w c n) w n⟩
/-- how deep within a def's text; how many turns a while may take -/
def deep : Nat := 40
def turns : Nat := 100000
/-- d: how many calls deep -/
def cfs (pg : Pg) : Nat → Cf
  | 0 => badCf
  | d + 1 => ⟨stepF pg (inner pg turns (cfs pg d) deep), stepI pg (inner pg turns (cfs pg d) deep)⟩
end PI
end
section
/-! What stands for the interpreter's data in the abstract heap. -/
set_option linter.all false
set_option maxRecDepth 100000
set_option maxHeartbeats 1000000
namespace PI
open PySem PySem.Spec PyProof.Rows L2

/-- a law's names: attributes, classes' places -/
structure Tb where
  nm : Nat → Str
  ca : Nat → Addr
  pg : Pg
def tS (x : Tx) : Str := ⟨⟨x⟩⟩
theorem tS_inj {x y : Tx} (h : tS x = tS y) : x = y := by
  injection h with h
  injection h

mutual
/-- d is what v is worth: F what never changes, m the cells' places -/
inductive Rl (T : Tb) (K : PySem.W.Frag) (F : Hp) (m : List Addr) : D → V → Prop
  | non : Rl T K F m .non .non
  | bl (b : Bool) : Rl T K F m (.bl b) (.bl b)
  | int (i : Int) : Rl T K F m (.int i) (.int i)
  | str (x : Tx) : Rl T K F m (.str x) (.str (tS x))
  | tup {a : Addr} {vs : List V} {ds : List D} : SqT K F a vs → Rls T K F m ds vs → Rl T K F m (.tup ds) (.ref a)
  | lst {a : Addr} {vs : List V} {ds : List D} : SqL K F a vs → Rls T K F m ds vs → Rl T K F m (.lst ds) (.ref a)
  | ins {a dx : Addr} {c : Nat} {fs : List (Nat × D)} {gs : List (Str × V)} : F a = some (.ins (T.ca c) dx gs) → F dx = some (.own a) → Rlf T K F m fs gs → Rl T K F m (.ins c fs) (.ref a)
  | ref {n : Nat} {a : Addr} : m[n]? = some a → Rl T K F m (.ref n) (.ref a)
  | cls (c : Nat) : Rl T K F m (.cls c) (.ref (T.ca c))
inductive Rls (T : Tb) (K : PySem.W.Frag) (F : Hp) (m : List Addr) : List D → List V → Prop
  | nil : Rls T K F m [] []
  | cons {d : D} {ds : List D} {v : V} {vs : List V} : Rl T K F m d v → Rls T K F m ds vs → Rls T K F m (d :: ds) (v :: vs)
inductive Rlf (T : Tb) (K : PySem.W.Frag) (F : Hp) (m : List Addr) : List (Nat × D) → List (Str × V) → Prop
  | nil : Rlf T K F m [] []
  | cons {n : Nat} {d : D} {fs : List (Nat × D)} {v : V} {gs : List (Str × V)} : Rl T K F m d v → Rlf T K F m fs gs → Rlf T K F m ((n, d) :: fs) ((T.nm n, v) :: gs)
end

/-- F grows -/
def Sub (F F' : Hp) : Prop := ∀ a o, F a = some o → F' a = some o
theorem Sub.refl {F : Hp} : Sub F F := fun _ _ e => e
theorem Sub.trans {F F' F'' : Hp} (a : Sub F F') (b : Sub F' F'') : Sub F F'' := fun x o e => b x o (a x o e)
theorem Sub.rd {F F' : Hp} (s : Sub F F') {a : Addr} {u : HO} (h : Rd F a u) : Rd F' a u := by
  rcases h with h | ⟨o, h⟩
  · exact .inl (s a _ h)
  · exact .inr ⟨o, s a _ h⟩
theorem Sub.sqT {K : PySem.W.Frag} {F F' : Hp} (s : Sub F F') {a : Addr} {vs : List V} (h : SqT K F a vs) : SqT K F' a vs := h.imp s.rd id
theorem Sub.sqL {K : PySem.W.Frag} {F F' : Hp} (s : Sub F F') {a : Addr} {vs : List V} (h : SqL K F a vs) : SqL K F' a vs := h.imp s.rd id
def Pre (m m' : List Addr) : Prop := ∃ t, m' = m ++ t
theorem Pre.refl {m : List Addr} : Pre m m := ⟨[], by simp⟩
theorem Pre.trans {m m' m'' : List Addr} (a : Pre m m') (b : Pre m' m'') : Pre m m'' := by
  obtain ⟨t, rfl⟩ := a
  obtain ⟨u, rfl⟩ := b
  exact ⟨t ++ u, by simp⟩
theorem Pre.get {m m' : List Addr} (p : Pre m m') {n : Nat} {a : Addr} (h : m[n]? = some a) : m'[n]? = some a := by
  obtain ⟨t, rfl⟩ := p
  rw [List.getElem?_append_left (List.getElem?_eq_some_iff.mp h).1]
  exact h
theorem Pre.mem {m m' : List Addr} (p : Pre m m') {a : Addr} (h : a ∈ m) : a ∈ m' := by
  obtain ⟨t, rfl⟩ := p
  exact List.mem_append_left _ h

section
variable {T : Tb} {K : PySem.W.Frag} {F F' : Hp} {m m' : List Addr}
mutual
theorem Rl.mono (s : Sub F F') (p : Pre m m') : ∀ (d : D) {v : V}, Rl T K F m d v → Rl T K F' m' d v
  | .non, _, h => by cases h; exact .non
  | .bl b, _, h => by cases h; exact .bl b
  | .int i, _, h => by cases h; exact .int i
  | .str x, _, h => by cases h; exact .str x
  | .tup ds, _, h => by
    cases h with
    | tup h1 h2 => exact .tup (s.sqT h1) (Rls.mono s p ds h2)
  | .lst ds, _, h => by
    cases h with
    | lst h1 h2 => exact .lst (s.sqL h1) (Rls.mono s p ds h2)
  | .dct _, _, h => by cases h
  | .ins c fs, _, h => by
    cases h with
    | ins h1 h2 h3 => exact .ins (s _ _ h1) (s _ _ h2) (Rlf.mono s p fs h3)
  | .ref n, _, h => by
    cases h with
    | ref h1 => exact .ref (p.get h1)
  | .cls c, _, h => by cases h; exact .cls c
theorem Rls.mono (s : Sub F F') (p : Pre m m') : ∀ (ds : List D) {vs : List V}, Rls T K F m ds vs → Rls T K F' m' ds vs
  | [], _, h => by cases h; exact .nil
  | d :: ds, _, h => by
    cases h with
    | cons h1 h2 => exact .cons (Rl.mono s p d h1) (Rls.mono s p ds h2)
theorem Rlf.mono (s : Sub F F') (p : Pre m m') : ∀ (fs : List (Nat × D)) {gs : List (Str × V)}, Rlf T K F m fs gs → Rlf T K F' m' fs gs
  | [], _, h => by cases h; exact .nil
  | (n, d) :: fs, _, h => by
    cases h with
    | cons h1 h2 => exact .cons (Rl.mono s p d h1) (Rlf.mono s p fs h2)
end
theorem Rls.length : ∀ {ds : List D} {vs : List V}, Rls T K F m ds vs → vs.length = ds.length
  | [], _, h => by cases h; rfl
  | _ :: ds, _, h => by
    cases h with
    | cons h1 h2 => simp [Rls.length h2]
theorem Rls.get : ∀ {ds : List D} {vs : List V} {i : Nat} {d : D}, Rls T K F m ds vs → ds[i]? = some d → ∃ v, vs[i]? = some v ∧ Rl T K F m d v
  | [], _, _, _, h, e => by simp at e
  | _ :: ds, _, 0, d, h, e => by
    cases h with
    | cons h1 h2 =>
      simp at e
      subst e
      exact ⟨_, rfl, h1⟩
  | _ :: ds, _, i + 1, d, h, e => by
    cases h with
    | cons h1 h2 =>
      obtain ⟨v, e1, e2⟩ := Rls.get (i := i) h2 (by simpa using e)
      exact ⟨v, by simpa using e1, e2⟩
theorem Rls.get' : ∀ {ds : List D} {vs : List V} {i : Nat} {v : V}, Rls T K F m ds vs → vs[i]? = some v → ∃ d, ds[i]? = some d ∧ Rl T K F m d v := fun {ds vs i v} h e => by
  have hl := h.length
  have hi : i < ds.length := by rw [← hl]; exact (List.getElem?_eq_some_iff.mp e).1
  obtain ⟨v', e1, e2⟩ := h.get (List.getElem?_eq_getElem hi)
  rw [e] at e1
  cases e1
  exact ⟨_, List.getElem?_eq_getElem hi, e2⟩
theorem Rls.append : ∀ {ds es : List D} {vs us : List V}, Rls T K F m ds vs → Rls T K F m es us → Rls T K F m (ds ++ es) (vs ++ us)
  | [], _, _, _, h, g => by cases h; exact g
  | _ :: ds, _, _, _, h, g => by
    cases h with
    | cons h1 h2 => exact .cons h1 (Rls.append h2 g)
theorem Rls.take : ∀ {ds : List D} {vs : List V} (n : Nat), Rls T K F m ds vs → Rls T K F m (ds.take n) (vs.take n)
  | _, _, 0, h => .nil
  | [], _, n + 1, h => by cases h; exact .nil
  | _ :: ds, _, n + 1, h => by
    cases h with
    | cons h1 h2 => exact .cons h1 (Rls.take n h2)
theorem Rls.drop : ∀ {ds : List D} {vs : List V} (n : Nat), Rls T K F m ds vs → Rls T K F m (ds.drop n) (vs.drop n)
  | _, _, 0, h => h
  | [], _, n + 1, h => by cases h; exact .nil
  | _ :: ds, _, n + 1, h => by
    cases h with
    | cons h1 h2 => exact Rls.drop n h2
theorem Rls.set : ∀ {ds : List D} {vs : List V} {d : D} {v : V} (i : Nat), Rl T K F m d v → Rls T K F m ds vs → Rls T K F m (ds.set i d) (vs.set i v)
  | [], _, _, _, _, _, h => by cases h; exact .nil
  | _ :: ds, _, _, _, 0, r, h => by
    cases h with
    | cons h1 h2 => exact .cons r h2
  | _ :: ds, _, _, _, i + 1, r, h => by
    cases h with
    | cons h1 h2 => exact .cons h1 (Rls.set i r h2)
theorem Rls.reverse {ds : List D} : ∀ {vs : List V}, Rls T K F m ds vs → Rls T K F m ds.reverse vs.reverse := by
  induction ds with
  | nil => intro vs h; cases h; exact .nil
  | cons d ds ih =>
    intro vs h
    cases h with
    | cons h1 h2 =>
      rw [List.reverse_cons, List.reverse_cons]
      exact (ih h2).append (.cons h1 .nil)
theorem Rls.split : ∀ {ds es : List D} {us : List V}, Rls T K F m (ds ++ es) us → ∃ vs ws, us = vs ++ ws ∧ Rls T K F m ds vs ∧ Rls T K F m es ws
  | [], _, us, h => ⟨[], us, rfl, .nil, h⟩
  | d :: ds, es, _, h => by
    cases h with
    | cons h1 h2 =>
      obtain ⟨vs, ws, e, a, b⟩ := Rls.split h2
      exact ⟨_ :: vs, ws, by rw [e]; rfl, .cons h1 a, b⟩
/-- the fields of an instance -/
theorem Rlf.get (inj : ∀ a b, T.nm a = T.nm b → a = b) : ∀ {fs : List (Nat × D)} {gs : List (Str × V)} (f : Nat), Rlf T K F m fs gs →
    match afind fs f with
    | some d => ∃ v, gs.lookup (T.nm f) = some v ∧ Rl T K F m d v
    | none => gs.lookup (T.nm f) = none
  | [], _, f, h => by cases h; rfl
  | (n, d) :: fs, _, f, h => by
    cases h with
    | cons h1 h2 =>
      unfold afind
      by_cases e : n = f
      · subst e
        simp only [beq_self_eq_true, if_true]
        exact ⟨_, by simp [List.lookup], h1⟩
      · have e1 : (n == f) = false := by simpa using e
        have e2 : (T.nm f == T.nm n) = false := by
          rw [beq_eq_false_iff_ne]
          exact fun z => e (inj _ _ z).symm
        simp only [e1, Bool.false_eq_true, if_false, List.lookup, e2]
        exact Rlf.get inj f h2
theorem Rlf.put (inj : ∀ a b, T.nm a = T.nm b → a = b) {d : D} {v : V} (r : Rl T K F m d v) : ∀ {fs : List (Nat × D)} {gs : List (Str × V)} (f : Nat), Rlf T K F m fs gs → Rlf T K F m (aput f d fs) (putF (T.nm f) v gs)
  | [], _, f, h => by cases h; exact .cons r .nil
  | (n, x) :: fs, _, f, h => by
    cases h with
    | cons h1 h2 =>
      unfold aput putF
      by_cases e : n = f
      · subst e
        simp only [beq_self_eq_true, if_true]
        exact .cons r h2
      · have e1 : (n == f) = false := by simpa using e
        have e2 : ¬ T.nm n = T.nm f := fun z => e (inj _ _ z)
        simp only [e1, Bool.false_eq_true, if_false]
        rw [if_neg e2]
        exact .cons h1 (Rlf.put inj r f h2)
theorem Rlf.length : ∀ {fs : List (Nat × D)} {gs : List (Str × V)}, Rlf T K F m fs gs → gs.length = fs.length
  | [], _, h => by cases h; rfl
  | _ :: fs, _, h => by
    cases h with
    | cons h1 h2 => simp [Rlf.length h2]
end

/-! ### the small heap and the names -/
structure Gh where
  F : Hp
  m : List Addr
structure Le (g g' : Gh) : Prop where
  s : Sub g.F g'.F
  p : Pre g.m g'.m
theorem Le.refl {g : Gh} : Le g g := ⟨.refl, .refl⟩
theorem Le.trans {g g' g'' : Gh} (a : Le g g') (b : Le g' g'') : Le g g'' := ⟨a.s.trans b.s, a.p.trans b.p⟩
section
variable (T : Tb) (K : PySem.W.Frag)
def ThingAt (g : Gh) (H : Hp) (a : Addr) : O → Prop
  | .lst ds => ∃ vs, H a = some (.lst vs) ∧ Rls T K g.F g.m ds vs
  | .dct _ => False
  | .ins c fs => ∃ dx gs, H a = some (.ins (T.ca c) dx gs) ∧ H dx = some (.own a) ∧ Rlf T K g.F g.m fs gs
structure HeapOk (g : Gh) (h : Hh) (H : Hp) : Prop where
  fr : Sub g.F H
  len : g.m.length = h.length
  cell : ∀ (n : Nat) (o : O) (a : Addr), h[n]? = some o → g.m[n]? = some a → ThingAt T K g H a o
  nd : g.m.Nodup
  dj : ∀ a ∈ g.m, g.F a = none
def SlotOk (g : Gh) (H : Hp) : Sl → V → Prop
  | .val d, v => Rl T K g.F g.m d v
  | .own o, v => ∃ a, v = .ref a ∧ ThingAt T K g H a o ∧ a ∉ g.m ∧ g.F a = none
structure EnOk (g : Gh) (ρ : En) (σ : L2.St) (H : Hp) : Prop where
  len : ρ.length = σ.length
  sl : ∀ (i : Nat) (s : Sl), ρ[i]? = some (some s) → ∃ v, σ[i]? = some (some v) ∧ SlotOk T K g H s v
  ap : ∀ (i j : Nat) (o o' : O), i ≠ j → ρ[i]? = some (some (.own o)) → ρ[j]? = some (some (.own o')) → σ[i]? ≠ σ[j]?
/-- from g, H on: what was stands, but for the cells; what is new was free -/
structure Post (g : Gh) (H : Hp) (g' : Gh) (h' : Hh) (H' : Hp) : Prop where
  le : Le g g'
  ok : HeapOk T K g' h' H'
  kp : ∀ a o, H a = some o → a ∉ g.m → H' a = some o
  ce : ∀ a, a ∈ g.m → H a ≠ none → H' a ≠ none
  nm : ∀ a, a ∈ g'.m → a ∉ g.m → H a = none
  nF : ∀ a o, g'.F a = some o → g.F a = none → H a = none
end
section
variable {T : Tb} {K : PySem.W.Frag} {g g' g'' : Gh} {h h' h'' : Hh} {H H' H'' : Hp} {ρ : En} {σ : L2.St}
theorem Post.refl (ok : HeapOk T K g h H) : Post T K g H g h H := ⟨.refl, ok, fun _ _ e _ => e, fun _ _ e => e, fun _ a b => absurd a b, fun _ o a b => by rw [b] at a; cases a⟩
theorem Post.there (p : Post T K g H g' h' H') {a : Addr} (e : H' a = none) : H a = none := by
  cases q : H a with
  | none => rfl
  | some o =>
    by_cases hm : a ∈ g.m
    · exact absurd e (p.ce a hm (by rw [q]; simp))
    · rw [p.kp a o q hm] at e
      cases e
theorem Post.trans (p : Post T K g H g' h' H') (q : Post T K g' H' g'' h'' H'') : Post T K g H g'' h'' H'' where
  le := p.le.trans q.le
  ok := q.ok
  kp := fun a o e hm => by
    have e1 := p.kp a o e hm
    by_cases h' : a ∈ g'.m
    · rw [p.nm a h' hm] at e
      cases e
    · exact q.kp a o e1 h'
  ce := fun a hm e => by
    have e1 := p.ce a hm e
    exact q.ce a (p.le.p.mem hm) e1
  nm := fun a h2 h0 => by
    by_cases h1 : a ∈ g'.m
    · exact p.nm a h1 h0
    · exact p.there (q.nm a h2 h1)
  nF := fun a o e2 e0 => by
    cases e1 : g'.F a with
    | none => exact p.there (q.nF a o e2 e1)
    | some u => exact p.nF a u e1 e0
theorem ThingAt.mono (l : Le g g') {a : Addr} {o : O} (t : ThingAt T K g H a o) (e : H' a = H a) (e2 : ∀ dx, H dx = some (.own a) → H' dx = some (.own a)) : ThingAt T K g' H' a o := by
  cases o with
  | lst ds =>
    obtain ⟨vs, h1, h2⟩ := t
    exact ⟨vs, e.trans h1, h2.mono l.s l.p _⟩
  | dct kvs => exact t
  | ins c fs =>
    obtain ⟨dx, gs, h1, h2, h3⟩ := t
    exact ⟨dx, gs, e.trans h1, e2 dx h2, h3.mono l.s l.p _⟩
theorem ThingAt.ex {a : Addr} {o : O} (t : ThingAt T K g H a o) : ∃ u, H a = some u := by
  cases o with
  | lst ds =>
    obtain ⟨vs, h1, h2⟩ := t
    exact ⟨_, h1⟩
  | dct kvs => exact t.elim
  | ins c fs =>
    obtain ⟨dx, gs, h1, h2, h3⟩ := t
    exact ⟨_, h1⟩
/-- what is at a cell: a list or an instance; never an instance's own dict -/
theorem ThingAt.notOwn {a b : Addr} {o : O} (t : ThingAt T K g H a o) : H a ≠ some (.own b) := by
  cases o with
  | lst ds =>
    obtain ⟨vs, h1, h2⟩ := t
    rw [h1]; simp
  | dct kvs => exact t.elim
  | ins c fs =>
    obtain ⟨dx, gs, h1, h2, h3⟩ := t
    rw [h1]; simp
theorem HeapOk.at_ (ok : HeapOk T K g h H) {a : Addr} (hm : a ∈ g.m) : ∃ (n : Nat) (o : O), h[n]? = Option.some o ∧ g.m[n]? = Option.some a ∧ ThingAt T K g H a o := by
  obtain ⟨n, hn⟩ := List.mem_iff_getElem?.mp hm
  have hl : n < h.length := by rw [← ok.len]; exact (List.getElem?_eq_some_iff.mp hn).1
  exact ⟨n, h[n], List.getElem?_eq_getElem hl, hn, ok.cell n _ a (List.getElem?_eq_getElem hl) hn⟩
theorem HeapOk.own_out (ok : HeapOk T K g h H) {a b : Addr} (e : H a = Option.some (.own b)) : a ∉ g.m := fun hm => by
  obtain ⟨n, o, _, _, t⟩ := ok.at_ hm
  exact t.notOwn e
theorem HeapOk.own_out_none (ok : HeapOk T K g h H) {a : Addr} (e : H a = none) (hm : a ∈ g.m) : H a = some (.lst []) := by
  obtain ⟨n, o, _, _, t⟩ := ok.at_ hm
  obtain ⟨u, hu⟩ := t.ex
  rw [e] at hu
  cases hu
theorem EnOk.post (E : EnOk T K g ρ σ H) (ok : HeapOk T K g h H) (p : Post T K g H g' h' H') : EnOk T K g' ρ σ H' where
  len := E.len
  ap := E.ap
  sl := fun i s e => by
    obtain ⟨v, e1, e2⟩ := E.sl i s e
    refine ⟨v, e1, ?_⟩
    cases s with
    | val d => exact Rl.mono p.le.s p.le.p d e2
    | own o =>
      obtain ⟨a, ev, t, hm, hF⟩ := e2
      obtain ⟨u, hu⟩ := t.ex
      refine ⟨a, ev, t.mono p.le ((p.kp a u hu hm).trans hu.symm) (fun dx e => p.kp dx _ e (ok.own_out e)), fun z => ?_, ?_⟩
      · rw [p.nm a z hm] at hu
        cases hu
      · cases q : g'.F a with
        | none => rfl
        | some w =>
          rw [p.nF a w q hF] at hu
          cases hu
end
end PI
end
section
/-! Readings: what the interpreter's run of a piece of text gives. -/
set_option linter.all false
set_option maxRecDepth 100000
set_option maxHeartbeats 1000000
namespace PI
open PySem PySem.Spec PyProof.Rows L2

/-- a wish about exceptions: class, own dict, names, heap (Exc's WX, without importing it) -/
abbrev Wx := Value → Option Addr → L2.St → Hp → Prop
structure Here (T : Tb) (K : PySem.W.Frag) (g : Gh) (ρ : En) (h : Hh) (σ : L2.St) (H : Hp) : Prop where
  ok : HeapOk T K g h H
  en : EnOk T K g ρ σ H
section
variable {T : Tb} {K : PySem.W.Frag} {W : Wx} {σ : L2.St} {g g' g1 : Gh} {H H' H1 : Hp} {h h' h1 : Hh} {ρ : En} {α β γ δ : Type}
theorem Here.post (a : Here T K g ρ h σ H) (p : Post T K g H g' h' H') : Here T K g' ρ h' σ H' := ⟨p.ok, a.en.post a.ok p⟩

def Out (T : Tb) (K : PySem.W.Frag) (W : Wx) (σ : L2.St) (g : Gh) (H : Hp) (r : R α) (k : α → Hh → Prop) : Prop :=
  match r with
  | .ok a h' => k a h'
  | .exc c fs h' => ∀ (g' : Gh) (H' : Hp) (d : Addr) (gs : List (Str × V)), Post T K g H g' h' H' → H' d = some (.xd gs) → d ∉ g'.m → Rlf T K g'.F g'.m fs gs → W (.ref (T.ca c)) (some d) σ H'
  | .bad => False
theorem Out.bind {r : R α} {f : α → Hh → R β} {k : β → Hh → Prop} (o : Out T K W σ g H (r.bind f) k) : Out T K W σ g H r (fun a h1 => Out T K W σ g H (f a h1) k) := by
  cases r <;> exact o
theorem Out.imp {r : R α} {k k' : α → Hh → Prop} (o : Out T K W σ g H r k) (i : ∀ a h, k a h → k' a h) : Out T K W σ g H r k' := by
  cases r with
  | ok a h => exact i a h o
  | exc c fs h => exact o
  | bad => exact o
theorem Out.shift {r : R α} {k k' : α → Hh → Prop} (p : Post T K g H g1 h1 H1) (o : Out T K W σ g H r k) (i : ∀ a h, k a h → k' a h) : Out T K W σ g1 H1 r k' := by
  cases r with
  | ok a h => exact i a h o
  | exc c fs h => exact fun g' H' d gs q => o g' H' d gs (p.trans q)
  | bad => exact o

/-- what a value of a run has to do with what the text's run hands on -/
abbrev Rel (α β : Type) := En → Gh → Hp → α → β → Prop
def KK (T : Tb) (K : PySem.W.Frag) (rel : Rel α β) (ρ : En) (g : Gh) (H : Hp) (Q : β → Hp → Prop) : α → Hh → Prop :=
  fun a h' => ∀ (g' : Gh) (b : β) (H' : Hp), Post T K g H g' h' H' → rel ρ g' H' a b → Q b H'
theorem KK.shift {rel : Rel α β} {Q : β → Hp → Prop} (p : Post T K g H g1 h1 H1) {a : α} {h' : Hh} (k : KK T K rel ρ g H Q a h') : KK T K rel ρ g1 H1 Q a h' :=
  fun g' b H' q r => k g' b H' (p.trans q) r
def Rd (T : Tb) (K : PySem.W.Frag) (W : Wx) (ee : En → Hh → R α) (rel : Rel α β) : L2.St → Hp → (β → Hp → Prop) → Prop :=
  fun σ H Q => ∃ g ρ h, Here T K g ρ h σ H ∧ Out T K W σ g H (ee ρ h) (KK T K rel ρ g H Q)
theorem Rd.mk {rel : Rel α β} {rel2 : Rel γ δ} {ee : En → Hh → R α} {f : α → Hh → R γ} {Q : β → Hp → Prop} {Q2 : δ → Hp → Prop} (a : Here T K g ρ h σ H)
    (o : Out T K W σ g H ((ee ρ h).bind f) (KK T K rel2 ρ g H Q2))
    (kont : ∀ (g' : Gh) (x : α) (b : β) (h' : Hh) (H' : Hp), Here T K g' ρ h' σ H' → Post T K g H g' h' H' → rel ρ g' H' x b → Out T K W σ g' H' (f x h') (KK T K rel2 ρ g' H' Q2) → Q b H') :
    Rd T K W ee rel σ H Q :=
  ⟨g, ρ, h, a, o.bind.imp fun x h' o' g' b H' p r => kont g' x b h' H' (a.post p) p r (o'.shift p fun _ _ => KK.shift p)⟩
theorem Rd.last {rel : Rel α β} {ee : En → Hh → R α} {Q : β → Hp → Prop} (a : Here T K g ρ h σ H) (o : Out T K W σ g H (ee ρ h) (KK T K rel ρ g H Q)) : Rd T K W ee rel σ H Q := ⟨g, ρ, h, a, o⟩
theorem Rd.eq {rel : Rel α β} {ee ee' : En → Hh → R α} {Q : β → Hp → Prop} (e : ∀ ρ h, ee ρ h = ee' ρ h) (r : Rd T K W ee rel σ H Q) : Rd T K W ee' rel σ H Q := by
  obtain ⟨g, ρ, h, a, o⟩ := r
  exact ⟨g, ρ, h, a, by rw [← e]; exact o⟩

/-! ### the relations -/
abbrev relE (T : Tb) (K : PySem.W.Frag) : Rel D V := fun _ g _ d v => Rl T K g.F g.m d v
abbrev relEs (T : Tb) (K : PySem.W.Frag) : Rel (List D) (List V) := fun _ g _ d v => Rls T K g.F g.m d v
abbrev relB : Rel Bool Bool := fun _ _ _ a b => a = b
/-- an operand: a value, or what a name holds alone -/
def Opd (T : Tb) (K : PySem.W.Frag) (c : Bool) (g : Gh) (H : Hp) (d : D) (v : V) : Prop :=
  Rl T K g.F g.m d v ∨ (c = false ∧ ∃ a o, v = .ref a ∧ d = O.d o ∧ ThingAt T K g H a o ∧ a ∉ g.m ∧ g.F a = none)
theorem Opd.clean {d : D} {v : V} (o : Opd T K true g H d v) : Rl T K g.F g.m d v := by
  rcases o with o | ⟨c, _⟩
  · exact o
  · cases c
theorem Opd.post {c : Bool} {d : D} {v : V} (ok : HeapOk T K g h H) (o : Opd T K c g H d v) (p : Post T K g H g' h' H') : Opd T K c g' H' d v := by
  rcases o with o | ⟨hc, a, o, ev, ed, t, hm, hF⟩
  · exact .inl (o.mono p.le.s p.le.p _)
  · obtain ⟨u, hu⟩ := t.ex
    refine .inr ⟨hc, a, o, ev, ed, t.mono p.le ((p.kp a u hu hm).trans hu.symm) (fun dx e => p.kp dx _ e (ok.own_out e)), fun z => ?_, ?_⟩
    · rw [p.nm a z hm] at hu
      cases hu
    · cases q : g'.F a with
      | none => rfl
      | some w =>
        rw [p.nF a w q hF] at hu
        cases hu
abbrev relA (T : Tb) (K : PySem.W.Frag) (c : En → Bool) : Rel D V := fun ρ g H d v => Opd T K (c ρ) g H d v
/-- an operand seen through -/
def Vw (T : Tb) (K : PySem.W.Frag) (g : Gh) (H : Hp) (d : D) (v : V) : Prop :=
  Rl T K g.F g.m d v ∨ ∃ a o, v = .ref a ∧ d = O.d o ∧ ThingAt T K g H a o
theorem Opd.vw {c : Bool} {d : D} {v : V} (ok : HeapOk T K g h H) (o : Opd T K c g H d v) : Vw T K g H (vw h d) v := by
  rcases o with o | ⟨hc, a, o, ev, ed, t, hm, hF⟩
  · cases d with
    | ref n =>
      cases o with
      | ref e =>
        show Vw T K g H (match h[n]? with | some o => o.d | none => D.ref n) _
        cases q : h[n]? with
        | none => exact .inl (.ref e)
        | some u => exact .inr ⟨_, u, rfl, rfl, ok.cell n u _ q e⟩
    | non => exact .inl o
    | bl b => exact .inl o
    | int i => exact .inl o
    | str x => exact .inl o
    | tup xs => exact .inl o
    | lst xs => exact .inl o
    | dct xs => exact .inl o
    | ins c fs => exact .inl o
    | cls c => exact .inl o
  · refine .inr ⟨a, o, ev, ?_, t⟩
    subst ed
    cases o <;> rfl
theorem Vw.lst {xs : List D} {v : V} (ok : HeapOk T K g h H) (w : Vw T K g H (.lst xs) v) : ∃ a vs, v = .ref a ∧ SqL K H a vs ∧ Rls T K g.F g.m xs vs := by
  rcases w with w | ⟨a, o, ev, ed, t⟩
  · cases w with
    | lst h1 h2 => exact ⟨_, _, rfl, ok.fr.sqL h1, h2⟩
  · cases o with
    | lst ds =>
      obtain ⟨vs, h1, h2⟩ := t
      cases ed
      exact ⟨a, vs, ev, .of h1, h2⟩
    | dct kvs => cases ed
    | ins c fs => cases ed
theorem Vw.tup {xs : List D} {v : V} (ok : HeapOk T K g h H) (w : Vw T K g H (.tup xs) v) : ∃ a vs, v = .ref a ∧ SqT K H a vs ∧ Rls T K g.F g.m xs vs := by
  rcases w with w | ⟨a, o, ev, ed, t⟩
  · cases w with
    | tup h1 h2 => exact ⟨_, _, rfl, ok.fr.sqT h1, h2⟩
  · cases o <;> cases ed
theorem Vw.int {i : Int} {v : V} (w : Vw T K g H (.int i) v) : v = .int i := by
  rcases w with w | ⟨a, o, ev, ed, t⟩
  · cases w; rfl
  · cases o <;> cases ed
theorem Vw.str {x : Tx} {v : V} (w : Vw T K g H (.str x) v) : v = .str (tS x) := by
  rcases w with w | ⟨a, o, ev, ed, t⟩
  · cases w; rfl
  · cases o <;> cases ed
theorem Vw.bl {b : Bool} {v : V} (w : Vw T K g H (.bl b) v) : v = .bl b := by
  rcases w with w | ⟨a, o, ev, ed, t⟩
  · cases w; rfl
  · cases o <;> cases ed
theorem Vw.non {v : V} (w : Vw T K g H .non v) : v = .non := by
  rcases w with w | ⟨a, o, ev, ed, t⟩
  · cases w; rfl
  · cases o <;> cases ed
theorem Vw.ins {c : Nat} {fs : List (Nat × D)} {v : V} (ok : HeapOk T K g h H) (w : Vw T K g H (.ins c fs) v) :
    ∃ a dx gs, v = .ref a ∧ H a = some (.ins (T.ca c) dx gs) ∧ H dx = some (.own a) ∧ Rlf T K g.F g.m fs gs := by
  rcases w with w | ⟨a, o, ev, ed, t⟩
  · cases w with
    | ins h1 h2 h3 => exact ⟨_, _, _, rfl, ok.fr _ _ h1, ok.fr _ _ h2, h3⟩
  · cases o with
    | lst ds => cases ed
    | dct kvs => cases ed
    | ins c' fs' =>
      obtain ⟨dx, gs, h1, h2, h3⟩ := t
      cases ed
      exact ⟨a, dx, gs, ev, h1, h2, h3⟩

/-! ### a new thing that never changes -/
theorem upd_none {F : Hp} {p a : Addr} {o u : HO} (hp : F p = none) (e : F a = some u) : upd F p o a = some u := by
  rw [upd_ne (ne_of_none e hp)]
  exact e
theorem HeapOk.newF {p : Addr} {o : HO} (ok : HeapOk T K g h H) (hp : H p = none) : Post T K g H ⟨upd g.F p o, g.m⟩ h (upd H p o) := by
  have hF : g.F p = none := by
    cases q : g.F p with
    | none => rfl
    | some u =>
      rw [ok.fr p u q] at hp
      cases hp
  have hm : p ∉ g.m := fun z => by
    obtain ⟨n, u, _, _, t⟩ := ok.at_ z
    obtain ⟨w, e⟩ := t.ex
    rw [hp] at e
    cases e
  have sub : Sub g.F (upd g.F p o) := fun a u e => upd_none hF e
  refine ⟨⟨sub, .refl⟩, ⟨fun a u e => ?_, ok.len, fun n u a e1 e2 => ?_, ok.nd, fun a ha => ?_⟩, fun a u e _ => upd_none hp e, fun a ha e => ?_, fun a h1 h2 => absurd h1 h2, fun a u e1 e2 => ?_⟩
  · by_cases z : a = p
    · subst z
      have e : upd g.F a o a = some u := e
      rw [upd_same] at e
      rw [upd_same]
      exact e
    · have e : upd g.F p o a = some u := e
      rw [upd_ne z] at e
      rw [upd_ne z]
      exact ok.fr a u e
  · have t := ok.cell n u a e1 e2
    have hap : a ≠ p := fun z => hm (by rw [← z]; exact List.mem_of_getElem? e2)
    exact ThingAt.mono (g' := ⟨upd g.F p o, g.m⟩) ⟨sub, .refl⟩ t (upd_ne hap) fun dx e => upd_none hp e
  · have hap : a ≠ p := fun z => hm (z ▸ ha)
    show upd g.F p o a = none
    rw [upd_ne hap]
    exact ok.dj a ha
  · have hap : a ≠ p := fun z => hm (z ▸ ha)
    rw [upd_ne hap]
    exact e
  · by_cases z : a = p
    · rw [z]
      exact hp
    · have e1 : upd g.F p o a = some u := e1
      rw [upd_ne z, e2] at e1
      cases e1
/-- .. of a list, a tuple -/
theorem new_lst {p : Addr} {ds : List D} {vs : List V} (ok : HeapOk T K g h H) (hp : H p = none) (r : Rls T K g.F g.m ds vs) :
    Rl T K (upd g.F p (.lst vs)) g.m (.lst ds) (.ref p) := by
  have P := ok.newF (o := .lst vs) hp
  exact .lst (.of upd_same) (r.mono P.le.s .refl _)
theorem new_tup {p : Addr} {ds : List D} {vs : List V} (ok : HeapOk T K g h H) (hp : H p = none) (r : Rls T K g.F g.m ds vs) :
    Rl T K (upd g.F p (.tup vs)) g.m (.tup ds) (.ref p) := by
  have P := ok.newF (o := .tup vs) hp
  exact .tup (.of upd_same) (r.mono P.le.s .refl _)
end

/-! ### operators that may ask for the names (an own class's, which may raise) -/
def OpS (X : Cx) (f : Value → Value → Sem Value) (r : L2.St → R2) : Prop :=
  ∀ (pins : List (Addr × Obj)) (s : Shared) (σ : L2.St) (H : Hp) (x y : V) (v u : Value) (Q : VK), L2.Inv X pins σ H s → RelV x v → RelV y u →
    r σ x y H Q → wpAny (model X.prog X.w) X.A (f v u) (EP X pins σ Q) X.xe s
theorem OpS.of {X : Cx} {f : Value → Value → Sem Value} {r : R2} (o : OpR X f r) : OpS X f (fun _ => r) := fun pins s σ H x y v u Q I rx ry q => o pins s σ H x y v u Q I rx ry q
theorem OpS.or {X : Cx} {f : Value → Value → Sem Value} {r r' : L2.St → R2} (a : OpS X f r) (b : OpS X f r') : OpS X f (fun σ x y H Q => r σ x y H Q ∨ r' σ x y H Q) := fun pins s σ H x y v u Q I rx ry q => by
  rcases q with q | q
  · exact a pins s σ H x y v u Q I rx ry q
  · exact b pins s σ H x y v u Q I rx ry q
theorem OpS.imp {X : Cx} {f : Value → Value → Sem Value} {r r' : L2.St → R2} (a : OpS X f r) (i : ∀ σ x y H Q, r' σ x y H Q → r σ x y H Q) : OpS X f r' :=
  fun pins s σ H x y v u Q I rx ry q => a pins s σ H x y v u Q I rx ry (i σ x y H Q q)
def tOpS (r : L2.St → R2) (ta tb : TE) : TE := fun σ H Q => ta σ H fun x H1 => tb σ H1 fun y H2 => r σ x y H2 Q
section
variable {X : Cx} {a b c : Expr} {ta tb tc : TE} {pos : Pos}
theorem pe_opS {op : Operator} {r : L2.St → R2} (ho : OpS X (binaryOp op) r) (ha : PE X a ta) (hb : PE X b tb) : PE X (.BinOp a op b pos) (tOpS r ta tb) :=
  ⟨fun pins s σ H Q I h => wpAny_BinOp (binT (R := fun x y H2 => r σ x y H2 Q) ha hb I h fun v u s2 x y H2 I2 rx ry q => ho pins s2 σ H2 x y v u Q I2 rx ry q)⟩
theorem pe_cmpS {op : CmpOp} {r : L2.St → R2} (ho : OpS X (compareOp op) r) (ha : PE X a ta) (hb : PE X b tb) (hm : behindInMarks op b = false) :
    PE X (.Compare a [op] [b] pos) (tOpS r ta tb) :=
  ⟨fun pins s σ H Q I h => wpAny_Compare1 (binT (R := fun x y H2 => r σ x y H2 Q) ha hb I h fun v u s2 x y H2 I2 rx ry q => ho pins s2 σ H2 x y v u Q I2 rx ry q) hm⟩
/-- a comparison as a test: what it gives is looked at for its truth -/
theorem pt_cmpS {op : CmpOp} {r : L2.St → R2} (ho : OpS X (compareOp op) r) (ha : PE X a ta) (hb : PE X b tb) (hm : behindInMarks op b = false) :
    PT X (.Compare a [op] [b] pos) (tTest (tOpS r ta tb)) := by
  refine ⟨fun pins s σ H Q I h => wpAny_isTrue_Compare1 (thn (ha.run pins s σ H _ I h) fun v s1 w1 => ?_) hm⟩
  obtain ⟨x, H1, I1, r1, q1⟩ := w1
  refine thn (hb.run pins s1 σ H1 _ I1 q1) fun u s2 w2 => ?_
  obtain ⟨y, H2, I2, r2, q2⟩ := w2
  refine thn (ho pins s2 σ H2 x y v u _ I2 r1 r2 q2) fun d s3 w3 => ?_
  obtain ⟨z, H3, I3, r3, k, e, q3⟩ := w3
  subst e
  cases r3
  exact wpAny_truthy_bool ⟨H3, I3, q3⟩
def tChainS (r r' : L2.St → R2) (ta tb tc : TE) : TE := fun σ H Q => ta σ H fun x H1 => tb σ H1 fun y H2 => r σ x y H2 fun z H3 => ∃ k, z = .bl k ∧
  (if k = true then tc σ H3 fun z' H4 => r' σ y z' H4 Q else Q (.bl false) H3)
theorem pe_chainS {op op' : CmpOp} {r r' : L2.St → R2} (ho : OpS X (compareOp op) r) (ho' : OpS X (compareOp op') r') (ha : PE X a ta) (hb : PE X b tb) (hc : PE X c tc)
    (hm : lastMarks [op, op'] [b, c] = false) : PE X (.Compare a [op, op'] [b, c] pos) (tChainS r r' ta tb tc) := by
  refine ⟨fun pins s σ H Q I h => Compare_chain (thn (ha.run pins s σ H _ I h) fun v s1 w1 => ?_) hm⟩
  obtain ⟨x, H1, I1, r1, q1⟩ := w1
  refine chain_link (thn (hb.run pins s1 σ H1 _ I1 q1) fun u s2 w2 => ?_)
  obtain ⟨y, H2, I2, r2, q2⟩ := w2
  refine thn (ho pins s2 σ H2 x y v u _ I2 r1 r2 q2) fun d s3 w3 => ?_
  obtain ⟨z, H3, I3, r3, k, e, q3⟩ := w3
  subst e
  cases r3
  refine wpAny_truthy_bool ?_
  cases k with
  | false => exact ite_ff ⟨.bl false, H3, I3, rfl, q3⟩
  | true =>
    refine ite_tt (chain_last (thn (hc.run pins s3 σ H3 _ I3 q3) fun w' s4 w4 => ?_))
    obtain ⟨z', H4, I4, r4, q4⟩ := w4
    exact ho' pins s4 σ H4 y z' u w' Q I4 r2 r4 q4
theorem PE.imp {e : Expr} {t t' : TE} (h : PE X e t) (i : ∀ σ H Q, t' σ H Q → t σ H Q) : PE X e t' := ⟨fun pins s σ H Q I q => h.run pins s σ H Q I (i σ H Q q)⟩
theorem PT.imp {e : Expr} {t t' : TT} (h : PT X e t) (i : ∀ σ H Q, t' σ H Q → t σ H Q) : PT X e t' := ⟨fun pins s σ H Q I q => h.run pins s σ H Q I (i σ H Q q)⟩
theorem PA.imp {es : List Expr} {t t' : TA} (h : PA X es t) (i : ∀ σ H Q, t' σ H Q → t σ H Q) : PA X es t' := ⟨fun pos pins s σ H Q I q => h.run pos pins s σ H Q I (i σ H Q q)⟩
theorem PS.imp {e : Stmt} {t t' : TS} (h : PS X e t) (i : ∀ D σ H, t' D σ H → t D σ H) : PS X e t' := ⟨fun pins s σ H D I q => h.run pins s σ H D I (i D σ H q)⟩
theorem PSs.imp {e : List Stmt} {t t' : TS} (h : PSs X e t) (i : ∀ D σ H, t' D σ H → t D σ H) : PSs X e t' := ⟨fun pins s σ H D I q => h.run pins s σ H D I (i D σ H q)⟩
end
end PI
end
section
/-! How arguments come to parameters: any call without a double star. -/
set_option linter.all false
set_option maxRecDepth 100000
set_option maxHeartbeats 1000000
namespace PI
open PySem PySem.Spec PyProof.Rows L2

abbrev NV := List (Str × Value)
def addD (l s : NV) : NV := l.foldl (fun sl p => if (sl.lookup p.1).isNone then sl ++ [p] else sl) s
theorem lookup_snoc (n : Str) (v : Value) (x : Str) : ∀ s : NV, (s ++ [(n, v)]).lookup x = (s.lookup x).or (if x == n then some v else none)
  | [] => by
    cases h : x == n <;> simp [List.lookup, h]
  | (m, u) :: s => by
    simp only [List.cons_append, List.lookup]
    cases h : x == m with
    | true => simp
    | false => exact lookup_snoc n v x s
theorem addD_cons (p : Str × Value) (l s : NV) : addD (p :: l) s = addD l (if (s.lookup p.1).isNone then s ++ [p] else s) := rfl
theorem addD_lookup (x : Str) : ∀ (l s : NV), (addD l s).lookup x = (s.lookup x).or (l.lookup x)
  | [], s => by simp [addD, List.lookup]
  | (n, v) :: l, s => by
    rw [addD_cons, addD_lookup x l]
    by_cases h : (s.lookup n).isNone = true
    · rw [if_pos h, lookup_snoc]
      have hn : s.lookup n = none := by simpa using h
      cases e : x == n with
      | true =>
        have : x = n := by simpa using e
        subst this
        simp [List.lookup, hn]
      | false =>
        simp [List.lookup, e]
    · rw [if_neg h]
      cases e : x == n with
      | true =>
        have : x = n := by simpa using e
        subst this
        obtain ⟨u, hu⟩ := Option.isSome_iff_exists.mp (by simpa using h : (s.lookup x).isSome = true)
        simp [hu]
      | false =>
        simp [List.lookup, e]
theorem lookup_app (x : Str) : ∀ (a b : NV), (a ++ b).lookup x = (a.lookup x).or (b.lookup x)
  | [], b => by simp [List.lookup]
  | (m, u) :: a, b => by
    simp only [List.cons_append, List.lookup]
    cases h : x == m with
    | true => simp
    | false => exact lookup_app x a b
theorem lookup_zip_get : ∀ {ns : List Str} {vs : List Value} {i : Nat} {x : Str}, ns.Nodup → ns[i]? = some x → (ns.zip vs).lookup x = vs[i]?
  | [], _, _, _, _, h => by simp at h
  | n :: ns, [], _, x, _, h => by simp [List.lookup]
  | n :: ns, v :: vs, 0, x, nd, h => by
    simp at h
    subst h
    simp [List.lookup]
  | n :: ns, v :: vs, i + 1, x, nd, h => by
    have h : ns[i]? = some x := by simpa using h
    have hne : (x == n) = false := by
      rw [beq_eq_false_iff_ne]
      rintro rfl
      exact (List.nodup_cons.mp nd).1 (List.mem_of_getElem? h)
    simp only [List.zip_cons_cons, List.lookup, hne]
    simpa using lookup_zip_get (List.nodup_cons.mp nd).2 h
theorem lookup_none_of {x : Str} : ∀ {l : NV}, x ∉ l.map (·.1) → l.lookup x = none
  | [], _ => rfl
  | (m, u) :: l, h => by
    simp only [List.map_cons, List.mem_cons, not_or] at h
    have : (x == m) = false := by simpa using h.1
    simp only [List.lookup, this]
    exact lookup_none_of h.2

section
variable {P : Program} {w : World} {A : Around} {E : Value → Shared → Prop} {s : Shared} {K : PySem.W.Frag}
/-- the loop over the keywords -/
theorem kw_loop {Z : NV} {f : Str × Value → NV × NV → Sem (ForInStep (NV × NV))} : ∀ (b a : NV),
    (∀ x y : NV, ∀ p : Str × Value, a ++ b = x ++ p :: y → f p (Z ++ x, []) = pure (.yield (Z ++ x ++ [p], []))) → forIn b (Z ++ a, ([] : NV)) f = pure (Z ++ (a ++ b), ([] : NV))
  | [], a, _ => by rw [List.forIn_nil]; simp
  | p :: b, a, h => by
    rw [List.forIn_cons, h a b p rfl]
    have ih := kw_loop (Z := Z) (f := f) b (a ++ [p]) fun x y q e => h x y q (by rw [← e]; simp)
    show forIn b (Z ++ a ++ [p], []) f = _
    rw [List.append_assoc, ih]
    simp
/-- the loop over the defaults -/
theorem d_loop {f : Str × Value → NV → Sem (ForInStep NV)} (hf : ∀ p sl, f p sl = pure (.yield (if (sl.lookup p.1).isNone then sl ++ [p] else sl))) : ∀ (l sl : NV), forIn l sl f = pure (addD l sl)
  | [], sl => by rw [List.forIn_nil]; rfl
  | p :: l, sl => by
    rw [List.forIn_cons, hf]
    show forIn l _ f = _
    rw [d_loop hf l, addD_cons]
theorem wp_kw {M : Model} {Z kw : NV} {f : Str × Value → NV × NV → Sem (ForInStep (NV × NV))} {Q : NV × NV → Shared → Prop}
    (h : ∀ x y : NV, ∀ p : Str × Value, kw = x ++ p :: y → f p (Z ++ x, []) = pure (.yield (Z ++ x ++ [p], []))) (q : Q (Z ++ kw, []) s) : wpAny M A (forIn kw (Z, ([] : NV)) f) Q E s := by
  have e := kw_loop (Z := Z) (f := f) kw [] fun x y p e => h x y p (by simpa using e)
  rw [List.append_nil, List.nil_append] at e
  rw [e]
  exact wpAny_pure q
theorem wp_d {M : Model} {l sl : NV} {f : Str × Value → NV → Sem (ForInStep NV)} {Q : NV → Shared → Prop} (hf : ∀ p sl, f p sl = pure (.yield (if (sl.lookup p.1).isNone then sl ++ [p] else sl)))
    (q : Q (addD l sl) s) : wpAny M A (forIn l sl f) Q E s := by
  rw [d_loop hf]
  exact wpAny_pure q
/-- the loop over the names of keywords alone -/
theorem wp_k {M : Model} {kd : Value} {f : Str → NV × List Str → Sem (ForInStep (NV × List Str))} (X : K.In s.heap)
    (h1 : ∀ n sl, (sl.lookup n).isNone = false → f n (sl, []) = pure (.yield (sl, [])))
    (h2 : ∀ n sl D v, kd = .ref D → (sl.lookup n).isNone = true → ∃ k, f n (sl, []) = nsGet D n >>= k ∧ k (some v) = pure (.yield (sl ++ [(n, v)], []))) :
    ∀ (kz sl : NV) {Q : NV × List Str → Shared → Prop}, (∀ p ∈ kz, (sl.lookup p.1).isSome = true ∨ ∃ D, kd = .ref D ∧ PySem.W.nsIn K D p.1 = some (some p.2)) →
      Q (addD kz sl, []) s → wpAny M A (forIn (kz.map (·.1)) (sl, ([] : List Str)) f) Q E s
  | [], sl, Q, _, q => by
    rw [List.map_nil, List.forIn_nil]
    exact wpAny_pure q
  | p :: kz, sl, Q, h, q => by
    rw [List.map_cons, List.forIn_cons]
    rw [addD_cons] at q
    by_cases c : (sl.lookup p.1).isNone = true
    · rcases h p (List.mem_cons_self ..) with z | ⟨D, e1, e2⟩
      · rw [Option.isNone_iff_eq_none.mp c] at z
        cases z
      · obtain ⟨k, e3, e4⟩ := h2 p.1 sl D p.2 e1 c
        rw [e3]
        refine wpAny_bind (wpAny_bind ((PySem.W.looks_nsIn X e2).here ?_))
        rw [e4]
        refine wpAny_pure ?_
        rw [if_pos c] at q
        refine wp_k X h1 h2 kz (sl ++ [p]) (fun r hr => ?_) q
        rcases h r (List.mem_cons_of_mem _ hr) with z | z
        · left
          rw [lookup_app]
          obtain ⟨u, hu⟩ := Option.isSome_iff_exists.mp z
          simp [hu]
        · exact .inr z
    · have c' : (sl.lookup p.1).isNone = false := by simpa using c
      rw [h1 p.1 sl c']
      refine wpAny_bind (wpAny_pure ?_)
      rw [if_neg c] at q
      exact wp_k X h1 h2 kz sl (fun r hr => h r (List.mem_cons_of_mem _ hr)) q
theorem bind_gen {M : Model} {fd : FuncData} {us : List Value} {kw : NV} {normal kwonly : List Str} {dl : List Value} {kz : NV} {Q : NV → Shared → Prop}
    (hpo : fd.params.posonlyargs = []) (hn : fd.params.args.map (·.arg) = normal) (hk : fd.params.kwonlyargs.map (·.arg) = kwonly) (hkg : fd.params.kwarg = none) (X : K.In s.heap)
    (hd : (dl = [] ∧ fd.defaults = .none) ∨ ∃ T o n, fd.defaults = .ref T ∧ K.lookup T = some o ∧ o.data = .seq dl.toArray n) (hdl : dl.length ≤ normal.length)
    (hkw : ∀ x y p, kw = x ++ p :: y → (normal.contains p.1 || kwonly.contains p.1) = true ∧ ((normal.zip us ++ x).lookup p.1).isSome = false)
    (hc : us.length ≤ normal.length ∨ fd.params.vararg ≠ none)
    (hm : ∀ n ∈ normal.take (normal.length - dl.length), ((normal.zip us ++ kw).lookup n).isSome = true)
    (hz : kz.map (·.1) = kwonly)
    (hkd : ∀ p ∈ kz, ((addD ((normal.drop (normal.length - dl.length)).zip dl) (normal.zip us ++ kw)).lookup p.1).isSome = true ∨ ∃ D, fd.kwdefaults = .ref D ∧ PySem.W.nsIn K D p.1 = some (some p.2))
    (q : ∀ B, B = (normal ++ kwonly).filterMap (fun n => ((addD kz (addD ((normal.drop (normal.length - dl.length)).zip dl) (normal.zip us ++ kw))).lookup n).map fun v => (n, v)) →
      match fd.params.vararg with
      | none => Q B s
      | some a => wpAny M A (newTuple (us.drop normal.length)) (fun t s' => Q (B ++ [(a.arg, t)]) s') E s) :
    wpAny M A (bindArgs fd ⟨us, kw⟩) Q E s := by
  unfold bindArgs
  simp only [hpo, hn, hk, hkg, List.map_nil, List.nil_append]
  refine wpAny_bind (wp_kw (fun x y p e => ?_) ?_)
  · obtain ⟨e1, e2⟩ := hkw x y p e
    obtain ⟨k, v⟩ := p
    simp only [e1, e2, if_true, Bool.false_eq_true, if_false]
  · have rest : wpAny M A (seqItems? fd.defaults) (fun o s' => s' = s ∧ (o.getD #[]).toList = dl) E s := by
      rcases hd with ⟨e1, e2⟩ | ⟨T, o, n, e1, e2, e3⟩
      · rw [e2]
        exact wpAny_pure ⟨rfl, by rw [e1]; rfl⟩
      · rw [e1]
        exact wpAny_seqItems (X _ _ e2) e3 ⟨rfl, by simp⟩
    refine wpAny_bind (thn rest fun o s' hs => ?_)
    obtain ⟨rfl, ho⟩ := hs
    simp only [ho]
    have cc : (decide (us.length > normal.length) && fd.params.vararg.isNone) = false := by
      rcases hc with hc | hc
      · simp; omega
      · cases q2 : fd.params.vararg with
        | none => exact absurd q2 hc
        | some a => simp
    simp only [cc, Bool.false_eq_true, if_false]
    have d0 : List.drop (dl.length - normal.length) dl = dl := by
      rw [Nat.sub_eq_zero_of_le hdl]
      rfl
    simp only [d0]
    have ms : (List.filter (fun n => (List.lookup n (normal.zip us ++ kw)).isNone) (normal.take (normal.length - dl.length))) = [] := by
      rw [List.filter_eq_nil_iff]
      intro n hn'
      obtain ⟨u, hu⟩ := Option.isSome_iff_exists.mp (hm n hn')
      simp [hu]
    simp only [ms, List.isEmpty_nil, Bool.not_true, Bool.false_eq_true, if_false]
    refine wpAny_bind (wp_d (fun p sl => ?_) ?_)
    · obtain ⟨n, v⟩ := p
      split <;> rfl
    · rw [← hz]
      refine wpAny_bind (wp_k (kd := fd.kwdefaults) X (fun n sl c => ?_) (fun n sl D v e c => ?_) kz _ hkd ?_)
      · simp only [c, Bool.false_eq_true, if_false]
      · simp only [c, if_true, e]
        exact ⟨_, rfl, rfl⟩
      · simp only [List.isEmpty_nil, Bool.not_true, Bool.false_eq_true, if_false]
        have qq := q _ rfl
        rw [hz]
        cases q2 : fd.params.vararg with
        | none =>
          rw [q2] at qq
          exact wpAny_pure qq
        | some a =>
          rw [q2] at qq
          exact wpAny_bind (thn qq fun t s1 z => wpAny_pure z)
end

/-! ### the same for data -/
section
variable {T : Tb} {K : PySem.W.Frag} {F : Hp} {m : List Addr}
def RV (T : Tb) (K : PySem.W.Frag) (F : Hp) (m : List Addr) (d : D) (u : Value) : Prop := ∃ v, RelV v u ∧ Rl T K F m d v
def RVs (T : Tb) (K : PySem.W.Frag) (F : Hp) (m : List Addr) (ds : List D) (us : List Value) : Prop := ∃ vs, Vals vs us ∧ Rls T K F m ds vs
theorem RVs.length {ds : List D} {us : List Value} (r : RVs T K F m ds us) : us.length = ds.length := by
  obtain ⟨vs, a, b⟩ := r
  rw [← a.length, b.length]
theorem RVs.get {ds : List D} {us : List Value} {i : Nat} {d : D} (r : RVs T K F m ds us) (e : ds[i]? = some d) : ∃ u, us[i]? = some u ∧ RV T K F m d u := by
  obtain ⟨vs, a, b⟩ := r
  obtain ⟨v, e1, e2⟩ := b.get e
  obtain ⟨u, e3, e4⟩ := a.get e1
  exact ⟨u, e3, v, e4, e2⟩
theorem RVs.nil : RVs T K F m [] [] := ⟨[], .nil, .nil⟩
theorem RVs.cons {d : D} {u : Value} {ds : List D} {us : List Value} (a : RV T K F m d u) (r : RVs T K F m ds us) : RVs T K F m (d :: ds) (u :: us) := by
  obtain ⟨v, a1, a2⟩ := a
  obtain ⟨vs, b1, b2⟩ := r
  exact ⟨v :: vs, .cons a1 b1, .cons a2 b2⟩
theorem RVs.take {ds : List D} {us : List Value} (n : Nat) (r : RVs T K F m ds us) : RVs T K F m (ds.take n) (us.take n) := by
  obtain ⟨vs, a, b⟩ := r
  exact ⟨vs.take n, a.take n, b.take n⟩
theorem RVs.drop {ds : List D} {us : List Value} (n : Nat) (r : RVs T K F m ds us) : RVs T K F m (ds.drop n) (us.drop n) := by
  obtain ⟨vs, a, b⟩ := r
  exact ⟨vs.drop n, a.drop n, b.drop n⟩
theorem RVs.append {ds es : List D} {us ws : List Value} (r : RVs T K F m ds us) (q : RVs T K F m es ws) : RVs T K F m (ds ++ es) (us ++ ws) := by
  obtain ⟨vs, a, b⟩ := r
  obtain ⟨zs, c, d⟩ := q
  exact ⟨vs ++ zs, a.append c, b.append d⟩
theorem RVs.prs : ∀ {ds : List D} {us : List Value}, RVs T K F m ds us → Paired (RV T K F m) ds us
  | [], us, r => by
    obtain ⟨vs, a, b⟩ := r
    cases b
    cases a
    exact .nil
  | d :: ds, us, r => by
    obtain ⟨vs, a, b⟩ := r
    cases b with
    | cons b1 b2 =>
      cases a with
      | cons a1 a2 => exact .cons ⟨_, a1, b1⟩ (RVs.prs ⟨_, a2, b2⟩)
theorem RVs.of : ∀ {ds : List D} {us : List Value}, Paired (RV T K F m) ds us → RVs T K F m ds us
  | [], _, .nil => ⟨[], .nil, .nil⟩
  | d :: ds, _, .cons a r => RVs.cons a (RVs.of r)
end
section
variable {R : D → Value → Prop}
theorem prsLen {ds : List D} {us : List Value} (r : Paired R ds us) : us.length = ds.length := r.length.symm
theorem prsGet : ∀ {ds : List D} {us : List Value} {i : Nat} {d : D}, Paired R ds us → ds[i]? = some d → ∃ u, us[i]? = some u ∧ R d u
  | _, _, _, _, .nil, e => by simp at e
  | _, _, 0, _, .cons a r, e => by simp at e; subst e; exact ⟨_, rfl, a⟩
  | _, _, i + 1, d, .cons a r, e => by
    obtain ⟨u, h1, h2⟩ := prsGet (i := i) (d := d) r (by simpa using e)
    exact ⟨u, by simpa using h1, h2⟩
theorem prsTake : ∀ {ds : List D} {us : List Value} (n : Nat), Paired R ds us → Paired R (ds.take n) (us.take n)
  | _, _, 0, _ => .nil
  | _, _, _ + 1, .nil => .nil
  | _, _, n + 1, .cons a r => .cons a (prsTake n r)
theorem prsApp : ∀ {ds es : List D} {us ws : List Value}, Paired R ds us → Paired R es ws → Paired R (ds ++ es) (us ++ ws)
  | _, _, _, _, .nil, s => s
  | _, _, _, _, .cons a r, s => .cons a (prsApp r s)
end
section
variable {T : Tb} {R : D → Value → Prop}
theorem kw_find (inj : ∀ a b, T.nm a = T.nm b → a = b) (f : Nat) : ∀ {kv : List (Nat × D)} {ws : List Value}, Paired R (kv.map (·.2)) ws →
    match afind kv f with
    | some d => ∃ u, ((kv.map fun p => T.nm p.1).zip ws).lookup (T.nm f) = some u ∧ R d u
    | none => ((kv.map fun p => T.nm p.1).zip ws).lookup (T.nm f) = none
  | [], ws, _ => rfl
  | (n, d) :: kv, [], r => by
    have := r.length
    simp at this
  | (n, d) :: kv, w :: ws, r => by
    cases r with
    | cons a1 a2 =>
        unfold afind
        by_cases e : n = f
        · subst e
          simp only [beq_self_eq_true, if_true]
          exact ⟨w, by simp [List.lookup], a1⟩
        · have e1 : (n == f) = false := by simpa using e
          have e2 : (T.nm f == T.nm n) = false := by
            rw [beq_eq_false_iff_ne]
            exact fun z => e (inj _ _ z).symm
          simp only [e1, Bool.false_eq_true, if_false, List.map_cons, List.zip_cons_cons, List.lookup, e2]
          exact kw_find inj f a2
/-- what stands for each parameter that is not given by its place -/
theorem late_vals (inj : ∀ a b, T.nm a = T.nm b → a = b) {kv : List (Nat × D)} {ws : List Value} (rk : Paired R (kv.map (·.2)) ws) (dv : Str → Option Value) :
    ∀ {late : List (Nat × Option D)} {as : List D}, kwTake kv late = some as → (∀ p ∈ late, ∀ d, p.2 = some d → ∃ u, dv (T.nm p.1) = some u ∧ R d u) →
      ∃ us, Paired R as us ∧ us.length = late.length ∧ ∀ (i : Nat) (p : Nat × Option D), late[i]? = some p → us[i]? = (((kv.map fun p => T.nm p.1).zip ws).lookup (T.nm p.1)).or (dv (T.nm p.1))
  | [], as, e, _ => by
    cases e
    exact ⟨[], .nil, rfl, fun i p h => by simp at h⟩
  | (n, d) :: late, as, e, h => by
    have kf := kw_find inj n rk
    unfold kwTake at e
    cases q : afind kv n with
    | some v =>
      rw [q] at e kf
      obtain ⟨as', e1, rfl⟩ := Option.map_eq_some_iff.mp e
      obtain ⟨us, r1, r2, r3⟩ := late_vals inj rk dv e1 fun p hp => h p (List.mem_cons_of_mem _ hp)
      obtain ⟨u, e2, e3⟩ := kf
      refine ⟨u :: us, .cons e3 r1, by simp [r2], fun i p hp => ?_⟩
      cases i with
      | zero =>
        simp at hp
        subst hp
        simp [e2]
      | succ i => simpa using r3 i p (by simpa using hp)
    | none =>
      rw [q] at e kf
      cases d with
      | none => cases e
      | some v =>
        obtain ⟨as', e1, rfl⟩ := Option.map_eq_some_iff.mp e
        obtain ⟨us, r1, r2, r3⟩ := late_vals inj rk dv e1 fun p hp => h p (List.mem_cons_of_mem _ hp)
        obtain ⟨u, e2, e3⟩ := h (n, some v) (List.mem_cons_self ..) v rfl
        refine ⟨u :: us, .cons e3 r1, by simp [r2], fun i p hp => ?_⟩
        cases i with
        | zero =>
          simp at hp
          subst hp
          have kf' : ((kv.map fun p => T.nm p.1).zip ws).lookup (T.nm n) = none := kf
          simp [kf', e2]
        | succ i => simpa using r3 i p (by simpa using hp)
theorem zip_of {f : Str → Option Value} : ∀ {ns : List Str} {us : List Value}, us.length = ns.length → (∀ (i : Nat) n, ns[i]? = some n → f n = us[i]?) → (ns.filterMap fun n => (f n).map fun v => (n, v)) = ns.zip us
  | [], us, _, _ => by simp
  | n :: ns, [], e, _ => by simp at e
  | n :: ns, u :: us, e, h => by
    have h0 := h 0 n rfl
    simp at h0
    rw [List.filterMap_cons, h0]
    simp only [Option.map_some, List.zip_cons_cons]
    rw [zip_of (by simpa using e) fun i x hx => by simpa using h (i + 1) x (by simpa using hx)]
end

theorem ksOk_all : ∀ {kv : List (Nat × D)} {l : List Nat}, ksOk l kv = true → (kv.map (·.1)).Nodup ∧ ∀ n ∈ kv.map (·.1), n ∈ l
  | [], l, _ => ⟨List.nodup_nil, fun n h => by simp at h⟩
  | (n, d) :: kv, l, h => by
    unfold ksOk at h
    simp only [Bool.and_eq_true] at h
    obtain ⟨h1, h2⟩ := h
    obtain ⟨a, b⟩ := ksOk_all h2
    refine ⟨?_, fun x hx => ?_⟩
    · rw [List.map_cons, List.nodup_cons]
      refine ⟨fun z => ?_, a⟩
      have := b n z
      simp at this
    · rw [List.map_cons] at hx
      rcases List.mem_cons.mp hx with rfl | hx
      · simpa using h1
      · have := b x hx
        simp at this
        exact this.1
theorem kwTake_some {kv : List (Nat × D)} : ∀ {late : List (Nat × Option D)} {as : List D}, kwTake kv late = some as → as.length = late.length ∧ ∀ p ∈ late, p.2 = none → (afind kv p.1).isSome = true
  | [], as, e => by cases e; exact ⟨rfl, fun p h => by cases h⟩
  | (n, d) :: late, as, e => by
    unfold kwTake at e
    cases q : afind kv n with
    | some v =>
      rw [q] at e
      obtain ⟨as', e1, rfl⟩ := Option.map_eq_some_iff.mp e
      obtain ⟨a, b⟩ := kwTake_some e1
      refine ⟨by simp [a], fun p hp hn => ?_⟩
      rcases List.mem_cons.mp hp with rfl | hp
      · rw [q] <;> rfl
      · exact b p hp hn
    | none =>
      rw [q] at e
      cases d with
      | none => cases e
      | some v =>
        obtain ⟨as', e1, rfl⟩ := Option.map_eq_some_iff.mp e
        obtain ⟨a, b⟩ := kwTake_some e1
        refine ⟨by simp [a], fun p hp hn => ?_⟩
        rcases List.mem_cons.mp hp with rfl | hp
        · cases hn
        · exact b p hp hn
/-- what is known of a def and its parameters -/
structure FnFacts (T : Tb) (K : PySem.W.Frag) (fd : FuncData) (fn : Fn) (pv : Str) : Prop where
  po : fd.params.posonlyargs = []
  nn : fd.params.args.map (·.arg) = fn.pos.map fun p => T.nm p.1
  kn : fd.params.kwonlyargs.map (·.arg) = fn.kwo.map fun p => T.nm p.1
  kg : fd.params.kwarg = none
  va : fd.params.vararg.map (·.arg) = if fn.var then some pv else none
  nd : ((fn.pos ++ fn.kwo).map fun p => T.nm p.1).Nodup
  dd : ∃ dl : List Value, ((dl = [] ∧ fd.defaults = .none) ∨ ∃ t o n, fd.defaults = .ref t ∧ K.lookup t = some o ∧ o.data = .seq dl.toArray n) ∧ dl.length ≤ fn.pos.length ∧
    ∀ (i : Nat) p, fn.pos[i]? = some p → (i < fn.pos.length - dl.length ∧ p.2 = none) ∨ ∃ d u, p.2 = some d ∧ fn.pos.length - dl.length ≤ i ∧ dl[i - (fn.pos.length - dl.length)]? = some u ∧ ∀ F m, RV T K F m d u
  kd : ∀ p ∈ fn.kwo, ∀ d, p.2 = some d → ∃ t u, fd.kwdefaults = .ref t ∧ PySem.W.nsIn K t (T.nm p.1) = some (some u) ∧ ∀ F m, RV T K F m d u
theorem kz_make {T : Tb} {K : PySem.W.Frag} {kd : Value} : ∀ {kwo : List (Nat × Option D)}, (∀ p ∈ kwo, ∀ d, p.2 = some d → ∃ t u, kd = .ref t ∧ PySem.W.nsIn K t (T.nm p.1) = some (some u) ∧ ∀ F m, RV T K F m d u) →
    ∃ kz : NV, kz.map (·.1) = kwo.map (fun p => T.nm p.1) ∧ ∀ (i : Nat) p, kwo[i]? = some p → ∃ u, kz[i]? = some (T.nm p.1, u) ∧ ∀ d, p.2 = some d → (∃ t, kd = .ref t ∧ PySem.W.nsIn K t (T.nm p.1) = some (some u)) ∧ ∀ F m, RV T K F m d u
  | [], _ => ⟨[], rfl, fun i p h => by simp at h⟩
  | (n, d) :: kwo, h => by
    obtain ⟨kz, e1, e2⟩ := kz_make (kwo := kwo) fun p hp => h p (List.mem_cons_of_mem _ hp)
    have hu : ∃ u, ∀ d', d = some d' → (∃ t, kd = .ref t ∧ PySem.W.nsIn K t (T.nm n) = some (some u)) ∧ ∀ F m, RV T K F m d' u := by
      cases d with
      | none => exact ⟨.none, fun d' e => by cases e⟩
      | some d' =>
        obtain ⟨t, u, a, b, c⟩ := h (n, some d') (List.mem_cons_self ..) d' rfl
        exact ⟨u, fun d2 e => by cases e; exact ⟨⟨t, a, b⟩, c⟩⟩
    obtain ⟨u, hu⟩ := hu
    refine ⟨(T.nm n, u) :: kz, by simp [e1], fun i p hp => ?_⟩
    cases i with
    | zero =>
      simp at hp
      subst hp
      exact ⟨u, rfl, hu⟩
    | succ i => exact e2 i p (by simpa using hp)
theorem afind_mem {α : Type} {f : Nat} {d : α} : ∀ {kv : List (Nat × α)}, afind kv f = some d → (f, d) ∈ kv
  | [], e => by cases e
  | (n, x) :: kv, e => by
    unfold afind at e
    by_cases h : n = f
    · subst h
      simp at e
      subst e
      exact List.mem_cons_self ..
    · have e1 : (n == f) = false := by simpa using h
      rw [e1] at e
      exact List.mem_cons_of_mem _ (afind_mem (by simpa using e))
theorem kwTake_mem {Pd : D → Prop} {kv : List (Nat × D)} (hk : ∀ p ∈ kv, Pd p.2) : ∀ {late : List (Nat × Option D)} {as : List D}, kwTake kv late = some as → (∀ p ∈ late, ∀ d, p.2 = some d → Pd d) → ∀ d ∈ as, Pd d
  | [], as, e, _ => by
    cases e
    intro d hd
    cases hd
  | (n, d) :: late, as, e, h => by
    unfold kwTake at e
    cases q : afind kv n with
    | some v =>
      rw [q] at e
      obtain ⟨as', e1, rfl⟩ := Option.map_eq_some_iff.mp e
      intro x hx
      rcases List.mem_cons.mp hx with rfl | hx
      · exact hk _ (afind_mem q)
      · exact kwTake_mem hk e1 (fun p hp => h p (List.mem_cons_of_mem _ hp)) x hx
    | none =>
      rw [q] at e
      cases d with
      | none => cases e
      | some v =>
        obtain ⟨as', e1, rfl⟩ := Option.map_eq_some_iff.mp e
        intro x hx
        rcases List.mem_cons.mp hx with rfl | hx
        · exact h _ (List.mem_cons_self ..) _ rfl
        · exact kwTake_mem hk e1 (fun p hp => h p (List.mem_cons_of_mem _ hp)) x hx
/-- another first argument -/
theorem bindA_first {fn : Fn} {d d' : D} {ds : List D} {kv : List (Nat × D)} {as : List D} (hp : fn.pos ≠ []) (e : bindA fn (d :: ds) kv = some as) :
    ∃ as', as = d :: as' ∧ bindA fn (d' :: ds) kv = some (d' :: as') := by
  obtain ⟨p0, ps, ep⟩ := List.exists_cons_of_ne_nil hp
  unfold bindA at e ⊢
  simp only [ep, List.length_cons, List.drop_succ_cons, List.take_succ_cons] at e ⊢
  split at e
  · rename_i hc
    rw [if_pos hc]
    cases q : kwTake kv (List.drop ds.length ps ++ fn.kwo) with
    | none => rw [q] at e; cases e
    | some a =>
      rw [q] at e
      exact ⟨_, (Option.some.inj e).symm, rfl⟩
  · cases e
theorem bindA_mem {Pd : D → Prop} {fn : Fn} {d : D} {ds : List D} {kv : List (Nat × D)} {as : List D} (e : bindA fn (d :: ds) kv = some (d :: as)) (h1 : ∀ x ∈ ds, Pd x) (h2 : ∀ p ∈ kv, Pd p.2)
    (h3 : ∀ p ∈ fn.pos ++ fn.kwo, ∀ x, p.2 = some x → Pd x) (h4 : ∀ l, Pd (.tup l)) (hp : fn.pos ≠ []) : ∀ x ∈ as, Pd x := by
  obtain ⟨p0, ps, ep⟩ := List.exists_cons_of_ne_nil hp
  unfold bindA at e
  simp only [ep, List.length_cons, List.drop_succ_cons, List.take_succ_cons] at e
  split at e
  · cases q : kwTake kv (List.drop ds.length ps ++ fn.kwo) with
    | none => rw [q] at e; cases e
    | some a =>
      rw [q] at e
      have e2 := Option.some.inj e
      simp only [List.cons_append, List.cons.injEq, true_and] at e2
      intro x hx
      rw [← e2] at hx
      rcases List.mem_append.mp hx with hx | hx
      · rcases List.mem_append.mp hx with hx | hx
        · exact h1 x (List.mem_of_mem_take hx)
        · refine kwTake_mem h2 q (fun p hp x ex => h3 p ?_ x ex) x hx
          rw [ep]
          rcases List.mem_append.mp hp with hp | hp
          · exact List.mem_append_left _ (List.mem_cons_of_mem _ (List.mem_of_mem_drop hp))
          · exact List.mem_append_right _ hp
      · split at hx
        · rw [List.mem_singleton.mp hx]
          exact h4 _
        · cases hx
  · cases e
section
variable {T : Tb} {K : PySem.W.Frag} {R : D → Value → Prop} {M : Model} {A : Around} {E : Value → Shared → Prop} {s : Shared}
theorem bind_ok {fd : FuncData} {fn : Fn} {pv : Str} (inj : ∀ a b, T.nm a = T.nm b → a = b) (ff : FnFacts T K fd fn pv) (X : K.In s.heap) {ds : List D} {kv : List (Nat × D)} {as : List D} {us ws : List Value} {Q : NV → Shared → Prop}
    (hR : ∀ d u, (∀ F m, RV T K F m d u) → R d u) (e : bindA fn ds kv = some as) (rs : Paired R ds us) (rk : Paired R (kv.map (·.2)) ws)
    (q : ∀ as0 us', Paired R as0 us' → us'.length = (fn.pos ++ fn.kwo).length → as = as0 ++ (if fn.var then [.tup (ds.drop fn.pos.length)] else []) →
      if fn.var then (us.drop fn.pos.length).length ≤ sizeLine → wpAny M A (newTuple (us.drop fn.pos.length)) (fun t s' => Q (((fn.pos ++ fn.kwo).map fun p => T.nm p.1).zip us' ++ [(pv, t)]) s') E s
      else Q (((fn.pos ++ fn.kwo).map fun p => T.nm p.1).zip us') s) :
    wpAny M A (bindArgs fd ⟨us, (kv.map fun p => T.nm p.1).zip ws⟩) Q E s := by
  unfold bindA at e
  simp only at e
  split at e
  · rename_i hc
    cases ek : kwTake kv (fn.pos.drop ds.length ++ fn.kwo) with
    | none => rw [ek] at e; cases e
    | some a =>
      rw [ek] at e
      have ea := (Option.some.inj e).symm
      simp only [Bool.and_eq_true, Bool.or_eq_true] at hc
      obtain ⟨c1, c2⟩ := hc
      obtain ⟨k1, k2⟩ := ksOk_all c1
      obtain ⟨k3, k4⟩ := kwTake_some ek
      obtain ⟨dl, d1, d2, d3⟩ := ff.dd
      obtain ⟨kz, z1, z2⟩ := kz_make ff.kd
      have hlu := prsLen rs
      have pl : (fn.pos.map fun p => T.nm p.1).length = fn.pos.length := by simp
      have ndp : (fn.pos.map fun p => T.nm p.1).Nodup := by
        have := ff.nd
        rw [List.map_append] at this
        exact (List.nodup_append.mp this).1
      have ndk : (fn.kwo.map fun p => T.nm p.1).Nodup := by
        have := ff.nd
        rw [List.map_append] at this
        exact (List.nodup_append.mp this).2.1
      have dis : ∀ x ∈ fn.pos.map (fun p => T.nm p.1), x ∉ fn.kwo.map fun p => T.nm p.1 := fun x h1 h2 => by
        have := ff.nd
        rw [List.map_append] at this
        exact (List.nodup_append.mp this).2.2 x h1 x h2 rfl
      -- a name of a parameter that is not given by its place
      have lateZ : ∀ p ∈ fn.pos.drop ds.length ++ fn.kwo, ((fn.pos.map fun p => T.nm p.1).zip us).lookup (T.nm p.1) = none := fun p hp => by
        rcases List.mem_append.mp hp with hp | hp
        · obtain ⟨j, hj⟩ := List.mem_iff_getElem?.mp hp
          rw [List.getElem?_drop] at hj
          have : (fn.pos.map fun p => T.nm p.1)[ds.length + j]? = some (T.nm p.1) := by rw [List.getElem?_map, hj]; rfl
          rw [lookup_zip_get ndp this]
          exact List.getElem?_eq_none (by omega)
        · refine lookup_none_of fun z => ?_
          obtain ⟨⟨q1, q2⟩, hq, eq⟩ := List.mem_map.mp z
          have hz := (List.of_mem_zip hq).1
          rw [show q1 = T.nm p.1 from eq] at hz
          exact dis _ hz (List.mem_map.mpr ⟨p, hp, rfl⟩)
      have kwS : ∀ p ∈ fn.pos.drop ds.length ++ fn.kwo, p.2 = none → (((kv.map fun p => T.nm p.1).zip ws).lookup (T.nm p.1)).isSome = true := fun p hp hn => by
        have kf := kw_find inj p.1 rk
        obtain ⟨v, hv⟩ := Option.isSome_iff_exists.mp (k4 p hp hn)
        rw [hv] at kf
        obtain ⟨u, e2, _⟩ := kf
        rw [e2] <;> rfl
      let dz : NV := (((fn.pos.map fun p => T.nm p.1).drop ((fn.pos.map fun p => T.nm p.1).length - dl.length)).zip dl)
      have dzl : ∀ (i : Nat) p, fn.pos[i]? = some p → fn.pos.length - dl.length ≤ i → dz.lookup (T.nm p.1) = dl[i - (fn.pos.length - dl.length)]? := fun i p hp hi => by
        refine lookup_zip_get (ndp.sublist (List.drop_sublist _ _)) ?_
        rw [List.getElem?_drop, pl, List.getElem?_map, show fn.pos.length - dl.length + (i - (fn.pos.length - dl.length)) = i by omega, hp]
        rfl
      have kzl : ∀ (i : Nat) p u, fn.kwo[i]? = some p → kz[i]? = some (T.nm p.1, u) → kz.lookup (T.nm p.1) = some u := fun i p u hp hk => by
        have hz : kz = (kz.map (·.1)).zip (kz.map (·.2)) := by
          clear z1 z2 hk
          induction kz with
          | nil => rfl
          | cons a l ih => obtain ⟨a1, a2⟩ := a; simp [← ih]
        rw [hz, lookup_zip_get (i := i) (by rw [z1]; exact ndk) (by rw [z1, List.getElem?_map, hp]; rfl), List.getElem?_map, hk]
        rfl
      have dvF : ∀ p ∈ fn.pos.drop ds.length ++ fn.kwo, ∀ d, p.2 = some d → ∃ u, (dz.lookup (T.nm p.1)).or (kz.lookup (T.nm p.1)) = some u ∧ R d u := fun p hp d hd => by
        rcases List.mem_append.mp hp with hp | hp
        · obtain ⟨j, hj⟩ := List.mem_iff_getElem?.mp hp
          rw [List.getElem?_drop] at hj
          rcases d3 _ p hj with ⟨_, z⟩ | ⟨d', u, z, z3, z4, z5⟩
          · rw [hd] at z; cases z
          · rw [hd] at z
            cases z
            refine ⟨u, ?_, hR _ _ z5⟩
            rw [dzl _ p hj z3, z4] <;> rfl
        · obtain ⟨j, hj⟩ := List.mem_iff_getElem?.mp hp
          obtain ⟨u, y1, y2⟩ := z2 j p hj
          refine ⟨u, ?_, hR _ _ (y2 d hd).2⟩
          rw [kzl j p u hj y1]
          have : dz.lookup (T.nm p.1) = none := lookup_none_of fun z => by
            obtain ⟨⟨q1, q2⟩, hq, eq⟩ := List.mem_map.mp z
            have hz := (List.of_mem_zip hq).1
            rw [show q1 = T.nm p.1 from eq] at hz
            exact dis _ (List.mem_of_mem_drop hz) (List.mem_map.mpr ⟨p, hp, rfl⟩)
          rw [this] <;> rfl
      obtain ⟨ul, r1, r2, r3⟩ := late_vals inj rk (fun x => (dz.lookup x).or (kz.lookup x)) ek dvF
      have fin : Paired R (ds.take fn.pos.length ++ a) (us.take fn.pos.length ++ ul) := prsApp (prsTake _ rs) r1
      have hlen : (us.take fn.pos.length ++ ul).length = (fn.pos ++ fn.kwo).length := by
        rw [List.length_append, List.length_take, r2, List.length_append, List.length_drop, List.length_append]
        omega
      refine bind_gen (kz := kz) ff.po ff.nn ff.kn ff.kg X d1 (by rw [pl]; exact d2) (fun x y p ep => ?_) ?_ (fun n hn => ?_) z1 (fun p hp => ?_) (fun B hB => ?_)
      · -- the keywords
        have hx : x.map (·.1) ++ p.1 :: y.map (·.1) <+: (kv.map fun p => T.nm p.1) := by
          have : ((kv.map fun p => T.nm p.1).zip ws).map (·.1) = x.map (·.1) ++ p.1 :: y.map (·.1) := by rw [ep]; simp
          rw [← this, List.map_fst_zip (by rw [List.length_map, ← (show (kv.map (·.2)).length = kv.length by simp), prsLen rk]; exact Nat.le_refl _)]
          exact List.prefix_rfl
        have ndn : (kv.map fun p => T.nm p.1).Nodup := by
          have : (kv.map fun p => T.nm p.1) = (kv.map (·.1)).map T.nm := by rw [List.map_map]; rfl
          rw [this]
          exact List.Pairwise.map T.nm (fun a b hab z => hab (inj a b z)) k1
        have hm : p.1 ∈ kv.map fun p => T.nm p.1 := hx.subset (by simp)
        obtain ⟨pr, hpr, epr⟩ := List.mem_map.mp hm
        have hl := k2 pr.1 (List.mem_map.mpr ⟨pr, hpr, rfl⟩)
        obtain ⟨lp, hlp, elp⟩ := List.mem_map.mp hl
        have enm : T.nm lp.1 = p.1 := by rw [elp]; exact epr
        refine ⟨?_, ?_⟩
        · simp only [Bool.or_eq_true, List.contains_iff_mem]
          rcases List.mem_append.mp hlp with h | h
          · exact .inl (List.mem_map.mpr ⟨lp, List.mem_of_mem_drop h, enm⟩)
          · exact .inr (List.mem_map.mpr ⟨lp, h, enm⟩)
        · have e0 := lateZ lp hlp
          rw [enm] at e0
          rw [lookup_app, e0]
          have : x.lookup p.1 = none := lookup_none_of fun z => by
            have nd2 := (hx.sublist).nodup ndn
            exact (List.nodup_append.mp nd2).2.2 _ z _ (List.mem_cons_self ..) rfl
          rw [this] <;> rfl
      · rcases c2 with c2 | c2
        · left
          rw [pl, hlu]
          exact Nat.le_of_ble_eq_true c2
        · right
          intro z
          have := ff.va
          rw [z, c2.1] at this
          cases this
      · -- those without a default
        obtain ⟨i, hi⟩ := List.mem_iff_getElem?.mp hn
        have hi2 := hi
        rw [List.getElem?_take] at hi
        split at hi
        · rename_i hlt
          rw [List.getElem?_map] at hi
          obtain ⟨p, hp, rfl⟩ := Option.map_eq_some_iff.mp hi
          rw [pl] at hlt
          rw [lookup_app]
          by_cases hu : i < us.length
          · have : (fn.pos.map fun p => T.nm p.1)[i]? = some (T.nm p.1) := by rw [List.getElem?_map, hp]; rfl
            rw [lookup_zip_get ndp this, List.getElem?_eq_getElem hu]
            rfl
          · have hpl : p ∈ fn.pos.drop ds.length ++ fn.kwo := List.mem_append_left _ (List.mem_iff_getElem?.mpr ⟨i - ds.length, by rw [List.getElem?_drop, show ds.length + (i - ds.length) = i by omega]; exact hp⟩)
            rw [lateZ p hpl]
            rcases d3 i p hp with ⟨_, z⟩ | ⟨_, _, _, z, _⟩
            · simpa using kwS p hpl z
            · omega
        · cases hi
      · obtain ⟨i, hi⟩ := List.mem_iff_getElem?.mp hp
        have hp2 : (kz.map (·.1))[i]? = some p.1 := by rw [List.getElem?_map, hi]; rfl
        rw [z1, List.getElem?_map] at hp2
        obtain ⟨lp, hlp, elp⟩ := Option.map_eq_some_iff.mp hp2
        obtain ⟨u, y1, y2⟩ := z2 i lp hlp
        rw [hi] at y1
        have epu : p = (T.nm lp.1, u) := Option.some.inj y1
        cases hd : lp.2 with
        | some d =>
          right
          obtain ⟨t, h1, h2⟩ := (y2 d hd).1
          rw [epu]
          exact ⟨t, h1, h2⟩
        | none =>
          left
          have hlate : lp ∈ fn.pos.drop ds.length ++ fn.kwo := List.mem_append_right _ (List.mem_of_getElem? hlp)
          have := kwS lp hlate hd
          obtain ⟨w0, hw⟩ := Option.isSome_iff_exists.mp this
          rw [← elp, addD_lookup, lookup_app, lateZ lp hlate, hw] <;> rfl
      · have hBz : B = ((fn.pos ++ fn.kwo).map fun p => T.nm p.1).zip (us.take fn.pos.length ++ ul) := by
          rw [hB, ← List.map_append]
          refine zip_of (by rw [hlen, List.length_map]) fun i n hi => ?_
          rw [List.getElem?_map] at hi
          obtain ⟨p, hp, rfl⟩ := Option.map_eq_some_iff.mp hi
          rw [addD_lookup, addD_lookup, lookup_app]
          by_cases hu : i < us.length ∧ i < fn.pos.length
          · have hp' : fn.pos[i]? = some p := by rw [List.getElem?_append_left hu.2] at hp; exact hp
            have : (fn.pos.map fun p => T.nm p.1)[i]? = some (T.nm p.1) := by rw [List.getElem?_map, hp']; rfl
            rw [lookup_zip_get ndp this, List.getElem?_append_left (by rw [List.length_take]; omega), List.getElem?_take_of_lt hu.2, List.getElem?_eq_getElem hu.1]
            rfl
          · have hi2 : (us.take fn.pos.length).length ≤ i := by rw [List.length_take]; omega
            rw [List.getElem?_append_right hi2]
            have hl2 : (fn.pos.drop ds.length ++ fn.kwo)[i - (us.take fn.pos.length).length]? = some p := by
              rw [List.length_take]
              by_cases hlt : i < fn.pos.length
              · have : us.length ≤ i := by omega
                rw [List.getElem?_append_left hlt] at hp
                rw [List.getElem?_append_left (by rw [List.length_drop]; omega), List.getElem?_drop, show ds.length + (i - min fn.pos.length us.length) = i by omega]
                exact hp
              · rw [List.getElem?_append_right (by omega)] at hp
                rw [List.getElem?_append_right (by rw [List.length_drop]; omega), List.length_drop, show i - min fn.pos.length us.length - (fn.pos.length - ds.length) = i - fn.pos.length by omega]
                exact hp
            rw [r3 _ p hl2, lateZ p (List.mem_of_getElem? hl2)]
            cases ((kv.map fun p => T.nm p.1).zip ws).lookup (T.nm p.1) <;> rfl
        have qq := q (ds.take fn.pos.length ++ a) (us.take fn.pos.length ++ ul) fin hlen ea
        rw [hBz]
        have va := ff.va
        cases hv : fd.params.vararg with
        | none =>
          rw [hv] at va
          cases hvar : fn.var with
          | true => rw [hvar] at va; cases va
          | false =>
            rw [hvar] at qq
            exact qq
        | some ar =>
          rw [hv] at va
          cases hvar : fn.var with
          | false => rw [hvar] at va; cases va
          | true =>
            rw [hvar] at qq va
            have er : ar.arg = pv := Option.some.inj va
            rw [← er] at qq
            show wpAny M A (newTuple (us.drop (fn.pos.map fun p => T.nm p.1).length)) _ E s
            rw [pl]
            refine qq ?_
            rw [List.length_drop, hlu]
            rcases c2 with c2 | c2
            · have := Nat.le_of_ble_eq_true c2
              omega
            · have := sizeLine_eq
              have := Nat.le_of_ble_eq_true c2.2
              unfold line at this
              omega
  · cases e
end
end PI
end
section
/-! Readings of statements, within one def from its entry on. -/
set_option linter.all false
set_option maxRecDepth 100000
set_option maxHeartbeats 1000000
namespace PI
open PySem PySem.Spec PyProof.Rows L2

/-- where a def's run stands: ge, He at its entry -/
structure HereS (T : Tb) (K : PySem.W.Frag) (ge : Gh) (He : Hp) (z : Option V) (g : Gh) (ρ : En) (h : Hh) (σ : L2.St) (H : Hp) : Prop where
  hr : Here T K g ρ h σ H
  po : Post T K ge He g h H
  ow : ∀ (i : Nat) (o : O), ρ[i]? = some (some (.own o)) → ∀ a, σ[i]? = some (some (.ref a)) → He a = none ∧ ∀ C dx gs, H a = some (.ins C dx gs) → He dx = none
  kz : ∀ v, z = some v → σ[0]? = some (some v)
section
variable {T : Tb} {K : PySem.W.Frag} {W : Wx} {σ : L2.St} {g g' ge : Gh} {H H' He : Hp} {h h' : Hh} {ρ : En} {z : Option V} {ini : Bool}
theorem HereS.post (a : HereS T K ge He z g ρ h σ H) (p : Post T K g H g' h' H') : HereS T K ge He z g' ρ h' σ H' where
  hr := a.hr.post p
  po := a.po.trans p
  kz := a.kz
  ow := fun i o e b eb => by
    obtain ⟨h1, h2⟩ := a.ow i o e b eb
    refine ⟨h1, fun C dx gs e2 => ?_⟩
    obtain ⟨v, e3, b', ev, t, hm, hF⟩ := a.hr.en.sl i _ e
    rw [eb] at e3
    cases e3
    cases ev
    obtain ⟨u, hu⟩ := t.ex
    have := p.kp b u hu hm
    rw [e2] at this
    cases this
    exact h2 C dx gs hu
def OutS (T : Tb) (K : PySem.W.Frag) (W : Wx) (ge : Gh) (He : Hp) (z : Option V) (g0 : Gh) (D : Ends) : RS → Prop
  | .nx ρ h => ∀ g σ H, Le g0 g → HereS T K ge He z g ρ h σ H → D.nx σ H
  | .bk ρ h => ∀ g σ H, Le g0 g → HereS T K ge He z g ρ h σ H → D.bk σ H
  | .ct ρ h => ∀ g σ H, Le g0 g → HereS T K ge He z g ρ h σ H → D.ct σ H
  | .rt d h => ∀ g H v, Le g0 g → Post T K ge He g h H → Rl T K g.F g.m d v → D.rt v H
  | .exc c fs ρ h => ∀ g σ H dx gs, Le g0 g → HereS T K ge He z g ρ h σ H → H dx = some (.xd gs) → dx ∉ g.m → Rlf T K g.F g.m fs gs → W (.ref (T.ca c)) (some dx) σ H
  | .bad => False
/-- a reading of a statement -/
def rdS (T : Tb) (K : PySem.W.Frag) (W : Wx) (ini : Bool) (ss : En → Hh → RS) : TS := fun D σ H => ∃ ge He z g ρ h, (ini = false → z = none) ∧ HereS T K ge He z g ρ h σ H ∧ OutS T K W ge He z g D (ss ρ h)
/-- a run within a statement -/
theorem toS_out {α : Type} {r : R α} {f : α → Hh → RS} {D : Ends} (a : HereS T K ge He z g ρ h σ H) (o : OutS T K W ge He z g D (r.toS ρ f)) : Out T K W σ g H r (fun x h' => OutS T K W ge He z g D (f x h')) := by
  cases r with
  | ok x h' => exact o
  | exc c fs h' => exact fun g' H' d gs p e1 e2 e3 => o g' σ H' d gs p.le (a.post p) e1 e2 e3
  | bad => exact o
theorem OutS.le {D : Ends} {r : RS} (l : Le g g') (o : OutS T K W ge He z g D r) : OutS T K W ge He z g' D r := by
  cases r with
  | nx ρ h => exact fun g2 σ H l2 a => o g2 σ H (l.trans l2) a
  | bk ρ h => exact fun g2 σ H l2 a => o g2 σ H (l.trans l2) a
  | ct ρ h => exact fun g2 σ H l2 a => o g2 σ H (l.trans l2) a
  | rt d h => exact fun g2 H v l2 p r => o g2 H v (l.trans l2) p r
  | exc c fs ρ h => exact fun g2 σ H dx gs l2 a => o g2 σ H dx gs (l.trans l2) a
  | bad => exact o
/-- an expression's run, then the rest -/
theorem rdS_of {α β : Type} {rel : Rel α β} {ee : En → Hh → R α} {f : α → Hh → RS} {D : Ends} {Q : β → Hp → Prop} (a : HereS T K ge He z g ρ h σ H) (o : OutS T K W ge He z g D ((ee ρ h).toS ρ f))
    (kont : ∀ (g' : Gh) (x : α) (b : β) (h' : Hh) (H' : Hp), HereS T K ge He z g' ρ h' σ H' → rel ρ g' H' x b → OutS T K W ge He z g' D (f x h') → Q b H') : Rd T K W ee rel σ H Q :=
  ⟨g, ρ, h, a.hr, (toS_out a o).imp fun x h' o' g' b H' p r => kont g' x b h' H' (a.post p) r (o'.le p.le)⟩
theorem rdS_ofL {α β : Type} {rel : Rel α β} {ee : En → Hh → R α} {f : α → Hh → RS} {D : Ends} {Q : β → Hp → Prop} (a : HereS T K ge He z g ρ h σ H) (o : OutS T K W ge He z g D ((ee ρ h).toS ρ f))
    (kont : ∀ (g' : Gh) (x : α) (b : β) (h' : Hh) (H' : Hp), HereS T K ge He z g' ρ h' σ H' → Le g g' → rel ρ g' H' x b → OutS T K W ge He z g' D (f x h') → Q b H') : Rd T K W ee rel σ H Q :=
  ⟨g, ρ, h, a.hr, (toS_out a o).imp fun x h' o' g' b H' p r => kont g' x b h' H' (a.post p) p.le r (o'.le p.le)⟩
variable {D D' : Ends}
variable {X : Cx} {st : Stmt} {sts : List Stmt} {s1 ss : En → Hh → RS}
/-- one behind another -/
theorem OutS.seq {r : RS} (hz : ini = false → z = none) (o : OutS T K W ge He z g D (match r with | .nx ρ1 h1 => ss ρ1 h1 | x => x)) : OutS T K W ge He z g { D with nx := rdS T K W ini ss D } r := by
  cases r with
  | nx ρ h => exact fun g2 σ H l a => ⟨ge, He, z, g2, ρ, h, hz, a, OutS.le l o⟩
  | bk ρ h => exact o
  | ct ρ h => exact o
  | rt d h => exact o
  | exc c fs ρ h => exact o
  | bad => exact o
theorem pss_consR (h1 : PS X st (rdS T X.K W ini s1)) (h2 : PSs X sts (rdS T X.K W ini ss)) : PSs X (st :: sts) (rdS T X.K W ini fun ρ h => match s1 ρ h with | .nx ρ1 h1 => ss ρ1 h1 | x => x) :=
  PSs.imp (pss_cons h1 h2) fun D σ H hh => by
    obtain ⟨ge, He, z, g, ρ, h, hz, a, o⟩ := hh
    exact ⟨ge, He, z, g, ρ, h, hz, a, OutS.seq hz o⟩
theorem pss_nilR : PSs X [] (rdS T X.K W ini fun ρ h => .nx ρ h) := PSs.imp pss_nil fun D σ H hh => by
  obtain ⟨ge, He, z, g, ρ, h, hz, a, o⟩ := hh
  exact o g σ H .refl a
end
/-! ### new things that names hold; a thing that changes no more -/
section
variable {T : Tb} {K : PySem.W.Frag} {g ge : Gh} {H He : Hp} {h : Hh}
theorem HeapOk.newO {p : Addr} {o : HO} (ok : HeapOk T K g h H) (hp : H p = none) : Post T K g H g h (upd H p o) := by
  have hm : p ∉ g.m := fun z => by
    obtain ⟨n, u, _, _, t⟩ := ok.at_ z
    obtain ⟨w, e⟩ := t.ex
    rw [hp] at e
    cases e
  refine ⟨.refl, ⟨fun a u e => upd_none hp (ok.fr a u e), ok.len, fun n u a e1 e2 => ?_, ok.nd, ok.dj⟩, fun a u e _ => upd_none hp e, fun a ha e => ?_, fun a h1 h2 => absurd h1 h2, fun a u e1 e2 => by rw [e2] at e1; cases e1⟩
  · have hap : a ≠ p := fun z => hm (by rw [← z]; exact List.mem_of_getElem? e2)
    exact ThingAt.mono .refl (ok.cell n u a e1 e2) (upd_ne hap) fun dx e => upd_none hp e
  · have hap : a ≠ p := fun z => hm (z ▸ ha)
    rw [upd_ne hap]
    exact e
theorem Sub.upd {F : Hp} {a : Addr} {o : HO} (e : F a = none ∨ F a = some o) : Sub F (upd F a o) := fun b u q => by
  by_cases z : b = a
  · subst z
    rw [upd_same]
    rcases e with e | e
    · rw [e] at q; cases q
    · rw [← e]; exact q
  · rw [upd_ne z]
    exact q
/-- F grows by what stands -/
theorem Post.grow {F' : Hp} (po : Post T K ge He g h H) (s : Sub g.F F') (fr : Sub F' H) (dj : ∀ a ∈ g.m, F' a = none) (hn : ∀ a o, F' a = some o → g.F a = none → He a = none) : Post T K ge He ⟨F', g.m⟩ h H where
  le := po.le.trans ⟨s, .refl⟩
  ok := ⟨fr, po.ok.len, fun n o a e1 e2 => ThingAt.mono (g := g) (g' := ⟨F', g.m⟩) ⟨s, .refl⟩ (po.ok.cell n o a e1 e2) rfl fun _ e => e, po.ok.nd, dj⟩
  kp := po.kp
  ce := po.ce
  nm := po.nm
  nF := fun a o e1 e2 => by
    cases q : g.F a with
    | none => exact hn a o e1 q
    | some u => exact po.nF a u q e2
theorem freeze {a : Addr} {o : O} (po : Post T K ge He g h H) (t : ThingAt T K g H a o) (hm : a ∉ g.m) (hF : g.F a = none) (h1 : He a = none) (h2 : ∀ C dx gs, H a = some (.ins C dx gs) → He dx = none) :
    ∃ F', Post T K ge He ⟨F', g.m⟩ h H ∧ Sub g.F F' ∧ Rl T K F' g.m o.d (.ref a) ∧ ∀ b, g.F b = none → b ≠ a → (∀ c, H b ≠ some (.own c)) → F' b = none := by
  cases o with
  | lst ds =>
    obtain ⟨vs, e1, e2⟩ := t
    have s : Sub g.F (upd g.F a (.lst vs)) := Sub.upd (.inl hF)
    refine ⟨upd g.F a (.lst vs), po.grow s (fun b u q => ?_) (fun b hb => ?_) fun b u q q2 => ?_, s, .lst (.of upd_same) (e2.mono s .refl _), fun b q hb _ => by rw [upd_ne hb]; exact q⟩
    · by_cases z : b = a
      · subst z
        rw [upd_same] at q
        rw [e1]; exact q
      · rw [upd_ne z] at q
        exact po.ok.fr b u q
    · have n1 : b ≠ a := fun z => hm (z ▸ hb)
      rw [upd_ne n1]
      exact po.ok.dj b hb
    · by_cases z : b = a
      · subst z; exact h1
      · rw [upd_ne z, q2] at q; cases q
  | dct kvs => exact t.elim
  | ins c fs =>
    obtain ⟨dx, gs, e1, e2, e3⟩ := t
    have hd : g.F dx = none ∨ g.F dx = some (.own a) := by
      cases q : g.F dx with
      | none => exact .inl rfl
      | some u =>
        have := po.ok.fr dx u q
        rw [e2] at this
        cases this
        exact .inr rfl
    have ne : dx ≠ a := fun z => by rw [z, e1] at e2; cases e2
    have hF1 : upd g.F dx (.own a) a = none := by rw [upd_ne (Ne.symm ne)]; exact hF
    have s : Sub g.F (upd (upd g.F dx (.own a)) a (.ins (T.ca c) dx gs)) := Sub.trans (Sub.upd hd) (Sub.upd (.inl hF1))
    have md : dx ∉ g.m := po.ok.own_out e2
    refine ⟨_, po.grow s (fun b u q => ?_) (fun b hb => ?_) fun b u q q2 => ?_, s, .ins upd_same (by rw [upd_ne ne, upd_same]) (e3.mono s .refl _), fun b q hb hc => ?_⟩
    · by_cases z : b = a
      · subst z
        rw [upd_same] at q
        rw [e1]; exact q
      · rw [upd_ne z] at q
        by_cases z2 : b = dx
        · subst z2
          rw [upd_same] at q
          rw [e2]; exact q
        · rw [upd_ne z2] at q
          exact po.ok.fr b u q
    · have n1 : b ≠ a := fun z => hm (z ▸ hb)
      have n2 : b ≠ dx := fun z => md (z ▸ hb)
      rw [upd_ne n1, upd_ne n2]
      exact po.ok.dj b hb
    · by_cases z : b = a
      · subst z; exact h1
      · rw [upd_ne z] at q
        by_cases z2 : b = dx
        · subst z2; exact h2 _ _ _ e1
        · rw [upd_ne z2, q2] at q; cases q
    · rw [upd_ne hb]
      by_cases z2 : b = dx
      · subst z2; exact absurd e2 (hc a)
      · rw [upd_ne z2]; exact q
end
/-! ### small statements -/
section
variable {T : Tb} {X : Cx} {W : Wx} {ini : Bool} {e : Expr} {ee : En → Hh → R D} {pos : Pos}
theorem ps_exprR (he : PE X e (Rd T X.K W ee (relE T X.K))) (hs : swapsWith e none pos.line X.env = pure false) : PS X (.Expr e pos) (rdS T X.K W ini fun ρ h => (ee ρ h).toS ρ fun _ h1 => .nx ρ h1) :=
  PS.imp (ps_expr he hs) fun D σ H hh => by
    obtain ⟨ge, He, z, g, ρ, h, hz, a, o⟩ := hh
    exact rdS_of a o fun g' x b h' H' a' r o' => o' g' σ H' .refl a'
theorem ps_retR (he : PE X e (Rd T X.K W ee (relE T X.K))) : PS X (.Return (some e) pos) (rdS T X.K W ini fun ρ h => (ee ρ h).toS ρ fun d h1 => .rt d h1) :=
  PS.imp (ps_ret he) fun D σ H hh => by
    obtain ⟨ge, He, z, g, ρ, h, hz, a, o⟩ := hh
    exact rdS_of a o fun g' x b h' H' a' r o' => o' g' H' b .refl a'.po r
theorem ps_retNR : PS X (.Return none pos) (rdS T X.K W ini fun ρ h => .rt .non h) :=
  PS.imp ps_retN fun D σ H hh => by
    obtain ⟨ge, He, z, g, ρ, h, hz, a, o⟩ := hh
    exact o g H .non .refl a.po .non
theorem ps_passR : PS X (.Pass pos) (rdS T X.K W ini fun ρ h => .nx ρ h) :=
  PS.imp ps_pass fun D σ H hh => by
    obtain ⟨ge, He, z, g, ρ, h, hz, a, o⟩ := hh
    exact o g σ H .refl a
theorem ps_breakR : PS X (.Break pos) (rdS T X.K W ini fun ρ h => .bk ρ h) :=
  PS.imp ps_break fun D σ H hh => by
    obtain ⟨ge, He, z, g, ρ, h, hz, a, o⟩ := hh
    exact o g σ H .refl a
theorem ps_contR : PS X (.Continue pos) (rdS T X.K W ini fun ρ h => .ct ρ h) :=
  PS.imp ps_continue fun D σ H hh => by
    obtain ⟨ge, He, z, g, ρ, h, hz, a, o⟩ := hh
    exact o g σ H .refl a
theorem ps_docR {x j pos'} : PS X (.Expr (.Constant (.str x) j pos) pos') (rdS T X.K W ini fun ρ h => .nx ρ h) :=
  PS.imp ps_doc fun D σ H hh => by
    obtain ⟨ge, He, z, g, ρ, h, hz, a, o⟩ := hh
    exact o g σ H .refl a
theorem ps_neverR {st : Stmt} : PS X st (rdS T X.K W ini fun _ _ => .bad) :=
  PS.imp ps_never fun D σ H hh => by
    obtain ⟨ge, He, z, g, ρ, h, hz, a, o⟩ := hh
    exact o
theorem ps_ifR {c : Expr} {tt : En → Hh → R Bool} {a b : List Stmt} {sa sb : En → Hh → RS} (hc : PT X c (Rd T X.K W tt relB)) (ha : PSs X a (rdS T X.K W ini sa)) (hb : PSs X b (rdS T X.K W ini sb)) :
    PS X (.If c a b pos) (rdS T X.K W ini fun ρ h => (tt ρ h).toS ρ fun k h1 => if k then sa ρ h1 else sb ρ h1) :=
  PS.imp (ps_if hc ha hb) fun D σ H hh => by
    obtain ⟨ge, He, z, g, ρ, h, hz, a, o⟩ := hh
    refine rdS_of a o fun g' x b h' H' a' r o' => ?_
    cases r
    cases x with
    | true => exact ⟨ge, He, z, g', ρ, h', hz, a', o'⟩
    | false => exact ⟨ge, He, z, g', ρ, h', hz, a', o'⟩
end
end PI
end
section
/-! Calls: what a def promises of the interpreter's run; how it is called. -/
set_option linter.all false
set_option maxRecDepth 100000
set_option maxHeartbeats 1000000
namespace PI
open PySem PySem.Spec PyProof.Rows L2

/-- a def's text -/
structure FnSrc where
  name : Str
  qual : Str
  params : Arguments
  body : List Stmt
  scope : Scope
  N : List Str
  pv : Str
def psOf (T : Tb) (fn : Fn) (pv : Str) : List Str := (fn.pos ++ fn.kwo).map (fun p => T.nm p.1) ++ (if fn.var then [pv] else [])
structure FnHere (T : Tb) (K : PySem.W.Frag) (a : Addr) (sr : FnSrc) (fn : Fn) : Prop where
  lk : ∃ (oc : Value) (od : Option Addr) (dV kV doc pm : Value) (an : Option Addr) (cdv ct : Value) (osl : Array (Option Value)),
    K.lookup a = some ⟨oc, od, .func (PySem.W.fnOf sr.name sr.qual sr.params sr.body sr.scope dV kV doc pm an cdv ct), osl⟩ ∧ PySem.W.codeIn K cdv sr.qual = true ∧
      FnFacts T K (PySem.W.fnOf sr.name sr.qual sr.params sr.body sr.scope dV kV doc pm an cdv ct) fn sr.pv
  sc : FnScope sr.N (psOf T fn sr.pv) sr.scope
  sl : sr.N.length = fn.slots
/-- what a def promises: run is the interpreter's -/
def FP (T : Tb) (P : Program) (w : World) (K : PySem.W.Frag) (mg : Str → Option Value) (base : Heap) (a : Addr) (fn : Fn) (run : List D → Hh → R D) (k : Nat) : Prop :=
  ∀ (A : Around) (outer : List Env) (s : Shared) (H : Hp) (g : Gh) (h : Hh) (ds : List D) (kv : List (Nat × D)) (as : List D) (us ws : List Value) (Q : VK) (E : XK),
    Room k A → Env0 P w K mg base A outer s H → HeapOk T K g h H → bindA fn ds kv = some as → RVs T K g.F g.m ds us → RVs T K g.F g.m (kv.map (·.2)) ws →
      Out T K (fun c d _ H => E c d H) [] g H (run as h) (KK T K (relE T K) [] g H Q) →
        codeAny (model P w) A (.call (.ref a) ⟨us, (kv.map fun p => T.nm p.1).zip ws⟩) (CR (L2.CX P w) outer P w H s Q E) s
/-- an __init__'s: the first parameter is the new instance -/
def runF (ss : En → Hh → RS) (slots : Nat) (as : List D) (h : Hh) : R D :=
  match ss (start slots as) h with
  | .nx _ h1 => .ok .non h1
  | .rt d h1 => .ok d h1
  | .exc c fs _ h1 => .exc c fs h1
  | _ => .bad
section
variable {T : Tb} {P : Program} {w : World} {K : PySem.W.Frag} {mg : Str → Option Value} {base : Heap} {a : Addr} {sr : FnSrc} {fn : Fn} {k : Nat}
theorem start_en {g : Gh} {H : Hp} {as : List D} {vs : List V} {n : Nat} {N : List Str} (r : Rls T K g.F g.m as vs) (hn : N.length = n) : EnOk T K g (start n as) (L2.start N vs) H := by
  have hl := r.length
  refine ⟨by unfold start L2.start; simp [hl, hn], fun i s e => ?_, fun i j o o' _ e _ => ?_⟩
  · unfold start at e
    by_cases hi : i < as.length
    · rw [List.getElem?_append_left (by simpa using hi), List.getElem?_map] at e
      rw [List.getElem?_eq_getElem hi] at e
      cases e
      obtain ⟨v, e1, e2⟩ := r.get (List.getElem?_eq_getElem hi)
      refine ⟨v, ?_, e2⟩
      unfold L2.start
      rw [List.getElem?_append_left (by rw [List.length_map, hl]; exact hi), List.getElem?_map, e1]
      rfl
    · rw [List.getElem?_append_right (by simpa using hi), List.getElem?_replicate] at e
      split at e <;> cases e
  · unfold start at e
    by_cases hi : i < as.length
    · rw [List.getElem?_append_left (by simpa using hi), List.getElem?_map, List.getElem?_eq_getElem hi] at e
      cases e
    · rw [List.getElem?_append_right (by simpa using hi), List.getElem?_replicate] at e
      split at e <;> cases e
theorem start_noown {n : Nat} {as : List D} {i : Nat} {o : O} (e : (start n as)[i]? = some (some (.own o))) : False := by
  unfold start at e
  by_cases hi : i < as.length
  · rw [List.getElem?_append_left (by simpa using hi), List.getElem?_map, List.getElem?_eq_getElem hi] at e
    cases e
  · rw [List.getElem?_append_right (by simpa using hi), List.getElem?_replicate] at e
    split at e <;> cases e
theorem start_here {g : Gh} {h : Hh} {H : Hp} {as : List D} {vs : List V} {n : Nat} {N : List Str} (ok : HeapOk T K g h H) (r : Rls T K g.F g.m as vs) (hn : N.length = n) :
    HereS T K g H none g (start n as) h (L2.start N vs) H := ⟨⟨ok, start_en r hn⟩, Post.refl ok, fun i o e => (start_noown e).elim, fun v e => nomatch e⟩
/-- the parameters bound, the run begins -/
theorem bnd_of {A : Around} {outer : List Env} {s : Shared} {H : Hp} {g : Gh} {h : Hh} {ds : List D} {kv : List (Nat × D)} {as : List D} {us ws : List Value} {E : XK} {fd : FuncData} {pv : Str}
    (inj : ∀ a b, T.nm a = T.nm b → a = b) (ff : FnFacts T K fd fn pv) (e0 : Env0 P w K mg base A outer s H) (ok : HeapOk T K g h H) (e : bindA fn ds kv = some as) (rs : RVs T K g.F g.m ds us) (rk : RVs T K g.F g.m (kv.map (·.2)) ws) :
    StX.Bnd (L2.CX P w) P w K mg base fd ⟨us, (kv.map fun p => T.nm p.1).zip ws⟩ (psOf T fn pv) A outer s H E (fun vs H2 => ∃ g2, Post T K g H g2 h H2 ∧ Rls T K g2.F g2.m as vs) := by
  intro A' Ex Q hq
  have KX : K.In s.heap := e0.mod.kin.keeps fun b o e => (e0.bs b o e).1
  refine bind_ok inj ff KX (R := RV T K g.F g.m) (fun d u h => h _ _) e rs.prs rk.prs fun as0 us' r0 hl ea => ?_
  obtain ⟨vs0, r1, r2⟩ := RVs.of r0
  by_cases hv : fn.var = true
  · rw [if_pos hv]
    intro hz
    obtain ⟨vd, q1, q2⟩ := rs.drop fn.pos.length
    have hn : H s.heap.objs.size = none := e0.hok.fresh (Nat.le_refl _)
    refine wpAny_newTuple ?_ hz
    have hzv : vd.length ≤ sizeLine := by rw [q1.length]; exact hz
    have new : ObjOk P w (upd H s.heap.objs.size (.tup vd)) (s.heap.push ({ cls := .type "tuple", data := .seq (us.drop fn.pos.length).toArray } : Obj)) s.heap.objs.size (.tup vd) := ⟨hzv, us.drop fn.pos.length, q1, ⟨_, Heap.get?_push_size _ rfl, rfl, _, rfl⟩⟩
    have un := StX.un_laid (fs := frs outer) (s := s) (o := ({ cls := .type "tuple", data := .seq (us.drop fn.pos.length).toArray } : Obj)) (u := .tup vd) hn
    have po : Post T K g H ⟨upd g.F s.heap.objs.size (.tup vd), g.m⟩ h (upd H s.heap.objs.size (.tup vd)) := ok.newF hn
    have z := hq _ _ (vs0 ++ [V.ref s.heap.objs.size]) (us' ++ [Value.ref s.heap.objs.size]) (StX.env0_laid e0 new) un rfl (fun e s' => StX.cxUp outer s H _ _ E e s' un (fun b o q => Heap.get?_push_of_some _ q) rfl) (r1.append (.cons rfl .nil))
      (by unfold psOf; rw [if_pos hv, List.length_append, List.length_append, List.length_map, r1.length, hl]; rfl) ⟨_, po, ?_⟩
    · unfold psOf at z
      rw [if_pos hv, List.zip_append (by rw [List.length_map, hl])] at z
      exact z
    · rw [ea, if_pos hv]
      exact (r2.mono po.le.s .refl _).append (.cons (new_tup ok hn q2) .nil)
  · rw [if_neg hv]
    rw [if_neg hv, List.append_nil] at ea
    have z := hq s H vs0 us' e0 .refl rfl (fun _ _ z => z) r1 (by unfold psOf; rw [if_neg hv, List.append_nil, List.length_map, r1.length, hl]) ⟨g, Post.refl ok, by rw [ea]; exact r2⟩
    unfold psOf at z
    rw [if_neg hv, List.append_nil] at z
    exact z
theorem fp_of (inj : ∀ a b, T.nm a = T.nm b → a = b) (fh : FnHere T K a sr fn) {ss : En → Hh → RS}
    (hbody : ∀ (cdv : Value) (A : Around) (outer : List Env) (s : Shared) (H : Hp) (E : XK), Room k (A.deeper (envOfC sr.qual sr.scope s.heap.objs.size a cdv)) →
      PSs (cxOf (L2.CX P w) P w K mg base sr.N sr.qual sr.scope a cdv A outer s H E) sr.body (rdS T K (fun c d _ H => E c d H) false ss)) : FP T P w K mg base a fn (runF ss fn.slots) (k + 1) := by
  intro A outer s H g h ds kv as us ws Q E hr e0 ok e rs rk o
  obtain ⟨oc, od, dV, kV, doc, pm, an, cdv, ct, osl, lk, hcd, ff⟩ := fh.lk
  refine StX.run_bnd lk hcd fh.sc hr e0 (bnd_of inj ff e0 ok e rs rk) fun s2 H2 vs ⟨g2, p2, r2⟩ hr' => ?_
  refine ⟨_, hbody cdv A outer s2 H2 E hr', g2, H2, none, g2, start fn.slots as, h, fun _ => rfl, start_here p2.ok r2 fh.sl, ?_⟩
  unfold runF at o
  cases q : ss (start fn.slots as) h with
  | nx ρ h' =>
    rw [q] at o
    exact fun g' σ H' _ z => o g' .non H' (p2.trans z.po) .non
  | rt d h' =>
    rw [q] at o
    exact fun g' H' v _ p r => o g' v H' (p2.trans p) r
  | exc c fs ρ h' =>
    rw [q] at o
    exact fun g' σ H' dx gs _ z e1 e2 e3 => o g' H' dx gs (p2.trans z.po) e1 e2 e3
  | bk ρ h' => rw [q] at o; exact o.elim
  | ct ρ h' => rw [q] at o; exact o.elim
  | bad => rw [q] at o; exact o.elim
end
/-! ### making an instance: its __init__ -/
def FPi (T : Tb) (P : Program) (w : World) (K : PySem.W.Frag) (mg : Str → Option Value) (base : Heap) (a : Addr) (fn : Fn) (c : Nat) (run : List D → Hh → R D) (k : Nat) : Prop :=
  ∀ (A : Around) (outer : List Env) (s : Shared) (H : Hp) (g : Gh) (h : Hh) (ds : List D) (kv : List (Nat × D)) (as : List D) (x dx : Addr) (us ws : List Value) (Q : VK) (E : XK),
    Room k A → HeapOk T K g h H → H x = none → H dx = none → dx ≠ x → Env0 P w K mg base A outer s (upd (upd H dx (.own x)) x (.ins (T.ca c) dx [])) →
    bindA fn (.non :: ds) kv = some as → RVs T K g.F g.m ds us → RVs T K g.F g.m (kv.map (·.2)) ws →
      Out T K (fun c d _ H => E c d H) [] g H (run as h) (KK T K (relE T K) [] g H Q) →
        codeAny (model P w) A (.call (.ref a) ⟨.ref x :: us, (kv.map fun p => T.nm p.1).zip ws⟩) (CR (L2.CX P w) outer P w (upd (upd H dx (.own x)) x (.ins (T.ca c) dx [])) s (fun v H2 => v = .non ∧ Q (.ref x) H2) E) s
def runI (c : Nat) (ss : En → Hh → RS) (slots : Nat) (as : List D) (h : Hh) : R D :=
  match ss ((start slots as).set 0 (some (.own (.ins c [])))) h with
  | .nx ρ h1 => match ρ[0]? with
    | some (some (Sl.own (O.ins c' fs))) => .ok (.ins c' fs) h1
    | _ => .bad
  | .exc c fs _ h1 => .exc c fs h1
  | _ => .bad
section
variable {T : Tb} {P : Program} {w : World} {K : PySem.W.Frag} {mg : Str → Option Value} {base : Heap} {a : Addr} {sr : FnSrc} {fn : Fn} {k c : Nat}
theorem RV.notDct {F : Hp} {m : List Addr} {kvs : List (D × D)} {u : Value} (r : RV T K F m (.dct kvs) u) : False := by
  obtain ⟨v, _, h⟩ := r
  cases h
theorem bnd_init {A : Around} {outer : List Env} {s : Shared} {H : Hp} {g : Gh} {h : Hh} {ds : List D} {kv : List (Nat × D)} {as : List D} {x : Addr} {us ws : List Value} {E : XK} {fd : FuncData} {pv : Str}
    (inj : ∀ a b, T.nm a = T.nm b → a = b) (ff : FnFacts T K fd fn pv) (hp : fn.pos ≠ []) (e0 : Env0 P w K mg base A outer s H) (ok : HeapOk T K g h H) (e : bindA fn (.non :: ds) kv = some (.non :: as)) (rs : RVs T K g.F g.m ds us) (rk : RVs T K g.F g.m (kv.map (·.2)) ws) :
    StX.Bnd (L2.CX P w) P w K mg base fd ⟨.ref x :: us, (kv.map fun p => T.nm p.1).zip ws⟩ (psOf T fn pv) A outer s H E (fun vs H2 => ∃ g2 vs', vs = .ref x :: vs' ∧ Post T K g H g2 h H2 ∧ Rls T K g2.F g2.m as vs') := by
  intro A' Ex Q hq
  have KX : K.In s.heap := e0.mod.kin.keeps fun b o e => (e0.bs b o e).1
  obtain ⟨as', ea', eb⟩ := bindA_first (d' := .dct []) hp e
  obtain rfl : as = as' := by injection ea'
  have nd : ∀ d ∈ as, d ≠ .dct [] := by
    have hr : ∀ {l : List D} {us : List Value}, RVs T K g.F g.m l us → ∀ d ∈ l, d ≠ .dct [] := fun r d hd z => by
      obtain ⟨i, hi⟩ := List.mem_iff_getElem?.mp hd
      obtain ⟨u, _, hu⟩ := r.get hi
      rw [z] at hu
      exact hu.notDct
    refine bindA_mem (Pd := fun d => d ≠ .dct []) e (hr rs) (fun p hp => hr rk _ (List.mem_map.mpr ⟨p, hp, rfl⟩)) (fun p hp x ex z => ?_) (fun l z => by cases z) hp
    rcases List.mem_append.mp hp with hp | hp
    · obtain ⟨dl, _, _, d3⟩ := ff.dd
      obtain ⟨i, hi⟩ := List.mem_iff_getElem?.mp hp
      rcases d3 i p hi with ⟨_, z2⟩ | ⟨d, u, z2, _, _, z3⟩
      · rw [ex] at z2; cases z2
      · rw [ex] at z2
        cases z2
        have := z3 g.F g.m
        rw [z] at this
        exact this.notDct
    · obtain ⟨t, u, _, _, z3⟩ := ff.kd p hp x ex
      have := z3 g.F g.m
      rw [z] at this
      exact this.notDct
  refine bind_ok inj ff KX (R := fun d u => RV T K g.F g.m d u ∨ (d = .dct [] ∧ u = .ref x)) (fun d u h => .inl (h _ _)) eb (.cons (.inr ⟨rfl, rfl⟩) (Paired.mono (fun _ _ z => .inl z) rs.prs)) (Paired.mono (fun _ _ z => .inl z) rk.prs) fun as0 us' r0 hl ea => ?_
  have hne : us' ≠ [] := fun z => by
    rw [z] at hl
    obtain ⟨p0, ps, ep⟩ := List.exists_cons_of_ne_nil hp
    rw [ep] at hl
    simp at hl
  cases r0 with
  | nil => exact absurd rfl hne
  | cons r1 r2 =>
    rename_i d0 u0 as1 us1
    rw [List.cons_append] at ea
    obtain ⟨hd0, eas⟩ := List.cons.inj ea
    subst hd0
    clear ea
    have hu0 : u0 = .ref x := by
      rcases r1 with r1 | r1
      · exact r1.notDct.elim
      · exact r1.2
    subst hu0
    have clean : ∀ {l : List D} {ul : List Value}, Paired (fun d u => RV T K g.F g.m d u ∨ (d = .dct [] ∧ u = .ref x)) l ul → (∀ d ∈ l, d ≠ .dct []) → RVs T K g.F g.m l ul := fun {l} => by
      induction l with
      | nil => intro ul r _; cases r; exact .nil
      | cons d l ih =>
        intro ul r hn
        cases r with
        | cons b1 b2 =>
          refine RVs.cons ?_ (ih b2 fun d hd => hn d (List.mem_cons_of_mem _ hd))
          rcases b1 with b1 | ⟨b1, _⟩
          · exact b1
          · exact absurd b1 (hn d (List.mem_cons_self ..))
    obtain ⟨vs0, q1, q2⟩ := clean r2 fun d hd => nd d (by rw [eas]; exact List.mem_append_left _ hd)
    by_cases hv : fn.var = true
    · rw [if_pos hv]
      intro hz
      obtain ⟨p0, ps, ep⟩ := List.exists_cons_of_ne_nil hp
      have hdr : (Value.ref x :: us).drop fn.pos.length = us.drop ps.length := by rw [ep, List.length_cons, List.drop_succ_cons]
      have hdd : (D.dct [] :: ds).drop fn.pos.length = ds.drop ps.length := by rw [ep, List.length_cons, List.drop_succ_cons]
      obtain ⟨vd, y1, y2⟩ := rs.drop ps.length
      rw [hdr] at hz ⊢
      have hn : H s.heap.objs.size = none := e0.hok.fresh (Nat.le_refl _)
      refine wpAny_newTuple ?_ hz
      have hzv : vd.length ≤ sizeLine := by rw [y1.length]; exact hz
      have new : ObjOk P w (upd H s.heap.objs.size (.tup vd)) (s.heap.push ({ cls := .type "tuple", data := .seq (us.drop ps.length).toArray } : Obj)) s.heap.objs.size (.tup vd) := ⟨hzv, us.drop ps.length, y1, ⟨_, Heap.get?_push_size _ rfl, rfl, _, rfl⟩⟩
      have un := StX.un_laid (fs := frs outer) (s := s) (o := ({ cls := .type "tuple", data := .seq (us.drop ps.length).toArray } : Obj)) (u := .tup vd) hn
      have po : Post T K g H ⟨upd g.F s.heap.objs.size (.tup vd), g.m⟩ h (upd H s.heap.objs.size (.tup vd)) := ok.newF hn
      have z := hq _ _ ((V.ref x :: vs0) ++ [V.ref s.heap.objs.size]) ((Value.ref x :: us1) ++ [Value.ref s.heap.objs.size]) (StX.env0_laid e0 new) un rfl (fun e s' => StX.cxUp outer s H _ _ E e s' un (fun b o q => Heap.get?_push_of_some _ q) rfl) (Vals.append (xs := V.ref x :: vs0) (us := Value.ref x :: us1) (.cons rfl q1) (.cons rfl .nil))
        (by unfold psOf; rw [if_pos hv, List.length_append, List.length_append, List.length_map, ← hl, List.length_cons, List.length_cons, q1.length]; rfl) ⟨_, _, rfl, po, ?_⟩
      · unfold psOf at z
        rw [if_pos hv, List.zip_append (by rw [List.length_map, ← hl])] at z
        exact z
      · rw [eas, if_pos hv, hdd]
        exact (q2.mono po.le.s .refl _).append (.cons (new_tup ok hn y2) .nil)
    · rw [if_neg hv]
      rw [if_neg hv, List.append_nil] at eas
      have z := hq s H (V.ref x :: vs0) (Value.ref x :: us1) e0 .refl rfl (fun _ _ z => z) (.cons rfl q1) (by unfold psOf; rw [if_neg hv, List.append_nil, List.length_map, ← hl, List.length_cons, List.length_cons, q1.length]) ⟨g, _, rfl, Post.refl ok, by rw [eas]; exact q2⟩
      unfold psOf at z
      rw [if_neg hv, List.append_nil] at z
      exact z
theorem fpi_of (inj : ∀ a b, T.nm a = T.nm b → a = b) (fh : FnHere T K a sr fn) (hp : fn.pos ≠ []) {ss : En → Hh → RS}
    (hbody : ∀ (cdv : Value) (A : Around) (outer : List Env) (s : Shared) (H : Hp) (E : XK), Room k (A.deeper (envOfC sr.qual sr.scope s.heap.objs.size a cdv)) →
      PSs (cxOf (L2.CX P w) P w K mg base sr.N sr.qual sr.scope a cdv A outer s H E) sr.body (rdS T K (fun c d _ H => E c d H) true ss)) : FPi T P w K mg base a fn c (runI c ss fn.slots) (k + 1) := by
  intro A outer s H g h ds kv as x dx us ws Q E hr ok hx hdx ne e0 e rs rk o
  obtain ⟨oc, od, dV, kV, doc, pm, an, cdv, ct, osl, lk, hcd, ff⟩ := fh.lk
  obtain ⟨as', ea, _⟩ := bindA_first (d' := .non) hp e
  subst ea
  have p1 : Post T K g H g h (upd H dx (.own x)) := ok.newO hdx
  have p2 : Post T K g H g h (upd (upd H dx (.own x)) x (.ins (T.ca c) dx [])) := p1.trans (p1.ok.newO (by rw [upd_ne (Ne.symm ne)]; exact hx))
  refine StX.run_bnd lk hcd fh.sc hr e0 (bnd_init inj ff hp e0 p2.ok e rs rk) fun s2 H2 vs hg hr' => ?_
  obtain ⟨g2, vs', ev, p3, r2⟩ := hg
  subst ev
  have hgm : x ∉ g.m := fun z => by
    obtain ⟨n, u, _, _, t⟩ := ok.at_ z
    obtain ⟨w, e⟩ := t.ex
    rw [hx] at e
    cases e
  have hgF : g.F x = none := by
    cases q : g.F x with
    | none => rfl
    | some u => have := ok.fr x u q; rw [hx] at this; cases this
  have e1 : upd (upd H dx (.own x)) x (.ins (T.ca c) dx []) x = some (.ins (T.ca c) dx []) := upd_same
  have e2 : upd (upd H dx (.own x)) x (.ins (T.ca c) dx []) dx = some (.own x) := by rw [upd_ne ne, upd_same]
  have p13 := p2.trans p3
  have f1 := p3.kp _ _ e1 hgm
  have f2 := p3.kp _ _ e2 fun z => by rw [ok.own_out_none hdx z] at hdx; cases hdx
  have m2 : x ∉ g2.m := fun z => by
    have := p3.nm x z hgm
    rw [e1] at this
    cases this
  have F2 : g2.F x = none := by
    cases q : g2.F x with
    | none => rfl
    | some u =>
      have := p3.nF x u q hgF
      rw [e1] at this
      cases this
  have th : ThingAt T K g2 H2 x (.ins c []) := ⟨dx, [], f1, f2, .nil⟩
  have hN : 0 < (start fn.slots (.non :: as')).length := by unfold start; simp
  have en := start_en (T := T) (K := K) (g := g2) (H := H2) (n := fn.slots) (N := sr.N) (Rls.cons .non r2) fh.sl
  have here : HereS T K g H (some (.ref x)) g2 ((start fn.slots (.non :: as')).set 0 (some (.own (.ins c [])))) h (L2.start sr.N (V.ref x :: vs')) H2 := by
    have hs0 : (L2.start sr.N (V.ref x :: vs'))[0]? = some (some (V.ref x)) := by unfold L2.start; simp
    have hss : ∀ i : Nat, i ≠ 0 → (L2.start sr.N (V.ref x :: vs'))[i]? = (L2.start sr.N (V.non :: vs'))[i]? := fun i hi => by
      obtain ⟨j, rfl⟩ := Nat.exists_eq_succ_of_ne_zero hi
      unfold L2.start
      simp
    refine ⟨⟨p3.ok, ⟨?_, fun i s e => ?_, fun i j o o' hij ei ej => ?_⟩⟩, p13, fun i o e a ea => ?_, fun v e => by cases e; exact hs0⟩
    · rw [List.length_set]
      have := en.len
      rw [this]
      unfold L2.start
      simp
    · by_cases hi : i = 0
      · subst hi
        rw [List.getElem?_set_self hN] at e
        cases e
        exact ⟨_, hs0, x, rfl, th, m2, F2⟩
      · rw [List.getElem?_set_ne (Ne.symm hi)] at e
        obtain ⟨v, e3, e4⟩ := en.sl i s e
        exact ⟨v, by rw [hss i hi]; exact e3, e4⟩
    · by_cases hi : i = 0
      · have hj : j ≠ 0 := fun z => hij (hi.trans z.symm)
        rw [List.getElem?_set_ne (Ne.symm hj)] at ej
        exact (start_noown ej).elim
      · rw [List.getElem?_set_ne (Ne.symm hi)] at ei
        exact (start_noown ei).elim
    · by_cases hi : i = 0
      · subst hi
        rw [hs0] at ea
        cases ea
        refine ⟨hx, fun C dx' gs ez => ?_⟩
        rw [f1] at ez
        cases ez
        exact hdx
      · rw [List.getElem?_set_ne (Ne.symm hi)] at e
        exact (start_noown e).elim
  refine ⟨_, hbody cdv A outer s2 H2 E hr', g, H, some (.ref x), g2, _, h, fun z => (nomatch z), here, ?_⟩
  unfold runI at o
  cases q : ss ((start fn.slots (.non :: as')).set 0 (some (.own (.ins c [])))) h with
  | nx ρ h' =>
    rw [q] at o
    refine fun g' σ H' _ z => ?_
    have o : Out T K (fun c d _ H => E c d H) [] g H (match ρ[0]? with
      | some (some (Sl.own (O.ins c' fs))) => R.ok (.ins c' fs) h'
      | _ => .bad) (KK T K (relE T K) [] g H Q) := o
    split at o
    · rename_i c' fs q0
      obtain ⟨v, s1, b, ev, t, hm, hF⟩ := z.hr.en.sl 0 _ q0
      have hk := z.kz _ rfl
      rw [hk] at s1
      cases s1
      injection ev with ev
      subst ev
      obtain ⟨w1, w2⟩ := z.ow 0 _ q0 x hk
      obtain ⟨F', y1, y2, y3, _⟩ := freeze z.po t hm hF w1 w2
      exact ⟨rfl, o _ _ _ y1 y3⟩
    · exact o.elim
  | exc c fs ρ h' =>
    rw [q] at o
    exact fun g' σ H' dx gs _ z e1 e2 e3 => o g' H' dx gs z.po e1 e2 e3
  | rt d h' => rw [q] at o; exact o.elim
  | bk ρ h' => rw [q] at o; exact o.elim
  | ct ρ h' => rw [q] at o; exact o.elim
  | bad => rw [q] at o; exact o.elim
end
end PI
end
section
/-! Calls as they stand in the text. -/
set_option linter.all false
set_option maxRecDepth 100000
set_option maxHeartbeats 1000000
namespace PI
open PySem PySem.Spec PyProof.Rows L2

structure ClsHere (T : Tb) (K : PySem.W.Frag) (fa : Nat → Addr) (fls : List Nat) (c : Nat) (cl : Cl) : Prop where
  ok : Cls K (T.ca c)
  me : ∀ m f, afind cl.meths m = some f → Meth K (T.ca c) (T.nm m) (fa f)
  fr : ∀ f, fls.contains f = true → free cl f = true → NoAttr K (T.ca c) (T.nm f)
  pr : ∀ f g, afind cl.props f = some g → ∃ p, PropOf K (T.ca c) (T.nm f) p (fa g)
  co : ∀ f d, afind cl.consts f = some d → ∃ v u, Con K (T.ca c) (T.nm f) v u ∧ ∀ F m, Rl T K F m d v
  cm : ∀ m f, afind cl.cmeths m = some f → ClX.CRead K (T.ca c) (.type "type") ∧ ∃ p, ClX.CMet K (T.ca c) (.type "type") (T.nm m) p (fa f)
/-- the names of the special methods -/
structure DnN (T : Tb) : Prop where
  eq : T.nm mEq = ("__eq__" : Str)
  len : T.nm mLen = ("__len__" : Str)
  has : T.nm mHas = ("__contains__" : Str)
  rep : T.nm mRepr = ("__repr__" : Str)
  add : T.nm mAdd = ("__add__" : Str)
  sub : T.nm mSub = ("__sub__" : Str)
  and : T.nm mAnd = ("__and__" : Str)
  idx : T.nm mIdx = ("__getitem__" : Str)
  bool : T.nm mBool = ("__bool__" : Str)
  call : T.nm mCall = ("__call__" : Str)
/-- what may be used within a body -/
structure Use (T : Tb) (fa : Nat → Addr) (fls : List Nat) (c : Cf) (k : Nat) (W : Wx) (X : Cx) : Prop where
  inj : ∀ a b, T.nm a = T.nm b → a = b
  fn : ∀ f fn, T.pg.fn f = some fn → FP T X.prog X.w X.K X.mg X.base (fa f) fn (c.f f) k
  kp : ∀ f fn, T.pg.fn f = some fn → PySem.W.keepIn X.K (.ref (fa f)) = true
  mks : ∀ q cl f fn, T.pg.cl q = some cl → cl.init = some f → T.pg.fn f = some fn → FPi T X.prog X.w X.K X.mg X.base (fa f) fn q (c.i q f) k ∧ Mk X.K (T.ca q) (fa f)
  cls : ∀ q cl, T.pg.cl q = some cl → ClsHere T X.K fa fls q cl
  room : Room (k + 2) X.A
  tk : Takes X W
  dn : DnN T
  hme : ∀ q cl m g, T.pg.cl q = some cl → afind cl.meths m = some g → (T.pg.fn g).isSome = true
  hpr : ∀ q cl g f, T.pg.cl q = some cl → afind cl.props f = some g → (T.pg.fn g).isSome = true

section
variable {T : Tb} {fa : Nat → Addr} {fls : List Nat} {r : Ev} {k : Nat} {W : Wx} {X : Cx}
/-- the argument lists -/
theorem pa_nilR : PA X [] (Rd T X.K W (evIts r []) (relEs T X.K)) := PA.imp pa_nil fun σ H Q hh => by
  obtain ⟨g, ρ, h, a, o⟩ := hh
  exact o g [] H (Post.refl a.ok) .nil
theorem pa_oneR {e : Expr} {es : List Expr} {e' : E} {its : List It} (he : PE X e (Rd T X.K W (r.e e') (relE T X.K))) (hr : PA X es (Rd T X.K W (evIts r its) (relEs T X.K)))
    (hs : starEach (e :: es) X.env = (false, eval e X.env) :: starEach es X.env) : PA X (e :: es) (Rd T X.K W (evIts r (.one e' :: its)) (relEs T X.K)) :=
  PA.imp (pa_cons he hr hs) fun σ H Q hh => by
    obtain ⟨g, ρ, h, a, o⟩ := hh
    refine Rd.mk a o fun g' d v h' H' a' p rd o' => ?_
    refine Rd.mk a' o' fun g2 ds vs h2 H2 a2 p2 rds o2 => ?_
    exact o2 g2 (v :: vs) H2 (Post.refl a2.ok) (.cons (rd.mono p2.le.s p2.le.p _) rds)
theorem pa_starR {e : Expr} {es : List Expr} {e' : E} {its : List It} {p0 : Pos} {cc : En → Bool} (he : PE X e (Rd T X.K W (evA r e') (relA T X.K cc))) (hr : PA X es (Rd T X.K W (evIts r its) (relEs T X.K)))
    (hs : starEach (.Starred e p0 :: es) X.env = (true, eval e X.env) :: starEach es X.env) : PA X (.Starred e p0 :: es) (Rd T X.K W (evIts r (.star e' :: its)) (relEs T X.K)) :=
  PA.imp (StX.pa_star he hr hs) fun σ H Q hh => by
    obtain ⟨g, ρ, h, a, o⟩ := hh
    refine Rd.mk a o fun g' d v h' H' a' p rd o' => ?_
    have w := Opd.vw a'.ok rd
    have o' : Out T X.K W σ g' H' (match vw h' d with
      | .lst xs => (evIts r its ρ h').bind fun ds h2 => .ok (xs ++ ds) h2
      | .tup xs => (evIts r its ρ h').bind fun ds h2 => .ok (xs ++ ds) h2
      | _ => .bad) (KK T X.K (relEs T X.K) ρ g' H' Q) := o'
    split at o'
    · rename_i xs e1
      rw [e1] at w
      obtain ⟨b, vs, ev, hq, hr⟩ := w.lst a'.ok
      refine ⟨b, vs, ev, .inr hq, ?_⟩
      refine Rd.mk a' o' fun g2 ds us h2 H2 a2 p2 rds o2 => ?_
      exact o2 g2 (vs ++ us) H2 (Post.refl a2.ok) ((hr.mono p2.le.s p2.le.p _).append rds)
    · rename_i xs e1
      rw [e1] at w
      obtain ⟨b, vs, ev, hq, hr⟩ := w.tup a'.ok
      refine ⟨b, vs, ev, .inl hq, ?_⟩
      refine Rd.mk a' o' fun g2 ds us h2 H2 a2 p2 rds o2 => ?_
      exact o2 g2 (vs ++ us) H2 (Post.refl a2.ok) ((hr.mono p2.le.s p2.le.p _).append rds)
    · exact o'.elim
abbrev relKs (T : Tb) (K : PySem.W.Frag) (ns : List Nat) : Rel (List (Nat × D)) (List V) := fun _ g _ kv vs => kv.map (·.1) = ns ∧ Rls T K g.F g.m (kv.map (·.2)) vs
theorem pk_nilR : PK X [] (Rd T X.K W (evKs r []) (relKs T X.K [])) := by
  refine ⟨fun pos pins s σ H Q I hh => pk_nil.run pos pins s σ H Q I ?_⟩
  obtain ⟨g, ρ, h, a, o⟩ := hh
  exact o g [] H (Post.refl a.ok) ⟨rfl, .nil⟩
theorem pk_consR {e : Expr} {kws : List Keyword} {e' : E} {n : Nat} {ks : List (Nat × E)} {nm : Option Str} {kpos : Pos} {ns : List Nat} (he : PE X e (Rd T X.K W (r.e e') (relE T X.K))) (hr : PK X kws (Rd T X.K W (evKs r ks) (relKs T X.K ns))) :
    PK X (⟨nm, e, kpos⟩ :: kws) (Rd T X.K W (evKs r ((n, e') :: ks)) (relKs T X.K (n :: ns))) := by
  refine ⟨fun pos pins s σ H Q I hh => (pk_cons he hr).run pos pins s σ H Q I ?_⟩
  obtain ⟨g, ρ, h, a, o⟩ := hh
  refine Rd.mk a o fun g' d v h' H' a' p rd o' => ?_
  refine Rd.mk a' o' fun g2 ds vs h2 H2 a2 p2 rds o2 => ?_
  obtain ⟨z1, z2⟩ := rds
  exact o2 g2 (v :: vs) H2 (Post.refl a2.ok) ⟨by rw [← z1]; rfl, .cons (rd.mono p2.le.s p2.le.p _) z2⟩

/-! ### callWith -/
theorem evalArgs_gen {M : Model} {A : Around} {E : Value → Shared → Prop} {s : Shared} {f : Value} {args : List (Bool × Sem Value)} {keywords : List (Option Str × Sem Value)} {Q : Args → Shared → Prop} (hl : ∀ x, args ≠ [(true, x)])
    (hall : keywords.all (·.1.isSome) = true)
    (h : wpAny M A (spliced args) (fun vs s₁ => wpAny M A (evalAll (keywords.map (·.2))) (fun ks s₂ => Q ⟨vs, (keywords.filterMap (·.1)).zip ks⟩ s₂) E s₁) E s) : wpAny M A (evalArgs f true args keywords) Q E s := by
  unfold evalArgs
  match args, hl, h with
  | [], _, h =>
    show wpAny M A (spliced [] >>= _) Q E s
    refine wpAny_bind (thn h fun vs s1 h1 => ?_)
    refine wpAny_bind (wpAny_pure (wpAny_holding ?_))
    simp only [hall, if_true]
    refine wpAny_bind (thn h1 fun ks s2 h2 => ?_)
    exact wpAny_bind (wpAny_pure (wpAny_pure h2))
  | (false, x) :: rest, _, h =>
    show wpAny M A (spliced ((false, x) :: rest) >>= _) Q E s
    refine wpAny_bind (thn h fun vs s1 h1 => ?_)
    refine wpAny_holding ?_
    simp only [hall, if_true]
    refine wpAny_bind (thn h1 fun ks s2 h2 => ?_)
    exact wpAny_bind (wpAny_pure (wpAny_pure h2))
  | [(true, x)], hl, _ => exact absurd rfl (hl x)
  | (true, x) :: y :: rest, _, h =>
    show wpAny M A (spliced ((true, x) :: y :: rest) >>= _) Q E s
    refine wpAny_bind (thn h fun vs s1 h1 => ?_)
    first
      | refine wpAny_holding ?_
      | refine wpAny_bind (wpAny_pure (wpAny_holding ?_))
    simp only [hall, if_true]
    refine wpAny_bind (thn h1 fun ks s2 h2 => ?_)
    exact wpAny_bind (wpAny_pure (wpAny_pure h2))
/-- the call itself, whatever the arguments -/
theorem callW_of {M : Model} {A : Around} {E : Value → Shared → Prop} {s : Shared} {K : PySem.W.Frag} {f : Value} {first : List Value} {pos : Pos} {Q : Value → Shared → Prop} {args : List (Bool × Sem Value)} {keywords : List (Option Str × Sem Value)} (hk : PySem.W.keepIn K f = true)
    (h : wpAny M A (evalArgs f true args keywords) (fun a s₁ => K.In s₁.heap ∧ wpAny M A (call f (first ++ a.pos) a.kw) Q E s₁) E s) : wpAny M A (callWith pos f first args keywords) Q E s := by
  by_cases hp : (args.any (·.1) || keywords.any (·.1.isNone)) = false
  · exact PySem.W.callWith_of (P := K.In) hp (PySem.W.keeps_K hk) h
  · have hp : (args.any (·.1) || keywords.any (·.1.isNone)) = true := by
      cases q : (args.any (·.1) || keywords.any (·.1.isNone)) with
      | true => rfl
      | false => exact absurd q hp
    unfold callWith
    refine wpAny_bind (wpAny_holding (thn h fun a s₁ h₁ => wpAny_bind (wpAny_standAt ?_)))
    obtain ⟨k, hk', L⟩ := PySem.W.keeps_K (M := M) hk _ h₁.1
    simp only [hp]
    refine wpAny_bind (L.here ?_)
    have shut (t : Sem Value) (ht : wpAny M A t Q E s₁) : wpAny M A (do let r ← t; holding [r] point; pure r) Q E s₁ :=
      wpAny_bind (thn ht fun r s₂ hr => wpAny_bind (wpAny_holding (wpAny_point (wpAny_pure hr))))
    have mark (mk : Value) : wpAny M A (callMarked mk f (first ++ a.pos) a.kw) Q E s₁ := by
      rw [callMarked]
      exact Calls.wpAny_keep h₁.2
    obtain rfl | rfl | rfl := hk'
    all_goals dsimp only
    all_goals first | exact shut _ (mark _) | exact shut _ (wpAny_operating h₁.2)
theorem callW {es : List Expr} {kws : List Keyword} {t tk : TA} {pins : List (Addr × Obj)} {s : Shared} {σ : L2.St} {H : Hp} {R : List V → List V → Hp → Prop} {Q : Value → Shared → Prop} {fv : Value} {first : List Value} {pos : Pos} {names : List Str} (hk : PySem.W.keepIn X.K fv = true)
    (ha : PA X es t) (hkw : PK X kws tk) (hall : (backToKw pos (keywordEach kws X.env)).all (·.1.isSome) = true) (hn : (backToKw pos (keywordEach kws X.env)).filterMap (·.1) = names) (hl : ∀ x, starEach es X.env ≠ [(true, x)]) (I : Inv X pins σ H s)
    (h : t σ H fun vs H1 => tk σ H1 fun zs H2 => R vs zs H2)
    (run : ∀ us ws vs zs s2 H2, Inv X pins σ H2 s2 → Vals vs us → Vals zs ws → R vs zs H2 → wpAny (model X.prog X.w) X.A (call fv (first ++ us) (names.zip ws)) Q X.xe s2) :
    wpAny (model X.prog X.w) X.A (callWith pos fv first (backTo pos (starEach es X.env)) (backToKw pos (keywordEach kws X.env))) Q X.xe s := by
  refine callW_of hk (evalArgs_gen (fun x z => ?_) hall (thn (ha.run pos pins s σ H _ I h) fun us s1 hh => ?_))
  · unfold backTo at z
    cases q : starEach es X.env with
    | nil => rw [q] at z; cases z
    | cons p l =>
      obtain ⟨b, y⟩ := p
      cases l with
      | cons p2 l2 => rw [q] at z; simp at z
      | nil =>
        rw [q] at z
        cases b with
        | true => exact hl y q
        | false => simp at z
  · obtain ⟨vs, H1, I1, r1, q1⟩ := hh
    refine thn (hkw.run pos pins s1 σ H1 _ I1 q1) fun ws s2 hh => ?_
    obtain ⟨zs, H2, I2, r2, q2⟩ := hh
    refine ⟨I2.kIn, ?_⟩
    rw [hn]
    exact run us ws vs zs s2 H2 I2 r1 r2 q2
/-- one starred argument alone -/
theorem callW1 {e : Expr} {te : TE} {pins : List (Addr × Obj)} {s : Shared} {σ : L2.St} {H : Hp} {R : List V → Hp → Prop} {Q : Value → Shared → Prop} {fv : Value} {first : List Value} {pos p0 : Pos} (hk : PySem.W.keepIn X.K fv = true)
    (he : PE X e te) (hs : starEach [.Starred e p0] X.env = [(true, eval e X.env)]) (I : Inv X pins σ H s) (h : te σ H fun y H1 => ∃ a xs, y = V.ref a ∧ (SqT X.K H1 a xs ∨ SqL X.K H1 a xs) ∧ R xs H1)
    (run : ∀ us vs s2 H2, Inv X pins σ H2 s2 → Vals vs us → R vs H2 → wpAny (model X.prog X.w) X.A (call fv (first ++ us)) Q X.xe s2) :
    wpAny (model X.prog X.w) X.A (callWith pos fv first (backTo pos (starEach [.Starred e p0] X.env)) (backToKw pos (keywordEach [] X.env))) Q X.xe s := by
  rw [hs]
  refine PySem.W.ks_call (P := X.K.In) rfl (PySem.W.keeps_K hk) (PySem.W.ks_lone (thn (he.run pins s σ H _ I h) fun v s1 hh => ?_))
  obtain ⟨y, H1, I1, ry, a, xs, ey, hx, q⟩ := hh
  subst ey
  obtain rfl : v = Value.ref a := ry
  exact StX.star_any I1 hx fun us s2 I2 rv => ⟨I2.kIn, run us xs s2 H1 I2 rv q⟩

/-! ### defs, classes, methods -/
variable {c : Cf} {U : Bool}
theorem run_def (u : Use T fa fls c k W X) {pins : List (Addr × Obj)} {σ : L2.St} {H : Hp} {s : Shared} {g : Gh} {h : Hh} {ρ : En} {f : Nat} {fn : Fn} {ds : List D} {kv : List (Nat × D)} {as : List D} {us ws : List Value} {Q : VK} (ef : T.pg.fn f = some fn) (e : bindA fn ds kv = some as)
    (I : Inv X pins σ H s) (ok : HeapOk T X.K g h H) (r1 : RVs T X.K g.F g.m ds us) (r2 : RVs T X.K g.F g.m (kv.map (·.2)) ws) (o : Out T X.K W σ g H (c.f f as h) (KK T X.K (relE T X.K) ρ g H Q)) :
    wpAny (model X.prog X.w) X.A (call (.ref (fa f)) us ((kv.map fun p => T.nm p.1).zip ws)) (EP X pins σ Q) X.xe s := by
  refine wpAny_call (codeAny_mono (u.fn f fn ef X.A X.stack s H g h ds kv as us ws Q (WE W σ) (u.room.mono (by omega)) I.env0 ok e r1 r2 ?_) fun r s' hq => ?_)
  · cases q : c.f f as h with
    | ok d h' => rw [q] at o; exact o
    | exc cc fs h' => rw [q] at o; exact o
    | bad => rw [q] at o; exact o
  · cases r with
    | error er => exact passAt u.tk σ pins H s er s' I hq
    | ok fl =>
      cases fl with
      | ret v => exact I.after hq
      | next => exact False.elim hq
      | brk => exact False.elim hq
      | cont => exact False.elim hq
/-- a new instance -/
theorem run_new (u : Use T fa fls c k W X) {pins : List (Addr × Obj)} {σ : L2.St} {H : Hp} {s : Shared} {g : Gh} {h : Hh} {ρ : En} {q f : Nat} {cl : Cl} {fn : Fn} {ds : List D} {kv : List (Nat × D)} {as : List D} {us ws : List Value} {Q : VK} (ec : T.pg.cl q = some cl) (ei : cl.init = some f) (ef : T.pg.fn f = some fn)
    (e : bindA fn (.non :: ds) kv = some as) (I : Inv X pins σ H s) (ok : HeapOk T X.K g h H) (r1 : RVs T X.K g.F g.m ds us) (r2 : RVs T X.K g.F g.m (kv.map (·.2)) ws) (o : Out T X.K W σ g H (c.i q f as h) (KK T X.K (relE T X.K) ρ g H Q)) :
    wpAny (model X.prog X.w) X.A (call (.ref (T.ca q)) us ((kv.map fun p => T.nm p.1).zip ws)) (EP X pins σ Q) X.xe s := by
  obtain ⟨F, M⟩ := u.mks q cl f fn ec ei ef
  have I2 := Inv.made (C := T.ca q) I
  have h1 : H (s.heap.objs.size + 1) = none := I.hok.fresh (Nat.le_succ _)
  have h2 : H s.heap.objs.size = none := I.hok.fresh (Nat.le_refl _)
  refine wpAny_call (make_map (f := fa f) I.kIn M.makes M.init (beq_iff_eq.mp M.fn) (codeAny_mono (F _ X.stack _ H g h ds kv as (s.heap.objs.size + 1) s.heap.objs.size us ws Q (WE W σ) ((u.room.mono (show k + 1 ≤ k + 2 by omega)).make _ us _)
    ok h1 h2 (Nat.ne_of_lt (Nat.lt_succ_self _)) (I2.env0.make _ us _) e r1 r2 ?_) fun r s' hq => ?_))
  · cases z : c.i q f as h with
    | ok d h' => rw [z] at o; exact o
    | exc cc fs h' => rw [z] at o; exact o
    | bad => rw [z] at o; exact o
  · cases r with
    | error er => exact passAt u.tk σ pins _ _ er s' I2 hq
    | ok fl =>
      cases fl with
      | ret v =>
        obtain ⟨x, H', I3, rv, ev, q3⟩ := I2.after hq
        subst ev
        exact ⟨rv, ⟨V.ref (s.heap.objs.size + 1), H', I3, rfl, q3⟩⟩
      | next => exact False.elim hq
      | brk => exact False.elim hq
      | cont => exact False.elim hq
theorem RVs.mk {F : Hp} {m : List Addr} {K : PySem.W.Frag} {ds : List D} {vs : List V} {us : List Value} (a : Vals vs us) (b : Rls T K F m ds vs) : RVs T K F m ds us := ⟨vs, a, b⟩
variable {es : List Expr} {kws : List Keyword} {its : List It} {ks : List (Nat × E)} {x : Str} {p pos apos : Pos} {f : Nat}
/-- f(.., k = ..) -/
theorem pe_callR (u : Use T fa fls r.c k W X) (hf : (T.pg.fn f).isSome = true) (hg : Gl X x) (hm : X.mg x = some (.ref (fa f))) (ha : PA X es (Rd T X.K W (evIts r its) (relEs T X.K))) (hkw : PK X kws (Rd T X.K W (evKs r ks) (relKs T X.K (ks.map (·.1)))))
    (hall : (backToKw pos (keywordEach kws X.env)).all (·.1.isSome) = true) (hn : (backToKw pos (keywordEach kws X.env)).filterMap (·.1) = ks.map fun p => T.nm p.1) (hl : ∀ x, starEach es X.env ≠ [(true, x)]) (hdb : (x == ("__debug__" : Str)) = false) :
    PE X (.Call (.Name x p) es kws pos) (Rd T X.K W (fun ρ h => (evIts r its ρ h).bind fun ps h1 => (evKs r ks ρ h1).bind fun kv h2 => evCall T.pg r f ps kv h2) (relE T X.K)) := by
  obtain ⟨fn, ef⟩ := Option.isSome_iff_exists.mp hf
  refine ⟨fun pins s σ H Q I hh => wpAny_Call_Name_kw (ld_glob I hg hm ?_ hdb)⟩
  obtain ⟨g, ρ, h, a, o⟩ := hh
  refine callW (R := fun vs zs H2 => ∃ (g2 : Gh) (ds : List D) (kv : List (Nat × D)) (h2 : Hh), Here T X.K g2 ρ h2 σ H2 ∧ Rls T X.K g2.F g2.m ds vs ∧ kv.map (·.1) = ks.map (·.1) ∧ Rls T X.K g2.F g2.m (kv.map (·.2)) zs ∧ Out T X.K W σ g2 H2 (evCall T.pg r f ds kv h2) (KK T X.K (relE T X.K) ρ g2 H2 Q))
    (u.kp f fn ef) ha hkw hall hn hl I ?_ fun us ws vs zs s2 H2 I2 rv rz hR => ?_
  · refine Rd.mk a o fun g1 ds vs h1 H1 a1 p1 rds o1 => ?_
    refine Rd.mk a1 o1 fun g2 kv zs h2 H2 a2 p2 rks o2 => ?_
    exact ⟨g2, ds, kv, h2, a2, rds.mono p2.le.s p2.le.p _, rks.1, rks.2, o2⟩
  · obtain ⟨g2, ds, kv, h2, a2, z1, z2, z3, z4⟩ := hR
    unfold evCall at z4
    rw [ef] at z4
    cases eb : bindA fn ds kv with
    | none => simp only [eb] at z4; exact z4.elim
    | some as =>
      simp only [eb] at z4
      have q := run_def u ef eb I2 a2.ok (.mk rv z1) (.mk rz z3) z4
      have en : (kv.map fun p => T.nm p.1) = ks.map fun p => T.nm p.1 := by
        rw [show (kv.map fun p => T.nm p.1) = (kv.map (·.1)).map T.nm by rw [List.map_map]; rfl, z2, List.map_map]
        rfl
      rw [en] at q
      exact q
/-- f( *e ) -/
theorem pe_call1R (u : Use T fa fls r.c k W X) (hf : (T.pg.fn f).isSome = true) (hg : Gl X x) (hm : X.mg x = some (.ref (fa f))) {e : Expr} {e' : E} {p0 : Pos} {cc : En → Bool} (he : PE X e (Rd T X.K W (evA r e') (relA T X.K cc)))
    (hs : starEach [.Starred e p0] X.env = [(true, eval e X.env)]) (hdb : (x == ("__debug__" : Str)) = false) :
    PE X (.Call (.Name x p) [.Starred e p0] [] pos) (Rd T X.K W (fun ρ h => (evIts r [.star e'] ρ h).bind fun ps h1 => (evKs r [] ρ h1).bind fun kv h2 => evCall T.pg r f ps kv h2) (relE T X.K)) := by
  obtain ⟨fn, ef⟩ := Option.isSome_iff_exists.mp hf
  refine ⟨fun pins s σ H Q I hh => wpAny_Call_Name_kw (ld_glob I hg hm ?_ hdb)⟩
  obtain ⟨g, ρ, h, a, o⟩ := hh
  refine callW1 (R := fun vs H2 => ∃ (g2 : Gh) (ds : List D) (h2 : Hh), Here T X.K g2 ρ h2 σ H2 ∧ Rls T X.K g2.F g2.m ds vs ∧ Out T X.K W σ g2 H2 (evCall T.pg r f ds [] h2) (KK T X.K (relE T X.K) ρ g2 H2 Q))
    (u.kp f fn ef) he hs I ?_ fun us vs s2 H2 I2 rv hR => ?_
  · refine ⟨g, ρ, h, a, (o.bind.bind).imp fun d h' o' g' v H' p rd => ?_⟩
    have a' := a.post p
    have w := Opd.vw a'.ok rd
    split at o'
    · rename_i xs e1
      rw [e1] at w
      obtain ⟨b, vs, ev, hq, hr⟩ := w.lst a'.ok
      refine ⟨b, vs, ev, .inr hq, g', xs, h', a', hr, ?_⟩
      have o3 : Out T X.K W σ g H (evCall T.pg r f (xs ++ []) [] h') (KK T X.K (relE T X.K) ρ g H Q) := o'
      rw [List.append_nil] at o3
      exact o3.shift p fun _ _ => KK.shift p
    · rename_i xs e1
      rw [e1] at w
      obtain ⟨b, vs, ev, hq, hr⟩ := w.tup a'.ok
      refine ⟨b, vs, ev, .inl hq, g', xs, h', a', hr, ?_⟩
      have o3 : Out T X.K W σ g H (evCall T.pg r f (xs ++ []) [] h') (KK T X.K (relE T X.K) ρ g H Q) := o'
      rw [List.append_nil] at o3
      exact o3.shift p fun _ _ => KK.shift p
    · exact o'.elim
  · obtain ⟨g2, ds, h2, a2, z1, z4⟩ := hR
    unfold evCall at z4
    rw [ef] at z4
    cases eb : bindA fn ds [] with
    | none => simp only [eb] at z4; exact z4.elim
    | some as =>
      simp only [eb] at z4
      exact run_def (kv := []) u ef eb I2 a2.ok (.mk rv z1) .nil z4
/-- C(.., k = ..) -/
theorem pe_newR (u : Use T fa fls r.c k W X) {q n : Nat} {cl : Cl} {fn : Fn} (ec : T.pg.cl q = some cl) (ei : cl.init = some f) (ef : T.pg.fn f = some fn) (hg : Gl X x) (hm : X.mg x = some (.ref (T.ca q))) (ha : PA X es (Rd T X.K W (evIts r its) (relEs T X.K))) (hkw : PK X kws (Rd T X.K W (evKs r ks) (relKs T X.K (ks.map (·.1)))))
    (hall : (backToKw pos (keywordEach kws X.env)).all (·.1.isSome) = true) (hn : (backToKw pos (keywordEach kws X.env)).filterMap (·.1) = ks.map fun p => T.nm p.1) (hl : ∀ x, starEach es X.env ≠ [(true, x)]) (hdb : (x == ("__debug__" : Str)) = false) :
    PE X (.Call (.Name x p) es kws pos) (Rd T X.K W (fun ρ h => (evIts r its ρ h).bind fun ps h1 => (evKs r ks ρ h1).bind fun kv h2 => evNew T.pg r n q ps kv h2) (relE T X.K)) := by
  refine ⟨fun pins s σ H Q I hh => wpAny_Call_Name_kw (ld_glob I hg hm ?_ hdb)⟩
  obtain ⟨g, ρ, h, a, o⟩ := hh
  refine callW (R := fun vs zs H2 => ∃ (g2 : Gh) (ds : List D) (kv : List (Nat × D)) (h2 : Hh), Here T X.K g2 ρ h2 σ H2 ∧ Rls T X.K g2.F g2.m ds vs ∧ kv.map (·.1) = ks.map (·.1) ∧ Rls T X.K g2.F g2.m (kv.map (·.2)) zs ∧ Out T X.K W σ g2 H2 (evNew T.pg r n q ds kv h2) (KK T X.K (relE T X.K) ρ g2 H2 Q))
    (u.mks q cl f fn ec ei ef).2.kp ha hkw hall hn hl I ?_ fun us ws vs zs s2 H2 I2 rv rz hR => ?_
  · refine Rd.mk a o fun g1 ds vs h1 H1 a1 p1 rds o1 => ?_
    refine Rd.mk a1 o1 fun g2 kv zs h2 H2 a2 p2 rks o2 => ?_
    exact ⟨g2, ds, kv, h2, a2, rds.mono p2.le.s p2.le.p _, rks.1, rks.2, o2⟩
  · obtain ⟨g2, ds, kv, h2, a2, z1, z2, z3, z4⟩ := hR
    unfold evNew at z4
    simp only [ec, ei, ef] at z4
    cases eb : bindA fn (.non :: ds) kv with
    | none => simp only [eb] at z4; exact z4.elim
    | some as =>
      simp only [eb] at z4
      have y := run_new u ec ei ef eb I2 a2.ok (.mk rv z1) (.mk rz z3) z4
      have en : (kv.map fun p => T.nm p.1) = ks.map fun p => T.nm p.1 := by
        rw [show (kv.map fun p => T.nm p.1) = (kv.map (·.1)).map T.nm by rw [List.map_map]; rfl, z2, List.map_map]
        rfl
      rw [en] at y
      exact y
/-- o.m(.., k = ..) -/
theorem pe_methR (u : Use T fa fls r.c k W X) {o0 : Expr} {a' : E} {m : Nat} {pl : Sem Bool} (he : PE X o0 (Rd T X.K W (r.e a') (relE T X.K))) (ha : PA X es (Rd T X.K W (evIts r its) (relEs T X.K))) (hkw : PK X kws (Rd T X.K W (evKs r ks) (relKs T X.K (ks.map (·.1)))))
    (hall : (backToKw pos (keywordEach kws X.env)).all (·.1.isSome) = true) (hn : (backToKw pos (keywordEach kws X.env)).filterMap (·.1) = ks.map fun p => T.nm p.1) (hl : ∀ x, starEach es X.env ≠ [(true, x)])
    (hme : ∀ q cl g, T.pg.cl q = some cl → afind cl.meths m = some g → (T.pg.fn g).isSome = true)
    (ht : eval (.Call (.Attribute o0 (T.nm m) apos) es kws pos) X.env = (do
      let ov ← eval o0 X.env
      standAt apos.atName
      let (f, first) ← holding [ov] (getMethod ov (T.nm m) pl)
      callWith pos f first (backTo pos (starEach es X.env)) (backToKw pos (keywordEach kws X.env)))) :
    PE X (.Call (.Attribute o0 (T.nm m) apos) es kws pos) (Rd T X.K W (fun ρ h => (r.e a' ρ h).bind fun d h1 => match vw h1 d with
      | .ins c fs => match methOf T.pg c fs m with
        | some g => (evIts r its ρ h1).bind fun ps h2 => (evKs r ks ρ h2).bind fun kv h3 => evCall T.pg r g (d :: ps) kv h3
        | none => .bad
      | _ => .bad) (relE T X.K)) := by
  refine ⟨fun pins s σ H Q I hh => ?_⟩
  obtain ⟨g, ρ, h, a, o⟩ := hh
  have hE : Rd T X.K W (r.e a') (relE T X.K) σ H (fun x H1 => ∃ (g1 : Gh) (d : D) (h1 : Hh), Here T X.K g1 ρ h1 σ H1 ∧ Rl T X.K g1.F g1.m d x ∧ Out T X.K W σ g1 H1 (match vw h1 d with
      | .ins c fs => match methOf T.pg c fs m with
        | some g => (evIts r its ρ h1).bind fun ps h2 => (evKs r ks ρ h2).bind fun kv h3 => evCall T.pg r g (d :: ps) kv h3
        | none => .bad
      | _ => .bad) (KK T X.K (relE T X.K) ρ g1 H1 Q)) := Rd.mk a o fun g1 d v h1 H1 a1 p1 rd o1 => ⟨g1, d, h1, a1, rd, o1⟩
  refine PySem.W.methodCall_KW (pl := pl) (thn (he.run pins s σ H _ I hE) fun ov s1 z => ?_) ht
  obtain ⟨x, H1, I1, rx, g1, d, h1, a1, rd, o1⟩ := z
  have w := Opd.vw (c := true) a1.ok (.inl rd)
  split at o1
  · rename_i c fs e1
    rw [e1] at w
    obtain ⟨b, dx, gs, ev, hb, hdx, rf⟩ := w.ins a1.ok
    subst ev
    obtain rfl : ov = Value.ref b := rx
    cases em : methOf T.pg c fs m with
    | none => simp only [em] at o1; exact o1.elim
    | some q =>
      simp only [em] at o1
      unfold methOf at em
      split at em
      · rename_i cl e3 e4
        have C := u.cls c cl e4
        have l := rf.get u.inj m
        rw [e3] at l
        refine getmeth_ok I1 hb C.ok (C.me m q em) l ?_
        obtain ⟨fn, ef⟩ := Option.isSome_iff_exists.mp (hme c cl q e4 em)
        refine callW (first := [.ref b]) (R := fun vs zs H2 => ∃ (g2 : Gh) (ds : List D) (kv : List (Nat × D)) (h2 : Hh), Here T X.K g2 ρ h2 σ H2 ∧ Rl T X.K g2.F g2.m d (.ref b) ∧ Rls T X.K g2.F g2.m ds vs ∧ kv.map (·.1) = ks.map (·.1) ∧ Rls T X.K g2.F g2.m (kv.map (·.2)) zs ∧ Out T X.K W σ g2 H2 (evCall T.pg r q (d :: ds) kv h2) (KK T X.K (relE T X.K) ρ g2 H2 Q))
          (C.me m q em).kp ha hkw hall hn hl I1 ?_ fun us ws vs zs s2 H2 I2 rv rz hR => ?_
        · refine Rd.mk a1 o1 fun g2 ds vs h2 H2 a2 p2 rds o2 => ?_
          refine Rd.mk a2 o2 fun g3 kv zs h3 H3 a3 p3 rks o3 => ?_
          exact ⟨g3, ds, kv, h3, a3, (rd.mono p2.le.s p2.le.p _).mono p3.le.s p3.le.p _, rds.mono p3.le.s p3.le.p _, rks.1, rks.2, o3⟩
        · obtain ⟨g2, ds, kv, h2, a2, z0, z1, z2, z3, z4⟩ := hR
          unfold evCall at z4
          rw [ef] at z4
          cases eb : bindA fn (d :: ds) kv with
          | none => simp only [eb] at z4; exact z4.elim
          | some as =>
            simp only [eb] at z4
            have y := run_def u ef eb I2 a2.ok (.mk (Paired.cons (F := L2.RelV) (a := V.ref b) (b := Value.ref b) rfl rv) (.cons z0 z1)) (.mk rz z3) z4
            have en : (kv.map fun p => T.nm p.1) = ks.map fun p => T.nm p.1 := by
              rw [show (kv.map fun p => T.nm p.1) = (kv.map (·.1)).map T.nm by rw [List.map_map]; rfl, z2, List.map_map]
              rfl
            rw [en] at y
            exact y
      · cases em
  · exact o1.elim
end
end PI
end
section
/-! The operators on plain data. -/
set_option linter.all false
set_option maxRecDepth 100000
set_option maxHeartbeats 1000000
namespace PI
open PySem PySem.Spec PyProof.Rows L2

section
variable {T : Tb} {K : PySem.W.Frag} {g : Gh} {h : Hh} {H : Hp}
/-- an end of a plain operation: the heap stands, or one new thing came -/
def Fin (T : Tb) (K : PySem.W.Frag) (g : Gh) (h : Hh) (H : Hp) (d : D) (Q : VK) : Prop :=
  ∀ (g' : Gh) (v : V) (H' : Hp), Post T K g H g' h H' → Rl T K g'.F g'.m d v → Q v H'
theorem Fin.same {d : D} {v : V} {Q : VK} (f : Fin T K g h H d Q) (ok : HeapOk T K g h H) (r : Rl T K g.F g.m d v) : Q v H := f g v H (.refl ok) r
theorem Fin.lst {ds : List D} {vs : List V} {p : Addr} {Q : VK} (f : Fin T K g h H (.lst ds) Q) (ok : HeapOk T K g h H) (r : Rls T K g.F g.m ds vs) (hp : H p = none) : Q (.ref p) (upd H p (.lst vs)) :=
  f _ _ _ (ok.newF hp) (new_lst ok hp r)
theorem Fin.tup {ds : List D} {vs : List V} {p : Addr} {Q : VK} (f : Fin T K g h H (.tup ds) Q) (ok : HeapOk T K g h H) (r : Rls T K g.F g.m ds vs) (hp : H p = none) : Q (.ref p) (upd H p (.tup vs)) :=
  f _ _ _ (ok.newF hp) (new_tup ok hp r)
/-- two operands, seen through, and a plain operation's answer -/
def rP2 (T : Tb) (K : PySem.W.Frag) (f : D → D → Option D) : R2 := fun x y H Q => ∃ g h d1 d2 d, HeapOk T K g h H ∧ Vw T K g H d1 x ∧ Vw T K g H d2 y ∧ f d1 d2 = some d ∧ Fin T K g h H d Q
def rP1 (T : Tb) (K : PySem.W.Frag) (f : D → Option D) : V → Hp → VK → Prop := fun x H Q => ∃ g h d1 d, HeapOk T K g h H ∧ Vw T K g H d1 x ∧ f d1 = some d ∧ Fin T K g h H d Q
end
theorem ifs {c : Prop} [Decidable c] {a d : D} (e : (if c then some a else none) = some d) : c ∧ a = d := by
  by_cases h : c
  · rw [if_pos h] at e
    exact ⟨h, Option.some.inj e⟩
  · rw [if_neg h] at e
    cases e
theorem sizeOk_le {n : Nat} (h : sizeOk n = true) : n ≤ sizeLine := by
  rw [sizeLine_eq]
  exact Nat.le_of_ble_eq_true h
theorem tS_len (x : Tx) : (tS x).length = x.length := rfl
theorem tS_app (x y : Tx) : tS (x ++ y) = tS x ++ tS y := by
  show (⟨⟨x ++ y⟩⟩ : Str) = ⟨(⟨x⟩ : Array Nat) ++ ⟨y⟩⟩
  simp
theorem tS_tl (x : Tx) : (tS x).cps.toList = x := rfl
theorem Rls.sizes {T : Tb} {K : PySem.W.Frag} {F : Hp} {m : List Addr} {ds : List D} {vs : List V} (r : Rls T K F m ds vs) : vs.length = ds.length := r.length

section
variable {T : Tb} {X : Cx}
/-- two lists one behind the other, each read wherever it stands -/
theorem cat_any : OpR X (binaryOp .Add) (fun x y H Q => ∃ a b xs ys, x = .ref a ∧ y = .ref b ∧ SqL X.K H a xs ∧ SqL X.K H b ys ∧ xs.length + ys.length ≤ sizeLine ∧
    ∀ p, H p = none → Q (.ref p) (upd H p (.lst (xs ++ ys)))) := by
  intro pins s σ H x y v u Q I rx ry hh
  obtain ⟨a, b, xs, ys, rfl, rfl, ha, hb, hz, q⟩ := hh
  obtain rfl : v = Value.ref a := rx
  obtain rfl : u = Value.ref b := ry
  obtain ⟨its, r1, p1, z1⟩ := I.list ha
  obtain ⟨jts, r2, p2, z2⟩ := I.list hb
  obtain ⟨⟨c1, d1, e1, l1⟩, ho1, hc1, n1, hd1⟩ := p1.isList
  obtain ⟨⟨c2, d2, e2, l2⟩, ho2, hc2, n2, hd2⟩ := p2.isList
  simp only at hc1 hd1 hc2 hd2
  subst hc1 hd1 hc2 hd2
  have e : its.toArray ++ jts.toArray = (its ++ jts).toArray := by simp
  have k1 := r1.length
  have k2 := r2.length
  refine concat_meets ⟨_, ho1, rfl⟩ ⟨_, ho2, rfl⟩ noFill_list_add seq_list_add PySem.F.slot_list_add PySem.F.entry_list_add (PySem.F.args_list_add_2 _ _)
    (list_addW a b its.toArray jts.toArray n1 n2 d1 d2 l1 l2 (by rw [List.size_toArray, List.size_toArray]; omega)) ⟨ho1, ho2, ?_⟩
  rw [e]
  exact ⟨.ref _, _, I.lnew (t' := s.toks) (r1.append r2) (by rw [List.length_append]; exact hz), rfl, q _ I.fresh⟩

def oAdd0 : D → D → Option D
  | .tup _, _ => none
  | a, b => oAdd a b
theorem ok_add0 : OpR X (binaryOp .Add) (rP2 T X.K oAdd0) := by
  intro pins s σ H x y v u Q I rx ry hh
  obtain ⟨g, h, d1, d2, d, ok, w1, w2, e, f⟩ := hh
  cases d1 with
  | int i =>
    cases d2 with
    | int j =>
      cases e
      exact op_add pins s σ H x y v u Q I rx ry ⟨i, j, w1.int, w2.int, f.same ok (.int _)⟩
    | _ => cases e
  | str i =>
    cases d2 with
    | str j =>
      obtain ⟨hz, rfl⟩ := ifs e
      refine op_add_str pins s σ H x y v u Q I rx ry ⟨tS i, tS j, w1.str, w2.str, sizeOk_le hz, ?_⟩
      rw [← tS_app]
      exact f.same ok (.str _)
    | _ => cases e
  | lst i =>
    cases d2 with
    | lst j =>
      obtain ⟨hz, rfl⟩ := ifs e
      obtain ⟨a, vs, ea, sa, ra⟩ := w1.lst ok
      obtain ⟨b, us, eb, sb, rb⟩ := w2.lst ok
      refine cat_any pins s σ H x y v u Q I rx ry ⟨a, b, vs, us, ea, eb, sa, sb, ?_, fun p hp => f.lst ok (ra.append rb) hp⟩
      rw [ra.length, rb.length]
      exact sizeOk_le hz
    | _ => cases e
  | _ => cases e
theorem ok_sub : OpR X (binaryOp .Sub) (rP2 T X.K oSub) := by
  intro pins s σ H x y v u Q I rx ry hh
  obtain ⟨g, h, d1, d2, d, ok, w1, w2, e, f⟩ := hh
  cases d1 with
  | int i =>
    cases d2 with
    | int j =>
      cases e
      exact op_sub pins s σ H x y v u Q I rx ry ⟨i, j, w1.int, w2.int, f.same ok (.int _)⟩
    | _ => cases e
  | _ => cases e
theorem okMul_ok {i j : Int} (h : okMul i j = true) : CMul i j := by
  unfold okMul lim at h
  simp only [Bool.or_eq_true, Bool.and_eq_true, decide_eq_true_eq] at h
  unfold CMul
  omega
theorem ok_mul : OpR X (binaryOp .Mult) (rP2 T X.K oMul) := by
  intro pins s σ H x y v u Q I rx ry hh
  obtain ⟨g, h, d1, d2, d, ok, w1, w2, e, f⟩ := hh
  cases d1 with
  | int i =>
    cases d2 with
    | int j =>
      obtain ⟨hz, rfl⟩ := ifs e
      exact op_mul pins s σ H x y v u Q I rx ry ⟨i, j, w1.int, w2.int, okMul_ok hz, f.same ok (.int _)⟩
    | _ => cases e
  | _ => cases e
theorem ok_mod : OpR X (binaryOp .Mod) (rP2 T X.K oMod) := by
  intro pins s σ H x y v u Q I rx ry hh
  obtain ⟨g, h, d1, d2, d, ok, w1, w2, e, f⟩ := hh
  cases d1 with
  | int i =>
    cases d2 with
    | int j =>
      obtain ⟨hz, rfl⟩ := ifs e
      exact op_mod pins s σ H x y v u Q I rx ry ⟨i, j, w1.int, w2.int, hz, f.same ok (.int _)⟩
    | _ => cases e
  | _ => cases e
theorem ok_div : OpR X (binaryOp .FloorDiv) (rP2 T X.K oDiv) := by
  intro pins s σ H x y v u Q I rx ry hh
  obtain ⟨g, h, d1, d2, d, ok, w1, w2, e, f⟩ := hh
  cases d1 with
  | int i =>
    cases d2 with
    | int j =>
      obtain ⟨hz, rfl⟩ := ifs e
      simp only [Bool.and_eq_true, decide_eq_true_eq] at hz
      exact op_fdivW pins s σ H x y v u Q I rx ry ⟨i, j, w1.int, w2.int, wide_div (b := 100) hz.1 (Nat.lt_of_lt_of_le (Int.ofNat_lt.mp (by omega : (j.natAbs : Int) < (1000000000000000000000000000000 : Nat))) (by decide)) (by decide) (by decide), f.same ok (.int _)⟩
    | _ => cases e
  | _ => cases e
theorem ok_pow : OpR X (binaryOp .Pow) (rP2 T X.K oPow) := by
  intro pins s σ H x y v u Q I rx ry hh
  obtain ⟨g, h, d1, d2, d, ok, w1, w2, e, f⟩ := hh
  cases d1 with
  | int i =>
    cases d2 with
    | int j =>
      obtain ⟨hz, rfl⟩ := ifs e
      simp only [Bool.and_eq_true, decide_eq_true_eq] at hz
      exact op_pow pins s σ H x y v u Q I rx ry ⟨i, j, w1.int, w2.int, ⟨hz.1.1, hz.1.2, hz.2⟩, f.same ok (.int _)⟩
    | _ => cases e
  | _ => cases e

/-! ### order -/
theorem ok_lt : OpR X (compareOp .Lt) (rP2 T X.K oLt) := by
  intro pins s σ H x y v u Q I rx ry hh
  obtain ⟨g, h, d1, d2, d, ok, w1, w2, e, f⟩ := hh
  cases d1 with
  | int i =>
    cases d2 with
    | int j =>
      cases e
      exact op_lt pins s σ H x y v u Q I rx ry ⟨i, j, w1.int, w2.int, f.same ok (.bl _)⟩
    | _ => cases e
  | str i =>
    cases d2 with
    | str j =>
      cases e
      exact op_lt_str pins s σ H x y v u Q I rx ry ⟨tS i, tS j, w1.str, w2.str, f.same ok (.bl _)⟩
    | _ => cases e
  | _ => cases e
theorem ok_le : OpR X (compareOp .LtE) (rP2 T X.K oLe) := by
  intro pins s σ H x y v u Q I rx ry hh
  obtain ⟨g, h, d1, d2, d, ok, w1, w2, e, f⟩ := hh
  cases d1 with
  | int i =>
    cases d2 with
    | int j =>
      cases e
      exact op_le pins s σ H x y v u Q I rx ry ⟨i, j, w1.int, w2.int, f.same ok (.bl _)⟩
    | _ => cases e
  | _ => cases e
theorem ok_gt : OpR X (compareOp .Gt) (rP2 T X.K oGt) := by
  intro pins s σ H x y v u Q I rx ry hh
  obtain ⟨g, h, d1, d2, d, ok, w1, w2, e, f⟩ := hh
  cases d1 with
  | int i =>
    cases d2 with
    | int j =>
      cases e
      exact op_gt pins s σ H x y v u Q I rx ry ⟨i, j, w1.int, w2.int, f.same ok (.bl _)⟩
    | _ => cases e
  | _ => cases e
theorem ok_ge : OpR X (compareOp .GtE) (rP2 T X.K oGe) := by
  intro pins s σ H x y v u Q I rx ry hh
  obtain ⟨g, h, d1, d2, d, ok, w1, w2, e, f⟩ := hh
  cases d1 with
  | int i =>
    cases d2 with
    | int j =>
      cases e
      exact op_ge pins s σ H x y v u Q I rx ry ⟨i, j, w1.int, w2.int, f.same ok (.bl _)⟩
    | _ => cases e
  | _ => cases e
end
end PI
end
section
/-! Equality, membership, items. -/
set_option linter.all false
set_option maxRecDepth 100000
set_option maxHeartbeats 1000000
namespace PI
open PySem PySem.Spec PyProof.Rows L2

mutual
def py : D → PyData
  | .bl b => .bool b
  | .int i => .int i
  | .str x => .str (tS x)
  | .lst xs => .list (pys xs)
  | .tup xs => .tuple (pys xs)
  | _ => .none
def pys : List D → List PyData
  | [] => []
  | x :: xs => py x :: pys xs
end
section
variable {T : Tb} {K : PySem.W.Frag} {F H : Hp} {m : List Addr}
mutual
theorem Rl.dp (s : Sub F H) : ∀ (d : D) {v : V}, Rl T K F m d v → dat d = true → Dp K H v (py d)
  | .non, _, h, _ => by cases h; exact .non
  | .bl b, _, h, _ => by cases h; exact .bl b
  | .int i, _, h, _ => by cases h; exact .int i
  | .str x, _, h, _ => by cases h; exact .str _
  | .lst xs, _, h, e => by
    cases h with
    | lst h1 h2 => exact .lst (s.sqL h1) (Rls.dp s xs h2 (by simpa [dat] using e))
  | .tup xs, _, h, e => by
    cases h with
    | tup h1 h2 => exact .tup (s.sqT h1) (Rls.dp s xs h2 (by simpa [dat] using e))
  | .dct _, _, h, _ => by cases h
  | .ins _ _, _, _, e => by simp [dat] at e
  | .ref _, _, _, e => by simp [dat] at e
  | .cls _, _, _, e => by simp [dat] at e
theorem Rls.dp (s : Sub F H) : ∀ (ds : List D) {vs : List V}, Rls T K F m ds vs → dats ds = true → DpAll K H vs (pys ds)
  | [], _, h, _ => by cases h; exact .nil
  | d :: ds, _, h, e => by
    cases h with
    | cons h1 h2 =>
      simp only [dats, Bool.and_eq_true] at e
      exact .cons (Rl.dp s d h1 e.1) (Rls.dp s ds h2 e.2)
end
theorem Vw.dp {g : Gh} {h : Hh} {d : D} {v : V} (ok : HeapOk T K g h H) (w : Vw T K g H d v) (e : dat d = true) : Dp K H v (py d) := by
  rcases w with w | ⟨a, o, ev, ed, t⟩
  · exact w.dp ok.fr d e
  · subst ed ev
    cases o with
    | lst ds =>
      obtain ⟨vs, h1, h2⟩ := t
      exact .lst (.of h1) (h2.dp ok.fr ds (by simpa [O.d, dat] using e))
    | dct kvs => exact t.elim
    | ins c fs => simp [O.d, dat] at e
end
theorem strOk_tS (x : Tx) : PyData.strOk (tS x) = x.all (fun c => Nat.blt c 1114112) := by
  unfold PyData.strOk tS
  have e : ∀ c : Nat, decide (c < 1114112) = Nat.blt c 1114112 := fun c => by
    rw [Bool.eq_iff_iff]
    simp [Nat.blt_eq]
  simp only [e]
  simp
mutual
theorem lay_py : ∀ d : D, dat d = true → (py d).canLay0 = true
  | .non, _ => by simp [py, PyData.canLay0]
  | .bl b, _ => by simp [py, PyData.canLay0]
  | .int i, _ => by simp [py, PyData.canLay0]
  | .str x, e => by
    simp only [py, PyData.canLay0]
    rw [strOk_tS]
    simpa [dat] using e
  | .lst xs, e => by
    simp only [py, PyData.canLay0]
    exact lay_pys xs (by simpa [dat] using e)
  | .tup xs, e => by
    simp only [py, PyData.canLay0]
    exact lay_pys xs (by simpa [dat] using e)
  | .dct _, e => by simp [dat] at e
  | .ins _ _, e => by simp [dat] at e
  | .ref _, e => by simp [dat] at e
  | .cls _, e => by simp [dat] at e
theorem lay_pys : ∀ ds : List D, dats ds = true → PyData.canLayAll0 (pys ds) = true
  | [], _ => by simp [pys, PyData.canLayAll0]
  | d :: ds, e => by
    simp only [dats, Bool.and_eq_true] at e
    simp [pys, PyData.canLayAll0, lay_py d e.1, lay_pys ds e.2]
end
mutual
theorem dep_py : ∀ d : D, dat d = true → (py d).depth = dep d
  | .non, _ => by simp [py, PyData.depth, dep]
  | .bl b, _ => by simp [py, PyData.depth, dep]
  | .int i, _ => by simp [py, PyData.depth, dep]
  | .str x, e => by simp [py, PyData.depth, dep]
  | .lst xs, e => by
    simp only [py, PyData.depth, dep]
    rw [dep_pys xs (by simpa [dat] using e)]
  | .tup xs, e => by
    simp only [py, PyData.depth, dep]
    rw [dep_pys xs (by simpa [dat] using e)]
  | .dct _, e => by simp [dat] at e
  | .ins _ _, e => by simp [dat] at e
  | .ref _, e => by simp [dat] at e
  | .cls _, e => by simp [dat] at e
theorem dep_pys : ∀ ds : List D, dats ds = true → PyData.depthAll (pys ds) = deps ds
  | [], _ => by simp [pys, PyData.depthAll, deps]
  | d :: ds, e => by
    simp only [dats, Bool.and_eq_true] at e
    simp only [pys, PyData.depthAll, deps, dep_py d e.1, dep_pys ds e.2]
end
theorem okD_dat {d : D} (e : okD d = true) : dat d = true := by
  unfold okD at e
  simp only [Bool.and_eq_true] at e
  exact e.1
theorem shaped_py {d : D} (e : okD d = true) : SeqAt.shaped (py d) = true := by
  have e1 := okD_dat e
  unfold okD at e
  simp only [Bool.and_eq_true] at e
  unfold SeqAt.shaped
  rw [lay_py d e1, dep_py d e1]
  simp [Nat.le_of_ble_eq_true e.2]
theorem tS_beq (x y : Tx) : (tS x == tS y) = (x == y) := by
  rw [Bool.eq_iff_iff]
  simp only [beq_iff_eq]
  exact ⟨tS_inj, fun e => by rw [e]⟩
mutual
theorem eqv_py : ∀ a b : D, dat a = true → dat b = true → PyData.eqv (py a) (py b) = deq a b
  | .non, b, _, e => by cases b <;> first | (simp [dat] at e; done) | simp [py, PyData.eqv, deq]
  | .bl x, b, _, e => by cases b <;> first | (simp [dat] at e; done) | simp [py, PyData.eqv, deq]
  | .int i, b, _, e => by cases b <;> first | (simp [dat] at e; done) | simp [py, PyData.eqv, deq]
  | .str x, b, _, e => by cases b <;> first | (simp [dat] at e; done) | simp [py, PyData.eqv, deq, tS_beq]
  | .lst xs, b, e1, e => by
    cases b with
    | lst ys =>
      simp only [py, PyData.eqv, deq]
      exact eqv_pys xs ys (by simpa [dat] using e1) (by simpa [dat] using e)
    | _ => first | (simp [dat] at e; done) | simp [py, PyData.eqv, deq]
  | .tup xs, b, e1, e => by
    cases b with
    | tup ys =>
      simp only [py, PyData.eqv, deq]
      exact eqv_pys xs ys (by simpa [dat] using e1) (by simpa [dat] using e)
    | _ => first | (simp [dat] at e; done) | simp [py, PyData.eqv, deq]
  | .dct _, _, e, _ => by simp [dat] at e
  | .ins _ _, _, e, _ => by simp [dat] at e
  | .ref _, _, e, _ => by simp [dat] at e
  | .cls _, _, e, _ => by simp [dat] at e
theorem eqv_pys : ∀ a b : List D, dats a = true → dats b = true → PyData.eqvAll (pys a) (pys b) = deqs a b
  | [], [], _, _ => by simp [pys, PyData.eqvAll, deqs]
  | [], _ :: _, _, _ => by simp [pys, PyData.eqvAll, deqs]
  | _ :: _, [], _, _ => by simp [pys, PyData.eqvAll, deqs]
  | x :: xs, y :: ys, e1, e2 => by
    simp only [dats, Bool.and_eq_true] at e1 e2
    simp only [pys, PyData.eqvAll, deqs]
    rw [eqv_py x y e1.1 e2.1, eqv_pys xs ys e1.2 e2.2]
end

section
variable {T : Tb} {X : Cx}
theorem flat_vw {K : PySem.W.Frag} {g : Gh} {H : Hp} {d : D} {v : V} (w : Vw T K g H d v) (f : flat d = true) : flatV v = true ∧ ∀ d2 v2, Vw T K g H d2 v2 → flat d2 = true → eqV v v2 = deq d d2 := by
  have tok : ∀ d2 v2, Vw T K g H d2 v2 → flat d2 = true → (d2 = .non ∧ v2 = .non) ∨ (∃ b, d2 = .bl b ∧ v2 = .bl b) ∨ (∃ i, d2 = .int i ∧ v2 = .int i) ∨ ∃ x, d2 = .str x ∧ v2 = .str (tS x) := fun d2 v2 w2 f2 => by
    cases d2 with
    | non => exact .inl ⟨rfl, w2.non⟩
    | bl b => exact .inr (.inl ⟨b, rfl, w2.bl⟩)
    | int i => exact .inr (.inr (.inl ⟨i, rfl, w2.int⟩))
    | str x => exact .inr (.inr (.inr ⟨x, rfl, w2.str⟩))
    | _ => cases f2
  rcases tok d v w f with ⟨rfl, rfl⟩ | ⟨b, rfl, rfl⟩ | ⟨i, rfl, rfl⟩ | ⟨x, rfl, rfl⟩
  all_goals refine ⟨rfl, fun d2 v2 w2 f2 => ?_⟩
  all_goals rcases tok d2 v2 w2 f2 with ⟨rfl, rfl⟩ | ⟨b', rfl, rfl⟩ | ⟨i', rfl, rfl⟩ | ⟨x', rfl, rfl⟩
  all_goals first | rfl | simp [eqV, deq, tS_beq]
theorem scal_vw {K : PySem.W.Frag} {g : Gh} {H : Hp} {d1 d2 : D} {x y : V} (w1 : Vw T K g H d1 x) (w2 : Vw T K g H d2 y) (s : scalD d1 d2 = true) : scal x y = true ∧ decide (x = y) = deq d1 d2 := by
  cases d1 with
  | non =>
    obtain rfl := w1.non
    cases d2 with
    | non => obtain rfl := w2.non; exact ⟨rfl, by simp [deq]⟩
    | bl b => obtain rfl := w2.bl; exact ⟨rfl, by simp [deq]⟩
    | int b => obtain rfl := w2.int; exact ⟨rfl, by simp [deq]⟩
    | str b => obtain rfl := w2.str; exact ⟨rfl, by simp [deq]⟩
    | _ => cases s
  | bl c =>
    obtain rfl := w1.bl
    cases d2 with
    | non => obtain rfl := w2.non; exact ⟨rfl, by simp [deq]⟩
    | bl b => obtain rfl := w2.bl; exact ⟨rfl, by rw [dec_bl]; rfl⟩
    | str b => obtain rfl := w2.str; exact ⟨rfl, by simp [deq]⟩
    | _ => cases s
  | int c =>
    obtain rfl := w1.int
    cases d2 with
    | non => obtain rfl := w2.non; exact ⟨rfl, by simp [deq]⟩
    | int b => obtain rfl := w2.int; exact ⟨rfl, by rw [dec_int]; simp [deq]⟩
    | str b => obtain rfl := w2.str; exact ⟨rfl, by simp [deq]⟩
    | _ => cases s
  | str c =>
    obtain rfl := w1.str
    cases d2 with
    | non => obtain rfl := w2.non; exact ⟨rfl, by simp [deq]⟩
    | bl b => obtain rfl := w2.bl; exact ⟨rfl, by simp [deq]⟩
    | int b => obtain rfl := w2.int; exact ⟨rfl, by simp [deq]⟩
    | str b => obtain rfl := w2.str; exact ⟨rfl, by rw [dec_str, tS_beq]; simp [deq]⟩
    | _ => cases s
  | _ => cases d2 <;> cases s
theorem eqD_some {a b : D} {c : Bool} (e : eqD a b = some c) : (scalD a b = true ∨ (okD a = true ∧ okD b = true)) ∧ c = deq a b := by
  unfold eqD at e
  split at e
  · rename_i q
    simp only [Bool.or_eq_true, Bool.and_eq_true] at q
    exact ⟨q, (Option.some.inj e).symm⟩
  · cases e
theorem ok_eq (hu : X.A.units + 64 < cLine) : OpR X (compareOp .Eq) (rP2 T X.K fun a b => (eqD a b).map .bl) := by
  intro pins s σ H x y v u Q I rx ry hh
  obtain ⟨g, h, d1, d2, d, ok, w1, w2, e, f⟩ := hh
  obtain ⟨c, e1, e2⟩ := Option.map_eq_some_iff.mp e
  obtain ⟨q, rfl⟩ := eqD_some e1
  subst e2
  rcases q with q | ⟨q1, q2⟩
  · obtain ⟨a1, a2⟩ := scal_vw w1 w2 q
    exact op_eq pins s σ H x y v u Q I rx ry ⟨a1, by rw [a2]; exact f.same ok (.bl _)⟩
  · refine op_eqD hu pins s σ H x y v u Q I rx ry ⟨py d1, py d2, w1.dp ok (okD_dat q1), w2.dp ok (okD_dat q2), shaped_py q1, shaped_py q2, ?_⟩
    rw [eqv_py d1 d2 (okD_dat q1) (okD_dat q2)]
    exact f.same ok (.bl _)
theorem ok_ne (hu : X.A.units + 64 < cLine) : OpR X (compareOp .NotEq) (rP2 T X.K fun a b => (eqD a b).map fun c => .bl (!c)) := by
  intro pins s σ H x y v u Q I rx ry hh
  obtain ⟨g, h, d1, d2, d, ok, w1, w2, e, f⟩ := hh
  obtain ⟨c, e1, e2⟩ := Option.map_eq_some_iff.mp e
  obtain ⟨q, rfl⟩ := eqD_some e1
  subst e2
  rcases q with q | ⟨q1, q2⟩
  · obtain ⟨a1, a2⟩ := scal_vw w1 w2 q
    exact op_ne pins s σ H x y v u Q I rx ry ⟨a1, by rw [a2]; exact f.same ok (.bl _)⟩
  · refine op_neD hu pins s σ H x y v u Q I rx ry ⟨py d1, py d2, w1.dp ok (okD_dat q1), w2.dp ok (okD_dat q2), shaped_py q1, shaped_py q2, ?_⟩
    rw [eqv_py d1 d2 (okD_dat q1) (okD_dat q2)]
    exact f.same ok (.bl _)

/-! ### in, not in -/
theorem Rls.flatV {K : PySem.W.Frag} {g : Gh} {H : Hp} {d : D} {v : V} (w : Vw T K g H d v) (f : flat d = true) : ∀ {ds : List D} {vs : List V}, Rls T K g.F g.m ds vs → ds.all flat = true → vs.all L2.flatV = true ∧ inV v vs = ds.any fun y => deq y d
  | [], _, h, _ => by cases h; exact ⟨rfl, rfl⟩
  | e :: ds, _, h, q => by
    cases h with
    | cons h1 h2 =>
      rw [List.all_cons, Bool.and_eq_true] at q
      obtain ⟨a1, a2⟩ := Rls.flatV w f h2 q.2
      obtain ⟨b1, b2⟩ := flat_vw (T := T) (K := K) (g := g) (H := H) (.inl h1) q.1
      refine ⟨by rw [List.all_cons, b1, a1]; rfl, ?_⟩
      have b3 := b2 d v w f
      unfold inV at a2 ⊢
      rw [List.any_cons, List.any_cons, b3, a2]
theorem oIn_some {a b : D} {c : Bool} (e : oIn a b = some c) : (∃ k y, a = .str [k] ∧ b = .str y ∧ c = y.contains k) ∨
    (∃ ys, (b = .lst ys ∨ b = .tup ys) ∧ flat a = true ∧ ys.all flat = true ∧ c = ys.any fun y => deq y a) ∨ ∃ ys, b = .lst ys ∧ okD a = true ∧ okD (.lst ys) = true ∧ c = ys.any fun y => deq y a := by
  cases b with
  | str y =>
    cases a with
    | str x =>
      match x, e with
      | [k], e => exact .inl ⟨k, y, rfl, rfl, (Option.some.inj e).symm⟩
    | _ => cases e
  | lst ys =>
    have e : (if (flat a && ys.all flat) || (okD a && okD (.lst ys)) then some (ys.any fun y => deq y a) else none) = some c := by
      cases a with
      | str x =>
        cases x with
        | nil => exact e
        | cons k t => cases t <;> exact e
      | _ => exact e
    split at e
    · rename_i q
      simp only [Bool.or_eq_true, Bool.and_eq_true] at q
      rcases q with ⟨q1, q2⟩ | ⟨q1, q2⟩
      · exact .inr (.inl ⟨ys, .inl rfl, q1, q2, (Option.some.inj e).symm⟩)
      · exact .inr (.inr ⟨ys, rfl, q1, q2, (Option.some.inj e).symm⟩)
    · cases e
  | tup ys =>
    have e : (if flat a && ys.all flat then some (ys.any fun y => deq y a) else none) = some c := by
      cases a with
      | str x =>
        cases x with
        | nil => exact e
        | cons k t => cases t <;> exact e
      | _ => exact e
    split at e
    · rename_i q
      simp only [Bool.and_eq_true] at q
      exact .inr (.inl ⟨ys, .inr rfl, q.1, q.2, (Option.some.inj e).symm⟩)
    · cases e
  | _ =>
    cases a with
    | str x => cases x with
      | nil => cases e
      | cons k t => cases t <;> cases e
    | _ => cases e
theorem any_pys (x : D) (hx : dat x = true) : ∀ ys : List D, dats ys = true → ((pys ys).any fun z => PyData.eqv z (py x)) = ys.any fun y => deq y x
  | [], _ => rfl
  | y :: ys, e => by
    simp only [dats, Bool.and_eq_true] at e
    simp only [pys, List.any_cons]
    rw [eqv_py y x e.1 hx, any_pys x hx ys e.2]
theorem ok_in (hu : X.A.units + 65 < cLine) : OpR X (compareOp .In) (rP2 T X.K fun a b => (oIn a b).map .bl) := by
  intro pins s σ H x y v u Q I rx ry hh
  obtain ⟨g, h, d1, d2, d, ok, w1, w2, e, f⟩ := hh
  obtain ⟨c, e1, e2⟩ := Option.map_eq_some_iff.mp e
  subst e2
  rcases oIn_some e1 with ⟨k, z, rfl, rfl, rfl⟩ | ⟨ys, hy, q1, q2, rfl⟩ | ⟨ys, rfl, q1, q2, rfl⟩
  · refine op_in_sign pins s σ H x y v u Q I rx ry ⟨k, tS z, w1.str, w2.str, ?_⟩
    have : decide (k ∈ (tS z).cps.toList) = z.contains k := by
      rw [tS_tl, Bool.eq_iff_iff]
      simp
    rw [this]
    exact f.same ok (.bl _)
  · have q : ∃ p vs, y = .ref p ∧ (SqL X.K H p vs ∨ SqT X.K H p vs) ∧ Rls T X.K g.F g.m ys vs := by
      rcases hy with rfl | rfl
      · obtain ⟨p, vs, a, b, c⟩ := w2.lst ok
        exact ⟨p, vs, a, .inl b, c⟩
      · obtain ⟨p, vs, a, b, c⟩ := w2.tup ok
        exact ⟨p, vs, a, .inr b, c⟩
    obtain ⟨p, vs, a, b, r⟩ := q
    obtain ⟨z1, z2⟩ := Rls.flatV w1 q1 r q2
    refine op_in_seq pins s σ H x y v u Q I rx ry ⟨p, vs, a, b, (flat_vw w1 q1).1, z1, ?_⟩
    simp only [Bool.false_eq_true, if_false]
    rw [z2]
    exact f.same ok (.bl _)
  · refine op_inD hu pins s σ H x y v u Q I rx ry ⟨py d1, pys ys, w1.dp ok (okD_dat q1), ?_, shaped_py q1, ?_, ?_⟩
    · have := w2.dp ok (okD_dat q2)
      simpa [py] using this
    · have := shaped_py q2
      simpa [py] using this
    · rw [any_pys d1 (okD_dat q1) ys (by have := okD_dat q2; simpa [dat] using this)]
      exact f.same ok (.bl _)
theorem ok_notin (hu : X.A.units + 65 < cLine) : OpR X (compareOp .NotIn) (rP2 T X.K fun a b => (oIn a b).map fun c => .bl (!c)) := by
  intro pins s σ H x y v u Q I rx ry hh
  obtain ⟨g, h, d1, d2, d, ok, w1, w2, e, f⟩ := hh
  obtain ⟨c, e1, e2⟩ := Option.map_eq_some_iff.mp e
  subst e2
  rcases oIn_some e1 with ⟨k, z, rfl, rfl, rfl⟩ | ⟨ys, hy, q1, q2, rfl⟩ | ⟨ys, rfl, q1, q2, rfl⟩
  · refine op_notIn_sign pins s σ H x y v u Q I rx ry ⟨k, tS z, w1.str, w2.str, ?_⟩
    have : decide (k ∈ (tS z).cps.toList) = z.contains k := by
      rw [tS_tl, Bool.eq_iff_iff]
      simp
    rw [this]
    exact f.same ok (.bl _)
  · have q : ∃ p vs, y = .ref p ∧ (SqL X.K H p vs ∨ SqT X.K H p vs) ∧ Rls T X.K g.F g.m ys vs := by
      rcases hy with rfl | rfl
      · obtain ⟨p, vs, a, b, c⟩ := w2.lst ok
        exact ⟨p, vs, a, .inl b, c⟩
      · obtain ⟨p, vs, a, b, c⟩ := w2.tup ok
        exact ⟨p, vs, a, .inr b, c⟩
    obtain ⟨p, vs, a, b, r⟩ := q
    obtain ⟨z1, z2⟩ := Rls.flatV w1 q1 r q2
    refine op_notIn_seq pins s σ H x y v u Q I rx ry ⟨p, vs, a, b, (flat_vw w1 q1).1, z1, ?_⟩
    simp only [if_true]
    rw [z2]
    exact f.same ok (.bl _)
  · refine op_notInD hu pins s σ H x y v u Q I rx ry ⟨py d1, pys ys, w1.dp ok (okD_dat q1), ?_, shaped_py q1, ?_, ?_⟩
    · have := w2.dp ok (okD_dat q2)
      simpa [py] using this
    · have := shaped_py q2
      simpa [py] using this
    · rw [any_pys d1 (okD_dat q1) ys (by have := okD_dat q2; simpa [dat] using this)]
      exact f.same ok (.bl _)
end
end PI
end
section
/-! Items, slices, built-in functions. -/
set_option linter.all false
set_option maxRecDepth 100000
set_option maxHeartbeats 1000000
namespace PI
open PySem PySem.Spec PyProof.Rows L2

section
variable {T : Tb} {X : Cx}
theorem at?_eq {α : Type} (xs : List α) (i : Int) : at? xs i = atI xs i := rfl
theorem at?_rls {K : PySem.W.Frag} {F : Hp} {m : List Addr} {ds : List D} {vs : List V} (r : Rls T K F m ds vs) {i : Int} {d : D} (e : at? ds i = some d) : ∃ v, atI vs i = some v ∧ Rl T K F m d v := by
  unfold at? at e
  unfold atI
  rw [r.length]
  obtain ⟨j, e1, e2⟩ := Option.bind_eq_some_iff.mp e
  obtain ⟨v, e3, e4⟩ := r.get e2
  refine ⟨v, ?_, e4⟩
  show (ixN ds.length i).bind _ = _
  rw [show ixN ds.length i = some j from e1]
  exact e3
theorem ok_idx : IxR X (rP2 T X.K oIdx) := by
  intro va sl pins s σ H x y v u Q I rx ry hh hp
  obtain ⟨g, h, d1, d2, d, ok, w1, w2, e, f⟩ := hh
  cases d1 with
  | lst xs =>
    cases d2 with
    | int i =>
      obtain ⟨a, vs, ea, sa, ra⟩ := w1.lst ok
      obtain ⟨z, e1, e2⟩ := at?_rls ra (show at? xs i = some d from e)
      exact ix_list va sl pins s σ H x y v u Q I rx ry ⟨a, vs, i, z, ea, w2.int, sa, e1, f.same ok e2⟩ hp
    | _ => cases e
  | tup xs =>
    cases d2 with
    | int i =>
      obtain ⟨a, vs, ea, sa, ra⟩ := w1.tup ok
      obtain ⟨z, e1, e2⟩ := at?_rls ra (show at? xs i = some d from e)
      exact ix_tup va sl pins s σ H x y v u Q I rx ry ⟨a, vs, i, z, ea, w2.int, sa, e1, f.same ok e2⟩ hp
    | _ => cases e
  | str z =>
    cases d2 with
    | int i =>
      have e : (if sizeOk z.length = true then (at? z i).map fun c => D.str [c] else none) = some d := e
      split at e
      · rename_i hz
        obtain ⟨c, e1, e2⟩ := Option.map_eq_some_iff.mp e
        subst e2
        exact ix_str va sl pins s σ H x y v u Q I rx ry ⟨tS z, i, c, w1.str, w2.int, sizeOk_le hz, e1, f.same ok (.str _)⟩ hp
      · cases e
    | _ => cases e
  | _ => cases e
theorem Vw.tupRl {K : PySem.W.Frag} {g : Gh} {H : Hp} {xs : List D} {v : V} (w : Vw T K g H (.tup xs) v) : Rl T K g.F g.m (.tup xs) v := by
  rcases w with w | ⟨a, o, ev, ed, t⟩
  · exact w
  · cases o <;> cases ed
theorem tup_add : OpR X (binaryOp .Add) (rP2 T X.K fun a b => match a, b with | .tup x, .tup y => if sizeOk (x.length + y.length) then some (.tup (x ++ y)) else none | _, _ => none) := by
  intro pins s σ H x y v u Q I rx ry hh
  obtain ⟨g, h, d1, d2, d, ok, w1, w2, e, f⟩ := hh
  cases d1 with
  | tup i =>
    cases d2 with
    | tup j =>
      obtain ⟨hz, rfl⟩ := ifs e
      have t1 := w1.tupRl
      have t2 := w2.tupRl
      obtain ⟨a, vs, ea, sa, ra⟩ := w1.tup ok
      obtain ⟨b, us, eb, sb, rb⟩ := w2.tup ok
      refine op_catA pins s σ H x y v u Q I rx ry ⟨a, b, vs, us, ea, eb, sa, sb, ?_, fun q => ?_, fun q q2 => ?_, fun q q2 p hp => f.tup ok (ra.append rb) hp⟩
      · rw [ra.length, rb.length]
        exact sizeOk_le hz
      · subst q
        cases ra
        rw [← eb]
        exact f.same ok t2
      · subst q2
        cases rb
        rw [← ea]
        rw [List.append_nil] at f
        exact f.same ok t1
    | _ => cases e
  | _ => cases e
theorem ok_add : OpR X (binaryOp .Add) (rP2 T X.K oAdd) := by
  intro pins s σ H x y v u Q I rx ry hh
  obtain ⟨g, h, d1, d2, d, ok, w1, w2, e, f⟩ := hh
  cases d1 with
  | tup i =>
    cases d2 with
    | tup j => exact tup_add pins s σ H x y v u Q I rx ry ⟨g, h, .tup i, .tup j, d, ok, w1, w2, e, f⟩
    | _ => cases e
  | int i => exact ok_add0 pins s σ H x y v u Q I rx ry ⟨g, h, .int i, d2, d, ok, w1, w2, e, f⟩
  | str i => exact ok_add0 pins s σ H x y v u Q I rx ry ⟨g, h, .str i, d2, d, ok, w1, w2, e, f⟩
  | lst i => exact ok_add0 pins s σ H x y v u Q I rx ry ⟨g, h, .lst i, d2, d, ok, w1, w2, e, f⟩
  | _ => cases e
/-- a slice of a value seen through -/
def rCut (T : Tb) (K : PySem.W.Frag) : V → Option Int → Option Int → Hp → VK → Prop := fun x lo hi H Q => ∃ g h d1 d, HeapOk T K g h H ∧ Vw T K g H d1 x ∧ oCut d1 lo hi = some d ∧ Fin T K g h H d Q
theorem cut_rls {K : PySem.W.Frag} {F : Hp} {m : List Addr} {ds : List D} {vs : List V} (r : Rls T K F m ds vs) (lo hi : Option Int) : Rls T K F m (cut ds lo hi) (cutV vs lo hi) := by
  unfold cut cutV
  rw [r.length]
  exact (r.drop _).take _
theorem ok_cut : SlR X (rCut T X.K) := by
  intro pins s σ H x v vl vu lo hi sl Q I rx hs pl pu hh
  obtain ⟨g, h, d1, d, ok, w1, e, f⟩ := hh
  cases d1 with
  | lst xs =>
    cases e
    obtain ⟨a, vs, ea, sa, ra⟩ := w1.lst ok
    exact sl_list pins s σ H x v vl vu lo hi sl Q I rx hs pl pu ⟨a, vs, ea, sa, fun p hp => f.lst ok (cut_rls ra lo hi) hp⟩
  | tup xs =>
    cases e
    have w2 := w1.tupRl
    obtain ⟨a, vs, ea, sa, ra⟩ := w1.tup ok
    refine sl_tupA pins s σ H x v vl vu lo hi sl Q I rx hs pl pu ⟨a, vs, ea, sa, fun hw => ?_, fun _ p hp => f.tup ok (cut_rls ra lo hi) hp⟩
    have e2 : cut xs lo hi = xs := by
      rw [ra.length] at hw
      unfold cut
      rw [show clip xs.length 0 lo = 0 from hw.1, show clip xs.length xs.length hi = xs.length from hw.2]
      simp
    rw [e2] at f
    rw [← ea]
    exact f.same ok w2
  | str z =>
    obtain ⟨hz, rfl⟩ := ifs e
    refine sl_str pins s σ H x v vl vu lo hi sl Q I rx hs pl pu ⟨tS z, w1.str, sizeOk_le hz, ?_⟩
    exact f.same ok (.str (cut z lo hi))
  | _ => cases e

/-! ### of one value -/
theorem isNone_vw {K : PySem.W.Frag} {g : Gh} {H : Hp} {d : D} {v : V} (w : Vw T K g H d v) : decide (v = .non) = isNone d := by
  rcases w with w | ⟨a, o, ev, ed, t⟩
  · cases w <;> simp [isNone]
  · subst ev ed
    cases o <;> simp [O.d, isNone]
theorem ok_isN : OpR X (compareOp .Is) (fun x y H Q => y = .non ∧ rP1 T X.K (fun d => some (.bl (isNone d))) x H Q) := by
  intro pins s σ H x y v u Q I rx ry hh
  obtain ⟨ey, g, h, d1, d, ok, w1, e, f⟩ := hh
  cases e
  refine op_isN pins s σ H x y v u Q I rx ry ⟨ey, ?_⟩
  rw [isNone_vw w1]
  exact f.same ok (.bl _)
theorem ok_notN : OpR X (compareOp .IsNot) (fun x y H Q => y = .non ∧ rP1 T X.K (fun d => some (.bl (!isNone d))) x H Q) := by
  intro pins s σ H x y v u Q I rx ry hh
  obtain ⟨ey, g, h, d1, d, ok, w1, e, f⟩ := hh
  cases e
  refine op_notN pins s σ H x y v u Q I rx ry ⟨ey, ?_⟩
  rw [isNone_vw w1]
  exact f.same ok (.bl _)
def oIsT : D → Option D
  | .bl b => some (.bl b)
  | _ => none
def oNotT : D → Option D
  | .bl b => some (.bl (!b))
  | _ => none
theorem ok_isT : OpR X (compareOp .Is) (fun x y H Q => y = .bl true ∧ rP1 T X.K oIsT x H Q) := by
  intro pins s σ H x y v u Q I rx ry hh
  obtain ⟨ey, g, h, d1, d, ok, w1, e, f⟩ := hh
  cases d1 with
  | bl b =>
    cases e
    refine op_isBl pins s σ H x y v u Q I rx ry ⟨b, true, w1.bl, ey, ?_⟩
    have : decide (b = true) = b := by cases b <;> rfl
    rw [this]
    exact f.same ok (.bl _)
  | _ => cases e
theorem ok_notT : OpR X (compareOp .IsNot) (fun x y H Q => y = .bl true ∧ rP1 T X.K oNotT x H Q) := by
  intro pins s σ H x y v u Q I rx ry hh
  obtain ⟨ey, g, h, d1, d, ok, w1, e, f⟩ := hh
  cases d1 with
  | bl b =>
    cases e
    refine op_notBl pins s σ H x y v u Q I rx ry ⟨b, true, w1.bl, ey, ?_⟩
    have : decide (b = true) = b := by cases b <;> rfl
    rw [this]
    exact f.same ok (.bl _)
  | _ => cases e
def oNeg : D → Option D
  | .int i => some (.int (-i))
  | _ => none
theorem ok_neg : UnR X (unaryOp .USub) (rP1 T X.K oNeg) := by
  intro pins s σ H x v Q I rx hh
  obtain ⟨g, h, d1, d, ok, w1, e, f⟩ := hh
  cases d1 with
  | int i =>
    cases e
    exact un_neg pins s σ H x v Q I rx ⟨i, w1.int, f.same ok (.int _)⟩
  | _ => cases e
/-- a built-in called with one value -/
def rC1 (T : Tb) (K : PySem.W.Frag) (f : D → Option D) : List V → Hp → VK → Prop := fun xs H Q => ∃ x, xs = [x] ∧ rP1 T K f x H Q
def rC2 (T : Tb) (K : PySem.W.Frag) (f : D → D → Option D) : List V → Hp → VK → Prop := fun xs H Q => ∃ x y, xs = [x, y] ∧ rP2 T K f x y H Q
theorem ok_len : CallR X (.builtin "len") (rC1 T X.K oLen) := by
  intro pins s σ H xs us Q I rs hh
  obtain ⟨x, rfl, g, h, d1, d, ok, w1, e, f⟩ := hh
  cases d1 with
  | lst ds =>
    cases e
    obtain ⟨a, vs, ea, sa, ra⟩ := w1.lst ok
    refine call_len_seq pins s σ H [x] us Q I rs ⟨a, vs, by rw [ea], .inl sa, ?_⟩
    rw [ra.length]
    exact f.same ok (.int _)
  | tup ds =>
    cases e
    obtain ⟨a, vs, ea, sa, ra⟩ := w1.tup ok
    refine call_len_seq pins s σ H [x] us Q I rs ⟨a, vs, by rw [ea], .inr sa, ?_⟩
    rw [ra.length]
    exact f.same ok (.int _)
  | str z =>
    obtain ⟨hz, rfl⟩ := ifs e
    refine call_len_str pins s σ H [x] us Q I rs ⟨tS z, by rw [w1.str], sizeOk_le hz, ?_⟩
    exact f.same ok (.int _)
  | _ => cases e
theorem bools?_vals {K : PySem.W.Frag} {F : Hp} {m : List Addr} : ∀ {ds : List D} {vs : List V} {bs : List Bool}, Rls T K F m ds vs → bools? ds = some bs → vs = bs.map V.bl
  | [], _, bs, h, e => by cases h; cases e; rfl
  | d :: ds, _, bs, h, e => by
    cases h with
    | cons h1 h2 =>
      cases d with
      | bl b =>
        obtain ⟨c, e1, e2⟩ := Option.map_eq_some_iff.mp (show (bools? ds).map (b :: ·) = some bs from e)
        subst e2
        cases h1
        rw [bools?_vals h2 e1]
        rfl
      | _ => cases e
theorem ints?_vals {K : PySem.W.Frag} {F : Hp} {m : List Addr} : ∀ {ds : List D} {vs : List V} {bs : List Int}, Rls T K F m ds vs → ints? ds = some bs → vs = bs.map V.int
  | [], _, bs, h, e => by cases h; cases e; rfl
  | d :: ds, _, bs, h, e => by
    cases h with
    | cons h1 h2 =>
      cases d with
      | int b =>
        obtain ⟨c, e1, e2⟩ := Option.map_eq_some_iff.mp (show (ints? ds).map (b :: ·) = some bs from e)
        subst e2
        cases h1
        rw [ints?_vals h2 e1]
        rfl
      | _ => cases e
theorem strs?_vals {K : PySem.W.Frag} {F : Hp} {m : List Addr} : ∀ {ds : List D} {vs : List V} {bs : List Tx}, Rls T K F m ds vs → strs? ds = some bs → vs = (bs.map tS).map V.str
  | [], _, bs, h, e => by cases h; cases e; rfl
  | d :: ds, _, bs, h, e => by
    cases h with
    | cons h1 h2 =>
      cases d with
      | str b =>
        obtain ⟨c, e1, e2⟩ := Option.map_eq_some_iff.mp (show (strs? ds).map (b :: ·) = some bs from e)
        subst e2
        cases h1
        rw [strs?_vals h2 e1]
        rfl
      | _ => cases e
theorem ok_all (hc : X.calm = true) : CallR X (.builtin "all") (rC1 T X.K (oBools fun bs => bs.all id)) := by
  intro pins s σ H xs us Q I rs hh
  obtain ⟨x, rfl, g, h, d1, d, ok, w1, e, f⟩ := hh
  cases d1 with
  | lst ds =>
    obtain ⟨bs, e1, e2⟩ := Option.map_eq_some_iff.mp (show (bools? ds).map (fun bs => D.bl (bs.all id)) = some d from e)
    subst e2
    obtain ⟨a, vs, ea, sa, ra⟩ := w1.lst ok
    refine cr_all hc pins s σ H [x] us Q I rs ⟨a, bs, by rw [ea], by rw [← bools?_vals ra e1]; exact sa, f.same ok (.bl _)⟩
  | _ => cases e
theorem ok_any (hc : X.calm = true) : CallR X (.builtin "any") (rC1 T X.K (oBools fun bs => bs.any id)) := by
  intro pins s σ H xs us Q I rs hh
  obtain ⟨x, rfl, g, h, d1, d, ok, w1, e, f⟩ := hh
  cases d1 with
  | lst ds =>
    obtain ⟨bs, e1, e2⟩ := Option.map_eq_some_iff.mp (show (bools? ds).map (fun bs => D.bl (bs.any id)) = some d from e)
    subst e2
    obtain ⟨a, vs, ea, sa, ra⟩ := w1.lst ok
    refine cr_any hc pins s σ H [x] us Q I rs ⟨a, bs, by rw [ea], by rw [← bools?_vals ra e1]; exact sa, f.same ok (.bl _)⟩
  | _ => cases e
theorem ok_sum (hc : X.calm = true) : CallR X (.builtin "sum") (rC1 T X.K oSum) := by
  intro pins s σ H xs us Q I rs hh
  obtain ⟨x, rfl, g, h, d1, d, ok, w1, e, f⟩ := hh
  cases d1 with
  | lst ds =>
    obtain ⟨bs, e1, e2⟩ := Option.map_eq_some_iff.mp (show (ints? ds).map (fun ns => D.int ns.sum) = some d from e)
    subst e2
    obtain ⟨a, vs, ea, sa, ra⟩ := w1.lst ok
    refine cr_sum hc pins s σ H [x] us Q I rs ⟨a, bs, by rw [ea], by rw [← ints?_vals ra e1]; exact sa, f.same ok (.int _)⟩
  | _ => cases e
theorem maxI_mem : ∀ (l : List Int) (m : Int), (maxI m l = m ∨ maxI m l ∈ l) ∧ m ≤ maxI m l ∧ ∀ x ∈ l, x ≤ maxI m l
  | [], m => ⟨.inl rfl, Int.le_refl _, fun x h => by cases h⟩
  | a :: r, m => by
    unfold maxI
    obtain ⟨h1, h2, h3⟩ := maxI_mem r (if m < a then a else m)
    refine ⟨?_, ?_, fun x hx => ?_⟩
    · rcases h1 with h1 | h1
      · rw [h1]
        by_cases c : m < a
        · rw [if_pos c]; exact .inr (List.mem_cons_self ..)
        · rw [if_neg c]; exact .inl rfl
      · exact .inr (List.mem_cons_of_mem _ h1)
    · refine Int.le_trans ?_ h2
      by_cases c : m < a
      · rw [if_pos c]; omega
      · rw [if_neg c]; omega
    · rcases List.mem_cons.mp hx with rfl | hx
      · refine Int.le_trans ?_ h2
        by_cases c : m < x
        · rw [if_pos c]; omega
        · rw [if_neg c]; omega
      · exact h3 x hx
theorem minI_mem : ∀ (l : List Int) (m : Int), (minI m l = m ∨ minI m l ∈ l) ∧ minI m l ≤ m ∧ ∀ x ∈ l, minI m l ≤ x
  | [], m => ⟨.inl rfl, Int.le_refl _, fun x h => by cases h⟩
  | a :: r, m => by
    unfold minI
    obtain ⟨h1, h2, h3⟩ := minI_mem r (if a < m then a else m)
    refine ⟨?_, ?_, fun x hx => ?_⟩
    · rcases h1 with h1 | h1
      · rw [h1]
        by_cases c : a < m
        · rw [if_pos c]; exact .inr (List.mem_cons_self ..)
        · rw [if_neg c]; exact .inl rfl
      · exact .inr (List.mem_cons_of_mem _ h1)
    · refine Int.le_trans h2 ?_
      by_cases c : a < m
      · rw [if_pos c]; omega
      · rw [if_neg c]; omega
    · rcases List.mem_cons.mp hx with rfl | hx
      · refine Int.le_trans h2 ?_
        by_cases c : x < m
        · rw [if_pos c]; omega
        · rw [if_neg c]; omega
      · exact h3 x hx
theorem ok_max1 (hc : X.calm = true) : CallR X (.builtin "max") (rC1 T X.K oMax) := by
  intro pins s σ H xs us Q I rs hh
  obtain ⟨x, rfl, g, h, d1, d, ok, w1, e, f⟩ := hh
  cases d1 with
  | lst ds =>
    have e : (match ints? ds with | some (a :: r) => some (D.int (maxI a r)) | _ => none) = some d := e
    obtain ⟨a, vs, ea, sa, ra⟩ := w1.lst ok
    cases q : ints? ds with
    | none => rw [q] at e; cases e
    | some l =>
      rw [q] at e
      cases l with
      | nil => cases e
      | cons b r =>
        cases e
        refine cr_max hc pins s σ H [x] us Q I rs ⟨a, b :: r, by rw [ea], by rw [← ints?_vals ra q]; exact sa, Nat.succ_pos _, fun m hm hle => ?_⟩
        obtain ⟨k1, k2, k3⟩ := maxI_mem r b
        have : m = maxI b r := by
          refine Int.le_antisymm ?_ (hle _ ?_)
          · rcases List.mem_cons.mp hm with rfl | hm
            · exact k2
            · exact k3 _ hm
          · rcases k1 with k1 | k1
            · rw [k1]; exact List.mem_cons_self ..
            · exact List.mem_cons_of_mem _ k1
        rw [this]
        exact f.same ok (.int _)
  | _ => cases e
theorem ok_min1 (hc : X.calm = true) : CallR X (.builtin "min") (rC1 T X.K oMin) := by
  intro pins s σ H xs us Q I rs hh
  obtain ⟨x, rfl, g, h, d1, d, ok, w1, e, f⟩ := hh
  cases d1 with
  | lst ds =>
    have e : (match ints? ds with | some (a :: r) => some (D.int (minI a r)) | _ => none) = some d := e
    obtain ⟨a, vs, ea, sa, ra⟩ := w1.lst ok
    cases q : ints? ds with
    | none => rw [q] at e; cases e
    | some l =>
      rw [q] at e
      cases l with
      | nil => cases e
      | cons b r =>
        cases e
        refine cr_min hc pins s σ H [x] us Q I rs ⟨a, b :: r, by rw [ea], by rw [← ints?_vals ra q]; exact sa, Nat.succ_pos _, fun m hm hle => ?_⟩
        obtain ⟨k1, k2, k3⟩ := minI_mem r b
        have : m = minI b r := by
          refine Int.le_antisymm (hle _ ?_) ?_
          · rcases k1 with k1 | k1
            · rw [k1]; exact List.mem_cons_self ..
            · exact List.mem_cons_of_mem _ k1
          · rcases List.mem_cons.mp hm with rfl | hm
            · exact k2
            · exact k3 _ hm
        rw [this]
        exact f.same ok (.int _)
  | _ => cases e
theorem ok_max2 (hc : X.calm = true) : CallR X (.builtin "max") (rC2 T X.K oMax2) := by
  intro pins s σ H xs us Q I rs hh
  obtain ⟨x, y, rfl, g, h, d1, d2, d, ok, w1, w2, e, f⟩ := hh
  cases d1 with
  | int i =>
    cases d2 with
    | int j =>
      cases e
      exact call_max2 hc pins s σ H [x, y] us Q I rs ⟨i, j, by rw [w1.int, w2.int], f.same ok (.int _)⟩
    | _ => cases e
  | _ => cases e
theorem ok_min2 (hc : X.calm = true) : CallR X (.builtin "min") (rC2 T X.K oMin2) := by
  intro pins s σ H xs us Q I rs hh
  obtain ⟨x, y, rfl, g, h, d1, d2, d, ok, w1, w2, e, f⟩ := hh
  cases d1 with
  | int i =>
    cases d2 with
    | int j =>
      cases e
      exact call_min2 hc pins s σ H [x, y] us Q I rs ⟨i, j, by rw [w1.int, w2.int], f.same ok (.int _)⟩
    | _ => cases e
  | _ => cases e
theorem ok_int : CallR X (.type "int") (rC1 T X.K oInt) := by
  intro pins s σ H xs us Q I rs hh
  obtain ⟨x, rfl, g, h, d1, d, ok, w1, e, f⟩ := hh
  cases d1 with
  | int i =>
    cases e
    exact call_int1 pins s σ H [x] us Q I rs (.inl ⟨i, by rw [w1.int], f.same ok (.int _)⟩)
  | _ => cases e
theorem ok_list : CallR X (.type "list") (rC1 T X.K oList) := by
  intro pins s σ H xs us Q I rs hh
  obtain ⟨x, rfl, g, h, d1, d, ok, w1, e, f⟩ := hh
  cases d1 with
  | lst ds =>
    cases e
    obtain ⟨a, vs, ea, sa, ra⟩ := w1.lst ok
    exact call_list_of pins s σ H [x] us Q I rs ⟨a, vs, by rw [ea], .inl sa, fun p hp => f.lst ok ra hp⟩
  | tup ds =>
    cases e
    obtain ⟨a, vs, ea, sa, ra⟩ := w1.tup ok
    exact call_list_of pins s σ H [x] us Q I rs ⟨a, vs, by rw [ea], .inr sa, fun p hp => f.lst ok ra hp⟩
  | _ => cases e
theorem ok_tuple : CallR X (.type "tuple") (rC1 T X.K oTup) := by
  intro pins s σ H xs us Q I rs hh
  obtain ⟨x, rfl, g, h, d1, d, ok, w1, e, f⟩ := hh
  cases d1 with
  | lst ds =>
    cases e
    obtain ⟨a, vs, ea, sa, ra⟩ := w1.lst ok
    exact call_tuple_of pins s σ H [x] us Q I rs ⟨a, vs, by rw [ea], .inl ⟨sa, fun p hp => f.tup ok ra hp⟩⟩
  | tup ds =>
    cases e
    have w2 := w1.tupRl
    obtain ⟨a, vs, ea, sa, ra⟩ := w1.tup ok
    refine call_tuple_of pins s σ H [x] us Q I rs ⟨a, vs, by rw [ea], .inr ⟨sa, ?_⟩⟩
    rw [← ea]
    exact f.same ok w2
  | _ => cases e

/-! ### texts -/
theorem splitOn_ne (c : Nat) : ∀ x : Tx, splitOn c x ≠ []
  | [] => by simp [splitOn]
  | y :: r => by
    unfold splitOn
    split
    · simp
    · split <;> simp
theorem splitOn_spl (c : Nat) : ∀ (x acc : Tx), TL.spl [c] 0 acc x = match splitOn c x with
    | [] => [acc]
    | a :: t => (acc ++ a) :: t
  | [], acc => by simp [TL.spl_nil, splitOn]
  | y :: r, acc => by
    by_cases e : y = c
    · subst e
      rw [TL.spl_hit (by simp [TL.pre])]
      have ih := splitOn_spl y r []
      simp only [List.length_singleton, Nat.sub_self]
      rw [ih]
      simp only [splitOn, beq_self_eq_true, if_true]
      cases q : splitOn y r with
      | nil => exact absurd q (splitOn_ne y r)
      | cons a t => simp
    · rw [TL.spl_miss (by simp [TL.pre, e])]
      have ih := splitOn_spl c r (acc ++ [y])
      rw [ih]
      have e1 : (y == c) = false := by simpa using e
      simp only [splitOn, e1, Bool.false_eq_true, if_false]
      cases splitOn c r <;> simp
theorem ok_split : MtR X "str.split" (fun x xs H Q => ∃ y, xs = [y] ∧ rP2 T X.K oSplit x y H Q) := by
  intro pins s σ H x xs v us Q I rx rs hh
  obtain ⟨y, rfl, g, h, d1, d2, d, ok, w1, w2, e, f⟩ := hh
  cases d1 with
  | str z =>
    cases d2 with
    | str c =>
      match c, e, w2 with
      | [c], e, w2 =>
        obtain ⟨hz, rfl⟩ := ifs e
        simp only [Bool.and_eq_true] at hz
        refine mt_split pins s σ H x [y] v us Q I rx rs ⟨tS z, tS [c], w1.str, by rw [w2.str], rfl, sizeOk_le hz.2, fun p hp => ?_⟩
        have e1 : (Txt.split (tS z) (tS [c])).map TL.tl = splitOn c z := by
          have hk : c < 256 := by simpa [Nat.blt_eq] using hz.1
          · rw [TL.split_spl _ _ (by simp [TL.tl, tS]) (TL.kind_ok (by simp [tS, hk]))]
            show TL.spl [c] 0 [] z = splitOn c z
            rw [splitOn_spl]
            cases q : splitOn c z with
            | nil => exact absurd q (splitOn_ne c z)
            | cons a t => simp
        have e2 : Txt.split (tS z) (tS [c]) = (splitOn c z).map tS := by
          apply TL.map_tl_inj
          rw [e1, List.map_map]
          have : TL.tl ∘ tS = id := rfl
          rw [this, List.map_id]
        rw [e2]
        refine f.lst ok ?_ hp
        clear e1 e2 f e
        induction splitOn c z with
        | nil => exact .nil
        | cons a t ih => exact .cons (.str a) ih
    | _ => cases e
  | _ => cases e
end
end PI
end
section
/-! Names, constants, tests, displays, operators. -/
set_option linter.all false
set_option maxRecDepth 100000
set_option maxHeartbeats 1000000
namespace PI
open PySem PySem.Spec PyProof.Rows L2

theorem R.bind_bind {α β γ : Type} (m : R α) (f : α → Hh → R β) (k : β → Hh → R γ) : (m.bind f).bind k = m.bind fun x h => (f x h).bind k := by
  cases m <;> rfl
theorem evAs1 {β : Type} (r : Ev) (a : E) (ρ : En) (h : Hh) (k : List D → Hh → R β) : (evAs r [a] ρ h).bind k = (evA r a ρ h).bind fun x h1 => k [x] h1 := by
  show ((evA r a ρ h).bind _).bind k = _
  rw [R.bind_bind]
  rfl
theorem evAs2 {β : Type} (r : Ev) (a b : E) (ρ : En) (h : Hh) (k : List D → Hh → R β) : (evAs r [a, b] ρ h).bind k = (evA r a ρ h).bind fun x h1 => (evA r b ρ h1).bind fun y h2 => k [x, y] h2 := by
  show ((evA r a ρ h).bind _).bind k = _
  rw [R.bind_bind]
  congr
  funext x h1
  rw [R.bind_bind, evAs1]
  rfl
theorem evAs3 {β : Type} (r : Ev) (a b c : E) (ρ : En) (h : Hh) (k : List D → Hh → R β) : (evAs r [a, b, c] ρ h).bind k = (evA r a ρ h).bind fun x h1 => (evA r b ρ h1).bind fun y h2 => (evA r c ρ h2).bind fun z h3 => k [x, y, z] h3 := by
  show ((evA r a ρ h).bind _).bind k = _
  rw [R.bind_bind]
  congr
  funext x h1
  rw [R.bind_bind, evAs2]
  rfl

section
variable {T : Tb} {X : Cx} {W : Wx} {r : Ev} {x : Str} {i : Nat} {pos : Pos}
/-- an expression whose run is no good -/
theorem pe_bad {β : Type} {e : Expr} {rel : Rel D V} : PE X e (Rd T X.K W (fun _ _ => .bad) rel) := ⟨fun pins s σ H Q I hh => by
  obtain ⟨g, ρ, h, a, o⟩ := hh
  exact o.elim⟩
theorem pe_vR (hN : X.N[i]? = some x) (hv : Vis X.env.scope x) (hd : (x == ("__debug__" : Str)) = false) (hcd : (x == ("__classdict__" : Str)) = false) :
    PE X (.Name x pos) (Rd T X.K W (fun ρ h => match ρ[i]? with | some (some (.val d)) => .ok d h | _ => .bad) (relE T X.K)) := PE.imp (pe_var hN hv hd hcd) fun σ H Q hh => by
  obtain ⟨g, ρ, h, a, o⟩ := hh
  dsimp only at o
  split at o
  · rename_i d e
    obtain ⟨v, e1, e2⟩ := a.en.sl i _ e
    exact ⟨v, e1, o g v H (.refl a.ok) e2⟩
  · exact o.elim
theorem pe_vA (hN : X.N[i]? = some x) (hv : Vis X.env.scope x) (hd : (x == ("__debug__" : Str)) = false) (hcd : (x == ("__classdict__" : Str)) = false) :
    PE X (.Name x pos) (Rd T X.K W (evA r (.v i)) (relA T X.K fun ρ => clean ρ (.v i))) := PE.imp (pe_var hN hv hd hcd) fun σ H Q hh => by
  obtain ⟨g, ρ, h, a, o⟩ := hh
  have o : Out T X.K W σ g H (match ρ[i]? with
    | some (some (.val d)) => .ok d h
    | some (some (.own o)) => .ok o.d h
    | _ => .bad) (KK T X.K (relA T X.K fun ρ => clean ρ (.v i)) ρ g H Q) := o
  split at o
  · rename_i d e
    obtain ⟨v, e1, e2⟩ := a.en.sl i _ e
    exact ⟨v, e1, o g v H (.refl a.ok) (.inl e2)⟩
  · rename_i u e
    obtain ⟨v, e1, b, ev, t, hm, hF⟩ := a.en.sl i _ e
    refine ⟨v, e1, o g v H (.refl a.ok) (.inr ⟨?_, b, u, ev, rfl, t, hm, hF⟩)⟩
    show (match ρ[i]? with | some (some (.own _)) => false | _ => true) = false
    rw [e]
  · exact o.elim
/-- any other expression as an operand -/
theorem pe_eA {e : Expr} {e' : E} (he : PE X e (Rd T X.K W (r.e e') (relE T X.K))) (hn : ∀ i, e' ≠ .v i) : PE X e (Rd T X.K W (evA r e') (relA T X.K fun ρ => clean ρ e')) := PE.imp he fun σ H Q hh => by
  obtain ⟨g, ρ, h, a, o⟩ := hh
  have q : evA r e' ρ h = r.e e' ρ h := by
    cases e' <;> first | rfl | exact absurd rfl (hn _)
  rw [q] at o
  exact ⟨g, ρ, h, a, o.imp fun d h' k g' v H' p rd => k g' v H' p (.inl rd)⟩
theorem pe_constR {e : Expr} {v : V} {d : D} (he : PE X e (tC v)) (hr : ∀ F m, Rl T X.K F m d v) : PE X e (Rd T X.K W (fun _ h => .ok d h) (relE T X.K)) := PE.imp he fun σ H Q hh => by
  obtain ⟨g, ρ, h, a, o⟩ := hh
  exact o g v H (.refl a.ok) (hr _ _)
/-! ### displays -/
variable {es : List Expr} {its : List It}
theorem pe_tupR {x1} (ha : PA X es (Rd T X.K W (evIts r its) (relEs T X.K))) : PE X (.Tuple es x1 pos) (Rd T X.K W (fun ρ h => (evIts r its ρ h).bind fun ds h1 => if sizeOk ds.length then .ok (.tup ds) h1 else .bad) (relE T X.K)) :=
  PE.imp (pe_tup ha) fun σ H Q hh => by
    obtain ⟨g, ρ, h, a, o⟩ := hh
    refine Rd.mk a o fun g' ds vs h' H' a' p rd o' => ?_
    by_cases hz : sizeOk ds.length = true
    · rw [if_pos hz] at o'
      refine ⟨by rw [rd.length]; exact sizeOk_le hz, fun q hq => ?_⟩
      exact o' _ _ _ (a'.ok.newF hq) (new_tup a'.ok hq rd)
    · rw [if_neg hz] at o'
      exact o'.elim
theorem pe_lstR (ha : PA X es (Rd T X.K W (evIts r its) (relEs T X.K))) : PE X (.List es pos) (Rd T X.K W (fun ρ h => (evIts r its ρ h).bind fun ds h1 => if sizeOk ds.length then .ok (.lst ds) h1 else .bad) (relE T X.K)) :=
  PE.imp (pe_lst ha) fun σ H Q hh => by
    obtain ⟨g, ρ, h, a, o⟩ := hh
    refine Rd.mk a o fun g' ds vs h' H' a' p rd o' => ?_
    by_cases hz : sizeOk ds.length = true
    · rw [if_pos hz] at o'
      refine ⟨by rw [rd.length]; exact sizeOk_le hz, fun q hq => ?_⟩
      exact o' _ _ _ (a'.ok.newF hq) (new_lst a'.ok hq rd)
    · rw [if_neg hz] at o'
      exact o'.elim
/-- a new cell -/
theorem HeapOk.newC {K : PySem.W.Frag} {g : Gh} {h : Hh} {H : Hp} {ds : List D} {vs : List V} {p : Addr} (ok : HeapOk T K g h H) (hp : H p = none) (r : Rls T K g.F g.m ds vs) :
    Post T K g H ⟨g.F, g.m ++ [p]⟩ (h ++ [.lst ds]) (upd H p (.lst vs)) := by
  have hm : p ∉ g.m := fun z => by
    obtain ⟨n, u, _, _, t⟩ := ok.at_ z
    obtain ⟨w, e⟩ := t.ex
    rw [hp] at e
    cases e
  have hF : g.F p = none := by
    cases q : g.F p with
    | none => rfl
    | some u => rw [ok.fr p u q] at hp; cases hp
  have le : Le g ⟨g.F, g.m ++ [p]⟩ := ⟨.refl, ⟨[p], rfl⟩⟩
  refine ⟨le, ⟨fun a u e => upd_none hp (ok.fr a u e), by simp [ok.len], fun n u a e1 e2 => ?_, ?_, fun a ha => ?_⟩, fun a u e _ => upd_none hp e, fun a ha e => ?_, fun a h1 h2 => ?_, fun a u e1 e2 => by rw [e2] at e1; cases e1⟩
  · have e2 : (g.m ++ [p])[n]? = some a := e2
    by_cases hn : n < g.m.length
    · rw [List.getElem?_append_left hn] at e2
      rw [List.getElem?_append_left (by rw [← ok.len]; exact hn)] at e1
      have hap : a ≠ p := fun z => hm (by rw [← z]; exact List.mem_of_getElem? e2)
      exact ThingAt.mono (g' := ⟨g.F, g.m ++ [p]⟩) le (ok.cell n u a e1 e2) (upd_ne hap) fun dx e => upd_none hp e
    · have hl : n < (g.m ++ [p]).length := (List.getElem?_eq_some_iff.mp e2).1
      have hn2 : n = g.m.length := by simp at hl; omega
      subst hn2
      rw [List.getElem?_append_right (Nat.le_refl _)] at e2
      rw [ok.len, List.getElem?_append_right (Nat.le_refl _)] at e1
      simp at e1 e2
      subst e1 e2
      exact ⟨vs, upd_same, r.mono le.s le.p _⟩
  · show (g.m ++ [p]).Nodup
    rw [List.nodup_append]
    exact ⟨ok.nd, by simp, fun a ha b hb z => by
      simp at hb
      subst hb
      subst z
      exact hm ha⟩
  · rcases List.mem_append.mp (show a ∈ g.m ++ [p] from ha) with ha | ha
    · exact ok.dj a ha
    · rw [List.mem_singleton.mp ha]
      exact hF
  · have hap : a ≠ p := fun z => hm (z ▸ ha)
    rw [upd_ne hap]
    exact e
  · rcases List.mem_append.mp (show a ∈ g.m ++ [p] from h1) with ha | ha
    · exact absurd ha h2
    · rw [List.mem_singleton.mp ha]
      exact hp
theorem pe_cellR (ha : PA X es (Rd T X.K W (evIts r its) (relEs T X.K))) : PE X (.List es pos) (Rd T X.K W (fun ρ h => (evIts r its ρ h).bind fun ds h1 => if sizeOk ds.length then .ok (.ref h1.length) (h1 ++ [.lst ds]) else .bad) (relE T X.K)) :=
  PE.imp (pe_lst ha) fun σ H Q hh => by
    obtain ⟨g, ρ, h, a, o⟩ := hh
    refine Rd.mk a o fun g' ds vs h' H' a' p rd o' => ?_
    by_cases hz : sizeOk ds.length = true
    · rw [if_pos hz] at o'
      refine ⟨by rw [rd.length]; exact sizeOk_le hz, fun q hq => ?_⟩
      refine o' ⟨g'.F, g'.m ++ [q]⟩ _ _ (a'.ok.newC hq rd) (.ref ?_)
      show (g'.m ++ [q])[h'.length]? = some q
      rw [← a'.ok.len, List.getElem?_append_right (Nat.le_refl _)]
      simp
    · rw [if_neg hz] at o'
      exact o'.elim
/-! ### operators -/
theorem evOp_some {K : PySem.W.Frag} {σ : L2.St} {g : Gh} {H : Hp} {o : Op} {ds : List D} {h : Hh} {k : D → Hh → Prop} (z : Out T K W σ g H (evOp T.pg o ds h) k) : ∃ d, opf T.pg o (ds.map (vw h)) = some d ∧ k d h := by
  unfold evOp at z
  split at z
  · exact z.elim
  · split at z
    · rename_i d e
      exact ⟨d, e, z⟩
    · exact z.elim
variable {a b c : Expr} {a' b' c' : E} {o : Op} {f : D → D → Option D} {f1 : D → Option D}
theorem rd2 {Q : VK} {σ : L2.St} {H : Hp} (hf : ∀ d1 d2, opf T.pg o [d1, d2] = f d1 d2) (hh : Rd T X.K W (fun ρ h => (evAs r [a', b'] ρ h).bind fun ds h1 => evOp T.pg o ds h1) (relE T X.K) σ H Q) :
    tOp (rP2 T X.K f) (Rd T X.K W (evA r a') (relA T X.K fun ρ => clean ρ a')) (Rd T X.K W (evA r b') (relA T X.K fun ρ => clean ρ b')) σ H Q := by
  obtain ⟨g, ρ, h, s, z⟩ := hh
  dsimp only at z
  rw [evAs2] at z
  refine Rd.mk s z fun g1 d1 v1 h1 H1 s1 p1 r1 z1 => ?_
  refine Rd.mk s1 z1 fun g2 d2 v2 h2 H2 s2 p2 r2 z2 => ?_
  obtain ⟨d, e, k⟩ := evOp_some z2
  refine ⟨g2, h2, _, _, d, s2.ok, (r1.post s1.ok p2).vw s2.ok, r2.vw s2.ok, (hf _ _).symm.trans e, k⟩
theorem pe_binR {op : Operator} (ho : OpR X (binaryOp op) (rP2 T X.K f)) (hf : ∀ d1 d2, opf T.pg o [d1, d2] = f d1 d2) (ha : PE X a (Rd T X.K W (evA r a') (relA T X.K fun ρ => clean ρ a'))) (hb : PE X b (Rd T X.K W (evA r b') (relA T X.K fun ρ => clean ρ b'))) :
    PE X (.BinOp a op b pos) (Rd T X.K W (fun ρ h => (evAs r [a', b'] ρ h).bind fun ds h1 => evOp T.pg o ds h1) (relE T X.K)) := PE.imp (pe_op ho ha hb) fun σ H Q hh => rd2 hf hh
theorem pe_cmpV {op : CmpOp} (ho : OpR X (compareOp op) (rP2 T X.K f)) (hf : ∀ d1 d2, opf T.pg o [d1, d2] = f d1 d2) (ha : PE X a (Rd T X.K W (evA r a') (relA T X.K fun ρ => clean ρ a'))) (hb : PE X b (Rd T X.K W (evA r b') (relA T X.K fun ρ => clean ρ b'))) (hm : behindInMarks op b = false) :
    PE X (.Compare a [op] [b] pos) (Rd T X.K W (fun ρ h => (evAs r [a', b'] ρ h).bind fun ds h1 => evOp T.pg o ds h1) (relE T X.K)) := PE.imp (pe_cmpR ho ha hb hm) fun σ H Q hh => rd2 hf hh
/-- a test's run, by a value's -/
theorem rdT_of {ee : En → Hh → R D} {σ : L2.St} {H : Hp} {Q : Bool → Hp → Prop} (hh : Rd T X.K W (fun ρ h => (ee ρ h).bind fun d h1 => truthD d h1) relB σ H Q) (hbl : ∀ ρ h d h1, ee ρ h = .ok d h1 → ∃ k, d = .bl k) :
    Rd T X.K W ee (relE T X.K) σ H (fun x H' => ∃ k, x = .bl k ∧ Q k H') := by
  obtain ⟨g, ρ, h, s, z⟩ := hh
  dsimp only at z
  refine ⟨g, ρ, h, s, ?_⟩
  cases q : ee ρ h with
  | ok d h1 =>
    rw [q] at z
    obtain ⟨k, rfl⟩ := hbl _ _ _ _ q
    intro g' v H' p rd
    cases rd
    exact ⟨k, rfl, z g' k H' p rfl⟩
  | exc c fs h1 => rw [q] at z; exact z
  | bad => rw [q] at z; exact z.elim
theorem pt_cmpV {op : CmpOp} (ho : OpR X (compareOp op) (rP2 T X.K f)) (hf : ∀ d1 d2, opf T.pg o [d1, d2] = f d1 d2) (hbl : ∀ a b d, f a b = some d → ∃ k, d = .bl k) (ha : PE X a (Rd T X.K W (evA r a') (relA T X.K fun ρ => clean ρ a'))) (hb : PE X b (Rd T X.K W (evA r b') (relA T X.K fun ρ => clean ρ b'))) (hm : behindInMarks op b = false) :
    PT X (.Compare a [op] [b] pos) (Rd T X.K W (fun ρ h => ((evAs r [a', b'] ρ h).bind fun ds h1 => evOp T.pg o ds h1).bind fun d h1 => truthD d h1) relB) := PT.imp (pt_cmpR ho ha hb hm) fun σ H Q hh => by
  refine rd2 hf (rdT_of hh fun ρ h d h1 e => ?_)
  rw [evAs2] at e
  cases q1 : evA r a' ρ h with
  | ok x k1 =>
    rw [q1] at e
    have e : (evA r b' ρ k1).bind (fun y h2 => evOp T.pg o [x, y] h2) = .ok d h1 := e
    cases q2 : evA r b' ρ k1 with
    | ok y k2 =>
      rw [q2] at e
      have e : evOp T.pg o [x, y] k2 = .ok d h1 := e
      unfold evOp at e
      split at e
      · cases e
      · split at e
        · rename_i d' e'
          cases e
          exact hbl _ _ _ ((hf _ _).symm.trans e')
        · cases e
    | exc c fs h' => rw [q2] at e; cases e
    | bad => rw [q2] at e; cases e
  | exc c fs h' => rw [q1] at e; cases e
  | bad => rw [q1] at e; cases e
/-- operators of one operand -/
theorem rd1 {β : Type} {Q : VK} {σ : L2.St} {H : Hp} (hf : ∀ d1, opf T.pg o [d1] = f1 d1) (hh : Rd T X.K W (fun ρ h => (evAs r [a'] ρ h).bind fun ds h1 => evOp T.pg o ds h1) (relE T X.K) σ H Q) :
    Rd T X.K W (evA r a') (relA T X.K fun ρ => clean ρ a') σ H (fun x H1 => rP1 T X.K f1 x H1 Q) := by
  obtain ⟨g, ρ, h, s, z⟩ := hh
  dsimp only at z
  rw [evAs1] at z
  refine Rd.mk s z fun g1 d1 v1 h1 H1 s1 p1 r1 z1 => ?_
  obtain ⟨d, e, k⟩ := evOp_some z1
  exact ⟨g1, h1, _, d, s1.ok, r1.vw s1.ok, (hf _).symm.trans e, k⟩
theorem pe_unR {op : UnaryOp} (ho : UnR X (unaryOp op) (rP1 T X.K f1)) (hf : ∀ d1, opf T.pg o [d1] = f1 d1) (ha : PE X a (Rd T X.K W (evA r a') (relA T X.K fun ρ => clean ρ a'))) :
    PE X (.UnaryOp op a pos) (Rd T X.K W (fun ρ h => (evAs r [a'] ρ h).bind fun ds h1 => evOp T.pg o ds h1) (relE T X.K)) := PE.imp (pe_un ho ha) fun σ H Q hh => rd1 (β := D) hf hh
end
end PI
end
section
/-! Tests, and, or, not, chains; built-in functions and methods. -/
set_option linter.all false
set_option maxRecDepth 100000
set_option maxHeartbeats 1000000
namespace PI
open PySem PySem.Spec PyProof.Rows L2

theorem Rd.mono {T : Tb} {K : PySem.W.Frag} {W : Wx} {α β : Type} {ee : En → Hh → R α} {rel : Rel α β} {σ : L2.St} {H : Hp} {Q Q' : β → Hp → Prop} (hh : Rd T K W ee rel σ H Q) (i : ∀ b H', Q b H' → Q' b H') : Rd T K W ee rel σ H Q' := by
  obtain ⟨g, ρ, h, a, o⟩ := hh
  exact ⟨g, ρ, h, a, o.imp fun x h' k g' b H' p r => i _ _ (k g' b H' p r)⟩
section
variable {T : Tb} {X : Cx} {W : Wx} {r : Ev} {x : Str} {i n : Nat} {pos : Pos} {a b c : Expr} {a' b' c' : E} {o o2 : Op} {f f2 : D → D → Option D} {f1 : D → Option D} {es : List Expr}
theorem truV_of {K : PySem.W.Frag} {g : Gh} {h : Hh} {H : Hp} {d : D} {v : V} {k : Bool} (ok : HeapOk T K g h H) (w : Vw T K g H d v) (e : truthV d = some k) : TruV K v H k := by
  cases d with
  | non => rw [w.non]; cases e; rfl
  | bl b => rw [w.bl]; cases e; rfl
  | int i => rw [w.int]; cases e; rfl
  | str x =>
    rw [w.str]
    unfold truthV at e
    simp only at e
    split at e
    · rename_i hz
      refine ⟨by rw [tS_len]; exact sizeOk_le hz, ?_⟩
      rw [← Option.some.inj e, tS_len]
      cases x <;> simp
      omega
    · cases e
  | tup xs =>
    obtain ⟨a, vs, ev, hq, hr⟩ := w.tup ok
    rw [ev]
    refine .inr (.inl ⟨vs, hq, ?_⟩)
    cases e
    cases hr <;> rfl
  | lst xs =>
    obtain ⟨a, vs, ev, hq, hr⟩ := w.lst ok
    rw [ev]
    refine .inl ⟨vs, hq, ?_⟩
    cases e
    cases hr <;> rfl
  | dct xs => cases e
  | ins q fs => cases e
  | ref m => cases e
  | cls q => cases e
theorem truthD_some {K : PySem.W.Frag} {σ : L2.St} {g : Gh} {H : Hp} {d : D} {h : Hh} {k : Bool → Hh → Prop} (z : Out T K W σ g H (truthD d h) k) : ∃ b, truthV (vw h d) = some b ∧ k b h := by
  unfold truthD at z
  split at z
  · rename_i b e
    exact ⟨b, e, z⟩
  · exact z.elim
/-- a test that is its value's truth -/
theorem pt_leafR (ha : PE X a (Rd T X.K W (evA r a') (relA T X.K fun ρ => clean ρ a'))) (hi : ∀ whole, isTrue a X.env whole = (do let v ← whole; standAt a.pos; holding [v] (truthy v))) :
    PT X a (Rd T X.K W (fun ρ h => (evA r a' ρ h).bind fun d h1 => truthD d h1) relB) := PT.imp (pt_truth ha hi) fun σ H Q hh => by
  obtain ⟨g, ρ, h, s, z⟩ := hh
  refine Rd.mk s z fun g1 d1 v1 h1 H1 s1 p1 r1 z1 => ?_
  obtain ⟨k, e, q⟩ := truthD_some z1
  exact ⟨k, truV_of s1.ok (r1.vw s1.ok) e, q g1 k H1 (.refl s1.ok) rfl⟩
theorem pw_andR {rest : List Expr} {ta tb : En → Hh → R Bool} (ha : PT X a (Rd T X.K W ta relB)) (hb : PW X (.BoolOp .And (b :: rest) pos) (Rd T X.K W tb relB)) :
    PW X (.BoolOp .And (a :: b :: rest) pos) (Rd T X.K W (fun ρ h => (ta ρ h).bind fun k h1 => if k then tb ρ h1 else .ok false h1) relB) := by
  refine ⟨fun whole pins s σ H Q I hh => (pw_and ha hb).run whole pins s σ H Q I ?_⟩
  obtain ⟨g, ρ, h, s, z⟩ := hh
  refine Rd.mk s z fun g1 k1 k2 h1 H1 s1 p1 r1 z1 => ?_
  cases r1
  cases k1 with
  | true => exact ⟨g1, ρ, h1, s1, z1⟩
  | false => exact z1 g1 false H1 (.refl s1.ok) rfl
theorem pw_orR {rest : List Expr} {ta tb : En → Hh → R Bool} (ha : PT X a (Rd T X.K W ta relB)) (hb : PW X (.BoolOp .Or (b :: rest) pos) (Rd T X.K W tb relB)) :
    PW X (.BoolOp .Or (a :: b :: rest) pos) (Rd T X.K W (fun ρ h => (ta ρ h).bind fun k h1 => if k then .ok true h1 else tb ρ h1) relB) := by
  refine ⟨fun whole pins s σ H Q I hh => (pw_or ha hb).run whole pins s σ H Q I ?_⟩
  obtain ⟨g, ρ, h, s, z⟩ := hh
  refine Rd.mk s z fun g1 k1 k2 h1 H1 s1 p1 r1 z1 => ?_
  cases r1
  cases k1 with
  | true => exact z1 g1 true H1 (.refl s1.ok) rfl
  | false => exact ⟨g1, ρ, h1, s1, z1⟩
theorem pt_notR {ta : En → Hh → R Bool} (ha : PT X a (Rd T X.K W ta relB)) : PT X (.UnaryOp .Not a pos) (Rd T X.K W (fun ρ h => (ta ρ h).bind fun k h1 => .ok (!k) h1) relB) := PT.imp (pt_not ha) fun σ H Q hh => by
  obtain ⟨g, ρ, h, s, z⟩ := hh
  refine Rd.mk s z fun g1 k1 k2 h1 H1 s1 p1 r1 z1 => ?_
  cases r1
  exact z1 g1 (!k1) H1 (.refl s1.ok) rfl
/-! ### the same as values -/
theorem tru_run {pins : List (Addr × Obj)} {s : Shared} {σ : L2.St} {H : Hp} {v : V} {u : Value} {k : Bool} {Q : Bool → Shared → Prop} (I : Inv X pins σ H s) (ru : RelV v u) (t : TruV X.K v H k) (h : ∀ s', Inv X pins σ H s' → Q k s') : wpAny (model X.prog X.w) X.A (truthy u) Q X.xe s :=
  thn (tru_ok pins s σ H v u (fun c H2 => c = k ∧ H2 = H) I ru ⟨k, t, rfl, rfl⟩) fun c s' hh => by
    obtain ⟨H2, I2, e1, e2⟩ := hh
    subst e1 e2
    exact h s' I2
theorem pe_andR {rest : List Expr} {eb : En → Hh → R D} (ha : PE X a (Rd T X.K W (r.e a') (relE T X.K))) (hb : PE X (.BoolOp .And (b :: rest) pos) (Rd T X.K W eb (relE T X.K))) :
    PE X (.BoolOp .And (a :: b :: rest) pos) (Rd T X.K W (fun ρ h => (r.e a' ρ h).bind fun d h1 => (truthD d h1).bind fun k h2 => if k then eb ρ h2 else .ok d h2) (relE T X.K)) := by
  refine ⟨fun pins s σ H Q I hh => ?_⟩
  obtain ⟨g, ρ, h, a0, o⟩ := hh
  have hE : Rd T X.K W (r.e a') (relE T X.K) σ H (fun v H1 => ∃ k, TruV X.K v H1 k ∧ if k = true then Rd T X.K W eb (relE T X.K) σ H1 Q else Q v H1) := by
    refine Rd.mk a0 o fun g1 d v h1 H1 a1 p1 rd o1 => ?_
    obtain ⟨k, e, q⟩ := truthD_some o1.bind
    refine ⟨k, truV_of a1.ok (Opd.vw (c := true) a1.ok (.inl rd)) e, ?_⟩
    cases k with
    | true => exact ⟨g1, ρ, h1, a1, q⟩
    | false => exact q g1 v H1 (.refl a1.ok) rd
  refine BoolOp_and (thn (ha.run pins s σ H _ I hE) fun v s1 hv => ?_)
  obtain ⟨y, H1, I1, r1, k, tk, q⟩ := hv
  refine tru_run I1 r1 tk fun s2 I2 => ?_
  cases k with
  | true => exact hb.run pins s2 σ H1 Q I2 q
  | false => exact ⟨y, H1, I2, r1, q⟩
theorem pe_orR {rest : List Expr} {eb : En → Hh → R D} (ha : PE X a (Rd T X.K W (r.e a') (relE T X.K))) (hb : PE X (.BoolOp .Or (b :: rest) pos) (Rd T X.K W eb (relE T X.K))) :
    PE X (.BoolOp .Or (a :: b :: rest) pos) (Rd T X.K W (fun ρ h => (r.e a' ρ h).bind fun d h1 => (truthD d h1).bind fun k h2 => if k then .ok d h2 else eb ρ h2) (relE T X.K)) := by
  refine ⟨fun pins s σ H Q I hh => ?_⟩
  obtain ⟨g, ρ, h, a0, o⟩ := hh
  have hE : Rd T X.K W (r.e a') (relE T X.K) σ H (fun v H1 => ∃ k, TruV X.K v H1 k ∧ if k = true then Q v H1 else Rd T X.K W eb (relE T X.K) σ H1 Q) := by
    refine Rd.mk a0 o fun g1 d v h1 H1 a1 p1 rd o1 => ?_
    obtain ⟨k, e, q⟩ := truthD_some o1.bind
    refine ⟨k, truV_of a1.ok (Opd.vw (c := true) a1.ok (.inl rd)) e, ?_⟩
    cases k with
    | true => exact q g1 v H1 (.refl a1.ok) rd
    | false => exact ⟨g1, ρ, h1, a1, q⟩
  refine BoolOp_or (thn (ha.run pins s σ H _ I hE) fun v s1 hv => ?_)
  obtain ⟨y, H1, I1, r1, k, tk, q⟩ := hv
  refine tru_run I1 r1 tk fun s2 I2 => ?_
  cases k with
  | true => exact ⟨y, H1, I2, r1, q⟩
  | false => exact hb.run pins s2 σ H1 Q I2 q
theorem pe_notR (ha : PE X a (Rd T X.K W (evA r a') (relA T X.K fun ρ => clean ρ a'))) : PE X (.UnaryOp .Not a pos) (Rd T X.K W (fun ρ h => ((evA r a' ρ h).bind fun d h1 => truthD d h1).bind fun k h1 => .ok (.bl (!k)) h1) (relE T X.K)) := by
  refine ⟨fun pins s σ H Q I hh => ?_⟩
  obtain ⟨g, ρ, h, a0, o⟩ := hh
  dsimp only at o
  rw [R.bind_bind] at o
  have hE : Rd T X.K W (evA r a') (relA T X.K fun ρ => clean ρ a') σ H (fun v H1 => ∃ k, TruV X.K v H1 k ∧ Q (.bl (!k)) H1) := by
    refine Rd.mk a0 o fun g1 d v h1 H1 a1 p1 rd o1 => ?_
    obtain ⟨k, e, q⟩ := truthD_some o1.bind
    exact ⟨k, truV_of a1.ok (rd.vw a1.ok) e, q g1 _ H1 (.refl a1.ok) (.bl _)⟩
  refine UnaryOp_ (thn (ha.run pins s σ H _ I hE) fun v s1 hv => ?_)
  obtain ⟨y, H1, I1, r1, k, tk, q⟩ := hv
  exact not_of (tru_run I1 r1 tk fun s2 I2 => ⟨.bl (!k), H1, I2, rfl, q⟩)
theorem pe_iteR {tc : En → Hh → R Bool} {ea eb : En → Hh → R D} (hc : PT X c (Rd T X.K W tc relB)) (ha : PE X a (Rd T X.K W ea (relE T X.K))) (hb : PE X b (Rd T X.K W eb (relE T X.K))) :
    PE X (.IfExp c a b pos) (Rd T X.K W (fun ρ h => (tc ρ h).bind fun k h1 => if k then ea ρ h1 else eb ρ h1) (relE T X.K)) := PE.imp (pe_ifExp hc ha hb) fun σ H Q hh => by
  obtain ⟨g, ρ, h, s, z⟩ := hh
  refine Rd.mk s z fun g1 k1 k2 h1 H1 s1 p1 r1 z1 => ?_
  cases r1
  cases k1 with
  | true => exact ⟨g1, ρ, h1, s1, z1⟩
  | false => exact ⟨g1, ρ, h1, s1, z1⟩
/-! ### chains -/
def chainR (pg : Pg) (r : Ev) (o o' : Op) (a b c : E) (ρ : En) (h : Hh) : R D :=
  (evA r a ρ h).bind fun x h1 => (evA r b ρ h1).bind fun y h2 => (evOp pg o [x, y] h2).bind fun z h3 => match z with
    | .bl true => (evA r c ρ h3).bind fun u h4 => evOp pg o' [y, u] h4
    | .bl false => .ok (.bl false) h3
    | _ => .bad
theorem rd_chain {σ : L2.St} {H : Hp} {Q : VK} (hf : ∀ d1 d2, opf T.pg o [d1, d2] = f d1 d2) (hf2 : ∀ d1 d2, opf T.pg o2 [d1, d2] = f2 d1 d2) (hbl : ∀ a b d, f a b = some d → ∃ k, d = .bl k) (hh : Rd T X.K W (chainR T.pg r o o2 a' b' c') (relE T X.K) σ H Q) :
    tChain (rP2 T X.K f) (rP2 T X.K f2) (Rd T X.K W (evA r a') (relA T X.K fun ρ => clean ρ a')) (Rd T X.K W (evA r b') (relA T X.K fun ρ => clean ρ b')) (Rd T X.K W (evA r c') (relA T X.K fun ρ => clean ρ c')) σ H Q := by
  obtain ⟨g, ρ, h, s, z⟩ := hh
  refine Rd.mk s z fun g1 d1 v1 h1 H1 s1 p1 r1 z1 => ?_
  refine Rd.mk s1 z1 fun g2 d2 v2 h2 H2 s2 p2 r2 z2 => ?_
  obtain ⟨d, e, k⟩ := evOp_some z2.bind
  have e' := (hf _ _).symm.trans e
  obtain ⟨bk, hk⟩ := hbl _ _ _ e'
  subst hk
  refine ⟨g2, h2, _, _, _, s2.ok, (r1.post s1.ok p2).vw s2.ok, r2.vw s2.ok, e', fun g3 v3 H3 p3 r3 => ?_⟩
  cases r3
  refine ⟨bk, rfl, ?_⟩
  have s3 := s2.post p3
  cases bk with
  | false => exact k g3 _ H3 p3 (.bl false)
  | true =>
    have k' : Out T X.K W σ g2 H2 ((evA r c' ρ h2).bind fun u h4 => evOp T.pg o2 [d2, u] h4) (KK T X.K (relE T X.K) ρ g2 H2 Q) := k
    have k3 := k'.shift p3 fun _ _ => KK.shift p3
    refine Rd.mk s3 k3 fun g4 d4 v4 h4 H4 s4 p4 r4 z4 => ?_
    obtain ⟨d5, e5, k5⟩ := evOp_some z4
    exact ⟨g4, h4, _, _, d5, s4.ok, ((r2.post s2.ok p3).post s3.ok p4).vw s4.ok, r4.vw s4.ok, (hf2 _ _).symm.trans e5, k5⟩
variable {op op2 : CmpOp}
theorem pe_chainR (ho : OpR X (compareOp op) (rP2 T X.K f)) (ho2 : OpR X (compareOp op2) (rP2 T X.K f2)) (hf : ∀ d1 d2, opf T.pg o [d1, d2] = f d1 d2) (hf2 : ∀ d1 d2, opf T.pg o2 [d1, d2] = f2 d1 d2) (hbl : ∀ a b d, f a b = some d → ∃ k, d = .bl k)
    (ha : PE X a (Rd T X.K W (evA r a') (relA T X.K fun ρ => clean ρ a'))) (hb : PE X b (Rd T X.K W (evA r b') (relA T X.K fun ρ => clean ρ b'))) (hc : PE X c (Rd T X.K W (evA r c') (relA T X.K fun ρ => clean ρ c'))) (hm : lastMarks [op, op2] [b, c] = false) :
    PE X (.Compare a [op, op2] [b, c] pos) (Rd T X.K W (chainR T.pg r o o2 a' b' c') (relE T X.K)) := PE.imp (pe_chain ho ho2 ha hb hc hm) fun σ H Q hh => rd_chain hf hf2 hbl hh
theorem chainR_bl (hf : ∀ d1 d2, opf T.pg o [d1, d2] = f d1 d2) (hf2 : ∀ d1 d2, opf T.pg o2 [d1, d2] = f2 d1 d2) (hbl2 : ∀ a b d, f2 a b = some d → ∃ k, d = .bl k) {ρ : En} {h h1 : Hh} {d : D} (e : chainR T.pg r o o2 a' b' c' ρ h = .ok d h1) : ∃ k, d = .bl k := by
  unfold chainR at e
  cases q1 : evA r a' ρ h with
  | ok x k1 =>
    rw [q1] at e
    simp only [R.bind] at e
    cases q2 : evA r b' ρ k1 with
    | ok y k2 =>
      rw [q2] at e
      simp only at e
      cases q3 : evOp T.pg o [x, y] k2 with
      | ok z k3 =>
        rw [q3] at e
        simp only at e
        split at e
        · cases q4 : evA r c' ρ k3 with
          | ok u k4 =>
            rw [q4] at e
            simp only at e
            unfold evOp at e
            split at e
            · cases e
            · split at e
              · rename_i d' e'
                cases e
                exact hbl2 _ _ _ ((hf2 _ _).symm.trans e')
              · cases e
          | exc c fs h' => rw [q4] at e; cases e
          | bad => rw [q4] at e; cases e
        · cases e
          exact ⟨_, rfl⟩
        · cases e
      | exc c fs h' => rw [q3] at e; cases e
      | bad => rw [q3] at e; cases e
    | exc c fs h' => rw [q2] at e; cases e
    | bad => rw [q2] at e; cases e
  | exc c fs h' => rw [q1] at e; cases e
  | bad => rw [q1] at e; cases e
theorem pt_chainR (ho : OpR X (compareOp op) (rP2 T X.K f)) (ho2 : OpR X (compareOp op2) (rP2 T X.K f2)) (hf : ∀ d1 d2, opf T.pg o [d1, d2] = f d1 d2) (hf2 : ∀ d1 d2, opf T.pg o2 [d1, d2] = f2 d1 d2) (hbl : ∀ a b d, f a b = some d → ∃ k, d = .bl k) (hbl2 : ∀ a b d, f2 a b = some d → ∃ k, d = .bl k)
    (ha : PE X a (Rd T X.K W (evA r a') (relA T X.K fun ρ => clean ρ a'))) (hb : PE X b (Rd T X.K W (evA r b') (relA T X.K fun ρ => clean ρ b'))) (hc : PE X c (Rd T X.K W (evA r c') (relA T X.K fun ρ => clean ρ c'))) (hm : lastMarks [op, op2] [b, c] = false) :
    PT X (.Compare a [op, op2] [b, c] pos) (Rd T X.K W (fun ρ h => (chainR T.pg r o o2 a' b' c' ρ h).bind fun d h1 => truthD d h1) relB) := PT.imp (pt_chain ho ho2 ha hb hc hm) fun σ H Q hh =>
  rd_chain hf hf2 hbl (rdT_of hh fun ρ h d h1 e => chainR_bl hf hf2 hbl2 e)
/-! ### built-in functions, types -/
theorem pe_fn1 {id : String} {p : Pos} (hc : CallR X (.builtin id) (rC1 T X.K f1)) (hf : ∀ d1, opf T.pg o [d1] = f1 d1) (hg : Gl X x) (hm : X.mg x = none) (hv : bootBuiltins x = some (.builtin id)) (ha : PE X a (Rd T X.K W (evA r a') (relA T X.K fun ρ => clean ρ a'))) (hn : x ≠ "__name__") (hdb : (x == ("__debug__" : Str)) = false)
    (hs : starEach [a] X.env = [(false, eval a X.env)]) : PE X (.Call (.Name x p) [a] [] pos) (Rd T X.K W (fun ρ h => (evAs r [a'] ρ h).bind fun ds h1 => evOp T.pg o ds h1) (relE T X.K)) :=
  PE.imp (pe_callB hc hg hm hv (pa_cons ha pa_nil hs) hn hdb hs rfl) fun σ H Q hh => (rd1 (β := D) hf hh).mono fun x H' z => ⟨x, rfl, z⟩
theorem pe_ty1 {id : String} {p : Pos} (hc : CallR X (.type id) (rC1 T X.K f1)) (hf : ∀ d1, opf T.pg o [d1] = f1 d1) (hg : Gl X x) (hm : X.mg x = none) (hv : bootBuiltins x = some (.type id)) (ha : PE X a (Rd T X.K W (evA r a') (relA T X.K fun ρ => clean ρ a'))) (hn : x ≠ "__name__") (hdb : (x == ("__debug__" : Str)) = false)
    (hs : starEach [a] X.env = [(false, eval a X.env)]) : PE X (.Call (.Name x p) [a] [] pos) (Rd T X.K W (fun ρ h => (evAs r [a'] ρ h).bind fun ds h1 => evOp T.pg o ds h1) (relE T X.K)) :=
  PE.imp (pe_callTy hc hg hm hv (pa_cons ha pa_nil hs) hn hdb hs rfl) fun σ H Q hh => (rd1 (β := D) hf hh).mono fun x H' z => ⟨x, rfl, z⟩
theorem pe_fn2 {id : String} {p : Pos} (hc : CallR X (.builtin id) (rC2 T X.K f)) (hf : ∀ d1 d2, opf T.pg o [d1, d2] = f d1 d2) (hg : Gl X x) (hm : X.mg x = none) (hv : bootBuiltins x = some (.builtin id)) (ha : PE X a (Rd T X.K W (evA r a') (relA T X.K fun ρ => clean ρ a'))) (hb : PE X b (Rd T X.K W (evA r b') (relA T X.K fun ρ => clean ρ b'))) (hn : x ≠ "__name__") (hdb : (x == ("__debug__" : Str)) = false)
    (hs : starEach [a, b] X.env = (false, eval a X.env) :: starEach [b] X.env) (hs2 : starEach [b] X.env = [(false, eval b X.env)]) : PE X (.Call (.Name x p) [a, b] [] pos) (Rd T X.K W (fun ρ h => (evAs r [a', b'] ρ h).bind fun ds h1 => evOp T.pg o ds h1) (relE T X.K)) :=
  PE.imp (pe_callB hc hg hm hv (pa_cons ha (pa_cons hb pa_nil hs2) hs) hn hdb hs (by rw [hs2]; rfl)) fun σ H Q hh => by
    have z := rd2 (T := T) (X := X) (W := W) (r := r) hf hh
    exact Rd.mono z fun v H1 z1 => z1.mono fun u H2 z2 => ⟨v, u, rfl, z2⟩
theorem pe_ixR (hi : IxR X (rP2 T X.K f)) (hf : ∀ d1 d2, opf T.pg o [d1, d2] = f d1 d2) (ha : PE X a (Rd T X.K W (evA r a') (relA T X.K fun ρ => clean ρ a'))) (hb : PE X b (Rd T X.K W (evA r b') (relA T X.K fun ρ => clean ρ b'))) (hs : PlainIx b) :
    PE X (.Subscript a b pos) (Rd T X.K W (fun ρ h => (evAs r [a', b'] ρ h).bind fun ds h1 => evOp T.pg o ds h1) (relE T X.K)) := PE.imp (pe_ix hi ha hb hs) fun σ H Q hh => rd2 hf hh
end
end PI
end
section
/-! Methods of texts, slices, isinstance, attributes. -/
set_option linter.all false
set_option maxRecDepth 100000
set_option maxHeartbeats 1000000
namespace PI
open PySem PySem.Spec PyProof.Rows L2

theorem joinL_T (a : Tx) : ∀ ys : List Tx, TL.joinL a ys = joinT a ys
  | [] => rfl
  | [x] => rfl
  | x :: y :: r => by
    show x ++ (a ++ TL.joinL a (y :: r)) = x ++ a ++ joinT a (y :: r)
    rw [joinL_T a (y :: r), List.append_assoc]
theorem join_tS (a : Tx) (ys : List Tx) : Txt.join (tS a) (ys.map tS) = tS (joinT a ys) := by
  have e := TL.tl_join (tS a) (ys.map tS)
  rw [List.map_map] at e
  have e2 : (TL.tl ∘ tS : Tx → Tx) = id := rfl
  rw [e2, List.map_id] at e
  have e3 : TL.joinL (TL.tl (tS a)) ys = joinT a ys := joinL_T a ys
  exact TL.ext_tl ((congrArg TL.tl (TL.join_eq (tS a) (ys.map tS))).trans (e.trans e3))
section
variable {T : Tb} {X : Cx} {W : Wx} {r : Ev} {x : Str} {i n : Nat} {pos apos p2 : Pos} {a b c : Expr} {a' b' c' : E} {o : Op} {f : D → D → Option D} {f1 : D → Option D} {es : List Expr}
theorem ok_join : MtR X "str.join" (fun x xs H Q => ∃ y, xs = [y] ∧ rP2 T X.K oJoin x y H Q) := by
  intro pins s σ H x xs v us Q I rx rxs hh
  obtain ⟨y, rfl, g, h, d1, d2, d, ok, w1, w2, e, fin⟩ := hh
  unfold oJoin at e
  split at e
  · rename_i sx l
    split at e
    · rename_i ts ets
      obtain ⟨hz, rfl⟩ := ifs e
      obtain ⟨p, vs, ev, hq, hr⟩ := w2.lst ok
      have evs := strs?_vals hr ets
      refine mt_join pins s σ H x [y] v us Q I rx rxs ⟨tS sx, p, ts.map tS, w1.str, by rw [ev], .inl (by rw [← evs]; exact hq), ?_, ?_⟩
      · have := sizeOk_le hz
        rw [sizeLine_eq] at this
        rw [List.map_map, List.length_map, tS_len]
        exact this
      · rw [join_tS]
        exact fin.same ok (.str _)
    · cases e
  · cases e
theorem pe_mtR {id : String} {name : Str} (slot : Slot "str" name id) (ty : typeOf (.builtin id) = pure (.type "method_descriptor")) (rule : MtR X id (fun x xs H Q => ∃ y, xs = [y] ∧ rP2 T X.K f x y H Q)) (hf : ∀ d1 d2, opf T.pg o [d1, d2] = f d1 d2)
    (ha : PE X a (Rd T X.K W (evA r a') (relA T X.K fun ρ => clean ρ a'))) (hb : PE X b (Rd T X.K W (evA r b') (relA T X.K fun ρ => clean ρ b'))) (hs : starEach [b] X.env = [(false, eval b X.env)]) (hbase : attributeBase a name X.env (eval a X.env) = eval a X.env) (hline : (apos.endLine == pos.line) = true) :
    PE X (.Call (.Attribute a name apos) [b] [] pos) (Rd T X.K W (fun ρ h => (evA r a' ρ h).bind fun x h1 => match x with
      | .str s => (evA r b' ρ h1).bind fun y h2 => evOp T.pg o [.str s, y] h2
      | _ => .bad) (relE T X.K)) := PE.imp (pe_m1 slot ty rule ha hb hs hbase hline) fun σ H Q hh => by
  obtain ⟨g, ρ, h, s, z⟩ := hh
  refine Rd.mk s z fun g1 d1 v1 h1 H1 s1 p1 r1 z1 => ?_
  try dsimp only at z1
  split at z1
  · rename_i sx
    have w1 : Vw T X.K g1 H1 (.str sx) v1 := r1.vw s1.ok
    refine ⟨⟨_, w1.str⟩, ?_⟩
    refine Rd.mk s1 z1 fun g2 d2 v2 h2 H2 s2 p2 r2 z2 => ?_
    obtain ⟨d, e, k⟩ := evOp_some z2
    exact ⟨v2, rfl, g2, h2, _, _, d, s2.ok, (r1.post s1.ok p2).vw s2.ok, r2.vw s2.ok, (hf _ _).symm.trans e, k⟩
  · exact z1.elim
/-! ### slices -/
theorem int?_some {d : D} {i : Int} (e : int? d = some i) : d = .int i := by
  cases d <;> first | (cases e; rfl) | cases e
theorem pe_slcA (ha : PE X a (Rd T X.K W (evA r a') (relA T X.K fun ρ => clean ρ a'))) : PE X (.Subscript a (.Slice none none none p2) pos) (Rd T X.K W (fun ρ h => (evAs r [a'] ρ h).bind fun ds h1 => evOp T.pg (.slc false false) ds h1) (relE T X.K)) :=
  PE.imp (pe_slice (ok_cut (T := T)) ha po_none po_none) fun σ H Q hh => by
    obtain ⟨g, ρ, h, s, z⟩ := hh
    dsimp only at z
    rw [evAs1] at z
    refine Rd.mk s z fun g1 d1 v1 h1 H1 s1 p1 r1 z1 => ?_
    obtain ⟨d, e, k⟩ := evOp_some z1
    exact ⟨g1, h1, _, d, s1.ok, r1.vw s1.ok, e, k⟩
theorem pe_slcL (ha : PE X a (Rd T X.K W (evA r a') (relA T X.K fun ρ => clean ρ a'))) (hb : PE X b (Rd T X.K W (evA r b') (relA T X.K fun ρ => clean ρ b'))) :
    PE X (.Subscript a (.Slice (some b) none none p2) pos) (Rd T X.K W (fun ρ h => (evAs r [a', b'] ρ h).bind fun ds h1 => evOp T.pg (.slc true false) ds h1) (relE T X.K)) :=
  PE.imp (pe_slice (ok_cut (T := T)) ha (po_some hb) po_none) fun σ H Q hh => by
    obtain ⟨g, ρ, h, s, z⟩ := hh
    dsimp only at z
    rw [evAs2] at z
    refine Rd.mk s z fun g1 d1 v1 h1 H1 s1 p1 r1 z1 => ?_
    refine Rd.mk s1 z1 fun g2 d2 v2 h2 H2 s2 p2 r2 z2 => ?_
    obtain ⟨d, e, k⟩ := evOp_some z2
    obtain ⟨j, e1, e2⟩ := Option.bind_eq_some_iff.mp (show (int? (vw h2 d2)).bind (fun i => oCut (vw h2 d1) (some i) none) = some d from e)
    have w2 := r2.vw s2.ok
    rw [int?_some e1] at w2
    exact ⟨j, w2.int, g2, h2, _, d, s2.ok, (r1.post s1.ok p2).vw s2.ok, e2, k⟩
theorem pe_slcH (ha : PE X a (Rd T X.K W (evA r a') (relA T X.K fun ρ => clean ρ a'))) (hb : PE X b (Rd T X.K W (evA r b') (relA T X.K fun ρ => clean ρ b'))) :
    PE X (.Subscript a (.Slice none (some b) none p2) pos) (Rd T X.K W (fun ρ h => (evAs r [a', b'] ρ h).bind fun ds h1 => evOp T.pg (.slc false true) ds h1) (relE T X.K)) :=
  PE.imp (pe_slice (ok_cut (T := T)) ha po_none (po_some hb)) fun σ H Q hh => by
    obtain ⟨g, ρ, h, s, z⟩ := hh
    dsimp only at z
    rw [evAs2] at z
    refine Rd.mk s z fun g1 d1 v1 h1 H1 s1 p1 r1 z1 => ?_
    refine Rd.mk s1 z1 fun g2 d2 v2 h2 H2 s2 p2 r2 z2 => ?_
    obtain ⟨d, e, k⟩ := evOp_some z2
    obtain ⟨j, e1, e2⟩ := Option.bind_eq_some_iff.mp (show (int? (vw h2 d2)).bind (fun i => oCut (vw h2 d1) none (some i)) = some d from e)
    have w2 := r2.vw s2.ok
    rw [int?_some e1] at w2
    exact ⟨j, w2.int, g2, h2, _, d, s2.ok, (r1.post s1.ok p2).vw s2.ok, e2, k⟩
theorem pe_slcB (ha : PE X a (Rd T X.K W (evA r a') (relA T X.K fun ρ => clean ρ a'))) (hb : PE X b (Rd T X.K W (evA r b') (relA T X.K fun ρ => clean ρ b'))) (hc : PE X c (Rd T X.K W (evA r c') (relA T X.K fun ρ => clean ρ c'))) :
    PE X (.Subscript a (.Slice (some b) (some c) none p2) pos) (Rd T X.K W (fun ρ h => (evA r a' ρ h).bind fun x h1 => (evA r b' ρ h1).bind fun y h2 => match y with
    | .int i => (evA r c' ρ h2).bind fun z h3 => match z with
      | .int j => match oCut (vw h3 x) (some i) (some j) with
        | some d => .ok d h3
        | none => .bad
      | _ => .bad
    | _ => .bad) (relE T X.K)) :=
  PE.imp (pe_slice (ok_cut (T := T)) ha (po_some hb) (po_some hc)) fun σ H Q hh => by
    obtain ⟨g, ρ, h, s, z⟩ := hh
    refine Rd.mk s z fun g1 d1 v1 h1 H1 s1 p1 r1 z1 => ?_
    refine Rd.mk s1 z1 fun g2 d2 v2 h2 H2 s2 p2 r2 z2 => ?_
    try dsimp only at z2
    split at z2
    · rename_i j
      have w2 : Vw T X.K g2 H2 (.int j) v2 := r2.vw s2.ok
      refine ⟨j, w2.int, ?_⟩
      refine Rd.mk s2 z2 fun g3 d3 v3 h3 H3 s3 p3 r3 z3 => ?_
      try dsimp only at z3
      split at z3
      · rename_i j2
        have w3 : Vw T X.K g3 H3 (.int j2) v3 := r3.vw s3.ok
        refine ⟨j2, w3.int, ?_⟩
        split at z3
        · rename_i d e
          exact ⟨g3, h3, _, d, s3.ok, ((r1.post s1.ok p2).post s2.ok p3).vw s3.ok, e, z3⟩
        · exact z3.elim
      · exact z3.elim
    · exact z2.elim
/-! ### isinstance -/
def tyN : Ty → String
  | .int => "int"
  | .str => "str"
  | .bool => "bool"
  | .list => "list"
  | .tuple => "tuple"
  | .dict => "dict"
def tyV (T : Tb) : TyC → Value
  | .blt t => .type (tyN t)
  | .own c => .ref (T.ca c)
def tyVV (T : Tb) : TyC → V
  | .blt t => .ty (tyN t)
  | .own c => .ref (T.ca c)
/-- the type of data -/
def dTy (T : Tb) : D → Value
  | .non => .type "NoneType"
  | .bl _ => .type "bool"
  | .int _ => .type "int"
  | .str _ => .type "str"
  | .tup _ => .type "tuple"
  | .lst _ => .type "list"
  | .ins c _ => .ref (T.ca c)
  | _ => .none
/-- what is known of the classes that isinstance is asked of -/
structure TyHere (T : Tb) (K : PySem.W.Frag) (tcs : List TyC) : Prop where
  ins : ∀ q cl, T.pg.cl q = some cl → ∀ (H : Hp) a dx fs, H a = some (.ins (T.ca q) dx fs) → TyX K H (.ref a) (.ref (T.ca q))
  one : ∀ t ∈ tcs, ∀ d, known T.pg d = true → PySem.W.kitOne K (dTy T d) (tyV T t) = some (isC T.pg d t)
theorem clsV (T : Tb) (t : TyC) : ClsV (tyVV T t) (tyV T t) := by
  cases t with
  | own c => exact .own _
  | blt t => exact .ty _
theorem ty_vw {tcs : List TyC} (th : TyHere T X.K tcs) {g : Gh} {h : Hh} {H : Hp} {d : D} {v : V} (ok : HeapOk T X.K g h H) (w : Vw T X.K g H d v) (kn : known T.pg d = true) : TyX X.K H v (dTy T d) := by
  cases d with
  | non => rw [w.non]; exact .base .non
  | bl b => rw [w.bl]; exact .base (.bl b)
  | int i => rw [w.int]; exact .base (.int i)
  | str s => rw [w.str]; exact .base (.str _)
  | tup xs =>
    obtain ⟨p, vs, ev, hq, hr⟩ := w.tup ok
    rw [ev]
    rcases hq with (hq | ⟨o, hq⟩) | ⟨o, its, n, e1, e2, _⟩
    · exact .base (.tup hq)
    · exact .fTuple hq
    · exact .kTuple e1 e2
  | lst xs =>
    obtain ⟨p, vs, ev, hq, hr⟩ := w.lst ok
    rw [ev]
    rcases hq with (hq | ⟨o, hq⟩) | ⟨o, its, n, e1, e2, _⟩
    · exact .base (.lst hq)
    · exact .base (.frz hq)
    · exact .kList e1 e2
  | ins q fs =>
    obtain ⟨p, dx, gs, ev, h1, h2, h3⟩ := w.ins ok
    rw [ev]
    unfold known at kn
    obtain ⟨cl, ec⟩ := Option.isSome_iff_exists.mp kn
    exact th.ins q cl ec H p dx gs h1
  | dct kvs => cases kn
  | ref m => cases kn
  | cls q => cases kn
theorem kit_any {K : PySem.W.Frag} {tcs : List TyC} (th : TyHere T K tcs) {d : D} (kn : known T.pg d = true) : ∀ {ts : List TyC}, (∀ t ∈ ts, t ∈ tcs) → PySem.W.kitAny K (dTy T d) (ts.map (tyV T)) = some (ts.any (isC T.pg d))
  | [], _ => kitAny_nil
  | t :: ts, h => by
    rw [List.map_cons]
    refine kitAny_cons (th.one t (h t (List.mem_cons_self ..)) d kn) (fun e => ?_) (fun e => by simp [e])
    rw [kit_any th kn fun u hu => h u (List.mem_cons_of_mem _ hu)]
    simp [e]
theorem isi_opf {ts : List TyC} {d1 d : D} (e : opf T.pg (.isi ts) [d1] = some d) : known T.pg d1 = true ∧ d = .bl (ts.any (isC T.pg d1)) := by
  have e : (if known T.pg d1 then some (D.bl (ts.any (isC T.pg d1))) else none) = some d := e
  obtain ⟨h1, h2⟩ := ifs e
  exact ⟨h1, h2.symm⟩
theorem pe_isi1 {p : Pos} {t : TyC} {tcs : List TyC} (th : TyHere T X.K tcs) (ht : t ∈ tcs) (hg : Gl X "isinstance") (hm : X.mg "isinstance" = none) (ha : PE X a (Rd T X.K W (evA r a') (relA T X.K fun ρ => clean ρ a'))) (hb : PE X b (tC (tyVV T t)))
    (hs : starEach [a, b] X.env = (false, eval a X.env) :: starEach [b] X.env) (hs2 : starEach [b] X.env = [(false, eval b X.env)]) :
    PE X (.Call (.Name "isinstance" p) [a, b] [] pos) (Rd T X.K W (fun ρ h => (evAs r [a'] ρ h).bind fun ds h1 => evOp T.pg (.isi [t]) ds h1) (relE T X.K)) :=
  PE.imp (pe_callB call_isi hg hm (by rfl) (pa_cons ha (pa_cons hb pa_nil hs2) hs) (by decide) (by decide) hs (by rw [hs2]; rfl)) fun σ H Q hh => by
    obtain ⟨g, ρ, h, s, z⟩ := hh
    dsimp only at z
    rw [evAs1] at z
    refine Rd.mk s z fun g1 d1 v1 h1 H1 s1 p1 r1 z1 => ?_
    obtain ⟨d, e, k⟩ := evOp_some z1
    obtain ⟨kn, ed⟩ := isi_opf e
    subst ed
    have e1 := th.one t ht _ kn
    refine ⟨v1, tyVV T t, _, _, _, rfl, clsV T t, ty_vw th s1.ok (r1.vw s1.ok) kn, e1, k g1 _ H1 (.refl s1.ok) ?_⟩
    rw [show List.any [t] (isC T.pg (vw h1 d1)) = isC T.pg (vw h1 d1) t by simp]
    exact .bl _
theorem paired_cls (T : Tb) : ∀ ts : List TyC, Paired ClsV (ts.map (tyVV T)) (ts.map (tyV T))
  | [] => .nil
  | t :: ts => .cons (clsV T t) (paired_cls T ts)
/-- the classes of a written tuple -/
inductive PTys (T : Tb) (X : Cx) : List Expr → List TyC → Prop
  | nil : PTys T X [] []
  | cons {e : Expr} {es : List Expr} {t : TyC} {ts : List TyC} : PE X e (tC (tyVV T t)) → starEach (e :: es) X.env = (false, eval e X.env) :: starEach es X.env → PTys T X es ts → PTys T X (e :: es) (t :: ts)
theorem PTys.pa {ts : List TyC} (h : PTys T X es ts) : PA X es (fun _ H Q => Q (ts.map (tyVV T)) H) := by
  induction h with
  | nil => exact pa_nil
  | cons he hs _ ih => exact PA.imp (pa_cons he ih hs) fun σ H Q q => q
theorem pe_isiT {p : Pos} {k0 : Nat} {ts : List TyC} {tcs : List TyC} (th : TyHere T X.K tcs) (ht : ∀ t ∈ ts, t ∈ tcs) (hl : ts.length ≤ 100) (hg : Gl X "isinstance") (hm : X.mg "isinstance" = none) (ha : PE X a (Rd T X.K W (evA r a') (relA T X.K fun ρ => clean ρ a'))) (hb : PTys T X es ts)
    (hs : starEach [a, .Tuple es k0 apos] X.env = (false, eval a X.env) :: starEach [.Tuple es k0 apos] X.env) (hs2 : starEach [.Tuple es k0 apos] X.env = [(false, eval (.Tuple es k0 apos) X.env)]) :
    PE X (.Call (.Name "isinstance" p) [a, .Tuple es k0 apos] [] pos) (Rd T X.K W (fun ρ h => (evAs r [a'] ρ h).bind fun ds h1 => evOp T.pg (.isi ts) ds h1) (relE T X.K)) :=
  PE.imp (pe_callB call_isiT hg hm (by rfl) (pa_cons ha (pa_cons (pe_tup hb.pa) pa_nil hs2) hs) (by decide) (by decide) hs (by rw [hs2]; rfl)) fun σ H Q hh => by
    obtain ⟨g, ρ, h, s, z⟩ := hh
    dsimp only at z
    rw [evAs1] at z
    refine Rd.mk s z fun g1 d1 v1 h1 H1 s1 p1 r1 z1 => ?_
    obtain ⟨d, e, k⟩ := evOp_some z1
    obtain ⟨kn, ed⟩ := isi_opf e
    subst ed
    refine ⟨by rw [List.length_map, sizeLine_eq]; omega, fun q hq => ?_⟩
    have po := s1.ok.newF (o := .tup (ts.map (tyVV T))) hq
    exact ⟨v1, q, ts.map (tyVV T), _, _, _, rfl, upd_same, paired_cls T ts, ty_vw th po.ok ((r1.post s1.ok po).vw po.ok) kn, kit_any th kn ht, k _ _ _ po (.bl _)⟩
end
end PI
end
section
/-! Targets; what is walked. -/
set_option linter.all false
set_option maxRecDepth 100000
set_option maxHeartbeats 1000000
namespace PI
open PySem PySem.Spec PyProof.Rows L2

/-! ### names take values -/
inductive Asg (T : Tb) (K : PySem.W.Frag) (g : Gh) : En → L2.St → En → L2.St → List Nat → Prop
  | nil {ρ : En} {σ : L2.St} : Asg T K g ρ σ ρ σ []
  | cons {ρ ρ1 : En} {σ σ1 : L2.St} {i : Nat} {d : D} {v : V} {l : List Nat} : Rl T K g.F g.m d v → Asg T K g (setN ρ i d) (σ.set i (some v)) ρ1 σ1 l → Asg T K g ρ σ ρ1 σ1 (i :: l)
section
variable {T : Tb} {K : PySem.W.Frag} {g ge : Gh} {ρ ρ1 ρ2 : En} {σ σ1 σ2 : L2.St} {H He : Hp} {h : Hh} {l l2 : List Nat} {z : Option V}
theorem Asg.append (a : Asg T K g ρ σ ρ1 σ1 l) (b : Asg T K g ρ1 σ1 ρ2 σ2 l2) : Asg T K g ρ σ ρ2 σ2 (l ++ l2) := by
  induction a with
  | nil => exact b
  | cons r _ ih => exact .cons r (ih b)
theorem EnOk.set (e : EnOk T K g ρ σ H) {i : Nat} {d : D} {v : V} (r : Rl T K g.F g.m d v) : EnOk T K g (setN ρ i d) (σ.set i (some v)) H where
  len := by unfold setN; rw [List.length_set, List.length_set]; exact e.len
  sl := fun j s hj => by
    unfold setN at hj
    by_cases hij : i = j
    · subst hij
      have hl : i < ρ.length := by
        have := (List.getElem?_eq_some_iff.mp hj).1
        rw [List.length_set] at this
        exact this
      rw [List.getElem?_set_self hl] at hj
      cases hj
      exact ⟨v, by rw [List.getElem?_set_self (by rw [← e.len]; exact hl)], r⟩
    · rw [List.getElem?_set_ne hij] at hj
      obtain ⟨u, e1, e2⟩ := e.sl j s hj
      exact ⟨u, by rw [List.getElem?_set_ne hij]; exact e1, e2⟩
  ap := fun j k o o' hjk hj hk => by
    unfold setN at hj hk
    have nj : i ≠ j := fun q => by
      subst q
      have hl : i < ρ.length := by
        have := (List.getElem?_eq_some_iff.mp hj).1
        rw [List.length_set] at this
        exact this
      rw [List.getElem?_set_self hl] at hj
      cases hj
    have nk : i ≠ k := fun q => by
      subst q
      have hl : i < ρ.length := by
        have := (List.getElem?_eq_some_iff.mp hk).1
        rw [List.length_set] at this
        exact this
      rw [List.getElem?_set_self hl] at hk
      cases hk
    rw [List.getElem?_set_ne nj] at hj ⊢
    rw [List.getElem?_set_ne nk] at hk ⊢
    exact e.ap j k o o' hjk hj hk
theorem Asg.en (a : Asg T K g ρ σ ρ1 σ1 l) : EnOk T K g ρ σ H → EnOk T K g ρ1 σ1 H := by
  induction a with
  | nil => exact fun e => e
  | cons r _ ih => exact fun e => ih (e.set r)
theorem Asg.out (a : Asg T K g ρ σ ρ1 σ1 l) : ∀ i, i ∉ l → σ1[i]? = σ[i]? ∧ ρ1[i]? = ρ[i]? := by
  induction a with
  | nil => exact fun _ _ => ⟨rfl, rfl⟩
  | cons r _ ih =>
    intro i hi
    simp only [List.mem_cons, not_or] at hi
    obtain ⟨e1, e2⟩ := ih i hi.2
    unfold setN at e2
    rw [List.getElem?_set_ne (Ne.symm hi.1)] at e1 e2
    exact ⟨e1, e2⟩
theorem Asg.len (a : Asg T K g ρ σ ρ1 σ1 l) : σ1.length = σ.length ∧ ρ1.length = ρ.length := by
  induction a with
  | nil => exact ⟨rfl, rfl⟩
  | cons r _ ih =>
    unfold setN at ih
    rw [List.length_set, List.length_set] at ih
    exact ih
/-- no new own things -/
theorem Asg.own (a : Asg T K g ρ σ ρ1 σ1 l) : ∀ (i : Nat) (o : O), ρ1[i]? = some (some (.own o)) → ρ[i]? = some (some (.own o)) ∧ σ1[i]? = σ[i]? := by
  induction a with
  | nil => exact fun _ _ e => ⟨e, rfl⟩
  | cons r _ ih =>
    rename_i ρ' ρ1' σ' σ1' i d v l' hx
    intro j o e
    obtain ⟨e1, e2⟩ := ih j o e
    unfold setN at e1
    have nj : i ≠ j := fun q => by
      subst q
      have hl : i < ρ'.length := by
        have := (List.getElem?_eq_some_iff.mp e1).1
        rw [List.length_set] at this
        exact this
      rw [List.getElem?_set_self hl] at e1
      cases e1
    rw [List.getElem?_set_ne nj] at e1 e2
    exact ⟨e1, e2⟩
theorem Asg.here (a : Asg T K g ρ σ ρ1 σ1 l) (hr : HereS T K ge He z g ρ h σ H) (hz : z = none ∨ 0 ∉ l) : HereS T K ge He z g ρ1 h σ1 H where
  hr := ⟨hr.hr.ok, a.en hr.hr.en⟩
  po := hr.po
  ow := fun i o e b eb => by
    obtain ⟨e1, e2⟩ := a.own i o e
    exact hr.ow i o e1 b (e2.symm.trans eb)
  kz := fun v e => by
    rcases hz with hz | hz
    · rw [hz] at e; cases e
    · rw [(a.out 0 hz).1]
      exact hr.kz v e
theorem wipe_get (σ : L2.St) (vs : List Nat) (i : Nat) : (wipe σ vs)[i]? = if i ∈ vs ∧ i < σ.length then some none else σ[i]? := by
  induction vs with
  | nil => simp [wipe]
  | cons v vs ih =>
    unfold wipe
    by_cases hv : v = i
    · subst hv
      by_cases hl : v < σ.length
      · rw [List.getElem?_set_self (by rw [wipe_length]; exact hl)]
        simp [hl]
      · rw [List.getElem?_eq_none (by rw [List.length_set, wipe_length]; omega)]
        simp [hl]
    · rw [List.getElem?_set_ne hv, ih]
      simp [Ne.symm hv]
theorem Asg.wipe (a : Asg T K g ρ (wipe σ l2) ρ1 σ1 l) (hl : ∀ i ∈ l, i ∈ l2) : L2.wipe σ1 l2 = L2.wipe σ l2 := by
  refine List.ext_getElem? fun i => ?_
  rw [wipe_get, wipe_get]
  have e1 := a.len.1
  rw [wipe_length] at e1
  rw [e1]
  by_cases hi : i ∈ l2
  · by_cases hl2 : i < σ.length
    · simp [hi, hl2]
    · rw [if_neg (by omega), if_neg (by omega), List.getElem?_eq_none (by omega), List.getElem?_eq_none (by omega)]
  · rw [if_neg (fun q => hi q.1), if_neg (fun q => hi q.1)]
    rw [(a.out i fun q => hi (hl i q)).1, wipe_get, if_neg (fun q => hi q.1)]
end
/-! ### targets -/
def rdG (T : Tb) (K : PySem.W.Frag) (t : Tg) : TG := fun x σ H Q => ∃ g h d ρ ρ1, HeapOk T K g h H ∧ Rl T K g.F g.m d x ∧ bindTg t d ρ = some ρ1 ∧ ∀ σ1, Asg T K g ρ σ ρ1 σ1 (tgS t) → Q σ1 H
def rdGs (T : Tb) (K : PySem.W.Frag) (t : List Tg) : TGs := fun xs σ H Q => ∃ g h ds ρ ρ1, HeapOk T K g h H ∧ Rls T K g.F g.m ds xs ∧ bindTgs t ds ρ = some ρ1 ∧ ∀ σ1, Asg T K g ρ σ ρ1 σ1 (tgsS t) → Q σ1 H
section
variable {T : Tb} {X : Cx} {pos : Pos}
theorem PG.imp {e : Expr} {t t' : TG} (h : PG X e t) (i : ∀ x σ H Q, t' x σ H Q → t x σ H Q) : PG X e t' := ⟨fun pins s σ H v u Q I r q => h.run pins s σ H v u Q I r (i v σ H Q q)⟩
theorem PGs.imp {e : List Expr} {t t' : TGs} (h : PGs X e t) (i : ∀ x σ H Q, t' x σ H Q → t x σ H Q) : PGs X e t' := ⟨fun pins s σ H v u Q I r q => h.run pins s σ H v u Q I r (i v σ H Q q)⟩
theorem pg_nameR {i : Nat} {x : Str} (hN : X.N.Nodup) (hi : X.N[i]? = some x) (hx : Loc X.env.scope x) (hf : X.fn x = true ∨ X.env.scope.names.lookup x = some .local) : PG X (.Name x pos) (rdG T X.K (.n i)) :=
  PG.imp (pg_name hN hi hx hf) fun x σ H Q hh => by
    obtain ⟨g, h, d, ρ, ρ1, ok, r, e, k⟩ := hh
    cases e
    exact k _ (.cons r .nil)
theorem pgs_nilR : PGs X [] (rdGs T X.K []) := PGs.imp pgs_nil fun xs σ H Q hh => by
  obtain ⟨g, h, ds, ρ, ρ1, ok, r, e, k⟩ := hh
  cases ds with
  | cons d ds => cases e
  | nil =>
    cases r
    cases e
    exact ⟨rfl, k _ .nil⟩
theorem pgs_consR {e : Expr} {es : List Expr} {t : Tg} {l : List Tg} (h1 : PG X e (rdG T X.K t)) (h2 : PGs X es (rdGs T X.K l)) (hs : (assignEach (e :: es) X.env).map (·.2) = assign e X.env :: (assignEach es X.env).map (·.2)) : PGs X (e :: es) (rdGs T X.K (t :: l)) :=
  PGs.imp (pgs_cons h1 h2 hs) fun xs σ H Q hh => by
    obtain ⟨g, h, ds, ρ, ρ1, ok, r, e, k⟩ := hh
    cases ds with
    | nil => cases e
    | cons d ds =>
      cases r with
      | cons r1 r2 =>
        obtain ⟨ρ2, e1, e2⟩ := Option.bind_eq_some_iff.mp (show (bindTg t d ρ).bind (fun ρ1 => bindTgs l ds ρ1) = some ρ1 from e)
        exact ⟨_, _, rfl, g, h, d, ρ, ρ2, ok, r1, e1, fun σ1 a1 => ⟨g, h, ds, ρ2, ρ1, ok, r2, e2, fun σ2 a2 => k σ2 (a1.append a2)⟩⟩
theorem bindTgs_len : ∀ {l : List Tg} {ds : List D} {ρ ρ1 : En}, bindTgs l ds ρ = some ρ1 → ds.length = l.length
  | [], [], _, _, _ => rfl
  | [], _ :: _, _, _, e => by cases e
  | _ :: _, [], _, _, e => by cases e
  | t :: l, d :: ds, ρ, ρ1, e => by
    obtain ⟨ρ2, e1, e2⟩ := Option.bind_eq_some_iff.mp (show (bindTg t d ρ).bind (fun ρ1 => bindTgs l ds ρ1) = some ρ1 from e)
    simp [bindTgs_len e2]
theorem pg_tupR {es : List Expr} {k0 : Nat} {l : List Tg} (hc : X.calm = true) (h : PGs X es (rdGs T X.K l)) (hn : (assignEach es X.env).length = l.length) (hst : (assignEach es X.env).findIdx? (·.1) = none) : PG X (.Tuple es k0 pos) (rdG T X.K (.t l)) :=
  PG.imp (pg_tup hc h hn hst) fun x σ H Q hh => by
    obtain ⟨g, h, d, ρ, ρ1, ok, r, e, k⟩ := hh
    cases d with
    | tup ds =>
      cases r with
      | tup h1 h2 =>
        have e : bindTgs l ds ρ = some ρ1 := e
        exact ⟨_, _, rfl, ok.fr.sqT h1, by rw [h2.length, bindTgs_len e], g, h, ds, ρ, ρ1, ok, h2, e, k⟩
    | _ => cases e
end
/-! ### sources -/
def ItOk (T : Tb) (K : PySem.W.Frag) (J : L2.It) (xs : List D) (I : Gh → Hp → Prop) : Prop :=
  ∀ g h H, HeapOk T K g h H → I g H → ∀ i : Nat, (∀ d, xs[i]? = some d → J.go i H ∧ ∀ x H', J.yld i H x H' → ∃ g', Post T K g H g' h H' ∧ Rl T K g'.F g'.m d x) ∧ (i = xs.length → J.stop i H)
/-- from g, H on -/
def Since (T : Tb) (K : PySem.W.Frag) (c : Bool) (g : Gh) (H : Hp) : Gh → Hp → Prop := fun g2 H2 => if c = true then Le g g2 else ∃ h2, Post T K g H g2 h2 H2
abbrev relI (T : Tb) (K : PySem.W.Frag) (c : En → Bool) : Rel (List D) L2.It := fun ρ g H xs J => ItOk T K J xs (Since T K (c ρ) g H)
section
variable {T : Tb} {X : Cx} {W : Wx} {r : Ev} {e : Expr} {e' : E} {tg : Expr} {pos : Pos}
theorem Opd.since {K : PySem.W.Frag} {c : Bool} {g g2 : Gh} {h : Hh} {H H2 : Hp} {d : D} {v : V} (ok : HeapOk T K g h H) (o : Opd T K c g H d v) (s : Since T K c g H g2 H2) : Opd T K c g2 H2 d v := by
  unfold Since at s
  cases c with
  | true => exact .inl (o.clean.mono s.s s.p _)
  | false =>
    obtain ⟨h2, p⟩ := s
    exact o.post ok p
theorem it_lst {K : PySem.W.Frag} {c : Bool} {g : Gh} {h : Hh} {H : Hp} {xs : List D} {v : V} (ok : HeapOk T K g h H) (o : Opd T K c g H (.lst xs) v) : ∃ a vs, v = .ref a ∧ SqL K H a vs ∧ ItOk T K (Itl K a) xs (Since T K c g H) := by
  obtain ⟨a, vs, ev, hq, _⟩ := Vw.lst ok (o.vw (h := h) ok)
  refine ⟨a, vs, ev, hq, fun g2 h2 H2 ok2 s2 i => ?_⟩
  obtain ⟨b, ws, eb, hw, hr⟩ := Vw.lst ok2 ((o.since ok s2).vw (h := h2) ok2)
  rw [ev] at eb
  cases eb
  refine ⟨fun d hd => ?_, fun hl => ⟨ws, hw, by rw [hr.length]; exact Nat.le_of_eq hl.symm⟩⟩
  obtain ⟨u, e1, e2⟩ := hr.get hd
  refine ⟨⟨ws, u, hw, e1⟩, fun x H' y => ?_⟩
  obtain ⟨rfl, y⟩ := y
  have := y ws hw
  rw [e1] at this
  cases this
  exact ⟨g2, .refl ok2, e2⟩
theorem it_tup {K : PySem.W.Frag} {c : Bool} {g : Gh} {h : Hh} {H : Hp} {xs : List D} {v : V} (ok : HeapOk T K g h H) (o : Opd T K c g H (.tup xs) v) : ∃ a vs, v = .ref a ∧ SqT K H a vs ∧ ItOk T K (Itt K a) xs (Since T K c g H) := by
  obtain ⟨a, vs, ev, hq, _⟩ := Vw.tup ok (o.vw (h := h) ok)
  refine ⟨a, vs, ev, hq, fun g2 h2 H2 ok2 s2 i => ?_⟩
  obtain ⟨b, ws, eb, hw, hr⟩ := Vw.tup ok2 ((o.since ok s2).vw (h := h2) ok2)
  rw [ev] at eb
  cases eb
  refine ⟨fun d hd => ?_, fun hl => ⟨ws, hw, by rw [hr.length]; exact Nat.le_of_eq hl.symm⟩⟩
  obtain ⟨u, e1, e2⟩ := hr.get hd
  refine ⟨⟨ws, u, hw, e1⟩, fun x H' y => ?_⟩
  obtain ⟨rfl, y⟩ := y
  have := y ws hw
  rw [e1] at this
  cases this
  exact ⟨g2, .refl ok2, e2⟩
theorem it_str {K : PySem.W.Frag} (s : Tx) (I : Gh → Hp → Prop) : ItOk T K (Its (tS s)) (s.map fun c => .str [c]) I := by
  intro g h H ok _ i
  have hs : (tS s).cps.size = s.length := by show (⟨s⟩ : Array Nat).size = _; simp
  have hg : ∀ j : Nat, (tS s).cps[j]? = s[j]? := fun j => by show (⟨s⟩ : Array Nat)[j]? = _; simp
  refine ⟨fun d hd => ?_, fun hl => ?_⟩
  · rw [List.getElem?_map] at hd
    obtain ⟨c, e1, rfl⟩ := Option.map_eq_some_iff.mp hd
    refine ⟨?_, fun x H' y => ?_⟩
    · show i < (tS s).cps.size
      rw [hs]
      exact (List.getElem?_eq_some_iff.mp e1).1
    · obtain ⟨rfl, c', e2, rfl⟩ := y
      rw [hg, e1] at e2
      cases e2
      exact ⟨g, .refl ok, .str [c]⟩
  · show (tS s).cps.size ≤ i
    rw [hs]
    simpa using Nat.le_of_eq hl.symm
/-- any list, tuple or text -/
theorem pi_any {te : TE} (he : PE X e te) : PI X tg e (fun σ H R => te σ H fun x H1 => (∃ a xs, x = .ref a ∧ SqL X.K H1 a xs ∧ R (Itl X.K a) H1) ∨ (∃ a xs, x = .ref a ∧ SqT X.K H1 a xs ∧ R (Itt X.K a) H1) ∨ ∃ s, x = .str s ∧ R (Its s) H1) := by
  refine ⟨fun pins s σ H R I hh => thn (he.run pins s σ H _ I hh) fun v s1 w1 => ?_⟩
  obtain ⟨x, H1, I1, r1, q⟩ := w1
  rcases q with ⟨a, xs, ex, hq, q⟩ | ⟨a, xs, ex, hq, q⟩ | ⟨z, ex, q⟩
  · subst ex
    cases r1
    obtain ⟨its, rv, p, _⟩ := I1.list hq
    exact wpAny_pyIter_list p.isList (pi_one (tk := s1.toks) I1 _ (turn_list a _) ⟨_, Heap.get?_push_size _ rfl, rfl, rfl⟩ q)
  · subst ex
    cases r1
    obtain ⟨its, rv, p, _⟩ := I1.tuple hq
    exact wpAny_pyIter_tuple (show s1.heap.IsTuple a its.toArray from p) (pi_one (tk := s1.toks) I1 _ (turn_tuple a _) ⟨_, Heap.get?_push_size _ rfl, rfl, rfl⟩ q)
  · subst ex
    obtain ⟨t, rfl⟩ := r1
    cases ha : z.cps.all (· < 128) with
    | false => exact wpAny_pyIter_wide ha (pi_one (tk := s1.toks) I1 _ (turn_str _ z t "str_iterator" (.inr rfl)) ⟨_, Heap.get?_push_size _ rfl, rfl, rfl⟩ q)
    | true => exact wpAny_pyIter_ascii ha (pi_one (tk := s1.toks) I1 _ (turn_str _ z t "str_ascii_iterator" (.inl rfl)) ⟨_, Heap.get?_push_size _ rfl, rfl, rfl⟩ q)
theorem PI.imp {wi wi' : TI} (h : PI X tg e wi) (i : ∀ σ H R, wi' σ H R → wi σ H R) : PI X tg e wi' := ⟨fun pins s σ H R I q => h.run pins s σ H R I (i σ H R q)⟩
theorem pi_seqR (he : PE X e (Rd T X.K W (evA r e') (relA T X.K fun ρ => clean ρ e'))) : PI X tg e (Rd T X.K W (evI r (.seq e')) (relI T X.K fun ρ => cleanI ρ (.seq e'))) :=
  PI.imp (pi_any he) fun σ H R hh => by
    obtain ⟨g, ρ, h, a, o⟩ := hh
    refine ⟨g, ρ, h, a, (Out.bind o).imp fun d h1 o1 g1 v H1 p1 r1 => ?_⟩
    have a1 := a.post p1
    cases d with
    | lst xs =>
      obtain ⟨b, vs, ev, hq, it⟩ := it_lst a1.ok r1
      exact .inl ⟨b, vs, ev, hq, o1 g1 _ H1 p1 it⟩
    | tup xs =>
      obtain ⟨b, vs, ev, hq, it⟩ := it_tup a1.ok r1
      exact .inr (.inl ⟨b, vs, ev, hq, o1 g1 _ H1 p1 it⟩)
    | str s =>
      have w : Vw T X.K g1 H1 (.str s) v := r1.vw (h := h1) a1.ok
      exact .inr (.inr ⟨_, w.str, o1 g1 _ H1 p1 (it_str s _)⟩)
    | _ => exact o1.elim
/-! ranges -/
theorem countUp_get : ∀ (n : Nat) (i : Int) (k : Nat), (countUp n i)[k]? = if k < n then some (.int (i + k)) else none
  | 0, i, k => by simp [countUp]
  | n + 1, i, 0 => by simp [countUp]
  | n + 1, i, k + 1 => by
    rw [countUp, List.getElem?_cons_succ, countUp_get n (i + 1) k]
    by_cases hk : k < n
    · rw [if_pos hk, if_pos (by omega), show i + 1 + (k : Int) = i + ((k + 1 : Nat) : Int) by omega]
    · rw [if_neg hk, if_neg (by omega)]
theorem countUp_len : ∀ (n : Nat) (i : Int), (countUp n i).length = n
  | 0, _ => rfl
  | n + 1, i => by rw [countUp, List.length_cons, countUp_len n]
theorem it_rng {K : PySem.W.Frag} (n : Nat) (lo : Int) (I : Gh → Hp → Prop) : ItOk T K (Itr lo n) (countUp n lo) I := by
  intro g h H ok _ i
  refine ⟨fun d hd => ?_, fun hl => ?_⟩
  · rw [countUp_get] at hd
    split at hd
    · rename_i hi
      cases hd
      refine ⟨hi, fun x H' y => ?_⟩
      obtain ⟨rfl, rfl⟩ := y
      exact ⟨g, .refl ok, .int _⟩
    · cases hd
  · rw [countUp_len] at hl
    exact Nat.le_of_eq hl.symm
theorem rangeOk_of {i : Int} (e : rangeOk i = true) : -(2 ^ 62) ≤ i ∧ i < 2 ^ 62 := by
  unfold rangeOk big at e
  simp only [Bool.and_eq_true, decide_eq_true_eq] at e
  omega
variable {a b : Expr} {a' b' : E} {p : Pos}
theorem pi_rng1 (hg : Gl X "range") (hm : X.mg "range" = none) (ha : PE X a (Rd T X.K W (evA r a') (relA T X.K fun ρ => clean ρ a'))) (hs : starEach [a] X.env = [(false, eval a X.env)]) :
    PI X tg (.Call (.Name "range" p) [a] [] pos) (Rd T X.K W (evI r (.range [a'])) (relI T X.K fun ρ => cleanI ρ (.range [a']))) :=
  PI.imp (pi_range1 hg hm (pa_cons ha pa_nil hs) hs) fun σ H R hh => by
    obtain ⟨g, ρ, h, s, z⟩ := hh
    have z : Out T X.K W σ g H ((evAs r [a'] ρ h).bind fun ds h1 => match ds with
      | [.int j] => if rangeOk j then .ok (countUp j.toNat 0) h1 else .bad
      | [.int i, .int j] => if rangeOk i && rangeOk j then .ok (countUp (j - i).toNat i) h1 else .bad
      | _ => .bad) (KK T X.K (relI T X.K fun ρ => cleanI ρ (.range [a'])) ρ g H R) := z
    rw [evAs1] at z
    refine ⟨g, ρ, h, s, (Out.bind z).imp fun d h1 o1 g1 v H1 p1 r1 => ?_⟩
    have s1 := s.post p1
    cases d with
    | int j =>
      have w : Vw T X.K g1 H1 (.int j) v := r1.vw (h := h1) s1.ok
      have o1 : Out T X.K W σ g H (if rangeOk j then .ok (countUp j.toNat 0) h1 else .bad) (KK T X.K (relI T X.K fun ρ => cleanI ρ (.range [a'])) ρ g H R) := o1
      by_cases hj : rangeOk j = true
      · rw [if_pos hj] at o1
        obtain ⟨q1, q2⟩ := rangeOk_of hj
        exact ⟨j, by rw [w.int], q1, q2, o1 g1 _ H1 p1 (it_rng j.toNat 0 _)⟩
      · rw [if_neg hj] at o1
        exact o1.elim
    | _ => exact o1.elim
theorem pi_rng2 (hg : Gl X "range") (hm : X.mg "range" = none) (ha : PE X a (Rd T X.K W (evA r a') (relA T X.K fun ρ => clean ρ a'))) (hb : PE X b (Rd T X.K W (evA r b') (relA T X.K fun ρ => clean ρ b'))) (hs : starEach [a, b] X.env = [(false, eval a X.env), (false, eval b X.env)]) (hs2 : starEach [b] X.env = [(false, eval b X.env)]) :
    PI X tg (.Call (.Name "range" p) [a, b] [] pos) (Rd T X.K W (evI r (.range [a', b'])) (relI T X.K fun ρ => cleanI ρ (.range [a', b']))) :=
  PI.imp (pi_range2 hg hm (pa_cons ha (pa_cons hb pa_nil hs2) (by rw [hs, hs2])) hs hs2) fun σ H R hh => by
    obtain ⟨g, ρ, h, s, z⟩ := hh
    have z : Out T X.K W σ g H ((evAs r [a', b'] ρ h).bind fun ds h1 => match ds with
      | [.int j] => if rangeOk j then .ok (countUp j.toNat 0) h1 else .bad
      | [.int i, .int j] => if rangeOk i && rangeOk j then .ok (countUp (j - i).toNat i) h1 else .bad
      | _ => .bad) (KK T X.K (relI T X.K fun ρ => cleanI ρ (.range [a', b'])) ρ g H R) := z
    rw [evAs2] at z
    refine ⟨g, ρ, h, s, (Out.bind z).imp fun d h1 o1 g1 v H1 p1 r1 => ?_⟩
    have s1 := s.post p1
    refine ⟨g1, ρ, h1, s1, ((Out.bind o1).shift p1 fun _ _ q => q).imp fun d2 h2 o2 g2 v2 H2 p2 r2 => ?_⟩
    have s2 := s1.post p2
    have w1 : Vw T X.K g2 H2 (vw h2 d) v := (r1.post s1.ok p2).vw s2.ok
    cases d with
    | int i =>
      cases d2 with
      | int j =>
        have w2 : Vw T X.K g2 H2 (.int j) v2 := r2.vw (h := h2) s2.ok
        have w1 : Vw T X.K g2 H2 (.int i) v := w1
        have o1 : Out T X.K W σ g H (if rangeOk i && rangeOk j then .ok (countUp (j - i).toNat i) h2 else .bad) (KK T X.K (relI T X.K fun ρ => cleanI ρ (.range [a', b'])) ρ g H R) := o2
        by_cases hj : (rangeOk i && rangeOk j) = true
        · rw [if_pos hj] at o1
          simp only [Bool.and_eq_true] at hj
          obtain ⟨q1, q2⟩ := rangeOk_of hj.1
          obtain ⟨q3, q4⟩ := rangeOk_of hj.2
          exact ⟨i, j, by rw [w1.int, w2.int], ⟨q1, q2, q3, q4⟩, o1 g2 _ H2 (p1.trans p2) (it_rng _ i _)⟩
        · rw [if_neg hj] at o1
          exact o1.elim
      | _ => exact o2.elim
    | _ => cases d2 <;> exact o2.elim
end
end PI
end
section
/-! zip and enumerate over lists, tuples, texts. -/
set_option linter.all false
set_option maxRecDepth 100000
set_option maxHeartbeats 1000000
namespace PI
open PySem PySem.Spec PyProof.Rows L2

/-- what an iterator may be made of -/
inductive Sr where
  | ls (a : Nat) | tu (a : Nat) | tx (x : Str) (k : Tok)
def Sr.u : Sr → Value
  | .ls a => .ref a
  | .tu a => .ref a
  | .tx x k => .str x k
def signs (x : Str) : List V := x.cps.toList.map fun c => .str ⟨#[c]⟩
def Sr.At (K : PySem.W.Frag) (H : Hp) : Sr → List V → Prop
  | .ls a, xs => SqL K H a xs
  | .tu a, xs => SqT K H a xs
  | .tx x _, xs => xs = signs x
def Sr.o : Sr → Obj
  | .ls a => { cls := .type "list_iterator", data := .fields #[.ref a, .int 0 0] }
  | .tu a => { cls := .type "tuple_iterator", data := .fields #[.ref a, .int 0 0] }
  | .tx x k => { cls := .type (strIterType x), data := .fields #[.str x k, .int 0 0] }
def Sr.iter (it : Addr) (i : Nat) (h : Heap) : Sr → Prop
  | .ls a => h.IsListIter it a i
  | .tu a => h.IsTupleIter it a i
  | .tx x k => h.IsStrIter it (strIterType x) x k i
/-- older than n -/
def Sr.old (n : Nat) : Sr → Prop
  | .ls a => a < n
  | .tu a => a < n
  | .tx _ _ => True
theorem Sr.iter_keep {it : Addr} {i : Nat} {h h' : Heap} {S : Sr} (x : S.iter it i h) (k : ∀ o, h.get? it = some o → h'.get? it = some o) : S.iter it i h' := by
  cases S with
  | ls a => exact Heap.IsListIter.at x fun o e => k o e
  | tu a => exact Heap.IsTupleIter.at x fun o e => k o e
  | tx y t =>
    obtain ⟨o, e, r⟩ := (show h.IsStrIter it (strIterType y) y t i from x)
    exact ⟨o, k o e, r⟩
theorem Sr.iter_obj {it : Addr} {i : Nat} {h : Heap} {S : Sr} (x : S.iter it i h) : ∃ o, h.get? it = some o ∧ ∀ v, o.data ≠ .cell v := by
  cases S with
  | ls a =>
    obtain ⟨o, e, _, d⟩ := (show h.IsListIter it a i from x)
    exact ⟨o, e, fun v q => by rw [d] at q; cases q⟩
  | tu a =>
    obtain ⟨o, e, _, d⟩ := (show h.IsTupleIter it a i from x)
    exact ⟨o, e, fun v q => by rw [d] at q; cases q⟩
  | tx y t =>
    obtain ⟨o, e, _, d⟩ := (show h.IsStrIter it (strIterType y) y t i from x)
    exact ⟨o, e, fun v q => by rw [d] at q; cases q⟩
section
variable {X : Cx} {pins : List (Addr × Obj)} {σ : L2.St} {H : Hp} {s : Shared} {S : Sr} {xs : List V}
theorem Sr.inj (I : Inv X pins σ H s) {ys : List V} (a : S.At X.K H xs) (b : S.At X.K H ys) : xs = ys := by
  cases S with
  | ls p => exact I.list_inj a b
  | tu p => exact I.tuple_inj a b
  | tx y t => exact Eq.trans (show xs = signs y from a) (Eq.symm (show ys = signs y from b))
theorem signs_get (x : Str) (i : Nat) : (signs x)[i]? = (x.cps[i]?).map fun c => V.str ⟨#[c]⟩ := by
  unfold signs
  rw [List.getElem?_map, Array.getElem?_toList]
theorem signs_len (x : Str) : (signs x).length = x.cps.size := by
  unfold signs
  simp
/-- as the library draws from it -/
theorem Sr.draw (I : Inv X pins σ H s) (hh : X.A.handled = none) (a : S.At X.K H xs) (it : Addr) (hne : ∀ p, (S = .ls p ∨ S = .tu p) → p ≠ it) :
    ∃ (fp : List Addr) (P : Nat → Value → Prop) (St : Nat → Heap → Prop), Draws X.prog X.w X.A.in1 it fp xs.length P St ∧ it ∈ fp ∧ (∀ b ∈ fp, b = it ∨ S = .ls b ∨ S = .tu b) ∧ (∀ i, S.iter it i s.heap → St i s.heap) ∧ (∀ i h, St i h → S.iter it i h) ∧ ∀ i v, P i v → ∃ x, xs[i]? = some x ∧ RelV x v := by
  cases S with
  | ls p =>
    obtain ⟨its, r, pl, _⟩ := I.list a
    have el : xs.length = its.toArray.size := by rw [r.length]; simp
    rw [el]
    refine ⟨_, _, _, Draws.list (A := X.A.in1) hh it p (hne p (.inl rfl)) its.toArray, by simp, fun b hb => ?_, fun i st => ⟨st, pl.isList⟩, fun i h st => st.1, fun i v e => ?_⟩
    · have e : b = it ∨ b = p := by simpa using hb
      rcases e with e | e
      · exact .inl e
      · exact .inr (.inl (by rw [e]))
    · have hl : i < xs.length := by
        have := (Array.getElem?_eq_some_iff.mp e).1
        rw [el]
        exact this
      obtain ⟨u, e1, e2⟩ := r.get (List.getElem?_eq_getElem hl)
      have e : its[i]? = some v := by simpa using e
      rw [e] at e1
      cases e1
      exact ⟨_, List.getElem?_eq_getElem hl, e2⟩
  | tu p =>
    obtain ⟨its, r, pl, _⟩ := I.tuple a
    have el : xs.length = its.toArray.size := by rw [r.length]; simp
    rw [el]
    refine ⟨_, _, _, Draws.tuple (A := X.A.in1) hh it p (hne p (.inr rfl)) its.toArray, by simp, fun b hb => ?_, fun i st => ⟨st, show s.heap.IsTuple p its.toArray from pl⟩, fun i h st => st.1, fun i v e => ?_⟩
    · have e : b = it ∨ b = p := by simpa using hb
      rcases e with e | e
      · exact .inl e
      · exact .inr (.inr (by rw [e]))
    · have hl : i < xs.length := by
        have := (Array.getElem?_eq_some_iff.mp e).1
        rw [el]
        exact this
      obtain ⟨u, e1, e2⟩ := r.get (List.getElem?_eq_getElem hl)
      have e : its[i]? = some v := by simpa using e
      rw [e] at e1
      cases e1
      exact ⟨_, List.getElem?_eq_getElem hl, e2⟩
  | tx y t =>
    have a : xs = signs y := a
    subst a
    rw [signs_len]
    refine ⟨_, _, _, Draws.text (A := X.A.in1) hh it y t, by simp, fun b hb => .inl (by simpa using hb), fun i st => st, fun i h st => st, fun i v e => ?_⟩
    obtain ⟨c, u, e1, rfl⟩ := e
    exact ⟨.str ⟨#[c]⟩, by rw [signs_get, e1]; rfl, u, rfl⟩
theorem nn {a b : Nat} (h : a ≠ b) : @Ne Addr a b := h
/-- what is walked, two at once -/
def ItZ (K : PySem.W.Frag) (S1 S2 : Sr) : L2.It :=
  ⟨fun i H => ∃ xs ys x y, S1.At K H xs ∧ S2.At K H ys ∧ xs[i]? = some x ∧ ys[i]? = some y,
    fun i H v H' => ∃ T x y, v = .ref T ∧ H T = none ∧ H' = upd H T (.tup [x, y]) ∧ (∀ xs, S1.At K H xs → xs[i]? = some x) ∧ ∀ ys, S2.At K H ys → ys[i]? = some y,
    fun i H => ∃ xs ys, S1.At K H xs ∧ S2.At K H ys ∧ i ≤ xs.length ∧ i ≤ ys.length ∧ (i = xs.length ∨ i = ys.length)⟩
theorem turn_z {P : Program} {w : World} {K : PySem.W.Frag} {elts : List Expr} {kk : Nat} {tpos : Pos} {S1 S2 : Sr} {n : Nat} (o1 : S1.old n) (o2 : S2.old n) :
    Turn P w K (.Tuple elts kk tpos) (ItZ K S1 S2) [n + 4, n + 2, n + 3, n, n + 1] (n + 4) (fun i h => IsZip h (n + 4) (n + 2) (n + 3) .none ∧ IsTupOf2 h (n + 2) (.ref n) (.ref (n + 1)) ∧ (∃ x y, IsTupOf2 h (n + 3) x y) ∧ S1.iter n i h ∧ S2.iter (n + 1) i h) := by
  have ne1 : ∀ p, (S1 = .ls p ∨ S1 = .tu p) → p < n := fun p h => by
    rcases h with h | h <;> (subst h; exact o1)
  have ne2 : ∀ p, (S2 = .ls p ∨ S2 = .tu p) → p < n := fun p h => by
    rcases h with h | h <;> (subst h; exact o2)
  have sep : ∀ {fp1 fp2 : List Addr}, n ∈ fp1 → n + 1 ∈ fp2 → (∀ b ∈ fp1, b = n ∨ S1 = .ls b ∨ S1 = .tu b) → (∀ b ∈ fp2, b = n + 1 ∨ S2 = .ls b ∨ S2 = .tu b) → ZipSep2 (n + 4) (n + 2) (n + 3) n (n + 1) fp1 fp2 := fun {fp1 fp2} m1 m2 h1 h2 => by
    have k1 : ∀ b : Nat, b ∈ fp1 → b < n + 1 := fun b hb => by
      rcases h1 b hb with h | h
      · exact Nat.lt_succ_of_le (Nat.le_of_eq h)
      · exact Nat.lt_succ_of_lt (ne1 b h)
    have k2 : ∀ b : Nat, b ∈ fp2 → b < n ∨ (n < b ∧ b < n + 2) := fun b hb => by
      rcases h2 b hb with h | h
      · rw [h]
        exact .inr ⟨Nat.lt_succ_self n, Nat.lt_succ_self (n + 1)⟩
      · exact .inl (ne2 b h)
    refine ⟨nn (by omega), nn (by omega), nn (by omega), nn (by omega), m1, fun z => ?_, fun z => ?_, nn (by omega), m2, fun z => ?_, fun z => ?_, fun z => ?_, fun z => ?_⟩
    · have := k1 _ z; omega
    · have := k1 _ z; omega
    · have := k2 _ z; omega
    · have := k2 _ z; omega
    · have := k2 _ z; omega
    · have := k1 _ z; omega
  have cases5 : ∀ {c : Addr}, c ∈ [n + 4, n + 2, n + 3, n, n + 1] → c = n + 4 ∨ c = n + 2 ∨ c = n + 3 ∨ c = n ∨ c = n + 1 := fun hc => by simpa using hc
  refine ⟨by simp, fun i h st b hb => ?_, fun i h h' st k => ?_, ?_, ?_, fun A i s Q E st h => wpAny_pyIter_zip st.1 h⟩
  · obtain ⟨hz, hTI, ⟨x, y, hTO⟩, h1, h2⟩ := st
    rcases cases5 hb with e | e | e | e | e
    · rw [e]; exact ⟨_, hz, fun v q => nomatch q⟩
    · rw [e]; exact ⟨_, hTI, fun v q => nomatch q⟩
    · rw [e]; exact ⟨_, hTO, fun v q => nomatch q⟩
    · rw [e]; exact Sr.iter_obj h1
    · rw [e]; exact Sr.iter_obj h2
  · obtain ⟨hz, hTI, ⟨x, y, hTO⟩, h1, h2⟩ := st
    exact ⟨k _ (by simp) _ hz, k _ (by simp) _ hTI, ⟨x, y, k _ (by simp) _ hTO⟩, Sr.iter_keep h1 fun o e => k _ (by simp) o e, Sr.iter_keep h2 fun o e => k _ (by simp) o e⟩
  · intro X hP hw hK hc i pins s σ H E I hf st hg
    subst hP hw hK
    obtain ⟨hz, hTI, ⟨x0, y0, hTO⟩, h1, h2⟩ := st
    obtain ⟨xs, ys, x, y, a1, a2, hx, hy⟩ := hg
    obtain ⟨fp1, P1, St1, D1, m1, f1, s1, t1, p1⟩ := Sr.draw I (I.ok.hd hc) a1 n (fun p h => Nat.ne_of_lt (ne1 p h))
    obtain ⟨fp2, P2, St2, D2, m2, f2, s2, t2, p2⟩ := Sr.draw I (I.ok.hd hc) a2 (n + 1) (fun p h => Nat.ne_of_lt (Nat.lt_succ_of_lt (ne2 p h)))
    have hzl : n + 4 < s.heap.objs.size := Heap.lt_size hz
    have l1 : i < xs.length := (List.getElem?_eq_some_iff.mp hx).1
    have l2 : i < ys.length := (List.getElem?_eq_some_iff.mp hy).1
    refine wpAny_pyNext_zipD2_item (sep m1 m2 f1 f2) D1 D2 hz hTI hTO (s1 i h1) (s2 i h2) l1 l2 fun u u2 h' tk q1 q2 z' TO' n1 n2 hT hsz hk => ?_
    obtain ⟨x', ex, ru⟩ := p1 i u q1
    obtain ⟨y', ey, ru2⟩ := p2 i u2 q2
    rw [hx] at ex
    cases ex
    rw [hy] at ey
    cases ey
    refine ⟨_, rfl, wpAny_letOwnedTupleGo_zip (s := { s with heap := h', toks := tk }) z' fun h'' z'' sb => ?_⟩
    have hT2 : h''.get? s.heap.objs.size = some { cls := .type "tuple", data := .seq #[u, u2] } := (sb.2 _ (Nat.ne_of_gt hzl)).trans hT
    have new : ObjOk X.prog X.w (upd H s.heap.objs.size (.tup [x, y])) h'' s.heap.objs.size (.tup [x, y]) := ⟨(by show 2 ≤ sizeLine; decide), [u, u2], (.cons ru (.cons ru2 .nil)), ⟨_, hT2, rfl, _, rfl⟩⟩
    have out : ∀ c o, c ∉ [n + 4, n + 2, n + 3, n, n + 1] → s.heap.get? c = some o → h''.get? c = some o := fun c o hb q => by
      have z1 : c ≠ n + 4 := fun e => hb (by simp [e])
      have z2 : c ≠ n + 3 := fun e => hb (by simp [e])
      have z3 : c ≠ n := fun e => hb (by simp [e])
      have z4 : c ≠ n + 1 := fun e => hb (by simp [e])
      exact (sb.2 c z1).trans (hk c o z1 z2 z3 z4 q)
    have I1 : Inv X pins σ (upd H s.heap.objs.size (.tup [x, y])) { s with heap := h'', toks := tk } := I.turnedNew (t' := tk) (ch := [n + 4, n + 2, n + 3, n, n + 1]) out hf (Nat.le_refl _) new
    refine ⟨.ref s.heap.objs.size, _, I1, rfl, ⟨_, x, y, rfl, I.hok.fresh (Nat.le_refl _), rfl, fun l hl => by rw [Sr.inj I hl a1]; exact hx, fun l hl => by rw [Sr.inj I hl a2]; exact hy⟩, ⟨z'', ?_, ⟨u, u2, ?_⟩, ?_, ?_⟩, fun c hcm => ?_⟩
    · exact (sb.2 _ (nn (by omega))).trans (hk _ _ (nn (by omega)) (nn (by omega)) (nn (by omega)) (nn (by omega)) hTI)
    · exact (sb.2 _ (nn (by omega))).trans TO'
    · exact Sr.iter_keep (t1 _ _ n1) fun o q => (sb.2 _ (nn (by omega))).trans q
    · exact Sr.iter_keep (t2 _ _ n2) fun o q => (sb.2 _ (nn (by omega))).trans q
    · have hlt : c < s.heap.objs.size := by
        have up : ∀ m : Nat, m ≤ n + 4 → m < s.heap.objs.size := fun m hm => Nat.lt_of_le_of_lt hm hzl
        rcases cases5 hcm with e | e | e | e | e <;> (rw [e]; exact up _ (by omega))
      rw [upd_ne (Nat.ne_of_lt hlt)]
      exact (hf c hcm).1
  · intro X hP hw hK hc i pins s σ H E I hf st hg
    subst hP hw hK
    obtain ⟨hz, hTI, ⟨x0, y0, hTO⟩, h1, h2⟩ := st
    obtain ⟨xs, ys, a1, a2, l1, l2, hend⟩ := hg
    obtain ⟨fp1, P1, St1, D1, m1, f1, s1, t1, p1⟩ := Sr.draw I (I.ok.hd hc) a1 n (fun p h => Nat.ne_of_lt (ne1 p h))
    obtain ⟨fp2, P2, St2, D2, m2, f2, s2, t2, p2⟩ := Sr.draw I (I.ok.hd hc) a2 (n + 1) (fun p h => Nat.ne_of_lt (Nat.lt_succ_of_lt (ne2 p h)))
    refine wpAny_pyNext_zipD2_end (sep m1 m2 f1 f2) D1 D2 hz hTI hTO (s1 i h1) (s2 i h2) l1 l2 hend fun h' tk hk => ⟨rfl, ?_⟩
    exact I.turnedL (t' := tk) (ch := [n + 4, n + 2, n + 3, n, n + 1]) (fun c o hb q => hk c o (fun e => hb (by simp [e])) (fun e => hb (by simp [e])) (fun e => hb (by simp [e])) (fun e => hb (by simp [e])) q) hf
end
/-! ### the reading -/
section
variable {T : Tb} {X : Cx} {W : Wx} {r : Ev} {a b : Expr} {a' b' : E} {p pos tpos : Pos} {elts : List Expr} {kk : Nat}
theorem Opd.since2 {K : PySem.W.Frag} {c c1 : Bool} {g g2 : Gh} {h : Hh} {H H2 : Hp} {d : D} {v : V} (hc : c = true → c1 = true) (ok : HeapOk T K g h H) (o : Opd T K c1 g H d v) (s : Since T K c g H g2 H2) : Opd T K c1 g2 H2 d v := by
  unfold Since at s
  cases c with
  | true =>
    have e := hc rfl
    subst e
    exact .inl (o.clean.mono s.s s.p _)
  | false =>
    obtain ⟨h2, p⟩ := s
    exact o.post ok p
/-- a source, by its value -/
theorem sr_of {pins : List (Addr × Obj)} {σ : L2.St} {s : Shared} {c c1 : Bool} {g : Gh} {h : Hh} {H : Hp} {d : D} {v : V} {u : Value} {xs : List D} (hc : c = true → c1 = true) (I : Inv X pins σ H s) (ok : HeapOk T X.K g h H) (o : Opd T X.K c1 g H d v) (ru : RelV v u) (e : seqOf d = some xs) :
    ∃ (S : Sr) (Hq : Heap → Prop), S.u = u ∧ Begins u S.o Hq ∧ Hq s.heap ∧ S.old s.heap.objs.size ∧ (∀ it h', h'.get? it = some S.o → S.iter it 0 h') ∧
      ∀ g2 h2 H2, HeapOk T X.K g2 h2 H2 → Since T X.K c g H g2 H2 → ∃ ws, S.At X.K H2 ws ∧ Rls T X.K g2.F g2.m xs ws := by
  cases d with
  | lst l =>
    cases e
    obtain ⟨q, vs, ev, hq, _⟩ := Vw.lst ok (o.vw (h := h) ok)
    subst ev
    obtain rfl : u = Value.ref q := ru
    obtain ⟨its, rv, pl, _⟩ := I.list hq
    refine ⟨.ls q, _, rfl, begins_list q its.toArray, pl.isList, pl.lt, fun it h' z => ⟨_, z, rfl, rfl⟩, fun g2 h2 H2 ok2 s2 => ?_⟩
    obtain ⟨q2, ws, ev, hw, hr⟩ := Vw.lst ok2 ((o.since2 hc ok s2).vw (h := h2) ok2)
    cases ev
    exact ⟨ws, hw, hr⟩
  | tup l =>
    cases e
    obtain ⟨q, vs, ev, hq, _⟩ := Vw.tup ok (o.vw (h := h) ok)
    subst ev
    obtain rfl : u = Value.ref q := ru
    obtain ⟨its, rv, pl, _⟩ := I.tuple hq
    obtain ⟨ob, hob, _⟩ := id pl
    refine ⟨.tu q, _, rfl, begins_tuple q its.toArray, show s.heap.IsTuple q its.toArray from pl, Heap.lt_size hob, fun it h' z => ⟨_, z, rfl, rfl⟩, fun g2 h2 H2 ok2 s2 => ?_⟩
    obtain ⟨q2, ws, ev, hw, hr⟩ := Vw.tup ok2 ((o.since2 hc ok s2).vw (h := h2) ok2)
    cases ev
    exact ⟨ws, hw, hr⟩
  | str y =>
    cases e
    have w : Vw T X.K g H (.str y) v := o.vw (h := h) ok
    have ev := w.str
    subst ev
    obtain ⟨k, rfl⟩ := ru
    refine ⟨.tx (tS y) k, _, rfl, begins_text (tS y) k, trivial, trivial, fun it h' z => ⟨_, z, rfl, rfl⟩, fun g2 h2 H2 ok2 s2 => ⟨_, rfl, ?_⟩⟩
    show Rls T X.K g2.F g2.m (y.map fun c => .str [c]) (signs (tS y))
    unfold signs
    rw [tS_tl]
    clear w o
    induction y with
    | nil => exact .nil
    | cons c y ih => exact .cons (.str [c]) ih
  | _ => cases e
theorem zipD_get : ∀ {xs ys : List D} {i : Nat} {d : D}, (zipD xs ys)[i]? = some d → ∃ x y, xs[i]? = some x ∧ ys[i]? = some y ∧ d = .tup [x, y]
  | [], ys, i, d, e => by cases ys <;> simp [zipD] at e
  | x :: xs, [], i, d, e => by simp [zipD] at e
  | x :: xs, y :: ys, 0, d, e => by
    simp [zipD] at e
    exact ⟨x, y, rfl, rfl, e.symm⟩
  | x :: xs, y :: ys, i + 1, d, e => by
    simp only [zipD, List.getElem?_cons_succ] at e ⊢
    exact zipD_get e
theorem zipD_len : ∀ (xs ys : List D), (zipD xs ys).length = min xs.length ys.length
  | [], ys => by cases ys <;> simp [zipD]
  | x :: xs, [] => by simp [zipD]
  | x :: xs, y :: ys => by
    simp only [zipD, List.length_cons, zipD_len xs ys]
    omega
theorem pi_zipR (hg : Gl X "zip") (hm : X.mg "zip" = none) (ha : PE X a (Rd T X.K W (evA r a') (relA T X.K fun ρ => clean ρ a'))) (hb : PE X b (Rd T X.K W (evA r b') (relA T X.K fun ρ => clean ρ b')))
    (hs : starEach [a, b] X.env = (false, eval a X.env) :: starEach [b] X.env) (hs2 : starEach [b] X.env = [(false, eval b X.env)]) :
    PI X (.Tuple elts kk tpos) (.Call (.Name "zip" p) [a, b] [] pos) (Rd T X.K W (evI r (.zip a' b')) (relI T X.K fun ρ => cleanI ρ (.zip a' b'))) := by
  refine ⟨fun pins s σ H R I hh => ?_⟩
  obtain ⟨g, ρ, h, s0, z⟩ := hh
  have z : Out T X.K W σ g H ((evAs r [a', b'] ρ h).bind fun ds h1 => match ds with
    | [x, y] => match zipOf x y with
      | some xs => .ok xs h1
      | none => .bad
    | _ => .bad) (KK T X.K (relI T X.K fun ρ => cleanI ρ (.zip a' b')) ρ g H R) := z
  rw [evAs2] at z
  have hE : tCons (Rd T X.K W (evA r a') (relA T X.K fun ρ => clean ρ a')) (tCons (Rd T X.K W (evA r b') (relA T X.K fun ρ => clean ρ b')) tNil) σ H (fun vs H1 => ∃ (g1 : Gh) (h1 : Hh) (d1 d2 : D) (v1 v2 : V) (xs : List D), vs = [v1, v2] ∧ HeapOk T X.K g1 h1 H1 ∧ Opd T X.K (clean ρ a') g1 H1 d1 v1 ∧ Opd T X.K (clean ρ b') g1 H1 d2 v2 ∧ zipOf d1 d2 = some xs ∧
      ∀ J, ItOk T X.K J xs (Since T X.K (cleanI ρ (.zip a' b')) g1 H1) → R J H1) := by
    refine ⟨g, ρ, h, s0, (Out.bind z).imp fun d1 h1 o1 g1 v1 H1 p1 r1 => ?_⟩
    have s1 := s0.post p1
    refine ⟨g1, ρ, h1, s1, ((Out.bind o1).shift p1 fun _ _ q => q).imp fun d2 h2 o2 g2 v2 H2 p2 r2 => ?_⟩
    have s2 := s1.post p2
    dsimp only at o2
    cases q : zipOf d1 d2 with
    | none => rw [q] at o2; exact o2.elim
    | some xs =>
      rw [q] at o2
      exact ⟨g2, h2, d1, d2, v1, v2, xs, rfl, s2.ok, r1.post s1.ok p2, r2, q, fun J it => o2 g2 J H2 (p1.trans p2) it⟩
  refine Call_ (ld_blt I hg hm PyProof.Rows.boot_zip (PyProof.Rows.callWith_type1 (thn ((pa_cons ha (pa_cons hb pa_nil hs2) hs).run pos pins s σ H _ I hE) fun us s1 w1 => ?_) hs (by rw [hs2]; rfl)))
  obtain ⟨vs, H1, I1, rv, g1, h1, d1, d2, v1, v2, xs, ev, ok, q1, q2, ez, k⟩ := w1
  subst ev
  cases rv with
  | cons ru1 rv =>
    cases rv with
    | cons ru2 rv =>
      cases rv
      rename_i u1 u2
      unfold zipOf at ez
      split at ez
      · rename_i xs1 xs2 e1 e2
        cases ez
        have cc : cleanI ρ (.zip a' b') = (clean ρ a' && clean ρ b') := rfl
        obtain ⟨S1, Hq1, w1, B1, b1, old1, i1, at1⟩ := sr_of (c := cleanI ρ (.zip a' b')) (fun e => by rw [cc, Bool.and_eq_true] at e; exact e.1) I1 ok q1 ru1 e1
        obtain ⟨S2, Hq2, w2, B2, b2, old2, i2, at2⟩ := sr_of (c := cleanI ρ (.zip a' b')) (fun e => by rw [cc, Bool.and_eq_true] at e; exact e.2) I1 ok q2 ru2 e2
        refine zip_begins2 B1 B2 b1 b2 fun h' hz hTI hTO g1' g2' hsz hk => wpAny_pyIter_zip hz ?_
        have I2 : Inv X pins σ H1 { s1 with heap := h' } := I1.kept (t' := s1.toks) hk
        refine ⟨s1.heap.objs.size + 4, [s1.heap.objs.size + 4, s1.heap.objs.size + 2, s1.heap.objs.size + 3, s1.heap.objs.size, s1.heap.objs.size + 1], _, _, H1, rfl, I2, turn_z old1 old2, ⟨hz, hTI, ⟨_, _, hTO⟩, i1 _ _ g1', i2 _ _ g2'⟩, fun c hcm => ?_, k _ fun g2 h2 H2 ok2 s2 i => ?_⟩
        · have e' : c = s1.heap.objs.size + 4 ∨ c = s1.heap.objs.size + 2 ∨ c = s1.heap.objs.size + 3 ∨ c = s1.heap.objs.size ∨ c = s1.heap.objs.size + 1 := by simpa using hcm
          have hle : s1.heap.objs.size ≤ c := by
            rcases e' with e | e | e | e | e <;> (rw [e]; first | exact Nat.le_add_right _ _ | exact Nat.le_refl _)
          exact I1.fpOk hle (I1.hok.fresh hle)
        · obtain ⟨ws1, A1, R1⟩ := at1 g2 h2 H2 ok2 s2
          obtain ⟨ws2, A2, R2⟩ := at2 g2 h2 H2 ok2 s2
          refine ⟨fun d hd => ?_, fun hl => ?_⟩
          · obtain ⟨x, y, x1, y1, rfl⟩ := zipD_get hd
            obtain ⟨vx, x2, x3⟩ := R1.get x1
            obtain ⟨vy, y2, y3⟩ := R2.get y1
            refine ⟨⟨ws1, ws2, vx, vy, A1, A2, x2, y2⟩, fun w H' yy => ?_⟩
            obtain ⟨Tq, x', y', rfl, hn, rfl, k1, k2⟩ := yy
            have := k1 ws1 A1
            rw [x2] at this
            cases this
            have := k2 ws2 A2
            rw [y2] at this
            cases this
            exact ⟨_, ok2.newF hn, new_tup ok2 hn (.cons x3 (.cons y3 .nil))⟩
          · rw [zipD_len] at hl
            have l1 := R1.length
            have l2 := R2.length
            exact ⟨ws1, ws2, A1, A2, by omega, by omega, by omega⟩
      · cases ez
end
end PI
end
section
/-! List comprehensions. -/
set_option linter.all false
set_option maxRecDepth 100000
set_option maxHeartbeats 1000000
namespace PI
open PySem PySem.Spec PyProof.Rows L2

section
variable {T : Tb} {K : PySem.W.Frag} {g ge : Gh} {H He : Hp} {h : Hh} {ρ : En} {σ : L2.St}
theorem wipeR_len (ρ : En) : ∀ vs : List Nat, (wipeR ρ vs).length = ρ.length
  | [] => rfl
  | v :: vs => by unfold wipeR; rw [List.length_set, wipeR_len ρ vs]
theorem wipeR_get (ρ : En) (vs : List Nat) (i : Nat) : (wipeR ρ vs)[i]? = if i ∈ vs ∧ i < ρ.length then some none else ρ[i]? := by
  induction vs with
  | nil => simp [wipeR]
  | cons v vs ih =>
    unfold wipeR
    by_cases hv : v = i
    · subst hv
      by_cases hl : v < ρ.length
      · rw [List.getElem?_set_self (by rw [wipeR_len]; exact hl)]
        simp [hl]
      · rw [List.getElem?_eq_none (by rw [List.length_set, wipeR_len]; omega)]
        simp [hl]
    · rw [List.getElem?_set_ne hv, ih]
      simp [Ne.symm hv]
theorem wipeR_some {vs : List Nat} {i : Nat} {s : Sl} (e : (wipeR ρ vs)[i]? = some (some s)) : ρ[i]? = some (some s) ∧ i ∉ vs := by
  rw [wipeR_get] at e
  split at e
  · cases e
  · rename_i hn
    refine ⟨e, fun z => hn ⟨z, ?_⟩⟩
    exact (List.getElem?_eq_some_iff.mp e).1
theorem EnOk.wipe (e : EnOk T K g ρ σ H) (vs : List Nat) : EnOk T K g (wipeR ρ vs) (L2.wipe σ vs) H where
  len := by rw [wipeR_len, wipe_length]; exact e.len
  sl := fun i s hi => by
    obtain ⟨h1, h2⟩ := wipeR_some hi
    obtain ⟨v, e1, e2⟩ := e.sl i s h1
    exact ⟨v, by rw [wipe_get, if_neg fun z => h2 z.1]; exact e1, e2⟩
  ap := fun i j o o' hij hi hj => by
    obtain ⟨h1, h2⟩ := wipeR_some hi
    obtain ⟨h3, h4⟩ := wipeR_some hj
    rw [wipe_get, if_neg fun z => h2 z.1, wipe_get, if_neg fun z => h4 z.1]
    exact e.ap i j o o' hij h1 h3
/-- a thing of one's own is written -/
theorem HeapOk.write {D : Addr} {o : HO} (ok : HeapOk T K g h H) (hm : D ∉ g.m) (hF : g.F D = none) (no : ∀ b, H D ≠ some (.own b)) : HeapOk T K g h (upd H D o) where
  fr := fun a u e => by
    have ne : a ≠ D := fun z => by rw [z, hF] at e; cases e
    rw [upd_ne ne]
    exact ok.fr a u e
  len := ok.len
  cell := fun n u a e1 e2 => by
    have ne : a ≠ D := fun z => hm (by rw [← z]; exact List.mem_of_getElem? e2)
    exact ThingAt.mono .refl (ok.cell n u a e1 e2) (upd_ne ne) fun dx e => by
      have nd : dx ≠ D := fun z => by rw [z] at e; exact no _ e
      rw [upd_ne nd]
      exact e
  nd := ok.nd
  dj := ok.dj
theorem Post.write {D : Addr} {o : HO} (po : Post T K ge He g h H) (hD : He D = none) (hm : D ∉ g.m) (hF : g.F D = none) (no : ∀ b, H D ≠ some (.own b)) : Post T K ge He g h (upd H D o) where
  le := po.le
  ok := po.ok.write hm hF no
  kp := fun a u e ha => by
    have ne : a ≠ D := fun z => by rw [z, hD] at e; cases e
    rw [upd_ne ne]
    exact po.kp a u e ha
  ce := fun a ha e => by
    by_cases ne : a = D
    · rw [ne, upd_same]
      simp
    · rw [upd_ne ne]
      exact po.ce a ha e
  nm := po.nm
  nF := po.nF
theorem HeapOk.out (ok : HeapOk T K g h H) {D : Addr} (e : H D = none) : D ∉ g.m ∧ g.F D = none := by
  refine ⟨fun z => ?_, ?_⟩
  · obtain ⟨n, u, _, _, t⟩ := ok.at_ z
    obtain ⟨w, ew⟩ := t.ex
    rw [e] at ew
    cases ew
  · cases q : g.F D with
    | none => rfl
    | some u =>
      have := ok.fr D u q
      rw [e] at this
      cases this
theorem Post.keep {g2 : Gh} {h2 : Hh} {H2 : Hp} {D : Addr} {u : HO} (p : Post T K g H g2 h2 H2) (e : H D = some u) (hm : D ∉ g.m) (hF : g.F D = none) : H2 D = some u ∧ D ∉ g2.m ∧ g2.F D = none := by
  refine ⟨p.kp D u e hm, fun z => ?_, ?_⟩
  · rw [p.nm D z hm] at e
    cases e
  · cases q : g2.F D with
    | none => rfl
    | some w =>
      rw [p.nF D w q hF] at e
      cases e
end
/-- what a comprehension's turns are to give -/
def CK (k : D → Hh → Prop) (acc : List D) : R (List D) → Prop
  | .ok ys h2 => sizeOk (acc ++ ys).length = true ∧ k (.lst (acc ++ ys)) h2
  | _ => False
abbrev noW : Wx := fun _ _ _ _ => False
theorem CK.step {k : D → Hh → Prop} {acc : List D} {m : R D} {f : D → Hh → R (List D)} {T : Tb} {K : PySem.W.Frag} {σ : L2.St} {g : Gh} {H : Hp} (c : CK k acc (m.bind fun x h2 => (f x h2).bind fun xs h3 => .ok (x :: xs) h3)) :
    Out T K noW σ g H m (fun x h2 => (acc.length < sizeLine) ∧ CK k (acc ++ [x]) (f x h2)) := by
  cases m with
  | ok x h2 =>
    have c : CK k acc ((f x h2).bind fun xs h3 => .ok (x :: xs) h3) := c
    show acc.length < sizeLine ∧ CK k (acc ++ [x]) (f x h2)
    cases q : f x h2 with
    | ok ys h3 =>
      rw [q] at c
      obtain ⟨c1, c2⟩ := (show sizeOk (acc ++ x :: ys).length = true ∧ k (.lst (acc ++ x :: ys)) h3 from c)
      refine ⟨?_, ?_⟩
      · have := sizeOk_le c1
        simp at this
        omega
      · show sizeOk (acc ++ [x] ++ ys).length = true ∧ k (.lst (acc ++ [x] ++ ys)) h3
        rw [List.append_assoc]
        exact ⟨c1, c2⟩
    | exc a b c' => rw [q] at c; exact c.elim
    | bad => rw [q] at c; exact c.elim
  | exc a b c' => exact c.elim
  | bad => exact c.elim
theorem CK.test {k : D → Hh → Prop} {acc : List D} {m : R Bool} {f1 f2 : Hh → R (List D)} {T : Tb} {K : PySem.W.Frag} {σ : L2.St} {g : Gh} {H : Hp} (c : CK k acc (m.bind fun b h1 => if b then f1 h1 else f2 h1)) :
    Out T K noW σ g H m (fun b h1 => CK k acc (if b then f1 h1 else f2 h1)) := by
  cases m with
  | ok x h2 => exact c
  | exc a b c' => exact c.elim
  | bad => exact c.elim
section
variable {T : Tb} {X : Cx} {W : Wx} {r : Ev} {n : Nat} {pos : Pos}
def lcF (r : Ev) (n : Nat) (e' : E) (t : Tg) (it : I) (c' : Option E) (ρ : En) (h : Hh) : R D :=
  (evI r it ρ h).bind fun ds h1 => match evC r n e' t c' (wipeR ρ (tgS t)) ds h1 with
    | .ok xs h2 => if sizeOk xs.length then .ok (.lst xs) h2 else .bad
    | _ => .bad
def optT (T : Tb) (K : PySem.W.Frag) (r : Ev) (n : Nat) : Option E → TT
  | none => tYes
  | some c => Rd T K noW (evT r n c) relB
theorem lc_main {kk : En → Gh → Hp → VK → D → Hh → Prop} {own : List (Str × Nat)} {e' : E} {t : Tg} {it : I} {c' : Option E} (ho : own.map (·.2) = tgS t)
    (fin : ∀ (ρ : En) (g0 : Gh) (H : Hp) (Q : VK) (g1 : Gh) (h1 : Hh) (H1 : Hp) (g : Gh) (h : Hh) (H2 : Hp) (Dd : Addr) (acc : List D) (av : List V), Post T X.K g0 H g1 h1 H1 → Post T X.K g1 H1 g h H2 → H2 Dd = some (.lst av) → Rls T X.K g.F g.m acc av → Dd ∉ g.m → g.F Dd = none → H1 Dd = none →
      kk ρ g0 H Q (.lst acc) h → Q (.ref Dd) H2)
    {σ : L2.St} {H : Hp} {Q : VK}
    (hh : ∃ g ρ h, Here T X.K g ρ h σ H ∧ Out T X.K W σ g H (lcF r n e' t it c' ρ h) (kk ρ g H Q)) :
    tLc (Rd T X.K W (evI r it) (relI T X.K fun ρ => cleanI ρ it)) (rdG T X.K t) (optT T X.K r n c') (Rd T X.K noW (r.e e') (relE T X.K)) (own.map (·.2)) σ H Q := by
  obtain ⟨g0, ρ, h0, a0, o⟩ := hh
  refine ⟨g0, ρ, h0, a0, (Out.bind o).imp fun xs h1 o1 g1 J H1 p1 itk Dd hDd => ?_⟩
  rw [ho]
  have a1 := a0.post p1
  obtain ⟨D1, D2⟩ := a1.ok.out hDd
  have c0 : CK (kk ρ g0 H Q) [] (evC r n e' t c' (wipeR ρ (tgS t)) xs h1) := by
    cases q : evC r n e' t c' (wipeR ρ (tgS t)) xs h1 with
    | ok ys h2 =>
      simp only [q] at o1
      by_cases hz : sizeOk ys.length = true
      · rw [if_pos hz] at o1
        exact ⟨hz, o1⟩
      · rw [if_neg hz] at o1
        exact o1.elim
    | exc a b c => simp only [q] at o1; exact o1.elim
    | bad => simp only [q] at o1; exact o1.elim
  have sinc : ∀ {g h2 H2}, Post T X.K g1 H1 g h2 H2 → Since T X.K (cleanI ρ it) g1 H1 g H2 := fun {g h2 H2} p => by
    unfold Since
    split
    · exact p.le
    · exact ⟨h2, p⟩
  let WW : Nat → Nat → Hp → Prop := fun i m H2 => ∃ (g : Gh) (h : Hh) (acc : List D) (av : List V), Post T X.K g1 H1 g h H2 ∧ H2 Dd = some (.lst av) ∧ Rls T X.K g.F g.m acc av ∧ Dd ∉ g.m ∧ g.F Dd = none ∧ m = xs.length - i ∧ i ≤ xs.length ∧
    CK (kk ρ g0 H Q) acc (evC r n e' t c' (wipeR ρ (tgS t)) (xs.drop i) h)
  refine ⟨WW, ⟨xs.length, g1, h1, [], [], a1.ok.newO hDd, upd_same, .nil, D1, D2, by simp, Nat.zero_le _, c0⟩, fun i m H2 w => ?_⟩
  obtain ⟨g, h, acc, av, p, eD, rac, nm, nF, em, hle, ck⟩ := w
  have itn := itk g h H2 p.ok (sinc p) i
  by_cases hlt : i < xs.length
  · obtain ⟨go, yl⟩ := itn.1 _ (List.getElem?_eq_getElem hlt)
    refine .inr ⟨go, fun H' => WW (i + 1) (xs.length - (i + 1)) H', fun H' w => ⟨_, by omega, w⟩, fun x H' y => ?_⟩
    obtain ⟨g', p', rx⟩ := yl x H' y
    have pp := p.trans p'
    obtain ⟨eD', nm', nF'⟩ := p'.keep eD nm nF
    rw [List.drop_eq_getElem_cons hlt] at ck
    unfold evC at ck
    cases eb : bindTg t xs[i] (wipeR ρ (tgS t)) with
    | none => rw [eb] at ck; exact ck.elim
    | some ρ1 =>
      rw [eb] at ck
      refine ⟨g', h, _, _, ρ1, pp.ok, rx, eb, fun σ1 as => ⟨as.wipe fun i hi => hi, ?_⟩⟩
      have here : Here T X.K g' ρ1 h σ1 H' := ⟨pp.ok, as.en ((a1.post pp).en.wipe _)⟩
      -- an item
      have one : ∀ (g2 : Gh) (h2 : Hh) (H2' : Hp), Post T X.K g' H' g2 h2 H2' → CK (kk ρ g0 H Q) acc ((r.e e' ρ1 h2).bind fun x h2 => (evC r n e' t c' (wipeR ρ (tgS t)) (xs.drop (i + 1)) h2).bind fun xs h3 => .ok (x :: xs) h3) →
          Rd T X.K noW (r.e e') (relE T X.K) σ1 H2' (fun y H4 => ∃ acc, H4 Dd = some (.lst acc) ∧ acc.length < sizeLine ∧ WW (i + 1) (xs.length - (i + 1)) (upd H4 Dd (.lst (acc ++ [y])))) := fun g2 h2 H2' p2 ck2 => by
        refine ⟨g2, ρ1, h2, here.post p2, (CK.step ck2).imp fun y h3 hk g4 yv H4 p4 ry => ?_⟩
        obtain ⟨e2, m2, f2⟩ := p2.keep eD' nm' nF'
        obtain ⟨e4, m4, f4⟩ := p4.keep e2 m2 f2
        have rac4 := ((rac.mono p'.le.s p'.le.p _).mono p2.le.s p2.le.p _).mono p4.le.s p4.le.p _
        refine ⟨av, e4, by rw [rac.length]; exact hk.1, g4, h3, acc ++ [y], av ++ [yv], ?_, upd_same, rac4.append (.cons ry .nil), m4, f4, rfl, hlt, hk.2⟩
        exact ((pp.trans p2).trans p4).write hDd m4 f4 fun b z => by rw [e4] at z; cases z
      have skip : ∀ (g2 : Gh) (h2 : Hh) (H2' : Hp), Post T X.K g' H' g2 h2 H2' → CK (kk ρ g0 H Q) acc (evC r n e' t c' (wipeR ρ (tgS t)) (xs.drop (i + 1)) h2) → WW (i + 1) (xs.length - (i + 1)) H2' := fun g2 h2 H2' p2 ck2 => by
        obtain ⟨e2, m2, f2⟩ := p2.keep eD' nm' nF'
        exact ⟨g2, h2, acc, av, pp.trans p2, e2, (rac.mono p'.le.s p'.le.p _).mono p2.le.s p2.le.p _, m2, f2, rfl, hlt, ck2⟩
      cases c' with
      | none =>
        simp only [optT, tYes, if_true]
        exact one g' h H' (.refl pp.ok) ck
      | some c =>
        refine ⟨g', ρ1, h, here, (CK.test ck).imp fun b h2 ck2 g2 b2 H2' p2 rb => ?_⟩
        cases rb
        cases b with
        | true => exact one g2 h2 H2' p2 ck2
        | false => exact skip g2 h2 H2' p2 ck2
  · have e : i = xs.length := by omega
    subst e
    refine .inl ⟨itn.2 rfl, ?_⟩
    rw [List.drop_length] at ck
    unfold evC at ck
    obtain ⟨_, c2⟩ := (show sizeOk (acc ++ ([] : List D)).length = true ∧ kk ρ g0 H Q (.lst (acc ++ ([] : List D))) h from ck)
    rw [List.append_nil] at c2
    exact fin ρ g0 H Q g1 h1 H1 g h H2 Dd acc av p1 p eD rac nm nF hDd c2
end
/-- a new thing, as a name may hold it alone -/
def KO (T : Tb) (K : PySem.W.Frag) (g : Gh) (H : Hp) (Q : VK) : D → Hh → Prop := fun d h' => ∀ o, oOf d = some o → ∀ (g' : Gh) (a : Addr) (H' : Hp), Post T K g H g' h' H' → ThingAt T K g' H' a o → a ∉ g'.m → g'.F a = none → H a = none →
  (∀ C dx gs, H' a = some (.ins C dx gs) → H dx = none) → Q (.ref a) H'
def RdN (T : Tb) (K : PySem.W.Frag) (W : Wx) (ee : En → Hh → R D) : TE := fun σ H Q => ∃ g ρ h, Here T K g ρ h σ H ∧ Out T K W σ g H (ee ρ h) (KO T K g H Q)
section
variable {T : Tb} {X : Cx} {W : Wx} {r : Ev} {n : Nat} {pos : Pos} {elt tg iter : Expr} {ifs : List Expr} {scope : Scope} {own : List (Str × Nat)} {e' : E} {t : Tg} {it : I} {c' : Option E}
theorem lc_val (ho : own.map (·.2) = tgS t) {σ : L2.St} {H : Hp} {Q : VK} (hh : Rd T X.K W (lcF r n e' t it c') (relE T X.K) σ H Q) :
    tLc (Rd T X.K W (evI r it) (relI T X.K fun ρ => cleanI ρ it)) (rdG T X.K t) (optT T X.K r n c') (Rd T X.K noW (r.e e') (relE T X.K)) (own.map (·.2)) σ H Q :=
  lc_main (kk := fun ρ g H Q => KK T X.K (relE T X.K) ρ g H Q) ho (fun ρ g0 H Q g1 h1 H1 g h H2 Dd acc av p1 p eD rac nm nF hDd c2 => by
    obtain ⟨F', y1, y2, y3, _⟩ := freeze (o := .lst acc) p ⟨av, eD, rac⟩ nm nF hDd fun C dx gs z => by rw [eD] at z; cases z
    exact c2 ⟨F', g.m⟩ _ H2 (p1.trans y1) y3) hh
theorem lc_own (ho : own.map (·.2) = tgS t) {σ : L2.St} {H : Hp} {Q : VK} (hh : RdN T X.K W (lcF r n e' t it c') σ H Q) :
    tLc (Rd T X.K W (evI r it) (relI T X.K fun ρ => cleanI ρ it)) (rdG T X.K t) (optT T X.K r n c') (Rd T X.K noW (r.e e') (relE T X.K)) (own.map (·.2)) σ H Q :=
  lc_main (kk := fun ρ g H Q => KO T X.K g H Q) ho (fun ρ g0 H Q g1 h1 H1 g h H2 Dd acc av p1 p eD rac nm nF hDd c2 =>
    c2 (.lst acc) rfl g Dd H2 (p1.trans p) ⟨av, eD, rac⟩ nm nF (p1.there hDd) fun C dx gs z => by rw [eD] at z; cases z) hh
theorem pe_lcR (hc : X.calm = true) (hN : X.N.Nodup) (hi : PI X tg iter (Rd T X.K W (evI r it) (relI T X.K fun ρ => cleanI ρ it))) (ok : BlkOk X.N X.env.scope scope own) (ho : own.map (·.2) = tgS t)
    (hg : ∀ (s : Shared) (H : Hp) (C : Addr) (cl : List (Str × Addr)) (fp : List Addr), PG (X.blk s H scope (compEnvC scope cl C X.env) fp) tg (rdG T X.K t))
    (ht : ∀ (s : Shared) (H : Hp) (C : Addr) (cl : List (Str × Addr)) (fp : List Addr), PTs (X.blk s H scope (compEnvC scope cl C X.env) fp) ifs (optT T X.K r n c'))
    (he : ∀ (s : Shared) (H : Hp) (C : Addr) (cl : List (Str × Addr)) (fp : List Addr), PE (X.blk s H scope (compEnvC scope cl C X.env) fp) elt (Rd T X.K noW (r.e e') (relE T X.K))) (hs : ∀ x, foldedSetIterable iter X.env x = pure x) :
    PE X (.ListComp elt [⟨tg, iter, ifs, 0⟩] scope pos) (Rd T X.K W (lcF r n e' t it c') (relE T X.K)) := PE.imp (pe_lc hc hN hi ok hg ht he hs) fun σ H Q hh => lc_val ho hh
theorem pe_lcN (hc : X.calm = true) (hN : X.N.Nodup) (hi : PI X tg iter (Rd T X.K W (evI r it) (relI T X.K fun ρ => cleanI ρ it))) (ok : BlkOk X.N X.env.scope scope own) (ho : own.map (·.2) = tgS t)
    (hg : ∀ (s : Shared) (H : Hp) (C : Addr) (cl : List (Str × Addr)) (fp : List Addr), PG (X.blk s H scope (compEnvC scope cl C X.env) fp) tg (rdG T X.K t))
    (ht : ∀ (s : Shared) (H : Hp) (C : Addr) (cl : List (Str × Addr)) (fp : List Addr), PTs (X.blk s H scope (compEnvC scope cl C X.env) fp) ifs (optT T X.K r n c'))
    (he : ∀ (s : Shared) (H : Hp) (C : Addr) (cl : List (Str × Addr)) (fp : List Addr), PE (X.blk s H scope (compEnvC scope cl C X.env) fp) elt (Rd T X.K noW (r.e e') (relE T X.K))) (hs : ∀ x, foldedSetIterable iter X.env x = pure x) :
    PE X (.ListComp elt [⟨tg, iter, ifs, 0⟩] scope pos) (RdN T X.K W (lcF r n e' t it c')) := PE.imp (pe_lc hc hN hi ok hg ht he hs) fun σ H Q hh => lc_own ho hh
/-- a written list -/
theorem pe_lstN {es : List Expr} {its : List It} (ha : PA X es (Rd T X.K W (evIts r its) (relEs T X.K))) : PE X (.List es pos) (RdN T X.K W (fun ρ h => (evIts r its ρ h).bind fun ds h1 => if sizeOk ds.length then .ok (.lst ds) h1 else .bad)) :=
  PE.imp (pe_lst ha) fun σ H Q hh => by
    obtain ⟨g, ρ, h, a, o⟩ := hh
    refine ⟨g, ρ, h, a, (Out.bind o).imp fun ds h1 o1 g1 vs H1 p1 rd => ?_⟩
    have a1 := a.post p1
    by_cases hz : sizeOk ds.length = true
    · rw [if_pos hz] at o1
      refine ⟨by rw [rd.length]; exact sizeOk_le hz, fun q hq => ?_⟩
      obtain ⟨q1, q2⟩ := a1.ok.out hq
      have po := a1.ok.newO (o := .lst vs) hq
      exact o1 (.lst ds) rfl g1 q _ (p1.trans po) ⟨vs, upd_same, rd⟩ q1 q2 (p1.there hq) fun C dx gs z => by rw [upd_same] at z; cases z
    · rw [if_neg hz] at o1
      exact o1.elim
end
end PI
end
section
/-! Statements: names, cells, own lists, loops. -/
set_option linter.all false
set_option maxRecDepth 100000
set_option maxHeartbeats 1000000
namespace PI
open PySem PySem.Spec PyProof.Rows L2

section
variable {T : Tb} {X : Cx} {W : Wx} {ini : Bool} {e : Expr} {ee : En → Hh → R D} {pos : Pos} {x : Str} {i : Nat} {pos' : Pos}
theorem zin {ini : Bool} {z : Option V} {l : List Nat} (hz : ini = false → z = none) (hi : ini = true → 0 ∉ l) : z = none ∨ 0 ∉ l := by
  cases ini with
  | false => exact .inl (hz rfl)
  | true => exact .inr (hi rfl)
/-- name = value -/
theorem set_read {te : TE} (hi0 : ini = true → i ≠ 0) {D : Ends} {σ : L2.St} {H : Hp} (hh : rdS T X.K W ini (fun ρ h => (ee ρ h).toS ρ fun d h1 => .nx (setN ρ i d) h1) D σ H) : Rd T X.K W ee (relE T X.K) σ H (fun v H1 => D.nx (σ.set i (some v)) H1) := by
  obtain ⟨ge, He, z, g, ρ, h, hz, a, o⟩ := hh
  refine rdS_of a o fun g' d v h' H' a' r o' => ?_
  exact o' g' _ H' .refl ((Asg.cons r .nil).here a' (zin hz fun hi => by simpa using (hi0 hi).symm))
theorem ps_setR (hN : X.N.Nodup) (hi : X.N[i]? = some x) (hx : Loc X.env.scope x) (he : PE X e (Rd T X.K W ee (relE T X.K))) (hs : swapsWith e (some (.Name x pos')) pos.line X.env = pure false) (hf : X.fn x = true ∨ X.env.scope.names.lookup x = some .local) (hi0 : ini = true → i ≠ 0) :
    PS X (.Assign [.Name x pos'] e pos) (rdS T X.K W ini fun ρ h => (ee ρ h).toS ρ fun d h1 => .nx (setN ρ i d) h1) :=
  PS.imp (ps_set hN hi hx he hs hf) fun D σ H hh => set_read (te := Rd T X.K W ee (relE T X.K)) hi0 hh
/-- name = a new thing, held alone -/
theorem own_read (hi0 : ini = true → i ≠ 0) {D : Ends} {σ : L2.St} {H : Hp} (hh : rdS T X.K W ini (fun ρ h => (ee ρ h).toS ρ fun d h1 => match oOf d with | some o => .nx (ρ.set i (some (.own o))) h1 | none => .bad) D σ H) :
    RdN T X.K W ee σ H (fun v H1 => D.nx (σ.set i (some v)) H1) := by
  obtain ⟨ge, He, z, g, ρ, h, hz, a, o⟩ := hh
  refine ⟨g, ρ, h, a.hr, (toS_out a o).imp fun d h1 o1 ob eo g' b H' p th hm hF hn hdx => ?_⟩
  rw [eo] at o1
  have a' := a.post p
  refine o1 g' _ H' p.le ⟨⟨a'.hr.ok, ⟨?_, fun j s hj => ?_, fun j k o1 o2 hjk hj hk => ?_⟩⟩, a'.po, fun j o2 hj c hc => ?_, fun v ev => ?_⟩
  · rw [List.length_set, List.length_set]
    exact a'.hr.en.len
  · by_cases hij : i = j
    · subst hij
      have hl : i < ρ.length := by
        have := (List.getElem?_eq_some_iff.mp hj).1
        rw [List.length_set] at this
        exact this
      rw [List.getElem?_set_self hl] at hj
      cases hj
      exact ⟨.ref b, by rw [List.getElem?_set_self (by rw [← a'.hr.en.len]; exact hl)], b, rfl, th, hm, hF⟩
    · rw [List.getElem?_set_ne hij] at hj
      rw [List.getElem?_set_ne hij]
      exact a'.hr.en.sl j s hj
  · -- a new thing is no other's
    have new : ∀ (k : Nat) (o2 : O), k ≠ i → ρ[k]? = some (some (.own o2)) → σ[k]? ≠ some (some (.ref b)) := fun k o2 hk ek es => by
      obtain ⟨v, e1, c, ev, t, _⟩ := a.hr.en.sl k _ ek
      rw [es] at e1
      cases e1
      cases ev
      obtain ⟨u, hu⟩ := t.ex
      rw [hn] at hu
      cases hu
    by_cases hij : i = j
    · subst hij
      have hl : i < ρ.length := by
        have := (List.getElem?_eq_some_iff.mp hj).1
        rw [List.length_set] at this
        exact this
      rw [List.getElem?_set_self (by rw [← a'.hr.en.len]; exact hl), List.getElem?_set_ne hjk]
      rw [List.getElem?_set_ne hjk] at hk
      exact fun q => new k o2 (Ne.symm hjk) hk q.symm
    · rw [List.getElem?_set_ne hij] at hj ⊢
      by_cases hik : i = k
      · subst hik
        have hl : i < ρ.length := by
          have := (List.getElem?_eq_some_iff.mp hk).1
          rw [List.length_set] at this
          exact this
        rw [List.getElem?_set_self (by rw [← a'.hr.en.len]; exact hl)]
        exact new j o1 (Ne.symm hij) hj
      · rw [List.getElem?_set_ne hik] at hk ⊢
        exact a'.hr.en.ap j k o1 o2 hjk hj hk
  · by_cases hij : i = j
    · subst hij
      have hl : i < ρ.length := by
        have := (List.getElem?_eq_some_iff.mp hj).1
        rw [List.length_set] at this
        exact this
      rw [List.getElem?_set_self (by rw [← a'.hr.en.len]; exact hl)] at hc
      cases hc
      exact ⟨a.po.there hn, fun C dx gs e2 => a.po.there (hdx C dx gs e2)⟩
    · rw [List.getElem?_set_ne hij] at hj hc
      exact a'.ow j o2 hj c hc
  · have ne : i ≠ 0 := by
      cases ini with
      | false => rw [hz rfl] at ev; cases ev
      | true => exact hi0 rfl
    rw [List.getElem?_set_ne ne]
    exact a'.kz v ev
theorem ps_ownR (hN : X.N.Nodup) (hi : X.N[i]? = some x) (hx : Loc X.env.scope x) (he : PE X e (RdN T X.K W ee)) (hs : swapsWith e (some (.Name x pos')) pos.line X.env = pure false) (hf : X.fn x = true ∨ X.env.scope.names.lookup x = some .local) (hi0 : ini = true → i ≠ 0) :
    PS X (.Assign [.Name x pos'] e pos) (rdS T X.K W ini fun ρ h => (ee ρ h).toS ρ fun d h1 => match oOf d with | some o => .nx (ρ.set i (some (.own o))) h1 | none => .bad) :=
  PS.imp (ps_set hN hi hx he hs hf) fun D σ H hh => own_read hi0 hh
/-- a thing that changes no more -/
theorem frz_read {ss : En → Hh → RS} {D : Ends} {σ : L2.St} {H : Hp} (hh : rdS T X.K W ini (fun ρ h => match (match ρ[i]? with
      | some (some (.own o)) => RS.nx (setN ρ i o.d) h
      | some (some (.val d)) => .nx ρ h
      | _ => .bad) with | .nx ρ1 h1 => ss ρ1 h1 | x => x) D σ H) : rdS T X.K W ini ss D σ H := by
  obtain ⟨ge, He, z, g, ρ, h, hz, a, o⟩ := hh
  dsimp only at o
  cases q : ρ[i]? with
  | none => rw [q] at o; exact False.elim o
  | some s0 =>
    cases s0 with
    | none => rw [q] at o; exact False.elim o
    | some s1 =>
    cases s1 with
    | val d =>
      rw [q] at o
      exact ⟨ge, He, z, g, _, h, hz, a, o⟩
    | own ob =>
      rw [q] at o
      obtain ⟨v, e1, b, ev, t, hm, hF⟩ := a.hr.en.sl i _ q
      subst ev
      obtain ⟨w1, w2⟩ := a.ow i _ q b e1
      obtain ⟨F', y1, y2, y3, y4⟩ := freeze a.po t hm hF w1 w2
      have hl : i < ρ.length := (List.getElem?_eq_some_iff.mp q).1
      refine ⟨ge, He, z, ⟨F', g.m⟩, _, h, hz, ⟨⟨y1.ok, ⟨?_, fun j s hj => ?_, fun j k o1 o2 hjk hj hk => ?_⟩⟩, y1, fun j o2 hj c hc => ?_, a.kz⟩, OutS.le (g := g) (g' := ⟨F', g.m⟩) ⟨y2, .refl⟩ o⟩
      · unfold setN
        rw [List.length_set]
        exact a.hr.en.len
      · unfold setN at hj
        by_cases hij : i = j
        · subst hij
          rw [List.getElem?_set_self hl] at hj
          cases hj
          exact ⟨_, e1, y3⟩
        · rw [List.getElem?_set_ne hij] at hj
          obtain ⟨u, e2, e3⟩ := a.hr.en.sl j s hj
          refine ⟨u, e2, ?_⟩
          cases s with
          | val d => exact Rl.mono y2 .refl d e3
          | own o3 =>
            obtain ⟨c, ec, t3, m3, f3⟩ := e3
            refine ⟨c, ec, ThingAt.mono (g := g) (g' := ⟨F', g.m⟩) ⟨y2, .refl⟩ t3 rfl fun _ e => e, m3, y4 c f3 (fun q2 => ?_) fun c2 => t3.notOwn⟩
            have := a.hr.en.ap i j ob o3 hij q hj
            rw [e1, e2, ec, q2] at this
            exact this rfl
      · unfold setN at hj hk
        have nj : i ≠ j := fun q2 => by
          subst q2
          rw [List.getElem?_set_self hl] at hj
          cases hj
        have nk : i ≠ k := fun q2 => by
          subst q2
          rw [List.getElem?_set_self hl] at hk
          cases hk
        rw [List.getElem?_set_ne nj] at hj
        rw [List.getElem?_set_ne nk] at hk
        exact a.hr.en.ap j k o1 o2 hjk hj hk
      · unfold setN at hj
        have nj : i ≠ j := fun q2 => by
          subst q2
          rw [List.getElem?_set_self hl] at hj
          cases hj
        rw [List.getElem?_set_ne nj] at hj
        exact a.ow j o2 hj c hc
end
end PI
end
section
/-! Statements: own lists, cells, pairs of names, loops. -/
set_option linter.all false
set_option maxRecDepth 100000
set_option maxHeartbeats 1000000
namespace PI
open PySem PySem.Spec PyProof.Rows L2

section
variable {T : Tb} {X : Cx} {W : Wx} {ini : Bool} {e a b c : Expr} {r : Ev} {e' a' b' c' : E} {pos : Pos} {x : Str} {i : Nat} {pos' apos cpos : Pos}
variable {K : PySem.W.Frag} {g ge : Gh} {H He : Hp} {h : Hh} {ρ : En} {σ : L2.St} {z : Option V}
/-- a thing that a name holds alone is written -/
theorem HereS.write (hr : HereS T K ge He z g ρ h σ H) {o o' : O} {p : Addr} {u : HO} (hi : ρ[i]? = some (some (.own o))) (hs : σ[i]? = some (some (.ref p))) (th : ThingAt T K g (upd H p u) p o') (hd : ∀ C dx gs, u = .ins C dx gs → He dx = none) :
    HereS T K ge He z g (ρ.set i (some (.own o'))) h σ (upd H p u) := by
  obtain ⟨v, e1, p', ev, t, hm, hF⟩ := hr.hr.en.sl i _ hi
  rw [hs] at e1
  cases e1
  cases ev
  have hl : i < ρ.length := (List.getElem?_eq_some_iff.mp hi).1
  have hp := (hr.ow i o hi p hs).1
  have po := hr.po.write (o := u) hp hm hF fun b => t.notOwn
  have oth : ∀ (j : Nat) (o2 : O) (q : Addr), i ≠ j → ρ[j]? = some (some (.own o2)) → σ[j]? = some (some (.ref q)) → q ≠ p := fun j o2 q hij ej es zz => by
    have := hr.hr.en.ap i j o o2 hij hi ej
    rw [hs, es, zz] at this
    exact this rfl
  refine ⟨⟨po.ok, ⟨by rw [List.length_set]; exact hr.hr.en.len, fun j s hj => ?_, fun j k o1 o2 hjk hj hk => ?_⟩⟩, po, fun j o2 hj q hq => ?_, hr.kz⟩
  · by_cases hij : i = j
    · subst hij
      rw [List.getElem?_set_self hl] at hj
      cases hj
      exact ⟨_, hs, p, rfl, th, hm, hF⟩
    · rw [List.getElem?_set_ne hij] at hj
      obtain ⟨w, e2, e3⟩ := hr.hr.en.sl j s hj
      refine ⟨w, e2, ?_⟩
      cases s with
      | val d => exact e3
      | own o3 =>
        obtain ⟨q, ew, t3, m3, f3⟩ := e3
        subst ew
        have ne := oth j o3 q hij hj e2
        refine ⟨q, rfl, ThingAt.mono .refl t3 (upd_ne ne) (fun dx e4 => ?_), m3, f3⟩
        have nd : dx ≠ p := fun zz => by rw [zz] at e4; exact t.notOwn e4
        rw [upd_ne nd]
        exact e4
  · have pre : ∀ (k : Nat) (o2 : O), (ρ.set i (some (.own o')))[k]? = some (some (.own o2)) → ∃ o3, ρ[k]? = some (some (.own o3)) := fun k o2 hk => by
      by_cases hik : i = k
      · subst hik
        exact ⟨o, hi⟩
      · rw [List.getElem?_set_ne hik] at hk
        exact ⟨o2, hk⟩
    obtain ⟨o3, h3⟩ := pre j o1 hj
    obtain ⟨o4, h4⟩ := pre k o2 hk
    exact hr.hr.en.ap j k o3 o4 hjk h3 h4
  · by_cases hij : i = j
    · subst hij
      rw [hs] at hq
      cases hq
      refine ⟨hp, fun C dx gs e2 => ?_⟩
      rw [upd_same] at e2
      exact hd C dx gs (Option.some.inj e2)
    · rw [List.getElem?_set_ne hij] at hj
      obtain ⟨w1, w2⟩ := hr.ow j o2 hj q hq
      have ne := oth j o2 q hij hj hq
      refine ⟨w1, fun C dx gs e2 => w2 C dx gs ?_⟩
      rw [upd_ne ne] at e2
      exact e2
/-- a cell is written -/
theorem HereS.cell (hr : HereS T K ge He z g ρ h σ H) {n : Nat} {o o' : O} {p : Addr} {u : HO} (hn : h[n]? = some o) (hm : g.m[n]? = some p) (th : ThingAt T K g (upd H p u) p o') : HereS T K ge He z g ρ (h.set n o') σ (upd H p u) := by
  have ok := hr.hr.ok
  have t := ok.cell n o p hn hm
  have hmem : p ∈ g.m := List.mem_of_getElem? hm
  have hF := ok.dj p hmem
  have hl : n < h.length := (List.getElem?_eq_some_iff.mp hn).1
  have own : ∀ (q : Addr) (o2 : O), q ≠ p → ThingAt T K g H q o2 → ThingAt T K g (upd H p u) q o2 := fun q o2 ne t2 => ThingAt.mono .refl t2 (upd_ne ne) fun dx e4 => by
    have nd : dx ≠ p := fun zz => by rw [zz] at e4; exact t.notOwn e4
    rw [upd_ne nd]
    exact e4
  have ok2 : HeapOk T K g (h.set n o') (upd H p u) := by
    refine ⟨fun q w e => ?_, by rw [List.length_set]; exact ok.len, fun k o2 q e1 e2 => ?_, ok.nd, ok.dj⟩
    · have ne : q ≠ p := fun zz => by rw [zz, hF] at e; cases e
      rw [upd_ne ne]
      exact ok.fr q w e
    · by_cases hk : n = k
      · subst hk
        rw [List.getElem?_set_self hl] at e1
        cases e1
        rw [hm] at e2
        cases e2
        exact th
      · rw [List.getElem?_set_ne hk] at e1
        have ne : q ≠ p := fun zz => by
          subst zz
          exact hk ((List.getElem?_inj (List.getElem?_eq_some_iff.mp hm).1 ok.nd).mp (hm.trans e2.symm))
        exact own q o2 ne (ok.cell k o2 q e1 e2)
  refine ⟨⟨ok2, ⟨hr.hr.en.len, fun j s hj => ?_, hr.hr.en.ap⟩⟩, ⟨hr.po.le, ok2, fun q w e hq => ?_, fun q hq e => ?_, hr.po.nm, hr.po.nF⟩, fun j o2 hj q hq => ?_, hr.kz⟩
  · obtain ⟨w, e2, e3⟩ := hr.hr.en.sl j s hj
    refine ⟨w, e2, ?_⟩
    cases s with
    | val d => exact e3
    | own o3 =>
      obtain ⟨q, ew, t3, m3, f3⟩ := e3
      exact ⟨q, ew, own q o3 (fun zz => m3 (zz ▸ hmem)) t3, m3, f3⟩
  · have ne : q ≠ p := fun zz => by
      subst zz
      have := hr.po.nm q hmem hq
      rw [e] at this
      cases this
    rw [upd_ne ne]
    exact hr.po.kp q w e hq
  · by_cases ne : q = p
    · rw [ne, upd_same]
      simp
    · rw [upd_ne ne]
      exact hr.po.ce q hq e
  · obtain ⟨w1, w2⟩ := hr.ow j o2 hj q hq
    obtain ⟨w, e2, p', ew, t3, m3, f3⟩ := hr.hr.en.sl j _ hj
    rw [hq] at e2
    cases e2
    cases ew
    have ne : q ≠ p := fun zz => m3 (zz ▸ hmem)
    refine ⟨w1, fun C dx gs e4 => w2 C dx gs ?_⟩
    rw [upd_ne ne] at e4
    exact e4
theorem blt_lt {a b : Nat} (e : Nat.blt a b = true) : a < b := Nat.le_of_ble_eq_true e
/-- x.append(e) -/
theorem ps_appR (hN : X.N[i]? = some x) (hv : Vis X.env.scope x) (hd : (x == ("__debug__" : Str)) = false) (hcd : (x == ("__classdict__" : Str)) = false) (he : PE X e (Rd T X.K W (r.e e') (relE T X.K))) (hs : starEach [e] X.env = [(false, eval e X.env)])
    (hbase : attributeBase (.Name x pos') "append" X.env (eval (.Name x pos') X.env) = eval (.Name x pos') X.env) (hline : (apos.endLine == cpos.line) = true) :
    PS X (.Expr (.Call (.Attribute (.Name x pos') "append" apos) [e] [] cpos) pos) (rdS T X.K W ini fun ρ h => match ρ[i]? with
      | some (some (.own (.lst xs))) => (r.e e' ρ h).toS ρ fun d h1 => if Nat.blt xs.length line then .nx (ρ.set i (some (.own (.lst (xs ++ [d]))))) h1 else .bad
      | _ => .bad) :=
  PS.imp (ps_expr (pe_bm PySem.F.plainAttrs_list PySem.F.slot_list_append PySem.F.type_list_append mt_append (pe_var hN hv hd hcd) (pa_cons he pa_nil hs) hbase (by rw [hs]; rfl) hline hs rfl) rfl) fun D σ H hh => by
    obtain ⟨ge, He, z, g, ρ, h, hz, a, o⟩ := hh
    dsimp only at o
    split at o
    · rename_i xs q
      obtain ⟨v, e1, p, ev, t, hm, hF⟩ := a.hr.en.sl i _ q
      subst ev
      obtain ⟨vs, t1, t2⟩ := id t
      refine ⟨.ref p, e1, .inl ⟨rfl, vs, .of t1⟩, ?_⟩
      refine rdS_of a o fun g' d v h' H' a' rd o' => ?_
      by_cases hb : Nat.blt xs.length line = true
      · rw [if_pos hb] at o'
        obtain ⟨w, e2, p2, ev, t', hm', hF'⟩ := a'.hr.en.sl i _ q
        rw [e1] at e2
        cases e2
        cases ev
        obtain ⟨us, t3, t4⟩ := id t'
        refine ⟨p, us, v, rfl, rfl, t3, ?_, ?_⟩
        · have := blt_lt hb
          have hl : sizeLine = line := sizeLine_eq
          rw [t4.length]
          omega
        · exact o' g' σ _ .refl (a'.write q e1 ⟨_, upd_same, t4.append (.cons rd .nil)⟩ fun C dx gs zz => by cases zz)
      · rw [if_neg hb] at o'
        exact o'.elim
    · exact o.elim
/-- a[i] = e, of a cell -/
theorem ps_setIR (he : PE X e (Rd T X.K W (r.e e') (relE T X.K))) (ha : PE X a (Rd T X.K W (r.e a') (relE T X.K))) (hb : PE X b (Rd T X.K W (r.e b') (relE T X.K)))
    (hasg : ∀ v, assign (.Subscript a b pos') X.env v = (do
      let ov ← holding [v] (eval a X.env)
      let iv ← holding [v, ov] (eval b X.env)
      standAt pos'
      holding [v, ov, iv] (setItem ov iv v)
      release [v, ov, iv] [])) (hs : swapsWithSole [.Subscript a b pos'] e pos.line X.env = pure false) (hw : swappedStores [.Subscript a b pos'] e X.env = pure none)
    (h1 : (assignEach [.Subscript a b pos'] X.env).map (·.2) = [assign (.Subscript a b pos') X.env]) :
    PS X (.Assign [.Subscript a b pos'] e pos) (rdS T X.K W ini fun ρ h => (r.e e' ρ h).toS ρ fun x h1 => (r.e a' ρ h1).toS ρ fun d h2 => (r.e b' ρ h2).toS ρ fun k h3 => match putI d k x h3 with
      | some h4 => .nx ρ h4
      | none => .bad) :=
  PS.imp (ps_asg he (pg_sub ha hb set_list hasg) hs hw h1) fun D σ H hh => by
    obtain ⟨ge, He, z, g, ρ, h, hz, s, o⟩ := hh
    refine rdS_of s o fun g1 x v1 h1 H1 s1 r1 o1 => ?_
    refine rdS_ofL s1 o1 fun g2 d v2 h2 H2 s2 l2 r2 o2 => ?_
    refine ⟨g2, ρ, h2, s2.hr, (toS_out s2 o2).imp fun k h3 o3 g3 v3 H3 p3 r3 => ?_⟩
    have s3 := s2.post p3
    have r2' : Rl T X.K g3.F g3.m d v2 := r2.mono p3.le.s p3.le.p _
    cases q : putI d k x h3 with
    | none => rw [q] at o3; exact o3.elim
    | some h4 =>
      rw [q] at o3
      unfold putI at q
      split at q
      · rename_i n kk
        split at q
        · rename_i xs en
          split at q
          · rename_i j ej
            cases q
            cases r2' with
            | ref em =>
              rename_i p
              cases r3
              obtain ⟨vs, t1, t2⟩ := s3.hr.ok.cell n _ p en em
              refine ⟨p, vs, kk, j, rfl, rfl, t1, ?_, ?_⟩
              · rw [t2.length]
                exact ej
              · exact o3 g3 σ _ p3.le (s3.cell en em ⟨_, upd_same, t2.set j ((r1.mono l2.s l2.p _).mono p3.le.s p3.le.p _)⟩)
          · cases q
        · cases q
      · cases q
/-! ### two, three names at once -/
theorem ps_par2R {i j : Nat} {y : Str} {px py pt : Pos} {kt k2 : Nat} {pt2 : Pos} {its : List It} (hc : X.calm = true) (hN : X.N.Nodup) (hi : X.N[i]? = some x) (hj : X.N[j]? = some y) (hij : i ≠ j) (hx : X.env.scope.names.lookup x = some .local) (hy : X.env.scope.names.lookup y = some .local)
    (ha : PA X [a, b] (Rd T X.K W (evIts r its) (relEs T X.K))) (hw : swappedStores [.Tuple [.Name x px, .Name y py] kt pt] (.Tuple [a, b] k2 pt2) X.env = pure (some [x, y])) (hs : swapsWithSole [.Tuple [.Name x px, .Name y py] kt pt] (.Tuple [a, b] k2 pt2) pos.line X.env = pure false) (hi0 : ini = true → 0 ∉ [i, j]) :
    PS X (.Assign [.Tuple [.Name x px, .Name y py] kt pt] (.Tuple [a, b] k2 pt2) pos) (rdS T X.K W ini fun ρ h => (evIts r its ρ h).toS ρ fun ds h1 => match setNs ρ [i, j] ds with
      | some ρ1 => .nx ρ1 h1
      | none => .bad) :=
  PS.imp (ps_par hc hN hi hj hij hx hy ha hw hs) fun D σ H hh => by
    obtain ⟨ge, He, z, g, ρ, h, hz, s, o⟩ := hh
    refine rdS_of s o fun g1 ds vs h1 H1 s1 r1 o1 => ?_
    cases r1 with
    | nil => exact o1.elim
    | cons q1 r1 =>
      cases r1 with
      | nil => exact o1.elim
      | cons q2 r1 =>
        cases r1 with
        | cons q3 r1 => exact o1.elim
        | nil => exact ⟨_, _, rfl, o1 g1 _ H1 .refl ((Asg.cons q1 (.cons q2 .nil)).here s1 (zin hz hi0))⟩
theorem ps_par3R {i j l : Nat} {y w : Str} {px py pw pt : Pos} {kt k2 : Nat} {pt2 : Pos} {its : List It} (hc : X.calm = true) (hN : X.N.Nodup) (hi : X.N[i]? = some x) (hj : X.N[j]? = some y) (hl : X.N[l]? = some w) (hij : i ≠ j) (hil : i ≠ l) (hjl : j ≠ l) (hx : X.env.scope.names.lookup x = some .local) (hy : X.env.scope.names.lookup y = some .local) (hw0 : X.env.scope.names.lookup w = some .local)
    (ha : PA X [a, b, c] (Rd T X.K W (evIts r its) (relEs T X.K))) (hw : swappedStores [.Tuple [.Name x px, .Name y py, .Name w pw] kt pt] (.Tuple [a, b, c] k2 pt2) X.env = pure (some [x, y, w])) (hs : swapsWithSole [.Tuple [.Name x px, .Name y py, .Name w pw] kt pt] (.Tuple [a, b, c] k2 pt2) pos.line X.env = pure false) (hi0 : ini = true → 0 ∉ [i, j, l]) :
    PS X (.Assign [.Tuple [.Name x px, .Name y py, .Name w pw] kt pt] (.Tuple [a, b, c] k2 pt2) pos) (rdS T X.K W ini fun ρ h => (evIts r its ρ h).toS ρ fun ds h1 => match setNs ρ [i, j, l] ds with
      | some ρ1 => .nx ρ1 h1
      | none => .bad) :=
  PS.imp (ps_par3 hc hN hi hj hl hij hil hjl hx hy hw0 ha hw hs) fun D σ H hh => by
    obtain ⟨ge, He, z, g, ρ, h, hz, s, o⟩ := hh
    refine rdS_of s o fun g1 ds vs h1 H1 s1 r1 o1 => ?_
    cases r1 with
    | nil => exact o1.elim
    | cons q1 r1 =>
      cases r1 with
      | nil => exact o1.elim
      | cons q2 r1 =>
        cases r1 with
        | nil => exact o1.elim
        | cons q3 r1 =>
          cases r1 with
          | cons q4 r1 => exact o1.elim
          | nil => exact ⟨_, _, _, rfl, o1 g1 _ H1 .refl ((Asg.cons q1 (.cons q2 (.cons q3 .nil))).here s1 (zin hz hi0))⟩
/-! ### loops -/
theorem ps_forR {tg iter : Expr} {body : List Stmt} {t : Tg} {it : I} {bd : List S} (hp : PassesOwn (model X.prog X.w) X.A X.env X.xe) (hc : X.calm = true) (hi : PI X tg iter (Rd T X.K W (evI r it) (relI T X.K fun ρ => cleanI ρ it))) (hg : PG X tg (rdG T X.K t)) (hb : PSs X body (rdS T X.K W ini (r.s bd)))
    (hs : ∀ x, foldedSetIterable iter X.env x = pure x) (hi0 : ini = true → 0 ∉ tgS t) :
    PS X (.For tg iter body [] pos) (rdS T X.K W ini fun ρ h => if !cleanI ρ it then .bad else (evI r it ρ h).toS ρ fun ds h1 => evFor r t bd ds ρ h1) :=
  PS.imp (ps_for hp hc hi hg hb hs) fun D σ H hh => by
    obtain ⟨ge, He, z, g, ρ, h, hz, s, o⟩ := hh
    dsimp only at o
    by_cases hcl : cleanI ρ it = true
    · rw [hcl] at o
      have o : OutS T X.K W ge He z g D ((evI r it ρ h).toS ρ fun ds h1 => evFor r t bd ds ρ h1) := o
      refine ⟨g, ρ, h, s.hr, (toS_out s o).imp fun xs h1 o1 g1 J H1 p1 itk => ?_⟩
      have s1 := s.post p1
      have o1 := OutS.le p1.le o1
      have itk : ItOk T X.K J xs (Since T X.K (cleanI ρ it) g1 H1) := itk
      rw [hcl] at itk
      let WW : Nat → Nat → L2.St → Hp → Prop := fun i m σ' H' => ∃ (g2 : Gh) (ρ2 : En) (h2 : Hh), HereS T X.K ge He z g2 ρ2 h2 σ' H' ∧ Le g1 g2 ∧ m = xs.length - i ∧ i ≤ xs.length ∧ OutS T X.K W ge He z g2 D (evFor r t bd (xs.drop i) ρ2 h2)
      refine ⟨WW, ⟨xs.length, g1, ρ, h1, s1, .refl, by simp, Nat.zero_le _, o1⟩, fun i m σ2 H2 w => ?_⟩
      obtain ⟨g2, ρ2, h2, s2, l2, em, hle, o2⟩ := w
      have itn := itk g2 h2 H2 s2.hr.ok l2 i
      by_cases hlt : i < xs.length
      · obtain ⟨go, yl⟩ := itn.1 _ (List.getElem?_eq_getElem hlt)
        refine .inr ⟨go, fun σ' H' => WW (i + 1) (xs.length - (i + 1)) σ' H', fun σ' H' w => ⟨_, by omega, w⟩, fun x H' y => ?_⟩
        obtain ⟨g3, p3, rx⟩ := yl x H' y
        have s3 := s2.post p3
        rw [List.drop_eq_getElem_cons hlt] at o2
        unfold evFor at o2
        cases eb : bindTg t xs[i] ρ2 with
        | none => rw [eb] at o2; exact o2.elim
        | some ρ3 =>
          rw [eb] at o2
          have o2 : OutS T X.K W ge He z g2 D (match r.s bd ρ3 h2 with
            | .nx ρ2 h2 => evFor r t bd (xs.drop (i + 1)) ρ2 h2
            | .ct ρ2 h2 => evFor r t bd (xs.drop (i + 1)) ρ2 h2
            | .bk ρ2 h2 => .nx ρ2 h2
            | x => x) := o2
          refine ⟨g3, h2, _, ρ2, ρ3, s3.hr.ok, rx, eb, fun σ4 as => ?_⟩
          refine ⟨ge, He, z, g3, ρ3, h2, hz, as.here s3 (zin hz hi0), ?_⟩
          have o3 := OutS.le p3.le o2
          cases q : r.s bd ρ3 h2 with
          | nx ρ4 h4 =>
            rw [q] at o3
            exact fun g4 σ5 H5 l4 s5 => ⟨g4, ρ4, h4, s5, (l2.trans p3.le).trans l4, rfl, hlt, OutS.le l4 o3⟩
          | ct ρ4 h4 =>
            rw [q] at o3
            exact fun g4 σ5 H5 l4 s5 => ⟨g4, ρ4, h4, s5, (l2.trans p3.le).trans l4, rfl, hlt, OutS.le l4 o3⟩
          | bk ρ4 h4 =>
            rw [q] at o3
            exact fun g4 σ5 H5 l4 s5 => o3 g4 σ5 H5 l4 s5
          | rt d h4 => rw [q] at o3; exact o3
          | exc cc fs ρ4 h4 => rw [q] at o3; exact o3
          | bad => rw [q] at o3; exact o3.elim
      · have e : i = xs.length := by omega
        subst e
        rw [List.drop_length] at o2
        unfold evFor at o2
        exact .inl ⟨itn.2 rfl, o2 g2 σ2 H2 .refl s2⟩
    · have hcl : cleanI ρ it = false := by simpa using hcl
      rw [hcl] at o
      exact o.elim
end
end PI
end
section
/-! The checker of one def's text against the interpreter's term: expressions. -/
set_option linter.all false
set_option maxRecDepth 100000
set_option maxHeartbeats 1000000
namespace PI
open PySem PySem.Spec PyProof.Rows L2

structure Ck where
  fns : List (Str × Nat)
  cls : List (Str × Nat)
  consts : List (Str × D)
  bl : List Str
  fls : List Nat
  tcs : List TyC
structure Good (T : Tb) (fa : Nat → Addr) (ck : Ck) (c : Cf) (k : Nat) (W : Wx) (sc : Scope) (N : List Str) (fo : Str → Bool) (X : Cx) : Prop where
  use : Use T fa ck.fls c k W X
  sce : X.env.scope = sc
  ne : X.N = N
  nd : N.Nodup
  calm : X.calm = true
  fo : ∀ x, fo x = true → X.fn x = true ∨ X.env.scope.names.lookup x = some .local
  fnm : ∀ p ∈ ck.fns, X.mg p.1 = some (.ref (fa p.2)) ∧ (T.pg.fn p.2).isSome = true
  cnm : ∀ p ∈ ck.cls, X.mg p.1 = some (.ref (T.ca p.2))
  con : ∀ p ∈ ck.consts, ∃ v u, X.mg p.1 = some u ∧ RelV v u ∧ ∀ F m, Rl T X.K F m p.2 v
  blt : ∀ x ∈ ck.bl, X.mg x = none
  ty : TyHere T X.K ck.tcs

/-! ### the same data -/
mutual
def dsm : D → D → Bool
  | .non, .non => true
  | .bl a, .bl b => a == b
  | .int i, .int j => i == j
  | .str x, .str y => x == y
  | .tup xs, .tup ys => dsms xs ys
  | .lst xs, .lst ys => dsms xs ys
  | .cls a, .cls b => a == b
  | _, _ => false
def dsms : List D → List D → Bool
  | [], [] => true
  | x :: xs, y :: ys => dsm x y && dsms xs ys
  | _, _ => false
end
mutual
theorem dsm_eq : ∀ (a b : D), dsm a b = true → a = b
  | .non, b, h => by cases b <;> first | rfl | cases h
  | .bl x, b, h => by
    cases b <;> first | (cases h; done) | skip
    simp [dsm] at h
    rw [h]
  | .int x, b, h => by
    cases b <;> first | (cases h; done) | skip
    simp [dsm] at h
    rw [h]
  | .str x, b, h => by
    cases b <;> first | (cases h; done) | skip
    simp [dsm] at h
    rw [h]
  | .tup xs, b, h => by
    cases b <;> first | (cases h; done) | skip
    rw [dsms_eq xs _ (by simpa [dsm] using h)]
  | .lst xs, b, h => by
    cases b <;> first | (cases h; done) | skip
    rw [dsms_eq xs _ (by simpa [dsm] using h)]
  | .dct kvs, b, h => by cases b <;> cases h
  | .ins c fs, b, h => by cases b <;> cases h
  | .ref m, b, h => by cases b <;> cases h
  | .cls c, b, h => by
    cases b <;> first | (cases h; done) | skip
    simp [dsm] at h
    rw [h]
theorem dsms_eq : ∀ (a b : List D), dsms a b = true → a = b
  | [], [], _ => rfl
  | [], _ :: _, h => by cases h
  | _ :: _, [], h => by cases h
  | x :: xs, y :: ys, h => by
    have h : (dsm x y && dsms xs ys) = true := h
    rw [Bool.and_eq_true] at h
    rw [dsm_eq x y h.1, dsms_eq xs ys h.2]
end

/-! ### names -/
def okN (y : Str) : Bool := !(y == ("__debug__" : Str)) && !(y == ("__classdict__" : Str))
def isGl (sc : Scope) (y : Str) : Bool := match sc.names.lookup y with | some .globalImplicit => true | _ => false
def isVis (sc : Scope) (y : Str) : Bool := match sc.names.lookup y with | some .local => true | some .cell => true | some .free => true | _ => false
def isLoc (sc : Scope) (y : Str) : Bool := match sc.names.lookup y with | some .local => true | some .cell => true | _ => false
def nAt (N : List Str) (i : Nat) (y : Str) : Bool := match N[i]? with | some x => decide (x = y) | none => false
def vOk (sc : Scope) (N : List Str) (i : Nat) (y : Str) : Bool := nAt N i y && isVis sc y && okN y
def noStar : Expr → Bool
  | .Starred _ _ => false
  | _ => true
section
variable {T : Tb} {fa : Nat → Addr} {ck : Ck} {c : Cf} {k : Nat} {W : Wx} {sc : Scope} {N : List Str} {fo : Str → Bool} {X : Cx} {y : Str} {i : Nat} {e : Expr} {es : List Expr} {pos : Pos}
theorem nAt_eq (h : nAt N i y = true) : N[i]? = some y := by
  unfold nAt at h
  split at h
  · rename_i x e
    rw [e, of_decide_eq_true h]
  · cases h
theorem okN_of (h : okN y = true) : (y == ("__debug__" : Str)) = false ∧ (y == ("__classdict__" : Str)) = false := by
  unfold okN at h
  simpa using h
theorem Good.gl (G : Good T fa ck c k W sc N fo X) (h : isGl sc y = true) : Gl X y := by
  unfold isGl at h
  split at h
  · rename_i e
    show X.env.scope.names.lookup y = _
    rw [G.sce]
    exact e
  · cases h
theorem Good.vis (G : Good T fa ck c k W sc N fo X) (h : isVis sc y = true) : Vis X.env.scope y := by
  unfold isVis at h
  rw [G.sce]
  unfold Vis
  split at h
  · rename_i e; exact .inl e
  · rename_i e; exact .inr (.inl e)
  · rename_i e; exact .inr (.inr e)
  · cases h
theorem Good.loc (G : Good T fa ck c k W sc N fo X) (h : isLoc sc y = true) : L2.Loc X.env.scope y := by
  unfold isLoc at h
  rw [G.sce]
  unfold L2.Loc
  split at h
  · rename_i e; exact .inl e
  · rename_i e; exact .inr e
  · cases h
theorem star_cons (h : noStar e = true) (env : Env) (es : List Expr) : starEach (e :: es) env = (false, eval e env) :: starEach es env := by
  cases e <;> first | rfl | cases h
theorem star_one (h : noStar e = true) (env : Env) : starEach [e] env = [(false, eval e env)] := star_cons h env []
theorem star_two {b : Expr} (h : noStar e = true) (h2 : noStar b = true) (env : Env) : starEach [e, b] env = [(false, eval e env), (false, eval b env)] := by
  rw [star_cons h, star_one h2]
def blt1 : List (Str × Op) := [("len", .len), ("all", .all), ("any", .any), ("sum", .sum), ("max", .max), ("min", .min), ("int", .int), ("list", .list), ("tuple", .tuple)]
/-! ### constants -/
def kOk (ck : Ck) (sc : Scope) (e : Expr) (d : D) : Bool :=
  match e with
  | .Constant (.int i) _ _ => dsm (.int i) d
  | .Constant (.bool b) _ _ => dsm (.bl b) d
  | .Constant .none _ _ => dsm .non d
  | .Constant (.str s) _ _ => dsm (.str s.cps.toList) d
  | .Name y _ => isGl sc y && okN y && ck.consts.any fun p => decide (p.1 = y) && dsm p.2 d
  | _ => false
theorem k_ok {r : Ev} {d : D} (G : Good T fa ck c k W sc N fo X) (h : kOk ck sc e d = true) : PE X e (Rd T X.K W (fun _ h => .ok d h) (relE T X.K)) := by
  unfold kOk at h
  split at h
  · rw [← dsm_eq _ _ h]
    exact pe_constR pe_int fun F m => .int _
  · rw [← dsm_eq _ _ h]
    exact pe_constR pe_bl fun F m => .bl _
  · rw [← dsm_eq _ _ h]
    exact pe_constR pe_non fun F m => .non
  · rename_i s j p
    rw [← dsm_eq _ _ h]
    refine pe_constR (v := .str s) pe_str fun F m => ?_
    have : tS s.cps.toList = s := by
      obtain ⟨⟨l⟩⟩ := s
      rfl
    have z : Rl T X.K F m (.str s.cps.toList) (.str (tS s.cps.toList)) := .str _
    rw [this] at z
    exact z
  · rw [Bool.and_eq_true, Bool.and_eq_true, List.any_eq_true] at h
    obtain ⟨⟨h1, h2⟩, p, hp, h3⟩ := h
    rw [Bool.and_eq_true] at h3
    obtain ⟨v, u, e1, e2, e3⟩ := G.con p hp
    rw [dsm_eq _ _ h3.2] at e3
    rw [of_decide_eq_true h3.1] at e1
    exact pe_constR (pe_glob (G.gl h1) e1 e2 (okN_of h2).1) e3
  · cases h
end
end PI
end
section
/-! The checker: operators. -/
set_option linter.all false
set_option maxRecDepth 100000
set_option maxHeartbeats 1000000
namespace PI
open PySem PySem.Spec PyProof.Rows L2

def binM : Operator → Op → Bool
  | .Add, .add => true
  | .Sub, .sub => true
  | .Mult, .mul => true
  | .FloorDiv, .fdiv => true
  | .Mod, .mod => true
  | .Pow, .pow => true
  | _, _ => false
def cmpM : CmpOp → Op → Bool
  | .Eq, .eq => true
  | .NotEq, .ne => true
  | .Lt, .lt => true
  | .LtE, .le => true
  | .Gt, .gt => true
  | .GtE, .ge => true
  | .In, .isin => true
  | .NotIn, .notin => true
  | _, _ => false
section
variable {T : Tb} {fa : Nat → Addr} {ck : Ck} {c : Cf} {k : Nat} {W : Wx} {sc : Scope} {N : List Str} {fo : Str → Bool} {X : Cx} {r : Ev} {e a b : Expr} {o o2 : Op} {a' b' c' : E} {pos : Pos} {ca : Expr → E → Bool}
theorem bin_ok {op : Operator} (h : binM op o = true) : ∃ f, OpR X (binaryOp op) (rP2 T X.K f) ∧ ∀ d1 d2, opf T.pg o [d1, d2] = f d1 d2 := by
  unfold binM at h
  split at h
  · exact ⟨_, ok_add, fun _ _ => rfl⟩
  · exact ⟨_, ok_sub, fun _ _ => rfl⟩
  · exact ⟨_, ok_mul, fun _ _ => rfl⟩
  · exact ⟨_, ok_div, fun _ _ => rfl⟩
  · exact ⟨_, ok_mod, fun _ _ => rfl⟩
  · exact ⟨_, ok_pow, fun _ _ => rfl⟩
  · cases h
theorem blM {o : Option Bool} {g : Bool → Bool} {d : D} (e : o.map (fun c => D.bl (g c)) = some d) : ∃ k, d = .bl k := by
  obtain ⟨z, _, rfl⟩ := Option.map_eq_some_iff.mp e
  exact ⟨_, rfl⟩
theorem cmp_ok (hu : X.A.units + 65 < cLine) {op : CmpOp} (h : cmpM op o = true) : ∃ f, OpR X (compareOp op) (rP2 T X.K f) ∧ (∀ d1 d2, opf T.pg o [d1, d2] = f d1 d2) ∧ ∀ a b d, f a b = some d → ∃ k, d = .bl k := by
  unfold cmpM at h
  split at h
  · exact ⟨_, ok_eq (by omega), fun _ _ => rfl, fun a b d e => blM (g := id) e⟩
  · exact ⟨_, ok_ne (by omega), fun _ _ => rfl, fun a b d e => blM e⟩
  · refine ⟨_, ok_lt, fun _ _ => rfl, fun a b d e => ?_⟩
    unfold oLt at e
    split at e <;> first | (cases e; exact ⟨_, rfl⟩) | cases e
  · refine ⟨_, ok_le, fun _ _ => rfl, fun a b d e => ?_⟩
    unfold oLe at e
    split at e <;> first | (cases e; exact ⟨_, rfl⟩) | cases e
  · refine ⟨_, ok_gt, fun _ _ => rfl, fun a b d e => ?_⟩
    unfold oGt at e
    split at e <;> first | (cases e; exact ⟨_, rfl⟩) | cases e
  · refine ⟨_, ok_ge, fun _ _ => rfl, fun a b d e => ?_⟩
    unfold oGe at e
    split at e <;> first | (cases e; exact ⟨_, rfl⟩) | cases e
  · exact ⟨_, ok_in hu, fun _ _ => rfl, fun a b d e => blM (g := id) e⟩
  · exact ⟨_, ok_notin hu, fun _ _ => rfl, fun a b d e => blM e⟩
  · cases h
/-- is, is not with None, True -/
def isM : CmpOp → Const → Op → Bool
  | .Is, .none, .isN => true
  | .IsNot, .none, .notN => true
  | .Is, .bool true, .isTrue => true
  | .IsNot, .bool true, .notTrue => true
  | _, _, _ => false
theorem is_ok {op : CmpOp} {q : Const} (h : isM op q o = true) : ∃ f v, OpR X (compareOp op) (fun x y H Q => y = v ∧ rP1 T X.K f x H Q) ∧ (∀ d1, opf T.pg o [d1] = f d1) ∧ (∀ a d, f a = some d → ∃ k, d = .bl k) ∧ ∀ j p, PE X (.Constant q j p) (tC v) := by
  unfold isM at h
  split at h
  · exact ⟨_, _, ok_isN, fun _ => rfl, fun a d e => ⟨_, (Option.some.inj e).symm⟩, fun j p => pe_non⟩
  · exact ⟨_, _, ok_notN, fun _ => rfl, fun a d e => ⟨_, (Option.some.inj e).symm⟩, fun j p => pe_non⟩
  · refine ⟨oIsT, _, ok_isT, fun d => by cases d <;> rfl, fun a d e => ?_, fun j p => pe_bl⟩
    unfold oIsT at e
    split at e <;> first | (cases e; exact ⟨_, rfl⟩) | cases e
  · refine ⟨oNotT, _, ok_notT, fun d => by cases d <;> rfl, fun a d e => ?_, fun j p => pe_bl⟩
    unfold oNotT at e
    split at e <;> first | (cases e; exact ⟨_, rfl⟩) | cases e
  · cases h
theorem pe_isR {op : CmpOp} {f : D → Option D} {v : V} (ho : OpR X (compareOp op) (fun x y H Q => y = v ∧ rP1 T X.K f x H Q)) (hf : ∀ d1, opf T.pg o [d1] = f d1) (hb : PE X b (tC v)) (ha : PE X a (Rd T X.K W (evA r a') (relA T X.K fun ρ => clean ρ a'))) (hm : behindInMarks op b = false) :
    PE X (.Compare a [op] [b] pos) (Rd T X.K W (fun ρ h => (evAs r [a'] ρ h).bind fun ds h1 => evOp T.pg o ds h1) (relE T X.K)) := PE.imp (pe_cmpR ho ha hb hm) fun σ H Q hh => (rd1 (β := D) hf hh).mono fun x H1 z => ⟨rfl, z⟩
theorem pt_isR {op : CmpOp} {f : D → Option D} {v : V} (ho : OpR X (compareOp op) (fun x y H Q => y = v ∧ rP1 T X.K f x H Q)) (hf : ∀ d1, opf T.pg o [d1] = f d1) (hbl : ∀ a d, f a = some d → ∃ k, d = .bl k) (hb : PE X b (tC v)) (ha : PE X a (Rd T X.K W (evA r a') (relA T X.K fun ρ => clean ρ a'))) (hm : behindInMarks op b = false) :
    PT X (.Compare a [op] [b] pos) (Rd T X.K W (fun ρ h => ((evAs r [a'] ρ h).bind fun ds h1 => evOp T.pg o ds h1).bind fun d h1 => truthD d h1) relB) := PT.imp (pt_cmpR ho ha hb hm) fun σ H Q hh => by
  refine (rd1 (β := D) hf (rdT_of hh fun ρ h d h1 e => ?_)).mono fun x H1 z => ⟨rfl, z⟩
  rw [evAs1] at e
  cases q1 : evA r a' ρ h with
  | ok x k1 =>
    rw [q1] at e
    have e : evOp T.pg o [x] k1 = .ok d h1 := e
    unfold evOp at e
    split at e
    · cases e
    · split at e
      · rename_i d' e'
        cases e
        exact hbl _ _ ((hf _).symm.trans e')
      · cases e
  | exc c fs h' => rw [q1] at e; cases e
  | bad => rw [q1] at e; cases e
/-! ### built-in functions of one, two -/
def fn1M (y : Str) (o : Op) : Bool :=
  match o with
  | .len => decide (y = "len")
  | .all => decide (y = "all")
  | .any => decide (y = "any")
  | .sum => decide (y = "sum")
  | .max => decide (y = "max")
  | .min => decide (y = "min")
  | .int => decide (y = "int")
  | .list => decide (y = "list")
  | .tuple => decide (y = "tuple")
  | _ => false
def blk (ck : Ck) (sc : Scope) (y : Str) : Bool := isGl sc y && ck.bl.any fun z => decide (z = y)
theorem Good.bltin {y : Str} (G : Good T fa ck c k W sc N fo X) (h : blk ck sc y = true) : Gl X y ∧ X.mg y = none := by
  unfold blk at h
  rw [Bool.and_eq_true, List.any_eq_true] at h
  obtain ⟨h1, z, hz, h2⟩ := h
  rw [← of_decide_eq_true h2]
  rw [← of_decide_eq_true h2] at h1
  exact ⟨G.gl h1, G.blt z hz⟩
theorem fn1_ok {y : Str} {p : Pos} (G : Good T fa ck c k W sc N fo X) (h : fn1M y o = true) (hb : blk ck sc y = true) (ha : PE X a (Rd T X.K W (evA r a') (relA T X.K fun ρ => clean ρ a'))) (hs : noStar a = true) :
    PE X (.Call (.Name y p) [a] [] pos) (Rd T X.K W (fun ρ h => (evAs r [a'] ρ h).bind fun ds h1 => evOp T.pg o ds h1) (relE T X.K)) := by
  obtain ⟨hg, hm⟩ := G.bltin hb
  have hst := star_one hs X.env
  unfold fn1M at h
  split at h <;> first | (cases h; done) | (cases of_decide_eq_true h)
  · exact pe_fn1 ok_len (fun _ => rfl) hg hm (by rfl) ha (by decide) (by decide) hst
  · exact pe_fn1 (ok_all G.calm) (fun _ => rfl) hg hm (by rfl) ha (by decide) (by decide) hst
  · exact pe_fn1 (ok_any G.calm) (fun _ => rfl) hg hm (by rfl) ha (by decide) (by decide) hst
  · exact pe_fn1 (ok_sum G.calm) (fun _ => rfl) hg hm (by rfl) ha (by decide) (by decide) hst
  · exact pe_fn1 (ok_max1 G.calm) (fun _ => rfl) hg hm (by rfl) ha (by decide) (by decide) hst
  · exact pe_fn1 (ok_min1 G.calm) (fun _ => rfl) hg hm (by rfl) ha (by decide) (by decide) hst
  · exact pe_ty1 ok_int (fun _ => rfl) hg hm (by rfl) ha (by decide) (by decide) hst
  · exact pe_ty1 ok_list (fun _ => rfl) hg hm (by rfl) ha (by decide) (by decide) hst
  · exact pe_ty1 ok_tuple (fun _ => rfl) hg hm (by rfl) ha (by decide) (by decide) hst
def fn2M (y : Str) (o : Op) : Bool :=
  match o with
  | .max => decide (y = "max")
  | .min => decide (y = "min")
  | _ => false
theorem fn2_ok {y : Str} {p : Pos} (G : Good T fa ck c k W sc N fo X) (h : fn2M y o = true) (hb : blk ck sc y = true) (ha : PE X a (Rd T X.K W (evA r a') (relA T X.K fun ρ => clean ρ a'))) (hb' : PE X b (Rd T X.K W (evA r b') (relA T X.K fun ρ => clean ρ b'))) (hs : noStar a = true) (hs2 : noStar b = true) :
    PE X (.Call (.Name y p) [a, b] [] pos) (Rd T X.K W (fun ρ h => (evAs r [a', b'] ρ h).bind fun ds h1 => evOp T.pg o ds h1) (relE T X.K)) := by
  obtain ⟨hg, hm⟩ := G.bltin hb
  unfold fn2M at h
  split at h <;> first | (cases h; done) | (cases of_decide_eq_true h)
  · exact pe_fn2 (ok_max2 G.calm) (fun _ _ => rfl) hg hm (by rfl) ha hb' (by decide) (by decide) (star_cons hs X.env [b]) (star_one hs2 X.env)
  · exact pe_fn2 (ok_min2 G.calm) (fun _ _ => rfl) hg hm (by rfl) ha hb' (by decide) (by decide) (star_cons hs X.env [b]) (star_one hs2 X.env)
/-! ### classes for isinstance -/
def tySame : TyC → TyC → Bool
  | .own a, .own b => a == b
  | .blt a, .blt b => decide (a = b)
  | _, _ => false
theorem tySame_eq {a b : TyC} (h : tySame a b = true) : a = b := by
  cases a <;> cases b <;> first | (cases h; done) | skip
  · simp [tySame] at h
    rw [h]
  · simp [tySame] at h
    rw [h]
def tyOk (ck : Ck) (sc : Scope) (e : Expr) (t : TyC) : Bool :=
  (ck.tcs.any fun u => tySame u t) && match e with
  | .Name y _ => match t with
    | .blt u => blk ck sc y && decide (y = Str.ofString (tyN u))
    | .own q => isGl sc y && okN y && ck.cls.any fun p => decide (p.1 = y) && p.2 == q
  | _ => false
theorem ty_ok {t : TyC} (G : Good T fa ck c k W sc N fo X) (h : tyOk ck sc e t = true) : PE X e (tC (tyVV T t)) ∧ t ∈ ck.tcs ∧ noStar e = true := by
  unfold tyOk at h
  rw [Bool.and_eq_true, List.any_eq_true] at h
  obtain ⟨⟨u, hu, h1⟩, h2⟩ := h
  have hm : t ∈ ck.tcs := by rw [← tySame_eq h1]; exact hu
  refine ⟨?_, hm, ?_⟩
  · split at h2
    · split at h2
      · rename_i y p u2
        rw [Bool.and_eq_true] at h2
        obtain ⟨hg, hmg⟩ := G.bltin h2.1
        have e1 := of_decide_eq_true h2.2
        subst e1
        cases u2 <;> exact pe_bltn hg hmg (by rfl) rfl (by decide) (by decide)
      · rename_i y p q
        rw [Bool.and_eq_true, Bool.and_eq_true, List.any_eq_true] at h2
        obtain ⟨⟨h3, h4⟩, z, hz, h5⟩ := h2
        rw [Bool.and_eq_true] at h5
        have e1 := of_decide_eq_true h5.1
        have e2 : z.2 = q := by simpa using h5.2
        have := G.cnm z hz
        rw [e1, e2] at this
        exact pe_glob (v := .ref (T.ca q)) (G.gl h3) this rfl (okN_of h4).1
    · cases h2
  · split at h2
    · rfl
    · cases h2
def tysOk (ck : Ck) (sc : Scope) : List Expr → List TyC → Bool
  | [], [] => true
  | e :: es, t :: ts => tyOk ck sc e t && tysOk ck sc es ts
  | _, _ => false
theorem tys_ok (G : Good T fa ck c k W sc N fo X) : ∀ {es : List Expr} {ts : List TyC}, tysOk ck sc es ts = true → PTys T X es ts ∧ ∀ t ∈ ts, t ∈ ck.tcs
  | [], [], _ => ⟨.nil, fun t h => by cases h⟩
  | [], _ :: _, h => by cases h
  | _ :: _, [], h => by cases h
  | e :: es, t :: ts, h => by
    have h : (tyOk ck sc e t && tysOk ck sc es ts) = true := h
    rw [Bool.and_eq_true] at h
    obtain ⟨h1, h2, h3⟩ := ty_ok G h.1
    obtain ⟨h4, h5⟩ := tys_ok G h.2
    exact ⟨.cons h1 (star_cons h3 _ _) h4, fun u hu => by
      rcases List.mem_cons.mp hu with rfl | hu
      · exact h2
      · exact h5 u hu⟩
/-! ### one operand, two -/
def plainIx : Expr → Bool
  | .Slice _ _ _ _ => false
  | _ => true
theorem plainIx_of (h : plainIx b = true) : PlainIx b := fun o i => by
  cases b <;> first | rfl | cases h
def op1Ok (ck : Ck) (sc : Scope) (ca : Expr → E → Bool) (e : Expr) (o : Op) (a' : E) : Bool :=
  match e with
  | .UnaryOp .USub a _ => (match o with | .neg => true | _ => false) && ca a a'
  | .Compare a [op] [.Constant q _ _] _ => isM op q o && ca a a'
  | .Call (.Name y _) [a] [] _ => fn1M y o && blk ck sc y && noStar a && ca a a'
  | .Call (.Name y _) [a, .Tuple es _ _] [] _ => (match o with | .isi ts => decide (y = "isinstance") && blk ck sc y && noStar a && Nat.ble ts.length 100 && tysOk ck sc es ts | _ => false) && ca a a'
  | .Call (.Name y _) [a, b] [] _ => (match o with | .isi [t] => decide (y = "isinstance") && blk ck sc y && noStar a && tyOk ck sc b t | _ => false) && ca a a'
  | .Subscript a (.Slice none none none _) _ => (match o with | .slc false false => true | _ => false) && ca a a'
  | _ => false
theorem op1_ok (G : Good T fa ck c k W sc N fo X) (hca : ∀ e x, ca e x = true → PE X e (Rd T X.K W (evA r x) (relA T X.K fun ρ => clean ρ x))) (h : op1Ok ck sc ca e o a' = true) :
    PE X e (Rd T X.K W (fun ρ h => (evAs r [a'] ρ h).bind fun ds h1 => evOp T.pg o ds h1) (relE T X.K)) := by
  unfold op1Ok at h
  split at h
  · rw [Bool.and_eq_true] at h
    obtain ⟨h1, h2⟩ := h
    split at h1
    · exact pe_unR (f1 := oNeg) ok_neg (fun d => by cases d <;> rfl) (hca _ _ h2)
    · cases h1
  · rw [Bool.and_eq_true] at h
    obtain ⟨f, v, z1, z2, z3, z4⟩ := is_ok (T := T) (X := X) h.1
    exact pe_isR z1 z2 (z4 _ _) (hca _ _ h.2) rfl
  · simp only [Bool.and_eq_true] at h
    obtain ⟨⟨⟨h1, h2⟩, h3⟩, h4⟩ := h
    exact fn1_ok G h1 h2 (hca _ _ h4) h3
  · rw [Bool.and_eq_true] at h
    obtain ⟨h1, h2⟩ := h
    split at h1
    · simp only [Bool.and_eq_true] at h1
      obtain ⟨⟨⟨⟨h3, h4⟩, h5⟩, h6⟩, h7⟩ := h1
      cases of_decide_eq_true h3
      obtain ⟨hg, hm⟩ := G.bltin h4
      obtain ⟨z1, z2⟩ := tys_ok G h7
      exact pe_isiT G.ty z2 (Nat.le_of_ble_eq_true h6) hg hm (hca _ _ h2) z1 (star_cons h5 _ _) rfl
    · cases h1
  · rw [Bool.and_eq_true] at h
    obtain ⟨h1, h2⟩ := h
    split at h1
    · simp only [Bool.and_eq_true] at h1
      obtain ⟨⟨⟨h3, h4⟩, h5⟩, h7⟩ := h1
      cases of_decide_eq_true h3
      obtain ⟨hg, hm⟩ := G.bltin h4
      obtain ⟨z1, z2, z3⟩ := ty_ok G h7
      exact pe_isi1 G.ty z2 hg hm (hca _ _ h2) z1 (star_cons h5 _ _) (star_one z3 _)
    · cases h1
  · rw [Bool.and_eq_true] at h
    obtain ⟨h1, h2⟩ := h
    split at h1
    · exact pe_slcA (hca _ _ h2)
    · cases h1
  · cases h
def op2Ok (ck : Ck) (sc : Scope) (ca : Expr → E → Bool) (e : Expr) (o : Op) (a' b' : E) : Bool :=
  match e with
  | .BinOp a op b _ => binM op o && ca a a' && ca b b'
  | .Compare a [op] [b] _ => cmpM op o && !behindInMarks op b && ca a a' && ca b b'
  | .Subscript a (.Slice (some b) none none _) _ => (match o with | .slc true false => true | _ => false) && ca a a' && ca b b'
  | .Subscript a (.Slice none (some b) none _) _ => (match o with | .slc false true => true | _ => false) && ca a a' && ca b b'
  | .Subscript a b _ => (match o with | .idx => true | _ => false) && plainIx b && ca a a' && ca b b'
  | .Call (.Name y _) [a, b] [] _ => fn2M y o && blk ck sc y && noStar a && noStar b && ca a a' && ca b b'
  | _ => false
theorem op2_ok (G : Good T fa ck c k W sc N fo X) (hu : X.A.units + 65 < cLine) (hca : ∀ e x, ca e x = true → PE X e (Rd T X.K W (evA r x) (relA T X.K fun ρ => clean ρ x))) (h : op2Ok ck sc ca e o a' b' = true) :
    PE X e (Rd T X.K W (fun ρ h => (evAs r [a', b'] ρ h).bind fun ds h1 => evOp T.pg o ds h1) (relE T X.K)) := by
  unfold op2Ok at h
  split at h
  · simp only [Bool.and_eq_true] at h
    obtain ⟨f, z1, z2⟩ := bin_ok (T := T) (X := X) h.1.1
    exact pe_binR z1 z2 (hca _ _ h.1.2) (hca _ _ h.2)
  · simp only [Bool.and_eq_true, Bool.not_eq_true'] at h
    obtain ⟨f, z1, z2, z3⟩ := cmp_ok (T := T) hu h.1.1.1
    exact pe_cmpV z1 z2 (hca _ _ h.1.2) (hca _ _ h.2) h.1.1.2
  · simp only [Bool.and_eq_true] at h
    obtain ⟨⟨h1, h2⟩, h3⟩ := h
    split at h1
    · exact pe_slcL (hca _ _ h2) (hca _ _ h3)
    · cases h1
  · simp only [Bool.and_eq_true] at h
    obtain ⟨⟨h1, h2⟩, h3⟩ := h
    split at h1
    · exact pe_slcH (hca _ _ h2) (hca _ _ h3)
    · cases h1
  · simp only [Bool.and_eq_true] at h
    obtain ⟨⟨⟨h1, h4⟩, h2⟩, h3⟩ := h
    split at h1
    · exact pe_ixR ok_idx (fun _ _ => rfl) (hca _ _ h2) (hca _ _ h3) (plainIx_of h4)
    · cases h1
  · simp only [Bool.and_eq_true] at h
    obtain ⟨⟨⟨⟨⟨h1, h2⟩, h3⟩, h4⟩, h5⟩, h6⟩ := h
    exact fn2_ok G h1 h2 (hca _ _ h5) (hca _ _ h6) h3 h4
  · cases h
end
end PI
end
section
/-! Attributes, operators of own classes. -/
set_option linter.all false
set_option maxRecDepth 100000
set_option maxHeartbeats 1000000
namespace PI
open PySem PySem.Spec PyProof.Rows L2

abbrev noX : Wx := fun _ _ _ _ => False
theorem noExc_out {α : Type} {T : Tb} {K : PySem.W.Frag} {W : Wx} {σ σ' : L2.St} {g : Gh} {H : Hp} {m : R α} {k : α → Hh → Prop} (o : Out T K W σ g H (noExc m) k) : Out T K noX σ' g H m k := by
  cases m with
  | ok a h => exact o
  | exc c fs h => exact o.elim
  | bad => exact o
theorem noExc_outD {T : Tb} {K : PySem.W.Frag} {W : Wx} {σ σ' : L2.St} {g : Gh} {H : Hp} {m : R D} {f : D → Hh → R D} {k : D → Hh → Prop} (o : Out T K W σ g H ((noExc m).bind f) k) : Out T K noX σ' g H m (fun d h1 => Out T K W σ g H (f d h1) k) := by
  cases m with
  | ok a h => exact o
  | exc c fs h => exact o.elim
  | bad => exact o
section
variable {T : Tb} {fa : Nat → Addr} {fls : List Nat} {r : Ev} {k : Nat} {W : Wx} {X : Cx}
/-- a def called from around, nothing let out -/
theorem run_quiet {c : Cf} (u : Use T fa fls c k W X) {A' : Around} {pins : List (Addr × Obj)} {σ : L2.St} {H : Hp} {s : Shared} {g : Gh} {h : Hh} {f : Nat} {fn : Fn} {ds : List D} {kv : List (Nat × D)} {as : List D} {us ws : List Value} {Q : VK} {E' : Value → Shared → Prop}
    (hrA : Room k A') (hE : Env0 X.prog X.w X.K X.mg X.base A' X.stack s H) (ef : T.pg.fn f = some fn) (e : bindA fn ds kv = some as)
    (I : Inv X pins σ H s) (ok : HeapOk T X.K g h H) (r1 : RVs T X.K g.F g.m ds us) (r2 : RVs T X.K g.F g.m (kv.map (·.2)) ws) (o : Out T X.K noX [] g H (c.f f as h) (KK T X.K (relE T X.K) [] g H Q)) :
    wpAny (model X.prog X.w) A' (call (.ref (fa f)) us ((kv.map fun p => T.nm p.1).zip ws)) (EP X pins σ Q) E' s := by
  refine wpAny_call (codeAny_mono (u.fn f fn ef A' X.stack s H g h ds kv as us ws Q (fun _ _ _ => False) hrA hE ok e r1 r2 ?_) fun r s' hq => ?_)
  · cases q : c.f f as h with
    | ok d h' => rw [q] at o; exact o
    | exc cc fs h' => rw [q] at o; exact fun g' H' d gs p e1 e2 e3 => o g' H' d gs p e1 e2 e3
    | bad => rw [q] at o; exact o
  · cases r with
    | error er =>
      obtain ⟨_, _, _, _, _, _, _, _, _, _, _, _, w⟩ := hq
      exact w.elim
    | ok fl =>
      cases fl with
      | ret v => exact I.after hq
      | next => exact False.elim hq
      | brk => exact False.elim hq
      | cont => exact False.elim hq
theorem RVs.one {K : PySem.W.Frag} {F : Hp} {m : List Addr} {d : D} {v : V} {u : Value} (ru : RelV v u) (rd : Rl T K F m d v) : RVs T K F m [d] [u] := ⟨[v], .cons ru .nil, .cons rd .nil⟩
theorem RVs.two {K : PySem.W.Frag} {F : Hp} {m : List Addr} {d d2 : D} {v v2 : V} {u u2 : Value} (ru : RelV v u) (rd : Rl T K F m d v) (ru2 : RelV v2 u2) (rd2 : Rl T K F m d2 v2) : RVs T K F m [d, d2] [u, u2] := ⟨[v, v2], .cons ru (.cons ru2 .nil), .cons rd (.cons rd2 .nil)⟩
/-- what an attribute is read off -/
theorem pe_fldR (u : Use T fa fls r.c k W X) {e : Expr} {a' : E} {f : Nat} {pos : Pos} (he : PE X e (Rd T X.K W (evA r a') (relA T X.K fun ρ => clean ρ a'))) (hab : attributeBase e (T.nm f) X.env (eval e X.env) = eval e X.env)
    (hfl : fls.contains f = true) (hpr : ∀ q cl g, T.pg.cl q = some cl → afind cl.props f = some g → (T.pg.fn g).isSome = true) :
    PE X (.Attribute e (T.nm f) pos) (Rd T X.K W (fun ρ h => (evA r a' ρ h).bind fun d h1 => evFld T.pg r (clean ρ a') d f h1) (relE T X.K)) := by
  refine ⟨fun pins s σ H Q I hh => ?_⟩
  obtain ⟨g, ρ, h, a, o⟩ := hh
  have hE : Rd T X.K W (evA r a') (relA T X.K fun ρ => clean ρ a') σ H (fun x H1 => ∃ (g1 : Gh) (d : D) (h1 : Hh), Here T X.K g1 ρ h1 σ H1 ∧ Opd T X.K (clean ρ a') g1 H1 d x ∧ Out T X.K W σ g1 H1 (evFld T.pg r (clean ρ a') d f h1) (KK T X.K (relE T X.K) ρ g1 H1 Q)) :=
    Rd.mk a o fun g1 d v h1 H1 a1 p1 rd o1 => ⟨g1, d, h1, a1, rd, o1⟩
  refine attr_of hab (thn (he.run pins s σ H _ I hE) fun uv s1 z => ?_)
  obtain ⟨x, H1, I1, rx, g1, d, h1, a1, rd, o1⟩ := z
  have w := Opd.vw a1.ok rd
  unfold evFld at o1
  split at o1
  · rename_i c fs e1
    rw [e1] at w
    obtain ⟨b, dx, gs, ev, hb, hdx, rf⟩ := w.ins a1.ok
    subst ev
    obtain rfl : uv = Value.ref b := rx
    cases ec : T.pg.cl c with
    | none => simp only [ec] at o1; exact o1.elim
    | some cl =>
      simp only [ec] at o1
      have C := u.cls c cl ec
      have l := rf.get u.inj f
      cases ef : afind fs f with
      | some y =>
        simp only [ef] at o1 l
        obtain ⟨v, l1, l2⟩ := l
        by_cases hfr : free cl f = true
        · rw [if_pos hfr] at o1
          exact getattr_ok I1 hb C.ok (C.fr f hfl hfr) l1 fun u' s2 I2 ru => ⟨v, H1, I2, ru, o1 g1 v H1 (Post.refl a1.ok) l2⟩
        · rw [if_neg hfr] at o1
          exact o1.elim
      | none =>
        simp only [ef] at o1 l
        cases ep : afind cl.props f with
        | some g0 =>
          simp only [ep] at o1
          by_cases hk : clean ρ a' = true
          · rw [if_pos hk] at o1
            rw [hk] at rd
            have rd' : Rl T X.K g1.F g1.m d (.ref b) := rd.clean
            obtain ⟨p, hp⟩ := C.pr f g0 ep
            obtain ⟨fn, efn⟩ := Option.isSome_iff_exists.mp (hpr c cl g0 ec ep)
            have o2 := noExc_out (σ' := []) o1
            unfold evCall at o2
            rw [efn] at o2
            cases eb : bindA fn [d] [] with
            | none => simp only [eb] at o2; exact o2.elim
            | some as =>
              simp only [eb] at o2
              obtain ⟨mB, OB, _, _, _, _⟩ := ins_get I1.hok hb
              obtain ⟨obj, J, _⟩ := OB.look
              obtain ⟨rst, hrec⟩ := hp.rec_
              have It := I1.tok (s1.toks + 1)
              have hcl : (PySem.W.clsIn X.K (T.ca c)).isSome = true := by
                obtain ⟨cd, hc, _⟩ := PySem.W.any_some C.ok.hd
                rw [hc]
                rfl
              refine PySem.W.get_bind I1.kIn J (PySem.W.plainGet_of (C.ok.get (T.nm f))).1 (PySem.W.findObj_data hcl hp.at_ hp.get hp.tak) (PySem.W.plainGet_of (C.ok.get (T.nm f))).2 ?_
              refine wpAny_call (PySem.W.prop_get (s := { s1 with toks := s1.toks + 1 }) It.kIn hrec (codeAny_mono (u.fn g0 fn efn X.A.in1 X.stack { s1 with toks := s1.toks + 1 } H1 g1 h1 [d] [] as [.ref b] [] Q (fun _ _ _ => False) (u.room.mono (show k + 1 ≤ k + 2 by omega)).in1 It.env0.in1 a1.ok eb (RVs.one (v := .ref b) (u := .ref b) rfl rd') .nil ?_) fun rs s' hq => ?_))
              · cases q : r.c.f g0 as h1 with
                | ok d' h' => rw [q] at o2; exact o2
                | exc cc fs' h' => rw [q] at o2; exact fun g' H' dd gs' pp q1 q2 q3 => o2 g' H' dd gs' pp q1 q2 q3
                | bad => rw [q] at o2; exact o2
              · cases rs with
                | error er =>
                  obtain ⟨_, _, _, _, _, _, _, _, _, _, _, _, wf⟩ := hq
                  exact wf.elim
                | ok fl =>
                  cases fl with
                  | ret uu =>
                    obtain ⟨v, H', I3, rv, q3⟩ := It.after hq
                    exact wpAny_of_eq (PySem.W.handedOut_of (handed_of rv)) ⟨v, H', I3, rv, q3⟩
                  | next => exact False.elim hq
                  | brk => exact False.elim hq
                  | cont => exact False.elim hq
          · rw [if_neg hk] at o1
            exact o1.elim
        | none =>
          simp only [ep] at o1
          cases eo : afind cl.consts f with
          | some y =>
            simp only [eo] at o1
            obtain ⟨v, uu, hc, hr⟩ := C.co f y eo
            exact getcon_ok I1 hb C.ok hc l fun s2 I2 => ⟨v, H1, I2, hc.rel, o1 g1 v H1 (Post.refl a1.ok) (hr _ _)⟩
          | none => simp only [eo] at o1; exact o1.elim
  · exact o1.elim
/-! ### operators of own classes -/
theorem dun_go {h : Hh} {o : Op} {ds : List D} {f : Nat} {as : List D} {neg : Bool} (e : dun T.pg h o ds = some (f, as, neg)) :
    ∃ (m : Nat) (a : D) (args : List D) (c : Nat) (fs : List (Nat × D)) (cl : Cl), vw h a = .ins c fs ∧ T.pg.cl c = some cl ∧ afind cl.meths m = some f ∧ as = a :: args ∧
      ((o = .eq ∧ m = mEq ∧ neg = false ∧ ∃ b, ds = [a, b] ∧ args = [b]) ∨ (o = .ne ∧ m = mEq ∧ neg = true ∧ ∃ b, ds = [a, b] ∧ args = [b]) ∨ (o = .len ∧ m = mLen ∧ ds = [a] ∧ args = []) ∨
       (o = .isin ∧ m = mHas ∧ ∃ b, ds = [b, a] ∧ args = [b]) ∨ (o = .notin ∧ m = mHas ∧ ∃ b, ds = [b, a] ∧ args = [b]) ∨
       (o = .add ∧ m = mAdd ∧ ∃ b, ds = [a, b] ∧ args = [b]) ∨ (o = .sub ∧ m = mSub ∧ ∃ b, ds = [a, b] ∧ args = [b]) ∨ (o = .band ∧ m = mAnd ∧ ∃ b, ds = [a, b] ∧ args = [b]) ∨ (o = .idx ∧ m = mIdx ∧ ∃ b, ds = [a, b] ∧ args = [b]) ∨
       (o = .repr ∧ m = mRepr ∧ ds = [a] ∧ args = [])) := by
  have key : ∀ {m : Nat} {a : D} {args : List D} {ng : Bool}, (match clsOf (vw h a) with
    | some c => match T.pg.cl c with
      | some cl => (afind cl.meths m).map fun f => (f, a :: args, ng)
      | none => none
    | none => none) = some (f, as, neg) → ∃ c fs cl, vw h a = .ins c fs ∧ T.pg.cl c = some cl ∧ afind cl.meths m = some f ∧ as = a :: args ∧ neg = ng := fun {m a args ng} q => by
    cases ev : vw h a with
    | ins c fs =>
      rw [ev] at q
      simp only [clsOf] at q
      cases ec : T.pg.cl c with
      | none => rw [ec] at q; cases q
      | some cl =>
        rw [ec] at q
        obtain ⟨f', e1, e2⟩ := Option.map_eq_some_iff.mp q
        cases e2
        exact ⟨c, fs, cl, rfl, ec, e1, rfl, rfl⟩
    | _ => rw [ev] at q; cases q
  unfold dun at e
  dsimp only at e
  split at e
  · obtain ⟨c, fs, cl, a1, a2, a3, a4, a5⟩ := key e
    exact ⟨_, _, _, c, fs, cl, a1, a2, a3, a4, .inl ⟨rfl, rfl, a5, _, rfl, rfl⟩⟩
  · obtain ⟨c, fs, cl, a1, a2, a3, a4, a5⟩ := key e
    exact ⟨_, _, _, c, fs, cl, a1, a2, a3, a4, .inr (.inl ⟨rfl, rfl, a5, _, rfl, rfl⟩)⟩
  · obtain ⟨c, fs, cl, a1, a2, a3, a4, a5⟩ := key e
    exact ⟨_, _, _, c, fs, cl, a1, a2, a3, a4, .inr (.inr (.inl ⟨rfl, rfl, rfl, rfl⟩))⟩
  · obtain ⟨c, fs, cl, a1, a2, a3, a4, a5⟩ := key e
    exact ⟨_, _, _, c, fs, cl, a1, a2, a3, a4, .inr (.inr (.inr (.inl ⟨rfl, rfl, _, rfl, rfl⟩)))⟩
  · obtain ⟨c, fs, cl, a1, a2, a3, a4, a5⟩ := key e
    exact ⟨_, _, _, c, fs, cl, a1, a2, a3, a4, .inr (.inr (.inr (.inr (.inl ⟨rfl, rfl, _, rfl, rfl⟩))))⟩
  · obtain ⟨c, fs, cl, a1, a2, a3, a4, a5⟩ := key e
    exact ⟨_, _, _, c, fs, cl, a1, a2, a3, a4, .inr (.inr (.inr (.inr (.inr (.inl ⟨rfl, rfl, _, rfl, rfl⟩)))))⟩
  · obtain ⟨c, fs, cl, a1, a2, a3, a4, a5⟩ := key e
    exact ⟨_, _, _, c, fs, cl, a1, a2, a3, a4, .inr (.inr (.inr (.inr (.inr (.inr (.inl ⟨rfl, rfl, _, rfl, rfl⟩))))))⟩
  · obtain ⟨c, fs, cl, a1, a2, a3, a4, a5⟩ := key e
    exact ⟨_, _, _, c, fs, cl, a1, a2, a3, a4, .inr (.inr (.inr (.inr (.inr (.inr (.inr (.inl ⟨rfl, rfl, _, rfl, rfl⟩)))))))⟩
  · obtain ⟨c, fs, cl, a1, a2, a3, a4, a5⟩ := key e
    exact ⟨_, _, _, c, fs, cl, a1, a2, a3, a4, .inr (.inr (.inr (.inr (.inr (.inr (.inr (.inr (.inl ⟨rfl, rfl, _, rfl, rfl⟩))))))))⟩
  · obtain ⟨c, fs, cl, a1, a2, a3, a4, a5⟩ := key e
    exact ⟨_, _, _, c, fs, cl, a1, a2, a3, a4, .inr (.inr (.inr (.inr (.inr (.inr (.inr (.inr (.inr ⟨rfl, rfl, rfl, rfl⟩))))))))⟩
  · cases e
/-- an instance, as it stands -/
theorem inst_of {pins : List (Addr × Obj)} {σ : L2.St} {H : Hp} {s : Shared} {g : Gh} {h : Hh} {d : D} {v : V} {uv : Value} {c : Nat} {fs : List (Nat × D)} (I : Inv X pins σ H s) (ok : HeapOk T X.K g h H) (rd : Rl T X.K g.F g.m d v) (ru : RelV v uv) (ev : vw h d = .ins c fs) :
    ∃ b ox od, v = .ref b ∧ uv = Value.ref b ∧ PySem.W.InstAt s.heap b ox (T.ca c) od := by
  have w := Opd.vw (c := true) ok (.inl rd)
  rw [ev] at w
  obtain ⟨b, dx, gs, e, hb, hdx, rf⟩ := w.ins ok
  subst e
  obtain rfl : uv = Value.ref b := ru
  obtain ⟨mB, OB, _, _, _, _⟩ := ins_get I.hok hb
  obtain ⟨od, J, _⟩ := OB.look
  exact ⟨b, _, _, rfl, rfl, J⟩
def rD1 (T : Tb) (K : PySem.W.Frag) (r : Ev) (o : Op) (x : V) (H : Hp) (Q : VK) : Prop := ∃ g h d, HeapOk T K g h H ∧ Rl T K g.F g.m d x ∧ Out T K noX [] g H (evDun T.pg r o [d] h) (KK T K (relE T K) [] g H Q)
def rD2 (T : Tb) (K : PySem.W.Frag) (r : Ev) (o : Op) (x y : V) (H : Hp) (Q : VK) : Prop := ∃ g h d e, HeapOk T K g h H ∧ Rl T K g.F g.m d x ∧ Rl T K g.F g.m e y ∧ Out T K noX [] g H (evDun T.pg r o [d, e] h) (KK T K (relE T K) [] g H Q)
variable (u : Use T fa fls r.c k W X) (hn : DnN T) (hme : ∀ q cl m g, T.pg.cl q = some cl → afind cl.meths m = some g → (T.pg.fn g).isSome = true)
include u hn hme
theorem ok_lenD : CallR X (.builtin "len") (fun xs H Q => ∃ x, xs = [x] ∧ rD1 T X.K r .len x H Q) := by
  intro pins s σ H xs us Q I rv hh
  obtain ⟨x, rfl, g, h, d, ok, rd, o⟩ := hh
  obtain ⟨uv, rfl, ru⟩ := rv.one
  unfold evDun at o
  cases ed : dun T.pg h .len [d] with
  | none => rw [ed] at o; exact o.elim
  | some z =>
    obtain ⟨f, as, neg⟩ := z
    rw [ed] at o
    obtain ⟨m, a, args, c, fs, cl, e1, e2, e3, e4, e5⟩ := dun_go ed
    rcases e5 with ⟨q, _⟩ | ⟨q, _⟩ | ⟨_, e6, e7, e8⟩ | ⟨q, _⟩ | ⟨q, _⟩ | ⟨q, _⟩ | ⟨q, _⟩ | ⟨q, _⟩ | ⟨q, _⟩ | ⟨q, _⟩ <;> first | (cases q; done) | skip
    cases e7
    subst e4 e6 e8
    have o : Out T X.K noX [] g H ((noExc (evCall T.pg r f [d] [] h)).bind fun d h1 => dunBack .len neg d h1) (KK T X.K (relE T X.K) [] g H Q) := o
    have o2 := noExc_outD (σ' := []) o
    obtain ⟨b, ox, od, rfl, rfl, J⟩ := inst_of I ok rd ru e1
    have M := (u.cls c cl e2).me _ f e3
    obtain ⟨fn, efn⟩ := Option.isSome_iff_exists.mp (hme c cl _ f e2 e3)
    unfold evCall at o2
    rw [efn] at o2
    cases eb : bindA fn [d] [] with
    | none => simp only [eb] at o2; exact o2.elim
    | some as =>
      simp only [eb] at o2
      obtain ⟨mm, hF⟩ := I.fr
      have at_ := M.at_
      rw [hn.len] at at_
      refine PySem.W.len_K hF I.ok.mod.kin J at_ M.fn ?_
      refine wpAny_mono (run_quiet (Q := fun v H' => ∃ i : Int, v = .int i ∧ (0 ≤ i ∧ i < 2 ^ 63) ∧ Q v H') u (u.room.mono (show k + 1 ≤ k + 2 by omega)).in1 I.env0.in1 efn eb I ok (RVs.one (v := .ref b) (u := .ref b) rfl rd) .nil (o2.imp fun v h1 o3 g' bv H' p rv => ?_)) (fun w s' z => ?_) fun _ _ x => x
      · unfold dunBack at o3
        split at o3 <;> first | exact o3.elim | skip
        all_goals first | (rename_i hh; cases hh; done) | skip
        rename_i i _
        split at o3
        · rename_i hi
          simp only [Bool.and_eq_true, decide_eq_true_eq] at hi
          cases rv
          exact ⟨i, rfl, ⟨hi.1, by omega⟩, o3 g' _ H' p (.int i)⟩
        · exact o3.elim
      · obtain ⟨v, H', I', rv, i, rfl, hi, q⟩ := z
        obtain ⟨t, rfl⟩ := (show ∃ t, w = Value.int i t from rv)
        exact ⟨hi, .int i, H', I'.tok _, ⟨_, rfl⟩, q⟩
omit hn in
/-- the call of an own operator's def: what comes of its answer -/
theorem dun_run {A' : Around} {pins : List (Addr × Obj)} {σ : L2.St} {H : Hp} {s : Shared} {g : Gh} {h : Hh} {o : Op} {f c m : Nat} {cl : Cl} {as : List D} {neg : Bool} {us : List Value} {Q : VK} {E' : Value → Shared → Prop} (e2 : T.pg.cl c = some cl) (e3 : afind cl.meths m = some f)
    (hrA : Room k A') (hE : Env0 X.prog X.w X.K X.mg X.base A' X.stack s H) (I : Inv X pins σ H s) (ok : HeapOk T X.K g h H) (r1 : RVs T X.K g.F g.m as us)
    (oo : Out T X.K noX [] g H ((noExc (evCall T.pg r f as [] h)).bind fun d h1 => dunBack o neg d h1) (KK T X.K (relE T X.K) [] g H Q)) :
    wpAny (model X.prog X.w) A' (call (.ref (fa f)) us) (EP X pins σ fun v H' => ∃ d h1 g', Post T X.K g H g' h1 H' ∧ Rl T X.K g'.F g'.m d v ∧ Out T X.K noX [] g H (dunBack o neg d h1) (KK T X.K (relE T X.K) [] g H Q)) E' s := by
  have o2 := noExc_outD (σ' := []) oo
  obtain ⟨fn, efn⟩ := Option.isSome_iff_exists.mp (hme c cl _ f e2 e3)
  unfold evCall at o2
  rw [efn] at o2
  cases eb : bindA fn as [] with
  | none => simp only [eb] at o2; exact o2.elim
  | some as' =>
    simp only [eb] at o2
    exact run_quiet (kv := []) (ws := []) u hrA hE efn eb I ok r1 .nil (o2.imp fun v h1 o3 g' bv H' p rv => ⟨v, h1, g', p, rv, o3⟩)
/-- two operands' parts -/
theorem ok_eqD : OpR X (compareOp .Eq) (fun x y H Q => rD2 T X.K r .eq x y H Q) := by
  intro pins s σ H x y v uy Q I rx ry hh
  obtain ⟨g, h, d, e, ok, rd, re, o⟩ := hh
  unfold evDun at o
  cases ed : dun T.pg h .eq [d, e] with
  | none => rw [ed] at o; exact o.elim
  | some z =>
    obtain ⟨f, as, neg⟩ := z
    rw [ed] at o
    obtain ⟨m, a, args, c, fs, cl, e1, e2, e3, e4, e5⟩ := dun_go ed
    rcases e5 with ⟨_, e6, e7, b, e8, e9⟩ | ⟨q, _⟩ | ⟨q, _⟩ | ⟨q, _⟩ | ⟨q, _⟩ | ⟨q, _⟩ | ⟨q, _⟩ | ⟨q, _⟩ | ⟨q, _⟩ | ⟨q, _⟩ <;> first | (cases q; done) | skip
    cases e8
    subst e4 e6 e9
    have o : Out T X.K noX [] g H (if dunOk h .eq [d, e] then (noExc (evCall T.pg r f [d, e] [] h)).bind fun d h1 => dunBack .eq neg d h1 else .bad) (KK T X.K (relE T X.K) [] g H Q) := o
    by_cases hk : dunOk h .eq [d, e] = true
    · rw [if_pos hk] at o
      obtain ⟨b, ox, od, rfl, rfl, J⟩ := inst_of I ok rd rx e1
      have M := (u.cls c cl e2).me _ f e3
      obtain ⟨mm, hF⟩ := I.fr
      have at_ := M.at_
      rw [hn.eq] at at_
      have run := dun_run u hme (E' := X.xe) e2 e3 (u.room.mono (show k ≤ k + 2 by omega)) I.env0 I ok (RVs.two (v := .ref b) (u := .ref b) rfl rd ry re) o
      have fin : wpAny (model X.prog X.w) X.A (call (.ref (fa f)) [.ref b, uy]) (PySem.W.CmpBack (EP X pins σ Q)) X.xe s := wpAny_mono run (fun w s' z => by
        obtain ⟨v, H', I', rv, d', h1, g', p, rl, o3⟩ := z
        unfold dunBack at o3
        split at o3 <;> first | exact o3.elim | skip
        all_goals first | (rename_i hh; cases hh; done) | skip
        cases rl
        cases (show w = Value.bool _ from rv)
        exact ⟨.bl _, H', I', rfl, o3 g' _ H' p (.bl _)⟩) fun _ _ x => x
      have hk2 : eqTo (vw h d) (vw h e) = true := hk
      have cmp : ∀ {tb : Value}, PySem.W.Looks (model X.prog X.w) s.heap (typeOf uy) tb → PySem.W.notFirst X.K (T.ca c) tb = true → wpAny (model X.prog X.w) X.A (compareOp .Eq (.ref b) uy) (EP X pins σ Q) X.xe s := fun hb hnf =>
        PySem.W.cmp_K (op := .Eq) u.room.units0 hF I.ok.mod.kin J hb hnf at_ M.fn fin
      rw [e1] at hk2
      cases q : vw h e with
      | ins c2 fs2 =>
        rw [q] at hk2
        have ec : c = c2 := by simpa [eqTo] using hk2
        subst ec
        obtain ⟨b2, ox2, od2, rfl, rfl, J2⟩ := inst_of I ok re ry q
        exact cmp J2.type (by unfold PySem.W.notFirst; simp)
      | str z =>
        have w := Opd.vw (c := true) ok (.inl re)
        rw [q] at w
        cases w.str
        obtain ⟨t, rfl⟩ := ry
        exact cmp (PySem.W.Looks.of_pure rfl) (by rfl)
      | int z =>
        have w := Opd.vw (c := true) ok (.inl re)
        rw [q] at w
        cases w.int
        obtain ⟨t, rfl⟩ := ry
        exact cmp (PySem.W.Looks.of_pure rfl) (by rfl)
      | bl z =>
        have w := Opd.vw (c := true) ok (.inl re)
        rw [q] at w
        cases w.bl
        cases ry
        exact cmp (PySem.W.Looks.of_pure rfl) (by rfl)
      | non =>
        have w := Opd.vw (c := true) ok (.inl re)
        rw [q] at w
        cases w.non
        cases ry
        exact cmp (PySem.W.Looks.of_pure rfl) (by rfl)
      | _ => rw [q] at hk2; cases hk2
    · rw [if_neg hk] at o
      exact o.elim
/-- .. in o -/
theorem has_run {o : Op} {nb : Bool} (ho : (o = .isin ∧ nb = false) ∨ (o = .notin ∧ nb = true)) {pins : List (Addr × Obj)} {σ : L2.St} {H : Hp} {s : Shared} {x y : V} {v uy : Value} {Q : VK} (I : Inv X pins σ H s) (rx : RelV x v) (ry : RelV y uy) (hh : rD2 T X.K r o x y H Q) :
    ∃ (b : Addr) (ox : Obj) (C f : Addr) (od : Option Obj), uy = Value.ref b ∧ PySem.W.InstAt s.heap b ox C od ∧ PySem.W.findIn X.K (.ref C) "__contains__" = some (some (.ref f)) ∧ PySem.W.isFn X.K (.ref f) = true ∧
      wpAny (model X.prog X.w) X.A (call (.ref f) [.ref b, v]) (fun rr s' => ∃ t, rr = Value.bool t ∧ EP X pins σ Q (.bool (if nb = true then !t else t)) s') X.xe s := by
  obtain ⟨g, h, d, e, ok, rd, re, oo⟩ := hh
  unfold evDun at oo
  cases ed : dun T.pg h o [d, e] with
  | none => rw [ed] at oo; exact oo.elim
  | some z =>
    obtain ⟨f, as, neg⟩ := z
    rw [ed] at oo
    obtain ⟨m, a, args, c, fs, cl, e1, e2, e3, e4, e5⟩ := dun_go ed
    have key : m = mHas ∧ ∃ b, [d, e] = [b, a] ∧ args = [b] := by
      rcases ho with ⟨rfl, rfl⟩ | ⟨rfl, rfl⟩
      · rcases e5 with ⟨q, _⟩ | ⟨q, _⟩ | ⟨q, _⟩ | ⟨_, q⟩ | ⟨q, _⟩ | ⟨q, _⟩ | ⟨q, _⟩ | ⟨q, _⟩ | ⟨q, _⟩ | ⟨q, _⟩ <;> first | (cases q; done) | exact q
      · rcases e5 with ⟨q, _⟩ | ⟨q, _⟩ | ⟨q, _⟩ | ⟨q, _⟩ | ⟨_, q⟩ | ⟨q, _⟩ | ⟨q, _⟩ | ⟨q, _⟩ | ⟨q, _⟩ | ⟨q, _⟩ <;> first | (cases q; done) | exact q
    obtain ⟨e6, b, e8, e9⟩ := key
    cases e8
    subst e4 e6 e9
    have dk : dunOk h o [d, e] = true := by rcases ho with ⟨rfl, rfl⟩ | ⟨rfl, rfl⟩ <;> rfl
    have oo : Out T X.K noX [] g H (if dunOk h o [d, e] then (noExc (evCall T.pg r f [e, d] [] h)).bind fun d h1 => dunBack o neg d h1 else .bad) (KK T X.K (relE T X.K) [] g H Q) := oo
    rw [if_pos dk] at oo
    obtain ⟨b, ox, od, rfl, rfl, J⟩ := inst_of I ok re ry e1
    have M := (u.cls c cl e2).me _ f e3
    have at_ := M.at_
    rw [hn.has] at at_
    have run := dun_run u hme (E' := X.xe) e2 e3 (u.room.mono (show k ≤ k + 2 by omega)) I.env0 I ok (RVs.two (v := .ref b) (u := .ref b) rfl re rx rd) oo
    refine ⟨b, ox, T.ca c, fa f, od, rfl, J, at_, M.fn, wpAny_mono run (fun w s' z => ?_) fun _ _ x => x⟩
    obtain ⟨v2, H', I', rv, d', h1, g', p, rl, o3⟩ := z
    rcases ho with ⟨rfl, rfl⟩ | ⟨rfl, rfl⟩
    · unfold dunBack at o3
      split at o3 <;> first | exact o3.elim | skip
      all_goals first | (rename_i hh; cases hh; done) | skip
      cases rl
      cases (show w = Value.bool _ from rv)
      exact ⟨_, rfl, .bl _, H', I', rfl, o3 g' _ H' p (.bl _)⟩
    · unfold dunBack at o3
      split at o3 <;> first | exact o3.elim | skip
      all_goals first | (rename_i hh; cases hh; done) | skip
      cases rl
      cases (show w = Value.bool _ from rv)
      exact ⟨_, rfl, .bl _, H', I', rfl, o3 g' _ H' p (.bl _)⟩
theorem ok_inD : OpR X (compareOp .In) (fun x y H Q => rD2 T X.K r .isin x y H Q) := by
  intro pins s σ H x y v uy Q I rx ry hh
  obtain ⟨b, ox, C, f, od, rfl, J, at_, fn, run⟩ := has_run u hn hme (.inl ⟨rfl, rfl⟩) I rx ry hh
  obtain ⟨mm, hF⟩ := I.fr
  refine PySem.W.in_K hF I.ok.mod.kin J at_ fn (wpAny_mono run (fun rr s' z => ?_) fun _ _ x => x)
  obtain ⟨t, rfl, q⟩ := z
  exact wpAny_truthy_bool q
theorem ok_notinD : OpR X (compareOp .NotIn) (fun x y H Q => rD2 T X.K r .notin x y H Q) := by
  intro pins s σ H x y v uy Q I rx ry hh
  obtain ⟨b, ox, C, f, od, rfl, J, at_, fn, run⟩ := has_run u hn hme (.inr ⟨rfl, rfl⟩) I rx ry hh
  obtain ⟨mm, hF⟩ := I.fr
  refine PySem.W.notIn_K hF I.ok.mod.kin J at_ fn (wpAny_mono run (fun rr s' z => ?_) fun _ _ x => x)
  obtain ⟨t, rfl, q⟩ := z
  exact wpAny_truthy_bool q
theorem ok_reprD : CallR X (.builtin "repr") (fun xs H Q => ∃ x, xs = [x] ∧ rD1 T X.K r .repr x H Q) := by
  intro pins s σ H xs us Q I rv hh
  obtain ⟨x, rfl, g, h, d, ok, rd, o⟩ := hh
  obtain ⟨uv, rfl, ru⟩ := rv.one
  unfold evDun at o
  cases ed : dun T.pg h .repr [d] with
  | none => rw [ed] at o; exact o.elim
  | some z =>
    obtain ⟨f, as, neg⟩ := z
    rw [ed] at o
    obtain ⟨m, a, args, c, fs, cl, e1, e2, e3, e4, e5⟩ := dun_go ed
    rcases e5 with ⟨q, _⟩ | ⟨q, _⟩ | ⟨q, _⟩ | ⟨q, _⟩ | ⟨q, _⟩ | ⟨q, _⟩ | ⟨q, _⟩ | ⟨q, _⟩ | ⟨q, _⟩ | ⟨_, e6, e7, e8⟩ <;> first | (cases q; done) | skip
    cases e7
    subst e4 e6 e8
    have o : Out T X.K noX [] g H ((noExc (evCall T.pg r f [d] [] h)).bind fun d h1 => dunBack .repr neg d h1) (KK T X.K (relE T X.K) [] g H Q) := o
    obtain ⟨b, ox, od, rfl, rfl, J⟩ := inst_of I ok rd ru e1
    have M := (u.cls c cl e2).me _ f e3
    obtain ⟨mm, hF⟩ := I.fr
    have at_ := M.at_
    rw [hn.rep] at at_
    have run := dun_run u hme (E' := X.xe) e2 e3 (u.room.mono (show k + 1 ≤ k + 2 by omega)).in1 I.env0.in1 I ok (RVs.one (v := .ref b) (u := .ref b) rfl rd) o
    refine PySem.W.repr_K (u.room.mono (show k + 1 ≤ k + 2 by omega)).in1.units0 hF I.ok.mod.kin J at_ M.fn (wpAny_mono run (fun w s' z => ?_) fun _ _ x => x)
    obtain ⟨v, H', I', rv, d', h1, g', p, rl, o3⟩ := z
    unfold dunBack at o3
    split at o3 <;> first | exact o3.elim | skip
    all_goals first | (rename_i hh; cases hh; done) | skip
    cases rl
    obtain ⟨t, rfl⟩ := (show ∃ t, w = Value.str _ t from rv)
    exact ⟨.str _, H', I', ⟨t, rfl⟩, o3 g' _ H' p (.str _)⟩
end
end PI
end
section
/-! Rules for own operators, methods; written lists repeated; count; targets of any form. -/
set_option linter.all false
set_option maxRecDepth 100000
set_option maxHeartbeats 1000000
namespace PI
open PySem PySem.Spec PyProof.Rows L2

theorem evDun_quiet {T : Tb} {K : PySem.W.Frag} {W : Wx} {σ : L2.St} {g : Gh} {H : Hp} {r : Ev} {o : Op} {ds : List D} {h : Hh} {k : D → Hh → Prop} (z : Out T K W σ g H (evDun T.pg r o ds h) k) : Out T K noX [] g H (evDun T.pg r o ds h) k := by
  have ne : ∀ c fs h', evDun T.pg r o ds h ≠ .exc c fs h' := fun c fs h' e => by
    unfold evDun at e
    split at e
    · split at e
      · unfold noExc at e
        split at e
        · cases e
        · rename_i f as neg _ _ x hx
          cases q : evCall T.pg r f as [] h with
          | ok d h1 =>
            rw [q] at e
            have e : dunBack o neg d h1 = .exc c fs h' := e
            unfold dunBack at e
            split at e <;> first | (cases e; done) | (split at e <;> cases e)
          | exc c fs h1 => exact hx _ _ _ q
          | bad => rw [q] at e; cases e
      · cases e
    · cases e
  cases q : evDun T.pg r o ds h with
  | ok d h1 => rw [q] at z; exact z
  | exc c fs h' => exact absurd q (ne c fs h')
  | bad => rw [q] at z; exact z
section
variable {T : Tb} {fa : Nat → Addr} {fls : List Nat} {r : Ev} {k : Nat} {W : Wx} {X : Cx} {a b : Expr} {a' b' : E} {o : Op} {pos p : Pos} {x : Str}
theorem rdD1 {σ : L2.St} {H : Hp} {Q : VK} (hh : Rd T X.K W (fun ρ h => (r.e a' ρ h).bind fun d h1 => evDun T.pg r o [d] h1) (relE T X.K) σ H Q) :
    Rd T X.K W (r.e a') (relE T X.K) σ H (fun x H1 => rD1 T X.K r o x H1 Q) := by
  obtain ⟨g, ρ, h, s, z⟩ := hh
  exact Rd.mk s z fun g1 d v h1 H1 s1 p1 rd z1 => ⟨g1, h1, d, s1.ok, rd, evDun_quiet z1⟩
theorem rdD2 {σ : L2.St} {H : Hp} {Q : VK} (hh : Rd T X.K W (fun ρ h => (r.e a' ρ h).bind fun d h1 => (r.e b' ρ h1).bind fun e h2 => evDun T.pg r o [d, e] h2) (relE T X.K) σ H Q) :
    Rd T X.K W (r.e a') (relE T X.K) σ H (fun x H1 => Rd T X.K W (r.e b') (relE T X.K) σ H1 fun y H2 => rD2 T X.K r o x y H2 Q) := by
  obtain ⟨g, ρ, h, s, z⟩ := hh
  refine Rd.mk s z fun g1 d v h1 H1 s1 p1 rd z1 => ?_
  exact Rd.mk s1 z1 fun g2 e v2 h2 H2 s2 p2 rd2 z2 => ⟨g2, h2, d, e, s2.ok, rd.mono p2.le.s p2.le.p _, rd2, evDun_quiet z2⟩
theorem pe_fnD {id : String} (hc : CallR X (.builtin id) (fun xs H Q => ∃ x, xs = [x] ∧ rD1 T X.K r o x H Q)) (hg : Gl X x) (hm : X.mg x = none) (hv : bootBuiltins x = some (.builtin id)) (ha : PE X a (Rd T X.K W (r.e a') (relE T X.K))) (hn : x ≠ "__name__") (hdb : (x == ("__debug__" : Str)) = false)
    (hs : starEach [a] X.env = [(false, eval a X.env)]) : PE X (.Call (.Name x p) [a] [] pos) (Rd T X.K W (fun ρ h => (r.e a' ρ h).bind fun d h1 => evDun T.pg r o [d] h1) (relE T X.K)) :=
  PE.imp (pe_callB hc hg hm hv (pa_cons ha pa_nil hs) hn hdb hs rfl) fun σ H Q hh => (rdD1 hh).mono fun x H' z => ⟨x, rfl, z⟩
theorem pe_cmpD {op : CmpOp} (ho : OpR X (compareOp op) (fun x y H Q => rD2 T X.K r o x y H Q)) (ha : PE X a (Rd T X.K W (r.e a') (relE T X.K))) (hb : PE X b (Rd T X.K W (r.e b') (relE T X.K))) (hm : behindInMarks op b = false) :
    PE X (.Compare a [op] [b] pos) (Rd T X.K W (fun ρ h => (r.e a' ρ h).bind fun d h1 => (r.e b' ρ h1).bind fun e h2 => evDun T.pg r o [d, e] h2) (relE T X.K)) := PE.imp (pe_cmpR ho ha hb hm) fun σ H Q hh => rdD2 hh
/-- what a comparison of own things gives is a bool -/
theorem evDun_bl {o : Op} (ho : o = .eq ∨ o = .isin ∨ o = .notin) {pg : Pg} {ds : List D} {h h' : Hh} {d : D} (e : evDun pg r o ds h = .ok d h') : ∃ k, d = .bl k := by
  unfold evDun at e
  split at e
  · split at e
    · rename_i f as neg _ _
      cases q : noExc (evCall pg r f as [] h) with
      | ok z h1 =>
        rw [q] at e
        have e : dunBack o neg z h1 = .ok d h' := e
        unfold dunBack at e
        rcases ho with rfl | rfl | rfl <;> (cases z <;> first | (cases e; done) | (cases e; exact ⟨_, rfl⟩))
      | exc c fs h1 => rw [q] at e; cases e
      | bad => rw [q] at e; cases e
    · cases e
  · cases e
theorem pt_cmpD {op : CmpOp} (hob : o = .eq ∨ o = .isin ∨ o = .notin) (ho : OpR X (compareOp op) (fun x y H Q => rD2 T X.K r o x y H Q)) (ha : PE X a (Rd T X.K W (r.e a') (relE T X.K))) (hb : PE X b (Rd T X.K W (r.e b') (relE T X.K))) (hm : behindInMarks op b = false) :
    PT X (.Compare a [op] [b] pos) (Rd T X.K W (fun ρ h => ((r.e a' ρ h).bind fun d h1 => (r.e b' ρ h1).bind fun e h2 => evDun T.pg r o [d, e] h2).bind fun d h1 => truthD d h1) relB) := PT.imp (pt_cmpR ho ha hb hm) fun σ H Q hh => by
  refine rdD2 (rdT_of hh fun ρ h d h1 e => ?_)
  cases q1 : r.e a' ρ h with
  | ok x k1 =>
    rw [q1] at e
    have e : (r.e b' ρ k1).bind (fun y h2 => evDun T.pg r o [x, y] h2) = .ok d h1 := e
    cases q2 : r.e b' ρ k1 with
    | ok y k2 =>
      rw [q2] at e
      exact evDun_bl hob (show evDun T.pg r o [x, y] k2 = .ok d h1 from e)
    | exc c fs h' => rw [q2] at e; cases e
    | bad => rw [q2] at e; cases e
  | exc c fs h' => rw [q1] at e; cases e
  | bad => rw [q1] at e; cases e
/-! ### a written list, repeated -/
theorem pe_lmulR {es : List Expr} {its : List It} {n : Nat} {p1 p2 : Pos} {j} (ha : PA X es (Rd T X.K W (evIts r its) (relEs T X.K))) (hn : n ≤ 1000000) :
    PE X (.BinOp (.List es p1) .Mult (.Constant (.int n) j p2) pos) (Rd T X.K W (fun ρ h => (evIts r its ρ h).bind fun ds h1 => if sizeOk ds.length && sizeOk (ds.length * n) then .ok (.lst (List.replicate n ds).flatten) h1 else .bad) (relE T X.K)) :=
  PE.imp (pe_op op_rep (pe_lst ha) pe_int) fun σ H Q hh => by
    obtain ⟨g, ρ, h, a, o⟩ := hh
    refine ⟨g, ρ, h, a, (Out.bind o).imp fun ds h1 o1 g1 vs H1 p1 rd => ?_⟩
    have a1 := a.post p1
    by_cases hz : (sizeOk ds.length && sizeOk (ds.length * n)) = true
    · rw [if_pos hz] at o1
      rw [Bool.and_eq_true] at hz
      have hl := rd.length
      refine ⟨by rw [hl]; exact sizeOk_le hz.1, fun q hq => ?_⟩
      have po := a1.ok.newO (o := .lst vs) hq
      refine ⟨q, (n : Int), vs, rfl, rfl, upd_same, by omega, by omega, by rw [hl]; exact sizeOk_le hz.2, fun q2 hq2 => ?_⟩
      have rep : ∀ m : Nat, Rls T X.K g1.F g1.m (List.replicate m ds).flatten (List.replicate m vs).flatten := fun m => by
        induction m with
        | zero => exact .nil
        | succ m ih => exact rd.append ih
      have p3 := po.ok.newF (o := .lst (List.replicate (n : Int).toNat vs).flatten) hq2
      exact o1 _ _ _ (p1.trans (po.trans p3)) (by
        have e : ((n : Int)).toNat = n := by omega
        rw [e]
        exact new_lst po.ok hq2 (rep n))
    · rw [if_neg hz] at o1
      exact o1.elim
end
end PI
end
section
/-! Texts: count of one sign. Method calls of instances. -/
set_option linter.all false
set_option maxRecDepth 100000
set_option maxHeartbeats 1000000
namespace PI
open PySem PySem.Spec PyProof.Rows L2

theorem occ_len (x : Str) (c limit : Nat) : ∀ (k j free : Nat) (found : Array Nat), free ≤ j → found.size + ((x.cps.toList.drop j).take k).count c < limit → 
    (forIn (List.range' j k) (found, free) (StrLaws.occBody x ⟨#[c]⟩ x.length limit)).run.fst.size = found.size + ((x.cps.toList.drop j).take k).count c
  | 0, j, free, found, _, _ => by simp
  | k + 1, j, free, found, hf, hl => by
    rw [List.range'_succ, List.forIn_cons]
    have one := StrLaws.subAt_one x c j
    by_cases q : x.cps.toList[j]? = some c
    · obtain ⟨q1, q2⟩ := one.mpr q
      have hcnt : ((x.cps.toList.drop j).take (k + 1)).count c = ((x.cps.toList.drop (j + 1)).take k).count c + 1 := by
        obtain ⟨hj, e⟩ := List.getElem?_eq_some_iff.mp q
        rw [List.drop_eq_getElem_cons hj, List.take_succ_cons, List.count_cons, e]
        simp
      have body : StrLaws.occBody x ⟨#[c]⟩ x.length limit j (found, free) = pure (ForInStep.yield (found.push j, j + 1)) := by
        unfold StrLaws.occBody
        rw [if_pos ⟨⟨⟨show found.size < limit by rw [hcnt] at hl; omega, hf⟩, q1⟩, q2⟩]
        rfl
      rw [body]
      show (forIn (List.range' (j + 1) k) (found.push j, j + 1) (StrLaws.occBody x ⟨#[c]⟩ x.length limit)).run.fst.size = _
      rw [hcnt] at hl
      rw [occ_len x c limit k (j + 1) (j + 1) (found.push j) (Nat.le_refl _) (by rw [Array.size_push]; omega), Array.size_push, hcnt]
      omega
    · have body : StrLaws.occBody x ⟨#[c]⟩ x.length limit j (found, free) = pure (ForInStep.yield (found, free)) := by
        unfold StrLaws.occBody
        rw [if_neg fun z => q (one.mp ⟨z.1.2, z.2⟩)]
      rw [body]
      show (forIn (List.range' (j + 1) k) (found, free) (StrLaws.occBody x ⟨#[c]⟩ x.length limit)).run.fst.size = _
      have hcnt : ((x.cps.toList.drop j).take (k + 1)).count c = ((x.cps.toList.drop (j + 1)).take k).count c := by
        by_cases hj : j < x.cps.toList.length
        · rw [List.drop_eq_getElem_cons hj, List.take_succ_cons, List.count_cons]
          have ne : ¬ x.cps.toList[j] = c := fun e => q (by rw [List.getElem?_eq_getElem hj, e])
          have : (x.cps.toList[j] == c) = false := beq_eq_false_iff_ne.mpr ne
          rw [this]
          simp
        · rw [List.drop_eq_nil_of_le (by omega), List.drop_eq_nil_of_le (by omega)]
          simp
      rw [hcnt] at hl
      rw [occ_len x c limit k (j + 1) free found (by omega) hl, hcnt]
theorem count_one (x : Tx) (c : Nat) : Txt.count (tS x) (tS [c]) = (x.count c : Nat) := by
  unfold Txt.count
  rw [StrLaws.occ_eq, Array.length_toList, Nat.sub_zero]
  have e : ((tS x).cps.toList.take ((tS x).length + 1)).count c = x.count c := by
    have : (tS x).cps.toList = x := tS_tl x
    rw [this, tS_len, List.take_of_length_le (by omega)]
  have := occ_len (tS x) c ((tS x).length + 1) ((tS x).length + 1) 0 0 #[] (Nat.le_refl _) (by
    rw [List.drop_zero, e, tS_len]
    have := List.count_le_length (a := c) (l := x)
    simp
    omega)
  rw [List.drop_zero, e] at this
  show (((forIn (List.range' 0 ((tS x).length + 1)) ((#[] : Array Nat), 0) (StrLaws.occBody (tS x) ⟨#[c]⟩ (tS x).length ((tS x).length + 1))).run.fst.size : Nat) : Int) = _
  rw [this]
  simp
section
variable {T : Tb} {X : Cx}
theorem ok_count : MtR X "str.count" (fun x xs H Q => ∃ y, xs = [y] ∧ rP2 T X.K oCount x y H Q) := by
  intro pins s σ H x xs v us Q I rx rs hh
  obtain ⟨y, rfl, g, h, d1, d2, d, ok, w1, w2, e, fin⟩ := hh
  unfold oCount at e
  split at e
  · rename_i a c
    cases e
    have e1 := w1.str
    have e2 := w2.str
    subst e1 e2
    refine mt_count pins s σ H _ _ v us Q I rx rs ⟨_, _, rfl, rfl, ?_⟩
    rw [count_one]
    exact fin.same ok (.int _)
  · cases e
end
/-! ### the tree of a method call -/
theorem meth_tree {o : Expr} {m : Str} {apos pos : Pos} {es : List Expr} {kws : List Keyword} {env : Env} (hb : attributeBase o m env (eval o env) = eval o env) (hf : methodCallForm (es.length + kws.length) (backTo pos (starEach es env)) (backToKw pos (keywordEach kws env)) = true) (hl : (apos.endLine == pos.line) = true) :
    eval (.Call (.Attribute o m apos) es kws pos) env = (do
      let ov ← eval o env
      standAt apos.atName
      let (f, first) ← holding [ov] (getMethod ov m (do return (← importBound o env).getD true))
      callWith pos f first (backTo pos (starEach es env)) (backToKw pos (keywordEach kws env))) := by
  have e0 : eval (.Call (.Attribute o m apos) es kws pos) env = (do
    let ov ← attributeBase o m env (eval o env)
    standAt apos.atName
    methodCall o m apos pos env ov (es.length + kws.length) (backTo pos (starEach es env)) (backToKw pos (keywordEach kws env))) := rfl
  rw [e0, hb]
  unfold methodCall calleeOf methodCallPos
  rw [hf]
  simp only [hl, Bool.not_true, Bool.false_or, if_true, pure_bind]
  all_goals rfl
end PI
end
section
/-! The checker: expressions. -/
set_option linter.all false
set_option maxRecDepth 100000
set_option maxHeartbeats 1000000
namespace PI
open PySem PySem.Spec PyProof.Rows L2

abbrev Chk := Scope → (Str → Bool) → Expr → E → Bool
/-- an operand, by a checker of values -/
def caOf (N : List Str) (ce : Expr → E → Bool) (sc : Scope) (e : Expr) (x : E) : Bool :=
  match x with
  | .v i => (match e with | .Name y _ => vOk sc N i y | _ => false)
  | x => ce e x
def plainT : Expr → Bool
  | .UnaryOp .Not _ _ => false
  | .BoolOp _ _ _ => false
  | .IfExp _ _ _ _ => false
  | .Compare _ _ _ _ => false
  | _ => true
def isJ : E → Bool
  | .and _ _ => true
  | .or _ _ => true
  | .not _ => true
  | _ => false
/-- a comparison -/
def cmpD (o : Op) : Bool := match o with | .eq => true | .isin => true | .notin => true | _ => false
def cmpLeaf (v0 c0 : Expr → E → Bool) (e : Expr) (x : E) : Bool :=
  match e with
  | .Compare a [op] [b] _ => (match x with
    | .op o [a', b'] => cmpM op o && !behindInMarks op b && c0 a a' && c0 b b'
    | .op o [a'] => (match b with | .Constant q _ _ => isM op q o && c0 a a' | _ => false)
    | .opd2 o a' b' => cmpM op o && cmpD o && !behindInMarks op b && v0 a a' && v0 b b'
    | _ => false)
  | .Compare a [op, op2] [b, c] _ => (match x with
    | .chain o o2 a' b' c' => cmpM op o && cmpM op2 o2 && !lastMarks [op, op2] [b, c] && c0 a a' && c0 b b' && c0 c c'
    | _ => false)
  | _ => false
def chkT (c1 v0 c0 : Expr → E → Bool) : Nat → Expr → E → Bool
  | 0, _, _ => false
  | m + 1, e, x => match e with
    | .BoolOp .And (a :: b :: rest) p => (match x with | .and a' b' => chkT c1 v0 c0 m a a' && (match rest with | [] => chkT c1 v0 c0 m b b' | r :: rs => chkT c1 v0 c0 m (.BoolOp .And (b :: r :: rs) p) b') | _ => false)
    | .BoolOp .Or (a :: b :: rest) p => (match x with | .or a' b' => chkT c1 v0 c0 m a a' && (match rest with | [] => chkT c1 v0 c0 m b b' | r :: rs => chkT c1 v0 c0 m (.BoolOp .Or (b :: r :: rs) p) b') | _ => false)
    | .UnaryOp .Not a _ => (match x with | .not a' => chkT c1 v0 c0 m a a' | _ => false)
    | e => !isJ x && (cmpLeaf v0 c0 e x || (plainT e && c1 e x))
def isBO : Expr → Bool
  | .BoolOp _ _ _ => true
  | _ => false
section
variable {T : Tb} {fa : Nat → Addr} {ck : Ck} {c : Cf} {k : Nat} {W : Wx} {sc : Scope} {N : List Str} {fo : Str → Bool} {X : Cx} {e : Expr} {x : E} {pos : Pos}
theorem plainT_of (h : plainT e = true) (env : Env) : ∀ whole, isTrue e env whole = (do let v ← whole; standAt e.pos; holding [v] (truthy v)) := by
  intro whole
  cases e with
  | UnaryOp op a p => cases op <;> first | rfl | cases h
  | BoolOp op vs p => cases h
  | IfExp a b c p => cases h
  | Compare a b c p => cases h
  | _ => rfl
theorem evT_leaf {r : Ev} {m : Nat} (h : isJ x = false) (ρ : En) (hh : Hh) : evT r (m + 1) x ρ hh = (evA r x ρ hh).bind fun d h1 => truthD d h1 := by
  cases x <;> first | rfl | cases h
theorem evA_ne {r : Ev} (h : ∀ i, x ≠ .v i) (ρ : En) (hh : Hh) : evA r x ρ hh = r.e x ρ hh := by
  cases x <;> first | rfl | exact absurd rfl (h _)
/-- levels: at n + 1 what is at n -/
theorem inner_e (pg : Pg) (w : Nat) (c : Cf) (n : Nat) (x : E) : (inner pg w c (n + 1)).e x = stepE pg (inner pg w c n) n x := rfl
/-- a comparison as a test -/
theorem cmpLeaf_ok {n m : Nat} {v0 c0 : Expr → E → Bool} (hv : ∀ e x, v0 e x = true → PE X e (Rd T X.K W ((inner T.pg turns c n).e x) (relE T X.K))) (G : Good T fa ck c k W sc N fo X) (hu : X.A.units + 65 < cLine) (h0 : ∀ e x, c0 e x = true → PE X e (Rd T X.K W (evA (inner T.pg turns c n) x) (relA T X.K fun ρ => clean ρ x))) (h : cmpLeaf v0 c0 e x = true) :
    PT X e (Rd T X.K W (evT (inner T.pg turns c (n + 1)) (m + 1) x) relB) := by
  unfold cmpLeaf at h
  split at h
  · split at h
    · simp only [Bool.and_eq_true, Bool.not_eq_true'] at h
      obtain ⟨f, z1, z2, z3⟩ := cmp_ok (T := T) hu h.1.1.1
      exact pt_cmpV z1 z2 z3 (h0 _ _ h.1.2) (h0 _ _ h.2) h.1.1.2
    · split at h
      · rw [Bool.and_eq_true] at h
        obtain ⟨f, v, z1, z2, z3, z4⟩ := is_ok (T := T) (X := X) h.1
        exact pt_isR z1 z2 z3 (z4 _ _) (h0 _ _ h.2) rfl
      · cases h
    · simp only [Bool.and_eq_true, Bool.not_eq_true'] at h
      obtain ⟨⟨⟨⟨h1, h2⟩, h3⟩, h4⟩, h5⟩ := h
      have u : Use T fa ck.fls (inner T.pg turns c n).c k W X := by
        have : (inner T.pg turns c n).c = c := by cases n <;> rfl
        rw [this]
        exact G.use
      unfold cmpD at h2
      split at h2 <;> first | (cases h2; done) | skip
      · rename_i op _ _ _ _ _ _
        have : op = .Eq := by cases op <;> first | rfl | cases h1
        subst this
        exact pt_cmpD (.inl rfl) (ok_eqD u u.dn u.hme) (hv _ _ h4) (hv _ _ h5) h3
      · rename_i op _ _ _ _ _ _
        have : op = .In := by cases op <;> first | rfl | cases h1
        subst this
        exact pt_cmpD (.inr (.inl rfl)) (ok_inD u u.dn u.hme) (hv _ _ h4) (hv _ _ h5) h3
      · rename_i op _ _ _ _ _ _
        have : op = .NotIn := by cases op <;> first | rfl | cases h1
        subst this
        exact pt_cmpD (.inr (.inr rfl)) (ok_notinD u u.dn u.hme) (hv _ _ h4) (hv _ _ h5) h3
    · cases h
  · split at h
    · simp only [Bool.and_eq_true, Bool.not_eq_true'] at h
      obtain ⟨⟨⟨⟨⟨h1, h2⟩, h3⟩, h4⟩, h5⟩, h6⟩ := h
      obtain ⟨f, z1, z2, z3⟩ := cmp_ok (T := T) hu h1
      obtain ⟨f2, y1, y2, y3⟩ := cmp_ok (T := T) hu h2
      exact pt_chainR z1 y1 z2 y2 z3 y3 (h0 _ _ h4) (h0 _ _ h5) (h0 _ _ h6) h3
    · cases h
  · cases h
theorem chkT_ok {n : Nat} {c1 v0 c0 : Expr → E → Bool} (hv : ∀ e x, v0 e x = true → PE X e (Rd T X.K W ((inner T.pg turns c n).e x) (relE T X.K))) (G : Good T fa ck c k W sc N fo X) (hu : X.A.units + 65 < cLine) (h1 : ∀ e x, c1 e x = true → PE X e (Rd T X.K W (evA (inner T.pg turns c (n + 1)) x) (relA T X.K fun ρ => clean ρ x)))
    (h0 : ∀ e x, c0 e x = true → PE X e (Rd T X.K W (evA (inner T.pg turns c n) x) (relA T X.K fun ρ => clean ρ x))) : ∀ (m : Nat) (e : Expr) (x : E), chkT c1 v0 c0 m e x = true →
      PT X e (Rd T X.K W (evT (inner T.pg turns c (n + 1)) m x) relB) ∧ (isBO e = true → PW X e (Rd T X.K W (evT (inner T.pg turns c (n + 1)) m x) relB))
  | 0, _, _, h => by cases h
  | m + 1, e, x, h => by
    unfold chkT at h
    split at h
    · split at h
      · rw [Bool.and_eq_true] at h
        obtain ⟨q1, q2⟩ := h
        have p1 := (chkT_ok hv G hu h1 h0 m _ _ q1).1
        split at q2
        · exact ⟨(pw_andR p1 (pw_and1 (chkT_ok hv G hu h1 h0 m _ _ q2).1)).pt, fun _ => pw_andR p1 (pw_and1 (chkT_ok hv G hu h1 h0 m _ _ q2).1)⟩
        · have z := pw_andR p1 ((chkT_ok hv G hu h1 h0 m _ _ q2).2 rfl)
          exact ⟨z.pt, fun _ => z⟩
      · cases h
    · split at h
      · rw [Bool.and_eq_true] at h
        obtain ⟨q1, q2⟩ := h
        have p1 := (chkT_ok hv G hu h1 h0 m _ _ q1).1
        split at q2
        · exact ⟨(pw_orR p1 (pw_or1 (chkT_ok hv G hu h1 h0 m _ _ q2).1)).pt, fun _ => pw_orR p1 (pw_or1 (chkT_ok hv G hu h1 h0 m _ _ q2).1)⟩
        · have z := pw_orR p1 ((chkT_ok hv G hu h1 h0 m _ _ q2).2 rfl)
          exact ⟨z.pt, fun _ => z⟩
      · cases h
    · split at h
      · exact ⟨pt_notR (chkT_ok hv G hu h1 h0 m _ _ h).1, fun z => by cases z⟩
      · cases h
    · rename_i e' n1 n2 n3
      rw [Bool.and_eq_true, Bool.or_eq_true] at h
      obtain ⟨q1, q2⟩ := h
      have q1 : isJ x = false := by simpa using q1
      rcases q2 with q2 | q2
      · refine ⟨cmpLeaf_ok hv G hu h0 q2, fun z => ?_⟩
        cases e <;> first | (cases z; done) | cases q2
      · rw [Bool.and_eq_true] at q2
        refine ⟨?_, fun z => ?_⟩
        · have y := pt_leafR (h1 _ _ q2.2) (plainT_of q2.1 X.env)
          rw [show (fun ρ h => (evA (inner T.pg turns c (n + 1)) x ρ h).bind fun d h1 => truthD d h1) = evT (inner T.pg turns c (n + 1)) (m + 1) x from funext fun ρ => funext fun hh => (evT_leaf q1 ρ hh).symm] at y
          exact y
        · have := q2.1
          cases e <;> first | (cases z; done) | cases this
end
end PI
end
section
/-! enumerate over lists, tuples, texts. -/
set_option linter.all false
set_option maxRecDepth 100000
set_option maxHeartbeats 2000000
namespace PI
open PySem PySem.Spec PyProof.Rows L2

abbrev enObj (i : Addr) : Obj := { cls := .type "enumerate", data := .fields #[.none, .bool false, .ref i, rawInt 0, .none, .none] }
/-- enumerate(v), one argument -/
theorem meets_en1 {v : Value} {o : Obj} {H : Heap → Prop} (B : Begins v o H) :
    Meets (Builtin.«enumerate.__new__» ⟨[.type "enumerate", v], []⟩) (fun _ R s => H s.heap ∧ R (.ok (.ret (.ref (s.heap.push o).objs.size))) { s with heap := (s.heap.push o).push (enObj s.heap.objs.size) }) :=
  .of_wp fun prog w A R s hh => by
    obtain ⟨hp, gg, dd, tk, os⟩ := s
    obtain ⟨hv, hR⟩ := hh
    have sb := sub_enumerate
    have itr : ∀ {A' : Around} {E' : Value → Shared → Prop} {Q' : Value → Shared → Prop}, Q' (.ref hp.objs.size) ⟨hp.push o, gg, dd, tk, os⟩ → wpAny (model prog w) A' (pyIter v) Q' E' ⟨hp, gg, dd, tk, os⟩ :=
      fun q => B.iter prog w _ _ ⟨hp, gg, dd, tk, os⟩ _ hv q
    wp_walk using itr
    refine wpAny_stack_any fun _ => wpAny_pure ?_
    split
    · rename_i cc _ _ _ _ _
      cases (cc == Value.type "enumerate") <;> (wp_walk using itr; exact ⟨_, rfl, hR⟩)
    · wp_walk using itr
      exact ⟨_, rfl, hR⟩
theorem call_en1 {prog : Program} {w : World} {A : Around} {E : Value → Shared → Prop} {s : Shared} {v : Value} {o : Obj} {H : Heap → Prop} {Q : Value → Shared → Prop} (B : Begins v o H) (hv : H s.heap)
    (h : ∀ h', IsEnum h' (s.heap.objs.size + 1) s.heap.objs.size 0 .none → h'.get? s.heap.objs.size = some o → (∀ b u, s.heap.get? b = some u → h'.get? b = some u) → Q (.ref (s.heap.objs.size + 1)) { s with heap := h' }) :
    wpAny (model prog w) A (call (.type "enumerate") [v]) Q E s := by
  refine callType_new F.called_enumerate (by decide) (F.typeCall_enumerate_1 _) (F.newCall_enumerate_1 _) (fun ob => F.args_object_init_2 ob _) F.entry_enumerate_new (meets_en1 B) ⟨hv, ?_⟩
  have sz : (s.heap.push o).objs.size = s.heap.objs.size + 1 := Heap.size_push ..
  show _ ∧ _
  rw [sz]
  have en : IsEnum ((s.heap.push o).push (enObj s.heap.objs.size)) (s.heap.objs.size + 1) s.heap.objs.size 0 .none := by
    have q := Heap.get?_push_size (s.heap.push o) (o := enObj s.heap.objs.size) rfl
    rw [sz] at q
    exact q
  exact ⟨⟨_, en, rfl⟩, h _ en (Heap.get?_push_of_some _ (Heap.get?_push_size _ B.free)) fun b u x => Heap.get?_push_of_some _ (Heap.get?_push_of_some _ x)⟩
/-- what is walked: pairs of a number and an item -/
def ItN (K : PySem.W.Frag) (S : Sr) : L2.It :=
  ⟨fun i H => ∃ xs x, S.At K H xs ∧ xs[i]? = some x,
    fun i H v H' => ∃ T x, v = .ref T ∧ H T = none ∧ H' = upd H T (.tup [.int i, x]) ∧ ∀ xs, S.At K H xs → xs[i]? = some x,
    fun i H => ∃ xs, S.At K H xs ∧ i = xs.length⟩
theorem turn_n {P : Program} {w : World} {K : PySem.W.Frag} {elts : List Expr} {kk : Nat} {tpos : Pos} {S : Sr} {n : Nat} (old : S.old n) :
    Turn P w K (.Tuple elts kk tpos) (ItN K S) [n + 1, n] (n + 1) (fun i h => (∃ u, IsEnum h (n + 1) n i u) ∧ S.iter n i h) := by
  have ne : ∀ p, (S = .ls p ∨ S = .tu p) → p < n := fun p h => by
    rcases h with h | h <;> (subst h; exact old)
  refine ⟨by simp, fun i h st b hb => ?_, fun i h h' st k => ?_, ?_, ?_, fun A i s Q E st h => wpAny_pyIter_enum st.1.choose_spec h⟩
  · obtain ⟨⟨u, he⟩, h1⟩ := st
    have e' : b = n + 1 ∨ b = n := by simpa using hb
    rcases e' with e | e
    · rw [e]; exact ⟨_, he, fun v q => nomatch q⟩
    · rw [e]; exact Sr.iter_obj h1
  · obtain ⟨⟨u, he⟩, h1⟩ := st
    exact ⟨⟨u, k _ (by simp) _ he⟩, Sr.iter_keep h1 fun o e => k _ (by simp) o e⟩
  · intro X hP hw hK hc i pins s σ H E I hf st hg
    subst hP hw hK
    obtain ⟨⟨u, he⟩, h1⟩ := st
    obtain ⟨xs, x, a1, hx⟩ := hg
    obtain ⟨fp1, P1, St1, D1, m1, f1, s1, t1, p1⟩ := Sr.draw I (I.ok.hd hc) a1 n (fun p h => Nat.ne_of_lt (ne p h))
    have hzl : n + 1 < s.heap.objs.size := Heap.lt_size he
    have l1 : i < xs.length := (List.getElem?_eq_some_iff.mp hx).1
    have nf : n + 1 ∉ fp1 := fun z => by
      rcases f1 _ z with e | e
      · exact absurd e (nn (Nat.succ_ne_self n))
      · exact absurd (ne _ e) (Nat.not_lt.mpr (Nat.le_succ n))
    refine wpAny_pyNext_enum_itemD D1 he (s1 i h1) l1 (nn (Nat.succ_ne_self n)) nf fun y h' tk q1 ho st' hT hsz hk => ?_
    obtain ⟨x', ex, rx⟩ := p1 i y q1
    rw [hx] at ex
    cases ex
    refine ⟨_, rfl, wpAny_letOwnedTupleGo_enum (s := { s with heap := h', toks := tk + 1 }) ho fun h'' he'' sb => ?_⟩
    have hT2 : h''.get? s.heap.objs.size = some { cls := .type "tuple", data := .seq #[.int i tk, y] } := (sb.2 _ (Nat.ne_of_gt hzl)).trans hT
    have new : ObjOk X.prog X.w (upd H s.heap.objs.size (.tup [.int i, x])) h'' s.heap.objs.size (.tup [.int i, x]) := ⟨(by show 2 ≤ sizeLine; decide), [.int i tk, y], (.cons ⟨_, rfl⟩ (.cons rx .nil)), ⟨_, hT2, rfl, _, rfl⟩⟩
    have out : ∀ c o, c ∉ [n + 1, n] → s.heap.get? c = some o → h''.get? c = some o := fun c o hb q => by
      have z1 : c ≠ n + 1 := fun e => hb (by simp [e])
      have z2 : c ≠ n := fun e => hb (by simp [e])
      exact (sb.2 c z1).trans (hk c o z1 z2 q)
    have I1 : Inv X pins σ (upd H s.heap.objs.size (.tup [.int i, x])) { s with heap := h'', toks := tk + 1 } := I.turnedNew (t' := tk + 1) (ch := [n + 1, n]) out hf (Nat.le_refl _) new
    refine ⟨.ref s.heap.objs.size, _, I1, rfl, ⟨_, x, rfl, I.hok.fresh (Nat.le_refl _), rfl, fun l hl => by rw [Sr.inj I hl a1]; exact hx⟩, ⟨⟨_, he''⟩, ?_⟩, fun c hcm => ?_⟩
    · exact Sr.iter_keep (t1 _ _ st') fun o q => (sb.2 _ (nn (Nat.ne_of_lt (Nat.lt_succ_self n)))).trans q
    · have hlt : c < s.heap.objs.size := by
        have e' : c = n + 1 ∨ c = n := by simpa using hcm
        rcases e' with e | e
        · rw [e]; exact hzl
        · rw [e]; exact Nat.lt_of_succ_lt hzl
      rw [upd_ne (Nat.ne_of_lt hlt)]
      exact (hf c hcm).1
  · intro X hP hw hK hc i pins s σ H E I hf st hg
    subst hP hw hK
    obtain ⟨⟨u, he⟩, h1⟩ := st
    obtain ⟨xs, a1, el⟩ := hg
    obtain ⟨fp1, P1, St1, D1, m1, f1, s1, t1, p1⟩ := Sr.draw I (I.ok.hd hc) a1 n (fun p h => Nat.ne_of_lt (ne p h))
    subst el
    refine wpAny_pyNext_enum_endD D1 he (s1 _ h1) fun h' hk => ⟨rfl, ?_⟩
    exact I.turnedL (t' := s.toks) (ch := [n + 1, n]) (fun c o hb q => hk c o (fun e => hb (by simp [e])) q) hf
section
variable {T : Tb} {X : Cx} {W : Wx} {r : Ev} {a : Expr} {a' : E} {p pos tpos : Pos} {elts : List Expr} {kk : Nat}
theorem enumD_get : ∀ {xs : List D} {k : Int} {i : Nat} {d : D}, (enumD k xs)[i]? = some d → ∃ x, xs[i]? = some x ∧ d = .tup [.int (k + i), x]
  | [], k, i, d, e => by simp [enumD] at e
  | x :: xs, k, 0, d, e => by
    simp [enumD] at e
    exact ⟨x, rfl, by rw [← e]; simp⟩
  | x :: xs, k, i + 1, d, e => by
    simp only [enumD, List.getElem?_cons_succ] at e ⊢
    obtain ⟨y, e1, e2⟩ := enumD_get e
    refine ⟨y, e1, ?_⟩
    rw [e2, show k + 1 + (i : Int) = k + ((i + 1 : Nat) : Int) by omega]
theorem enumD_len : ∀ (xs : List D) (k : Int), (enumD k xs).length = xs.length
  | [], k => rfl
  | x :: xs, k => by simp [enumD, enumD_len xs]
theorem pi_enumR (hg : Gl X "enumerate") (hm : X.mg "enumerate" = none) (ha : PE X a (Rd T X.K W (evA r a') (relA T X.K fun ρ => clean ρ a'))) (hs : starEach [a] X.env = [(false, eval a X.env)]) :
    PI X (.Tuple elts kk tpos) (.Call (.Name "enumerate" p) [a] [] pos) (Rd T X.K W (evI r (.enum a')) (relI T X.K fun ρ => cleanI ρ (.enum a'))) := by
  refine ⟨fun pins s σ H R I hh => ?_⟩
  obtain ⟨g, ρ, h, s0, z⟩ := hh
  have z : Out T X.K W σ g H ((evA r a' ρ h).bind fun d h1 => match seqOf d with
    | some xs => .ok (enumD 0 xs) h1
    | none => .bad) (KK T X.K (relI T X.K fun ρ => cleanI ρ (.enum a')) ρ g H R) := z
  have hE : tCons (Rd T X.K W (evA r a') (relA T X.K fun ρ => clean ρ a')) tNil σ H (fun vs H1 => ∃ (g1 : Gh) (h1 : Hh) (d1 : D) (v1 : V) (xs : List D), vs = [v1] ∧ HeapOk T X.K g1 h1 H1 ∧ Opd T X.K (clean ρ a') g1 H1 d1 v1 ∧ seqOf d1 = some xs ∧
      ∀ J, ItOk T X.K J (enumD 0 xs) (Since T X.K (cleanI ρ (.enum a')) g1 H1) → R J H1) := by
    refine ⟨g, ρ, h, s0, (Out.bind z).imp fun d1 h1 o1 g1 v1 H1 p1 r1 => ?_⟩
    have s1 := s0.post p1
    cases q : seqOf d1 with
    | none => rw [q] at o1; exact o1.elim
    | some xs =>
      rw [q] at o1
      exact ⟨g1, h1, d1, v1, xs, rfl, s1.ok, r1, q, fun J it => o1 g1 J H1 p1 it⟩
  refine Call_ (ld_blt I hg hm boot_enumerate (PyProof.Rows.callWith_type1 (thn ((pa_cons ha pa_nil hs).run pos pins s σ H _ I hE) fun us s1 w1 => ?_) hs rfl))
  obtain ⟨vs, H1, I1, rv, g1, h1, d1, v1, xs, ev, ok, q1, e1, k⟩ := w1
  subst ev
  cases rv with
  | cons ru1 rv =>
    cases rv
    obtain ⟨S1, Hq1, w1, B1, b1, old1, i1, at1⟩ := sr_of (c := cleanI ρ (.enum a')) (fun e => e) I1 ok q1 ru1 e1
    refine call_en1 B1 b1 fun h' he hit hk => wpAny_pyIter_enum he ?_
    have I2 : Inv X pins σ H1 { s1 with heap := h' } := I1.kept (t' := s1.toks) hk
    refine ⟨s1.heap.objs.size + 1, [s1.heap.objs.size + 1, s1.heap.objs.size], _, _, H1, rfl, I2, turn_n old1, ⟨⟨_, he⟩, i1 _ _ hit⟩, fun c hcm => ?_, k _ fun g2 h2 H2 ok2 s2 i => ?_⟩
    · have e' : c = s1.heap.objs.size + 1 ∨ c = s1.heap.objs.size := by simpa using hcm
      have hle : s1.heap.objs.size ≤ c := by
        rcases e' with e | e <;> (rw [e]; first | exact Nat.le_add_right _ _ | exact Nat.le_refl _)
      exact I1.fpOk hle (I1.hok.fresh hle)
    · obtain ⟨ws1, A1, R1⟩ := at1 g2 h2 H2 ok2 s2
      refine ⟨fun d hd => ?_, fun hl => ?_⟩
      · obtain ⟨x, x1, rfl⟩ := enumD_get hd
        obtain ⟨vx, x2, x3⟩ := R1.get x1
        refine ⟨⟨ws1, vx, A1, x2⟩, fun w H' yy => ?_⟩
        obtain ⟨Tq, x', rfl, hn, rfl, k1⟩ := yy
        have := k1 ws1 A1
        rw [x2] at this
        cases this
        rw [Int.zero_add]
        exact ⟨_, ok2.newF hn, new_tup ok2 hn (.cons (.int _) (.cons x3 .nil))⟩
      · rw [enumD_len] at hl
        exact ⟨ws1, A1, by rw [R1.length]; exact hl⟩
end
end PI
end
section
/-! enumerate over a zip: what stands while a zip, an enumerate works. -/
set_option linter.all false
set_option maxRecDepth 100000
set_option maxHeartbeats 3000000
namespace PI
open PySem PySem.Spec PyProof.Rows L2

/-- a zip, its own tuple in any state -/
abbrev ZipIs (h : Heap) (z TI TO : Addr) (ow : Value) (f : Bool) : Prop :=
  h.get? z = some { cls := .type "zip", dict := none, data := .fields #[ow, .bool f, .bool false, .ref TI, .ref TO], slots := #[] }
inductive OwnZ : Value → Prop where
  | non : OwnZ .none
  | held (T : Addr) : OwnZ (rawInt T)
section
variable {P : Program} {W : World} {B : Around} {Er : Value → Shared → Prop} {s : Shared}
theorem alive_any {a : Addr} {Q : Option Obj → Shared → Prop} (h : Q (s.heap.get? a) s) : wpAny (model P W) B (loadIfAlive a) Q Er s := fun _ _ _ => h

/-! ### a zip at work -/
/-- where a zip's things lie -/
structure Lay (Pr : Program) (Wo : World) (C : Around) where
  z : Addr
  ti : Addr
  to : Addr
  p : Addr
  q : Addr
  fp : List Addr
  fq : List Addr
  n : Nat
  m : Nat
  Pp : Nat → Value → Prop
  Pq : Nat → Value → Prop
  Sp : Nat → Heap → Prop
  Sq : Nat → Heap → Prop
  sep : ZipSep2 z ti to p q fp fq
  dp : Draws Pr Wo C p fp n Pp Sp
  dq : Draws Pr Wo C q fq m Pq Sq
/-- the state of a zip at heap h, all else as it was at h0 -/
structure Zs (L : Lay P W B) (h0 h : Heap) (ow : Value) (f : Bool) (u v : Value) (j k : Nat) : Prop where
  zo : ZipIs h L.z L.ti L.to ow f
  io : IsTupOf2 h L.ti (.ref L.p) (.ref L.q)
  oo : IsTupOf2 h L.to u v
  sp : L.Sp j h
  sq : L.Sq k h
  size : h.objs.size = h0.objs.size
  kept : ∀ c o, c ≠ L.z → c ≠ L.to → c ≠ L.p → c ≠ L.q → h0.get? c = some o → h.get? c = some o
variable {L : Lay P W B} {h0 : Heap} {ow u v : Value} {f : Bool} {j k : Nat}
/-- a field of the zip written: the others' states stand -/
theorem Zs.wrote (Z : Zs L h0 s.heap ow f u v j k) {h' : Heap} {ow' : Value} {f' : Bool} (sb : Heap.SameBut L.z s.heap h') (zo : ZipIs h' L.z L.ti L.to ow' f') : Zs L h0 h' ow' f' u v j k where
  zo := zo
  io := (sb.2 _ L.sep.TIz).trans Z.io
  oo := (sb.2 _ L.sep.TOz).trans Z.oo
  sp := L.dp.over Z.sp sb L.sep.zf1
  sq := L.dq.over Z.sq sb L.sep.zf2
  size := sb.1.trans Z.size
  kept := fun c o c1 c2 c3 c4 e => (sb.2 c c1).trans (Z.kept c o c1 c2 c3 c4 e)
theorem Zs.own (Z : Zs L h0 s.heap ow f u v j k) {x : Value} {Q : Unit → Shared → Prop} (go : ∀ h', Zs L h0 h' x f u v j k → Q () { s with heap := h' }) : wpAny (model P W) B (setField (.ref L.z) 0 x) Q Er s :=
  wpAny_setField_rec Z.zo (by simp) fun h' e sb => go h' (Z.wrote sb e)
theorem Zs.flag (Z : Zs L h0 s.heap ow f u v j k) {x : Bool} {Q : Unit → Shared → Prop} (go : ∀ h', Zs L h0 h' ow x u v j k → Q () { s with heap := h' }) : wpAny (model P W) B (setField (.ref L.z) 1 (.bool x)) Q Er s :=
  wpAny_setField_rec Z.zo (by simp) fun h' e sb => go h' (Z.wrote sb e)
/-- the first iterator's next -/
theorem Zs.first (Z : Zs L h0 s.heap ow f u v j k) (hj : j < L.n) {Q : Value → Shared → Prop} (go : ∀ x h' t, L.Pp j x → Zs L h0 h' ow f u v (j + 1) k → Q x { s with heap := h', toks := t }) : wpAny (model P W) B (Builtin.SmallTypes.nextOf (.ref L.p)) Q Er s :=
  L.dp.item j s Q Er hj Z.sp fun x h' t px st sb => go x h' t px
    { zo := (sb.2 _ L.sep.zi1).trans Z.zo, io := (sb.2 _ L.sep.TIi1).trans Z.io, oo := (sb.2 _ L.sep.Ti1).trans Z.oo, sp := st, sq := L.dq.over Z.sq sb L.sep.sep1_2, size := sb.1.trans Z.size,
      kept := fun c o c1 c2 c3 c4 e => (sb.2 c c3).trans (Z.kept c o c1 c2 c3 c4 e) }
/-- the second iterator's -/
theorem Zs.second (Z : Zs L h0 s.heap ow f u v j k) (hk : k < L.m) {Q : Value → Shared → Prop} (go : ∀ x h' t, L.Pq k x → Zs L h0 h' ow f u v j (k + 1) → Q x { s with heap := h', toks := t }) : wpAny (model P W) B (Builtin.SmallTypes.nextOf (.ref L.q)) Q Er s :=
  L.dq.item k s Q Er hk Z.sq fun x h' t px st sb => go x h' t px
    { zo := (sb.2 _ L.sep.zi2).trans Z.zo, io := (sb.2 _ L.sep.TIi2).trans Z.io, oo := (sb.2 _ L.sep.Ti2).trans Z.oo, sp := L.dp.over Z.sp sb L.sep.sep2_1, sq := st, size := sb.1.trans Z.size,
      kept := fun c o c1 c2 c3 c4 e => (sb.2 c c4).trans (Z.kept c o c1 c2 c3 c4 e) }
/-- an item put into the tuple that is kept -/
theorem Zs.store (Z : Zs L h0 s.heap ow f u v j k) {i : Nat} {x u' v' : Value} (e : (#[u, v] : Array Value).setIfInBounds i x = #[u', v']) {Q : Unit → Shared → Prop} (go : ∀ h', Zs L h0 h' ow f u' v' j k → Q () { s with heap := h' }) : wpAny (model P W) B (updateSeq L.to (·.setIfInBounds i x)) Q Er s :=
  updateSeq_IsTupOf2 Z.oo fun h' e1 sb => go h'
    { zo := (sb.2 _ L.sep.TOz.symm).trans Z.zo, io := (sb.2 _ L.sep.TITO).trans Z.io, oo := by rw [e] at e1; exact e1, sp := L.dp.over Z.sp sb L.sep.Tf1, sq := L.dq.over Z.sq sb L.sep.Tf2, size := sb.1.trans Z.size,
      kept := fun c o c1 c2 c3 c4 e => (sb.2 c c2).trans (Z.kept c o c1 c2 c3 c4 e) }
/-- whether the tuple that is kept may be used again -/
theorem Zs.free (Z : Zs L h0 s.heap ow f u v j k) (ho : OwnZ ow) {Q : Bool → Shared → Prop} (yes : Q true s) (no : ∀ h', Zs L h0 h' ow true u v j k → Q false { s with heap := h' }) : wpAny (model P W) B (Builtin.SmallTypes.ownedTupleIsFree (.ref L.z)) Q Er s := by
  cases ho with
  | non => exact wpAny_bind (m := field (.ref L.z) 0) (wpAny_field Z.zo rfl (x := .none) rfl (wpAny_pure yes))
  | held T =>
    cases e : s.heap.get? T with
    | some o => exact wpAny_tupleHeld_zip Z.zo e fun h' zo sb => no h' (Z.wrote sb zo)
    | none =>
      refine wpAny_bind (m := field (.ref L.z) 0) (wpAny_field Z.zo rfl (x := rawInt T) rfl ?_)
      refine wpAny_bind (m := loadIfAlive ((T : Int).toNat)) (alive_any ?_)
      have : s.heap.get? ((T : Int).toNat) = none := by rw [Int.toNat_natCast]; exact e
      rw [this]
      exact wpAny_pure yes
/-- what a zip's next tells at its end, at an item -/
abbrev ZEnd (L : Lay P W B) (s : Shared) (E : Value → Shared → Prop) : Prop :=
  ∀ h' t e, (∀ c o, c ≠ L.z → c ≠ L.to → c ≠ L.p → c ≠ L.q → s.heap.get? c = some o → h'.get? c = some o) → (∃ o, h'.get? e = some o ∧ o.cls = .type "StopIteration") → E (.ref e) { s with heap := h', toks := t }
abbrev ZItem (L : Lay P W B) (s : Shared) (j : Nat) (Q : Value → Shared → Prop) : Prop :=
  ∀ x y h' t, L.Pp j x → L.Pq j y → (∃ ow' f', ZipIs h' L.z L.ti L.to ow' f' ∧ OwnZ ow') → (∃ b1 b2, IsTupOf2 h' L.to b1 b2) → L.Sp (j + 1) h' → L.Sq (j + 1) h' → IsTupOf2 h' s.heap.objs.size x y → h'.objs.size = s.heap.objs.size + 1 →
    (∀ c o, c ≠ L.z → c ≠ L.to → c ≠ L.p → c ≠ L.q → s.heap.get? c = some o → h'.get? c = some o) → IsTupOf2 h' L.ti (.ref L.p) (.ref L.q) → Q (.ref s.heap.objs.size) { s with heap := h', toks := t }
/-- the new pair, pushed -/
theorem Zs.push (Z : Zs L h0 s.heap ow f u v j k) (x y : Value) : ZipIs (s.heap.push { cls := .type "tuple", data := .seq #[x, y] }) L.z L.ti L.to ow f ∧ IsTupOf2 (s.heap.push { cls := .type "tuple", data := .seq #[x, y] }) L.to u v ∧ L.Sp j (s.heap.push { cls := .type "tuple", data := .seq #[x, y] }) ∧
    L.Sq k (s.heap.push { cls := .type "tuple", data := .seq #[x, y] }) ∧ IsTupOf2 (s.heap.push { cls := .type "tuple", data := .seq #[x, y] }) h0.objs.size x y ∧ (s.heap.push { cls := .type "tuple", data := .seq #[x, y] }).objs.size = h0.objs.size + 1 ∧
    (∀ c o, c ≠ L.z → c ≠ L.to → c ≠ L.p → c ≠ L.q → h0.get? c = some o → (s.heap.push { cls := .type "tuple", data := .seq #[x, y] }).get? c = some o) ∧ IsTupOf2 (s.heap.push { cls := .type "tuple", data := .seq #[x, y] }) L.ti (.ref L.p) (.ref L.q) := by
  have up : ∀ {c : Addr} {o : Obj}, s.heap.get? c = some o → (s.heap.push { cls := .type "tuple", data := .seq #[x, y] }).get? c = some o := fun e => Heap.get?_push_of_some _ e
  have at_ : IsTupOf2 (s.heap.push { cls := .type "tuple", data := .seq #[x, y] }) s.heap.objs.size x y := Heap.get?_push_size s.heap (o := { cls := .type "tuple", data := .seq #[x, y] }) rfl
  rw [Z.size] at at_
  exact ⟨up Z.zo, up Z.oo, L.dp.frame _ _ _ Z.sp fun b _ o e => up e, L.dq.frame _ _ _ Z.sq fun b _ o e => up e, at_, by rw [Heap.size_push, Z.size], fun c o c1 c2 c3 c4 e => up (Z.kept c o c1 c2 c3 c4 e), up Z.io⟩
theorem zip_next {i : Nat} {Q : Value → Shared → Prop} (Z : Zs L s.heap s.heap ow f u v i i) (ho : OwnZ ow) (h1 : i < L.n) (h2 : i < L.m) (go : ZItem L s i Q) : wpAny (model P W) B (Builtin.«zip.__next__» ⟨[.ref L.z], []⟩) (fun r s' => ∃ x, r = .done (.ret x) ∧ Q x s') Er s := by
  refine wpAny_bind (m := field (.ref L.z) 2) (wpAny_field Z.zo rfl (x := .bool false) rfl ?_)
  refine wpAny_bind (m := field (.ref L.z) 3) (wpAny_field Z.zo rfl (x := .ref L.ti) rfl ?_)
  refine wpAny_bind (m := seqItems? (.ref L.ti)) (wpAny_seqItems Z.io rfl ?_)
  refine wpAny_bind (m := Builtin.SmallTypes.ownedTupleIsFree (.ref L.z)) (Z.free ho ?_ fun g1 Z1 => ?_)
  · rw [if_pos rfl]
    refine wpAny_bind (wpAny_rule (wpAny_bind (wpAny_field Z.zo rfl (x := .ref L.to) rfl (wpAny_bind (Z.own fun g1 Z1 => wpAny_bind ?_)))))
    rw [List.zipIdx_cons, List.zipIdx_cons, List.zipIdx_nil, List.forIn_cons]
    refine wpAny_bind (wpAny_bind (wpAny_onRaise (wpAny_bind (m := Builtin.SmallTypes.nextOf (.ref L.p)) (Zs.first (s := { s with heap := g1 }) Z1 h1 fun x g2 t2 px Z2 => wpAny_pure ?_))))
    refine wpAny_bind (wpAny_seqItems (s := { s with heap := g2, toks := t2 }) Z2.oo rfl (wpAny_bind (Zs.store (s := { s with heap := g2, toks := t2 }) Z2 (u' := x) (v' := v) rfl fun g3 Z3 => wpAny_bind (wpAny_letGo (wpAny_pure ?_)))))
    simp only [List.forIn_cons]
    refine wpAny_bind (wpAny_bind (wpAny_onRaise (wpAny_bind (m := Builtin.SmallTypes.nextOf (.ref L.q)) (Zs.second (s := { s with heap := g3, toks := t2 }) Z3 h2 fun y g4 t4 py Z4 => wpAny_pure ?_))))
    refine wpAny_bind (wpAny_seqItems (s := { s with heap := g4, toks := t4 }) Z4.oo rfl (wpAny_bind (Zs.store (s := { s with heap := g4, toks := t4 }) Z4 (u' := x) (v' := y) rfl fun g5 Z5 => wpAny_bind (wpAny_letGo (wpAny_pure ?_)))))
    simp only [List.forIn_nil]
    refine wpAny_pure (wpAny_bind (wpAny_seqItems (s := { s with heap := g5, toks := t4 }) Z5.oo rfl (wpAny_bind (wpAny_newTuple ?_))))
    obtain ⟨r1, r2, r3, r4, r5, r6, r7, r8⟩ := Zs.push (s := { s with heap := g5, toks := t4 }) Z5 x y
    have Z6 : Zs L (g5.push { cls := .type "tuple", data := .seq #[x, y] }) (g5.push { cls := .type "tuple", data := .seq #[x, y] }) .ellipsis f x y (i + 1) (i + 1) := ⟨r1, r8, r2, r3, r4, rfl, fun c o _ _ _ _ e => e⟩
    refine wpAny_bind (m := Builtin.SmallTypes.ownedTupleHandOut (.ref L.z) (.ref g5.objs.size)) (wpAny_bind (m := setField (.ref L.z) 0 (rawInt g5.objs.size)) (Zs.own (s := { s with heap := g5.push { cls := .type "tuple", data := .seq #[x, y] }, toks := t4 }) Z6 fun g7 Z7 => ?_))
    refine Zs.flag (s := { s with heap := g7, toks := t4 }) Z7 (x := false) fun g8 Z8 => wpAny_pure ⟨_, rfl, ?_⟩
    have ne : ∀ {c : Addr}, c = L.z ∨ c = L.to ∨ c = L.p ∨ c = L.q → c ≠ s.heap.objs.size := fun {c} hc e => by
      have lt : ∀ {o : Obj}, s.heap.get? c = some o → False := fun eo => absurd (Heap.lt_size eo) (by rw [e]; exact Nat.lt_irrefl _)
      rcases hc with rfl | rfl | rfl | rfl
      · exact lt Z.zo
      · exact lt Z.oo
      · obtain ⟨o, eo⟩ := L.dp.live _ _ Z.sp
        exact lt eo
      · obtain ⟨o, eo⟩ := L.dq.live _ _ Z.sq
        exact lt eo
    have hT := Z8.kept s.heap.objs.size _ (fun e => ne (.inl e) rfl) (fun e => ne (.inr (.inl e)) rfl) (fun e => ne (.inr (.inr (.inl e))) rfl) (fun e => ne (.inr (.inr (.inr e))) rfl) r5
    have done := go x y g8 t4 px py ⟨_, _, Z8.zo, .held _⟩ ⟨_, _, Z8.oo⟩ Z8.sp Z8.sq hT (Z8.size.trans r6) (fun c o c1 c2 c3 c4 e => Z8.kept c o c1 c2 c3 c4 (r7 c o c1 c2 c3 c4 e)) Z8.io
    rw [← Z5.size] at done
    exact done
  · simp only [Bool.false_eq_true, ite_false, if_false]
    refine wpAny_bind ?_
    rw [← Array.forIn_toList, List.forIn_cons]
    refine wpAny_bind (wpAny_bind (wpAny_holding (wpAny_bind (m := Builtin.SmallTypes.nextOf (.ref L.p)) (Zs.first (s := { s with heap := g1 }) Z1 h1 fun x g2 t2 px Z2 => wpAny_pure (wpAny_pure ?_)))))
    simp only [List.forIn_cons]
    refine wpAny_bind (wpAny_bind (wpAny_holding (wpAny_bind (m := Builtin.SmallTypes.nextOf (.ref L.q)) (Zs.second (s := { s with heap := g2, toks := t2 }) Z2 h2 fun y g3 t3 py Z3 => wpAny_pure (wpAny_pure ?_)))))
    simp only [List.forIn_nil]
    refine wpAny_pure (wpAny_bind (m := newTuple [x, y]) (wpAny_newTuple (wpAny_pure ⟨_, rfl, ?_⟩)))
    obtain ⟨r1, r2, r3, r4, r5, r6, r7, r8⟩ := Zs.push (s := { s with heap := g3, toks := t3 }) Z3 x y
    have done := go x y _ t3 px py ⟨_, _, r1, ho⟩ ⟨_, _, r2⟩ r3 r4 r5 r6 r7 r8
    rw [← Z3.size] at done
    exact done
theorem zip_stop {i : Nat} {Q : PySem.Fin → Shared → Prop} (Z : Zs L s.heap s.heap ow f u v i i) (ho : OwnZ ow) (h1 : i ≤ L.n) (h2 : i ≤ L.m) (he : i = L.n ∨ i = L.m) (stop : ZEnd L s Er) : wpAny (model P W) B (Builtin.«zip.__next__» ⟨[.ref L.z], []⟩) Q Er s := by
  refine wpAny_bind (m := field (.ref L.z) 2) (wpAny_field Z.zo rfl (x := .bool false) rfl ?_)
  refine wpAny_bind (m := field (.ref L.z) 3) (wpAny_field Z.zo rfl (x := .ref L.ti) rfl ?_)
  refine wpAny_bind (m := seqItems? (.ref L.ti)) (wpAny_seqItems Z.io rfl ?_)
  /- the zip's own field, written back where an iterator ends -/
  have back : ∀ {r : Addr} {t : Nat} {g g' : Heap} {ow' : Value} {f' : Bool} {u' v' : Value} {j' k' : Nat} {e : Addr}, (r = L.p ∨ r = L.q) → Zs L s.heap g ow' f' u' v' j' k' → Heap.ExtBut r g g' → (∃ o, g'.get? e = some o ∧ o.cls = .type "StopIteration") →
      wpAny (model P W) B (setField (.ref L.z) 0 .none) (fun _ s' => Er (.ref e) s') Er { s with heap := g', toks := t } := fun {r t g g' ow' f' u' v' j' k' e} hr Zg ex hx => by
    obtain ⟨o, eo, ec⟩ := hx
    have zr : L.z ≠ r := by
      rcases hr with rfl | rfl
      · exact L.sep.zi1
      · exact L.sep.zi2
    have zg : ZipIs g' L.z L.ti L.to ow' f' := ex _ _ zr Zg.zo
    have ez : e ≠ L.z := fun q => by
      rw [q, zg] at eo
      cases eo
      exact absurd ec (by simp)
    refine wpAny_setField_rec (s := { s with heap := g', toks := t }) zg (by simp) fun g2 _ sb => stop g2 t e (fun c o c1 c2 c3 c4 q => ?_) ⟨o, (sb.2 _ ez).trans eo, ec⟩
    have cr : c ≠ r := by
      rcases hr with rfl | rfl
      · exact c3
      · exact c4
    exact (sb.2 c c1).trans (ex c o cr (Zg.kept c o c1 c2 c3 c4 q))
  have off : ∀ {r : Addr} {t : Nat} {g g' : Heap} {ow' : Value} {f' : Bool} {u' v' : Value} {j' k' : Nat} {e : Addr}, (r = L.p ∨ r = L.q) → Zs L s.heap g ow' f' u' v' j' k' → Heap.ExtBut r g g' → (∃ o, g'.get? e = some o ∧ o.cls = .type "StopIteration") → Er (.ref e) { s with heap := g', toks := t } := fun {r t g g' ow' f' u' v' j' k' e} hr Zg ex hx =>
    stop g' t e (fun c o c1 c2 c3 c4 q => ex c o (by rcases hr with rfl | rfl <;> assumption) (Zg.kept c o c1 c2 c3 c4 q)) hx
  by_cases q : i < L.n
  · have h2e : i = L.m := by omega
    refine wpAny_bind (m := Builtin.SmallTypes.ownedTupleIsFree (.ref L.z)) (Z.free ho ?_ fun g1 Z1 => ?_)
    · rw [if_pos rfl]
      refine wpAny_bind (wpAny_rule (wpAny_bind (wpAny_field Z.zo rfl (x := .ref L.to) rfl (wpAny_bind (Z.own fun g1 Z1 => wpAny_bind ?_)))))
      rw [List.zipIdx_cons, List.zipIdx_cons, List.zipIdx_nil, List.forIn_cons]
      refine wpAny_bind (wpAny_bind (wpAny_onRaise (wpAny_bind (m := Builtin.SmallTypes.nextOf (.ref L.p)) (Zs.first (s := { s with heap := g1 }) Z1 q fun x g2 t2 px Z2 => wpAny_pure ?_))))
      refine wpAny_bind (wpAny_seqItems (s := { s with heap := g2, toks := t2 }) Z2.oo rfl (wpAny_bind (Zs.store (s := { s with heap := g2, toks := t2 }) Z2 (u' := x) (v' := v) rfl fun g3 Z3 => wpAny_bind (wpAny_letGo (wpAny_pure ?_)))))
      simp only [List.forIn_cons]
      refine wpAny_bind (wpAny_bind (wpAny_onRaise (wpAny_bind (m := Builtin.SmallTypes.nextOf (.ref L.q)) (L.dq.done { s with heap := g3, toks := t2 } _ _ (by rw [← h2e]; exact Z3.sq) fun g4 e ex hx => ?_))))
      exact back (.inr rfl) Z3 ex hx
    · simp only [Bool.false_eq_true, ite_false, if_false]
      refine wpAny_bind ?_
      rw [← Array.forIn_toList, List.forIn_cons]
      refine wpAny_bind (wpAny_bind (wpAny_holding (wpAny_bind (m := Builtin.SmallTypes.nextOf (.ref L.p)) (Zs.first (s := { s with heap := g1 }) Z1 q fun x g2 t2 px Z2 => wpAny_pure (wpAny_pure ?_)))))
      simp only [List.forIn_cons]
      refine wpAny_bind (wpAny_bind (wpAny_holding (wpAny_bind (m := Builtin.SmallTypes.nextOf (.ref L.q)) (L.dq.done { s with heap := g2, toks := t2 } _ _ (by rw [← h2e]; exact Z2.sq) fun g4 e ex hx => ?_))))
      exact off (.inr rfl) Z2 ex hx
  · have h1e : i = L.n := by omega
    refine wpAny_bind (m := Builtin.SmallTypes.ownedTupleIsFree (.ref L.z)) (Z.free ho ?_ fun g1 Z1 => ?_)
    · rw [if_pos rfl]
      refine wpAny_bind (wpAny_rule (wpAny_bind (wpAny_field Z.zo rfl (x := .ref L.to) rfl (wpAny_bind (Z.own fun g1 Z1 => wpAny_bind ?_)))))
      rw [List.zipIdx_cons, List.forIn_cons]
      refine wpAny_bind (wpAny_bind (wpAny_onRaise (wpAny_bind (m := Builtin.SmallTypes.nextOf (.ref L.p)) (L.dp.done { s with heap := g1 } _ _ (by rw [← h1e]; exact Z1.sp) fun g4 e ex hx => ?_))))
      exact back (.inl rfl) Z1 ex hx
    · simp only [Bool.false_eq_true, ite_false, if_false]
      refine wpAny_bind ?_
      rw [← Array.forIn_toList, List.forIn_cons]
      refine wpAny_bind (wpAny_bind (wpAny_holding (wpAny_bind (m := Builtin.SmallTypes.nextOf (.ref L.p)) (L.dp.done { s with heap := g1 } _ _ (by rw [← h1e]; exact Z1.sp) fun g4 e ex hx => ?_))))
      exact off (.inl rfl) Z1 ex hx
/-! ### an enumerate at work -/
/-- its fields, and that nothing else is touched -/
structure Es (e it : Addr) (h0 h : Heap) (ow item : Value) (c : Int) : Prop where
  eo : h.get? e = some { cls := .type "enumerate", dict := none, data := .fields #[ow, .bool false, .ref it, rawInt c, .none, item], slots := #[] }
  size : h.objs.size = h0.objs.size
  kept : ∀ b, b ≠ e → h.get? b = h0.get? b
variable {e it : Addr} {item : Value} {c : Int}
theorem Es.put (S : Es e it h0 s.heap ow item c) {n : Nat} {x ow' item' : Value} {c' : Int} (hn : n < 6) (he : (#[ow, .bool false, .ref it, rawInt c, .none, item] : Array Value).setIfInBounds n x = #[ow', .bool false, .ref it, rawInt c', .none, item'])
    {Q : Unit → Shared → Prop} (go : ∀ h', Es e it h0 h' ow' item' c' → Q () { s with heap := h' }) : wpAny (model P W) B (setField (.ref e) n x) Q Er s :=
  wpAny_setField_rec S.eo hn fun h' q sb => go h' ⟨by rw [he] at q; exact q, sb.1.trans S.size, fun b hb => (sb.2 b hb).trans (S.kept b hb)⟩
/-- enumerate's next, by what stands behind its iterator's next -/
theorem enum_next {n : Nat} {old : Value} {Q : Value → Shared → Prop} (he : IsEnum s.heap e it n old)
    (hn : wpAny (model P W) B (Builtin.SmallTypes.nextOf (.ref it)) (fun x s1 => IsEnum s1.heap e it n old ∧ ∀ h', IsEnumOut h' e it ((n : Int) + 1) x s1.heap.objs.size →
      h'.get? s1.heap.objs.size = some { cls := .type "tuple", data := .seq #[.int n s1.toks, x] } → h'.objs.size = s1.heap.objs.size + 1 → (∀ b o, b ≠ e → s1.heap.get? b = some o → h'.get? b = some o) → Q (.ref s1.heap.objs.size) { s1 with heap := h', toks := s1.toks + 1 }) Er s) :
    wpAny (model P W) B (Builtin.«enumerate.__next__» ⟨[.ref e], []⟩) (fun r s' => ∃ y, r = .done (.ret y) ∧ Q y s') Er s := by
  refine wpAny_bind (m := field (.ref e) 2) (wpAny_field he rfl (x := .ref it) rfl (wpAny_bind (thn hn fun x s1 hh => ?_)))
  obtain ⟨he1, go⟩ := hh
  obtain ⟨g0, gg, dd, t, os⟩ := s1
  have S0 : Es e it g0 g0 .none old n := ⟨he1, rfl, fun _ _ => rfl⟩
  refine wpAny_bind (m := field (.ref e) 3) (wpAny_field he1 rfl (x := rawInt n) rfl (wpAny_bind (m := field (.ref e) 4) (wpAny_field he1 rfl (x := .none) rfl (wpAny_bind (m := mkInt n) (wpAny_mkInt ?_)))))
  refine wpAny_bind (m := setField (.ref e) 3 (rawInt ((n : Int) + 1))) (Es.put (s := ⟨g0, gg, dd, t + 1, os⟩) S0 (c' := (n : Int) + 1) (by decide) rfl fun g1 S1 => ?_)
  refine wpAny_bind (m := setField (.ref e) 4 .none) (Es.put (s := ⟨g1, gg, dd, t + 1, os⟩) S1 (by decide) rfl fun g2 S2 => wpAny_bind (m := newTuple [.int n t, x]) (wpAny_newTuple ?_))
  let pair : Obj := { cls := .type "tuple", data := .seq #[.int n t, x] }
  have S3 : Es e it (g2.push pair) (g2.push pair) .none old ((n : Int) + 1) := ⟨Heap.get?_push_of_some _ S2.eo, rfl, fun _ _ => rfl⟩
  have fr : wpAny (model P W) B (Builtin.SmallTypes.ownedTupleIsFree (.ref e)) (fun b s' => b = true ∧ s' = ⟨g2.push pair, gg, dd, t + 1, os⟩) Er ⟨g2.push pair, gg, dd, t + 1, os⟩ :=
    wpAny_bind (m := field (.ref e) 0) (wpAny_field S3.eo rfl (x := .none) rfl (wpAny_pure ⟨rfl, rfl⟩))
  refine wpAny_bind (m := Builtin.SmallTypes.ownedTupleIsFree (.ref e)) (thn fr fun b s2 hb => ?_)
  obtain ⟨rfl, rfl⟩ := hb
  rw [if_pos rfl]
  refine wpAny_bind (wpAny_rule (wpAny_bind (m := field (.ref e) 5) (wpAny_field S3.eo rfl (x := old) rfl ?_)))
  refine wpAny_bind (m := setField (.ref e) 5 x) (Es.put (s := ⟨g2.push pair, gg, dd, t + 1, os⟩) S3 (item' := x) (by decide) rfl fun g4 S4 => ?_)
  refine wpAny_bind (m := Builtin.SmallTypes.ownedTupleHandOut (.ref e) (.ref g2.objs.size)) (wpAny_bind (m := setField (.ref e) 0 (rawInt g2.objs.size)) (Es.put (s := ⟨g4, gg, dd, t + 1, os⟩) S4 (ow' := rawInt g2.objs.size) (by decide) rfl fun g5 S5 => ?_))
  refine Es.put (s := ⟨g5, gg, dd, t + 1, os⟩) S5 (n := 1) (by decide) rfl fun g6 S6 => wpAny_bind (wpAny_letGo (wpAny_pure ⟨_, rfl, ?_⟩))
  have sz : g2.objs.size = g0.objs.size := S2.size
  have lt : e < g2.objs.size := Heap.lt_size S2.eo
  have at_ : (g2.push pair).get? g2.objs.size = some pair := Heap.get?_push_size g2 (o := pair) rfl
  have hT : g6.get? g2.objs.size = some pair := (S6.kept _ (Nat.ne_of_gt lt)).trans at_
  have S7 := S6.eo
  have done := go g6
  simp only at done
  rw [← sz] at done
  exact done S7 hT (by rw [S6.size, Heap.size_push]) fun b o hb q => by
    rw [S6.kept b hb]
    refine Heap.get?_push_of_some _ ?_
    rw [S2.kept b hb]
    exact q
end
end PI
end
section
/-! enumerate over a zip: the turns, the reading. -/
set_option linter.all false
set_option maxRecDepth 100000
set_option maxHeartbeats 2000000
namespace PI
open PySem PySem.Spec PyProof.Rows L2

section
variable {X : Cx} {pins : List (Addr × Obj)} {σ : L2.St} {H : Hp} {s : Shared} {S : Sr} {xs : List V}
theorem Sr.drawA (I : Inv X pins σ H s) {A' : Around} (hh : A'.handled = none) (a : S.At X.K H xs) (it : Addr) (hne : ∀ p, (S = .ls p ∨ S = .tu p) → p ≠ it) :
    ∃ (fp : List Addr) (P : Nat → Value → Prop) (St : Nat → Heap → Prop), Draws X.prog X.w A' it fp xs.length P St ∧ it ∈ fp ∧ (∀ b ∈ fp, b = it ∨ S = .ls b ∨ S = .tu b) ∧ (∀ i, S.iter it i s.heap → St i s.heap) ∧ (∀ i h, St i h → S.iter it i h) ∧ ∀ i v, P i v → ∃ x, xs[i]? = some x ∧ RelV x v := by
  cases S with
  | ls p =>
    obtain ⟨its, r, pl, _⟩ := I.list a
    have el : xs.length = its.toArray.size := by rw [r.length]; simp
    rw [el]
    refine ⟨_, _, _, Draws.list (A := A') hh it p (hne p (.inl rfl)) its.toArray, by simp, fun b hb => ?_, fun i st => ⟨st, pl.isList⟩, fun i h st => st.1, fun i v e => ?_⟩
    · have e : b = it ∨ b = p := by simpa using hb
      rcases e with e | e
      · exact .inl e
      · exact .inr (.inl (by rw [e]))
    · have hl : i < xs.length := by
        have := (Array.getElem?_eq_some_iff.mp e).1
        rw [el]
        exact this
      obtain ⟨u, e1, e2⟩ := r.get (List.getElem?_eq_getElem hl)
      have e : its[i]? = some v := by simpa using e
      rw [e] at e1
      cases e1
      exact ⟨_, List.getElem?_eq_getElem hl, e2⟩
  | tu p =>
    obtain ⟨its, r, pl, _⟩ := I.tuple a
    have el : xs.length = its.toArray.size := by rw [r.length]; simp
    rw [el]
    refine ⟨_, _, _, Draws.tuple (A := A') hh it p (hne p (.inr rfl)) its.toArray, by simp, fun b hb => ?_, fun i st => ⟨st, show s.heap.IsTuple p its.toArray from pl⟩, fun i h st => st.1, fun i v e => ?_⟩
    · have e : b = it ∨ b = p := by simpa using hb
      rcases e with e | e
      · exact .inl e
      · exact .inr (.inr (by rw [e]))
    · have hl : i < xs.length := by
        have := (Array.getElem?_eq_some_iff.mp e).1
        rw [el]
        exact this
      obtain ⟨u, e1, e2⟩ := r.get (List.getElem?_eq_getElem hl)
      have e : its[i]? = some v := by simpa using e
      rw [e] at e1
      cases e1
      exact ⟨_, List.getElem?_eq_getElem hl, e2⟩
  | tx y t =>
    have a : xs = signs y := a
    subst a
    rw [signs_len]
    refine ⟨_, _, _, Draws.text (A := A') hh it y t, by simp, fun b hb => .inl (by simpa using hb), fun i st => st, fun i h st => st, fun i v e => ?_⟩
    obtain ⟨c, u, e1, rfl⟩ := e
    exact ⟨.str ⟨#[c]⟩, by rw [signs_get, e1]; rfl, u, rfl⟩
end
/-- what is walked: pairs of a number and a pair -/
def ItNZ (K : PySem.W.Frag) (S1 S2 : Sr) : L2.It :=
  ⟨fun i H => ∃ xs ys x y, S1.At K H xs ∧ S2.At K H ys ∧ xs[i]? = some x ∧ ys[i]? = some y,
    fun i H v H' => ∃ T T2 x y, v = .ref T2 ∧ H T = none ∧ T2 ≠ T ∧ H T2 = none ∧ H' = upd (upd H T (.tup [x, y])) T2 (.tup [.int i, .ref T]) ∧ (∀ xs, S1.At K H xs → xs[i]? = some x) ∧ ∀ ys, S2.At K H ys → ys[i]? = some y,
    fun i H => ∃ xs ys, S1.At K H xs ∧ S2.At K H ys ∧ i ≤ xs.length ∧ i ≤ ys.length ∧ (i = xs.length ∨ i = ys.length)⟩
abbrev StNZ (S1 S2 : Sr) (n : Nat) (i : Nat) (h : Heap) : Prop :=
  (∃ u, IsEnum h (n + 5) (n + 4) i u) ∧ (∃ ow f, ZipIs h (n + 4) (n + 2) (n + 3) ow f ∧ OwnZ ow) ∧ IsTupOf2 h (n + 2) (.ref n) (.ref (n + 1)) ∧ (∃ x y, IsTupOf2 h (n + 3) x y) ∧ S1.iter n i h ∧ S2.iter (n + 1) i h
theorem turn_nz {P : Program} {w : World} {K : PySem.W.Frag} {elts : List Expr} {kk : Nat} {tpos : Pos} {S1 S2 : Sr} {n : Nat} (o1 : S1.old n) (o2 : S2.old n) :
    Turn P w K (.Tuple elts kk tpos) (ItNZ K S1 S2) [n + 5, n + 4, n + 2, n + 3, n, n + 1] (n + 5) (StNZ S1 S2 n) := by
  have ne1 : ∀ p, (S1 = .ls p ∨ S1 = .tu p) → p < n := fun p h => by
    rcases h with h | h <;> (subst h; exact o1)
  have ne2 : ∀ p, (S2 = .ls p ∨ S2 = .tu p) → p < n := fun p h => by
    rcases h with h | h <;> (subst h; exact o2)
  have sep : ∀ {fp1 fp2 : List Addr}, n ∈ fp1 → n + 1 ∈ fp2 → (∀ b ∈ fp1, b = n ∨ S1 = .ls b ∨ S1 = .tu b) → (∀ b ∈ fp2, b = n + 1 ∨ S2 = .ls b ∨ S2 = .tu b) → ZipSep2 (n + 4) (n + 2) (n + 3) n (n + 1) fp1 fp2 := fun {fp1 fp2} m1 m2 h1 h2 => by
    have k1 : ∀ b : Nat, b ∈ fp1 → b < n + 1 := fun b hb => by
      rcases h1 b hb with h | h
      · exact Nat.lt_succ_of_le (Nat.le_of_eq h)
      · exact Nat.lt_succ_of_lt (ne1 b h)
    have k2 : ∀ b : Nat, b ∈ fp2 → b < n ∨ (n < b ∧ b < n + 2) := fun b hb => by
      rcases h2 b hb with h | h
      · rw [h]
        exact .inr ⟨Nat.lt_succ_self n, Nat.lt_succ_self (n + 1)⟩
      · exact .inl (ne2 b h)
    refine ⟨nn (by omega), nn (by omega), nn (by omega), nn (by omega), m1, fun z => ?_, fun z => ?_, nn (by omega), m2, fun z => ?_, fun z => ?_, fun z => ?_, fun z => ?_⟩
    · have := k1 _ z; omega
    · have := k1 _ z; omega
    · have := k2 _ z; omega
    · have := k2 _ z; omega
    · have := k2 _ z; omega
    · have := k1 _ z; omega
  have cases6 : ∀ {c : Addr}, c ∈ [n + 5, n + 4, n + 2, n + 3, n, n + 1] → c = n + 5 ∨ c = n + 4 ∨ c = n + 2 ∨ c = n + 3 ∨ c = n ∨ c = n + 1 := fun hc => by simpa using hc
  refine ⟨by simp, fun i h st b hb => ?_, fun i h h' st k => ?_, ?_, ?_, fun A i s Q E st h => wpAny_pyIter_enum st.1.choose_spec h⟩
  · obtain ⟨⟨u, he⟩, ⟨ow, f, hz, ho⟩, hTI, ⟨x, y, hTO⟩, h1, h2⟩ := st
    rcases cases6 hb with e | e | e | e | e | e
    · rw [e]; exact ⟨_, he, fun v q => nomatch q⟩
    · rw [e]; exact ⟨_, hz, fun v q => nomatch q⟩
    · rw [e]; exact ⟨_, hTI, fun v q => nomatch q⟩
    · rw [e]; exact ⟨_, hTO, fun v q => nomatch q⟩
    · rw [e]; exact Sr.iter_obj h1
    · rw [e]; exact Sr.iter_obj h2
  · obtain ⟨⟨u, he⟩, ⟨ow, f, hz, ho⟩, hTI, ⟨x, y, hTO⟩, h1, h2⟩ := st
    exact ⟨⟨u, k _ (by simp) _ he⟩, ⟨ow, f, k _ (by simp) _ hz, ho⟩, k _ (by simp) _ hTI, ⟨x, y, k _ (by simp) _ hTO⟩, Sr.iter_keep h1 fun o e => k _ (by simp) o e, Sr.iter_keep h2 fun o e => k _ (by simp) o e⟩
  · intro X hP hw hK hc i pins s σ H E I hf st hg
    subst hP hw hK
    obtain ⟨⟨u0, he⟩, ⟨ow, f, hz, ho⟩, hTI, ⟨x0, y0, hTO⟩, h1, h2⟩ := st
    obtain ⟨xs, ys, x, y, a1, a2, hx, hy⟩ := hg
    obtain ⟨fp1, P1, St1, D1, m1, f1, s1, t1, p1⟩ := Sr.drawA (A' := X.A.in1.in1) I (I.ok.hd hc) a1 n (fun p h => Nat.ne_of_lt (ne1 p h))
    obtain ⟨fp2, P2, St2, D2, m2, f2, s2, t2, p2⟩ := Sr.drawA (A' := X.A.in1.in1) I (I.ok.hd hc) a2 (n + 1) (fun p h => Nat.ne_of_lt (Nat.lt_succ_of_lt (ne2 p h)))
    have hzl : n + 5 < s.heap.objs.size := Heap.lt_size he
    have l1 : i < xs.length := (List.getElem?_eq_some_iff.mp hx).1
    have l2 : i < ys.length := (List.getElem?_eq_some_iff.mp hy).1
    have hTe : s.TypeIs (.ref (n + 5)) "enumerate" := ⟨_, he, rfl⟩
    have hTz : s.TypeIs (.ref (n + 4)) "zip" := ⟨_, hz, rfl⟩
    unfold pyNext
    refine wpAny_bind (wpAny_attempt (wpAny_callSpecial?_slot (name := Str.ofString "__next__") hTe F.slot_enumerate_next
      (wpAny_call_entry F.slot_enumerate_next hTe F.entry_enumerate_next (enum_next he ?_) (F.args_enumerate_next_1 _))))
    unfold Builtin.SmallTypes.nextOf
    let L : Lay X.prog X.w X.A.in1.in1 := ⟨n + 4, n + 2, n + 3, n, n + 1, fp1, fp2, xs.length, ys.length, P1, P2, St1, St2, sep m1 m2 f1 f2, D1, D2⟩
    have Z : Zs L s.heap s.heap ow f x0 y0 i i := ⟨hz, hTI, hTO, s1 i h1, s2 i h2, rfl, fun _ _ _ _ _ _ q => q⟩
    refine wpAny_bind (wpAny_callSpecial?_slot (name := Str.ofString "__next__") hTz F.slot_zip_next (wpAny_call_entry F.slot_zip_next hTz F.entry_zip_next (zip_next (L := L) Z ho l1 l2 fun u u2 h' tk q1 q2 z' TO' n1 n2 hT hsz hk hTI' => wpAny_pure ?_) (F.args_zip_next_1 _)))
    replace hk : ∀ c o, c ≠ n + 4 → c ≠ n + 3 → c ≠ n → c ≠ n + 1 → s.heap.get? c = some o → h'.get? c = some o := hk
    replace z' : ∃ ow' f', ZipIs h' (n + 4) (n + 2) (n + 3) ow' f' ∧ OwnZ ow' := z'
    replace TO' : ∃ b1 b2, IsTupOf2 h' (n + 3) b1 b2 := TO'
    obtain ⟨x', ex, ru⟩ := p1 i u q1
    obtain ⟨y', ey, ru2⟩ := p2 i u2 q2
    rw [hx] at ex
    cases ex
    rw [hy] at ey
    cases ey
    have cz : ∀ m : Nat, m ≤ n + 5 → m < s.heap.objs.size := fun m hm => Nat.lt_of_le_of_lt hm hzl
    have new1 : ObjOk X.prog X.w (upd H s.heap.objs.size (.tup [x, y])) h' s.heap.objs.size (.tup [x, y]) := ⟨(by show 2 ≤ sizeLine; decide), [u, u2], (.cons ru (.cons ru2 .nil)), ⟨_, hT, rfl, _, rfl⟩⟩
    have out1 : ∀ c o, c ∉ [n + 5, n + 4, n + 2, n + 3, n, n + 1] → s.heap.get? c = some o → h'.get? c = some o := fun c o hb q =>
      hk c o (fun e => hb (by simp [e])) (fun e => hb (by simp [e])) (fun e => hb (by simp [e])) (fun e => hb (by simp [e])) q
    have I1 : Inv X pins σ (upd H s.heap.objs.size (.tup [x, y])) { s with heap := h', toks := tk } := I.turnedNew (t' := tk) (ch := [n + 5, n + 4, n + 2, n + 3, n, n + 1]) out1 hf (Nat.le_refl _) new1
    have hf1 : ∀ b ∈ [n + 5, n + 4, n + 2, n + 3, n, n + 1], FpOk X pins (upd H s.heap.objs.size (.tup [x, y])) b := fun b hb => by
      have hlt : b < s.heap.objs.size := by
        rcases cases6 hb with e | e | e | e | e | e <;> (rw [e]; exact cz _ (by omega))
      exact ⟨by rw [upd_ne (Nat.ne_of_lt hlt)]; exact (hf b hb).1, (hf b hb).2⟩
    have he1 : IsEnum h' (n + 5) (n + 4) i u0 := hk _ _ (nn (by omega)) (nn (by omega)) (nn (by omega)) (nn (by omega)) he
    refine ⟨he1, fun h'' heo hT2 hsz2 hk2 => wpAny_pure ⟨_, rfl, wpAny_letOwnedTupleGo_enum (s := { s with heap := h'', toks := tk + 1 }) heo fun h3 he3 sb => ?_⟩⟩
    replace sb : Heap.SameBut (n + 5) h'' h3 := sb
    have lt1 : n + 5 < h'.objs.size := Nat.lt_of_lt_of_le hzl (by rw [hsz]; exact Nat.le_succ _)
    have up3 : ∀ c o, c ≠ n + 5 → h'.get? c = some o → h3.get? c = some o := fun c o hc q => (sb.2 c hc).trans (hk2 c o hc q)
    have hT3 : h3.get? h'.objs.size = some { cls := .type "tuple", data := .seq #[.int i tk, .ref s.heap.objs.size] } := (sb.2 _ (Nat.ne_of_gt lt1)).trans hT2
    have new2 : ObjOk X.prog X.w (upd (upd H s.heap.objs.size (.tup [x, y])) h'.objs.size (.tup [.int i, .ref s.heap.objs.size])) h3 h'.objs.size (.tup [.int i, .ref s.heap.objs.size]) := ⟨(by show 2 ≤ sizeLine; decide), [.int i tk, .ref s.heap.objs.size], (.cons ⟨_, rfl⟩ (.cons rfl .nil)), ⟨_, hT3, rfl, _, rfl⟩⟩
    have I2 : Inv X pins σ (upd (upd H s.heap.objs.size (.tup [x, y])) h'.objs.size (.tup [.int i, .ref s.heap.objs.size])) { s with heap := h3, toks := tk + 1 } :=
      I1.turnedNew (t' := tk + 1) (ch := [n + 5, n + 4, n + 2, n + 3, n, n + 1]) (fun c o hb q => up3 c o (fun e => hb (by simp [e])) q) hf1 (Nat.le_refl _) new2
    have neT : h'.objs.size ≠ s.heap.objs.size := by rw [hsz]; exact Nat.succ_ne_self _
    obtain ⟨ow', f', z1, z2⟩ := z'
    obtain ⟨b1, b2, hTO'⟩ := TO'
    refine ⟨.ref h'.objs.size, _, I2, rfl, ⟨s.heap.objs.size, h'.objs.size, x, y, rfl, I.hok.fresh (Nat.le_refl _), neT, ?_, rfl, fun l hl => by rw [Sr.inj I hl a1]; exact hx, fun l hl => by rw [Sr.inj I hl a2]; exact hy⟩, ⟨⟨_, he3⟩, ⟨ow', f', up3 _ _ (nn (by omega)) z1, z2⟩, ?_, ⟨b1, b2, up3 _ _ (nn (by omega)) hTO'⟩, ?_, ?_⟩, fun c hcm => ?_⟩
    · exact I.hok.fresh (by rw [hsz]; exact Nat.le_succ _)
    · exact up3 _ _ (nn (by omega)) (hk _ _ (nn (by omega)) (nn (by omega)) (nn (by omega)) (nn (by omega)) hTI)
    · exact Sr.iter_keep (t1 _ _ n1) fun o q => up3 _ _ (nn (by omega)) q
    · exact Sr.iter_keep (t2 _ _ n2) fun o q => up3 _ _ (nn (by omega)) q
    · have hlt : c < s.heap.objs.size := by
        rcases cases6 hcm with e | e | e | e | e | e <;> (rw [e]; exact cz _ (by omega))
      rw [upd_ne (Nat.ne_of_lt (Nat.lt_of_lt_of_le hlt (by rw [hsz]; exact Nat.le_succ _))), upd_ne (Nat.ne_of_lt hlt)]
      exact (hf c hcm).1
  · intro X hP hw hK hc i pins s σ H E I hf st hg
    subst hP hw hK
    obtain ⟨⟨u0, he⟩, ⟨ow, f, hz, ho⟩, hTI, ⟨x0, y0, hTO⟩, h1, h2⟩ := st
    obtain ⟨xs, ys, a1, a2, l1, l2, hend⟩ := hg
    obtain ⟨fp1, P1, St1, D1, m1, f1, s1, t1, p1⟩ := Sr.drawA (A' := X.A.in1.in1) I (I.ok.hd hc) a1 n (fun p h => Nat.ne_of_lt (ne1 p h))
    obtain ⟨fp2, P2, St2, D2, m2, f2, s2, t2, p2⟩ := Sr.drawA (A' := X.A.in1.in1) I (I.ok.hd hc) a2 (n + 1) (fun p h => Nat.ne_of_lt (Nat.lt_succ_of_lt (ne2 p h)))
    have hTe : s.TypeIs (.ref (n + 5)) "enumerate" := ⟨_, he, rfl⟩
    have hTz : s.TypeIs (.ref (n + 4)) "zip" := ⟨_, hz, rfl⟩
    unfold pyNext
    refine wpAny_bind (wpAny_attempt (wpAny_callSpecial?_slot (name := Str.ofString "__next__") hTe F.slot_enumerate_next
      (wpAny_call_entry F.slot_enumerate_next hTe F.entry_enumerate_next ?_ (F.args_enumerate_next_1 _))))
    show wpAny _ _ (field (.ref (n + 5)) 2 >>= _) _ _ _
    refine wpAny_bind (wpAny_field he rfl (x := .ref (n + 4)) rfl ?_)
    unfold Builtin.SmallTypes.nextOf
    let L : Lay X.prog X.w X.A.in1.in1 := ⟨n + 4, n + 2, n + 3, n, n + 1, fp1, fp2, xs.length, ys.length, P1, P2, St1, St2, sep m1 m2 f1 f2, D1, D2⟩
    have Z : Zs L s.heap s.heap ow f x0 y0 i i := ⟨hz, hTI, hTO, s1 i h1, s2 i h2, rfl, fun _ _ _ _ _ _ q => q⟩
    refine wpAny_bind (wpAny_bind (wpAny_callSpecial?_slot (name := Str.ofString "__next__") hTz F.slot_zip_next (wpAny_call_entry F.slot_zip_next hTz F.entry_zip_next (zip_stop (L := L) Z ho l1 l2 hend fun h' tk e hk hx => ?_) (F.args_zip_next_1 _))))
    replace hk : ∀ c o, c ≠ n + 4 → c ≠ n + 3 → c ≠ n → c ≠ n + 1 → s.heap.get? c = some o → h'.get? c = some o := hk
    obtain ⟨o, hoo, hcc⟩ := hx
    refine wpAny_bind (wpAny_isInstance (T := "StopIteration") (b := true) ⟨o, hoo, hcc⟩ isSubtype_stop ?_)
    refine wpAny_pure ⟨rfl, ?_⟩
    exact I.turnedL (t' := tk) (ch := [n + 5, n + 4, n + 2, n + 3, n, n + 1]) (fun c o hb q => hk c o (fun e => hb (by simp [e])) (fun e => hb (by simp [e])) (fun e => hb (by simp [e])) (fun e => hb (by simp [e])) q) hf
/-! ### the call -/
theorem meets_en2 {v : Value} {it : Addr} {H : Heap → Prop} (B : ∀ (prog : Program) (w : World) (A : Around) (E : Value → Shared → Prop) (s : Shared) (Q : Value → Shared → Prop), H s.heap → Q (.ref it) s → wpAny (model prog w) A (pyIter v) Q E s) :
    Meets (Builtin.«enumerate.__new__» ⟨[.type "enumerate", v], []⟩) (fun _ R s => H s.heap ∧ R (.ok (.ret (.ref s.heap.objs.size))) { s with heap := s.heap.push (enObj it) }) :=
  .of_wp fun prog w A R s hh => by
    obtain ⟨hp, gg, dd, tk, os⟩ := s
    obtain ⟨hv, hR⟩ := hh
    have sb := sub_enumerate
    have itr : ∀ {A' : Around} {E' : Value → Shared → Prop} {Q' : Value → Shared → Prop}, Q' (.ref it) ⟨hp, gg, dd, tk, os⟩ → wpAny (model prog w) A' (pyIter v) Q' E' ⟨hp, gg, dd, tk, os⟩ :=
      fun q => B prog w _ _ ⟨hp, gg, dd, tk, os⟩ _ hv q
    wp_walk using itr
    refine wpAny_stack_any fun _ => wpAny_pure ?_
    split
    · rename_i cc _ _ _ _ _
      cases (cc == Value.type "enumerate") <;> (wp_walk using itr; exact ⟨_, rfl, hR⟩)
    · wp_walk using itr
      exact ⟨_, rfl, hR⟩
theorem call_en2 {prog : Program} {w : World} {A : Around} {E : Value → Shared → Prop} {s : Shared} {v : Value} {it : Addr} {H : Heap → Prop} {Q : Value → Shared → Prop}
    (B : ∀ (prog : Program) (w : World) (A : Around) (E : Value → Shared → Prop) (s : Shared) (Q : Value → Shared → Prop), H s.heap → Q (.ref it) s → wpAny (model prog w) A (pyIter v) Q E s) (hv : H s.heap)
    (h : ∀ h', IsEnum h' s.heap.objs.size it 0 .none → (∀ b u, s.heap.get? b = some u → h'.get? b = some u) → Q (.ref s.heap.objs.size) { s with heap := h' }) :
    wpAny (model prog w) A (call (.type "enumerate") [v]) Q E s := by
  refine callType_new F.called_enumerate (by decide) (F.typeCall_enumerate_1 _) (F.newCall_enumerate_1 _) (fun ob => F.args_object_init_2 ob _) F.entry_enumerate_new (meets_en2 B) ⟨hv, ?_⟩
  have en : IsEnum (s.heap.push (enObj it)) s.heap.objs.size it 0 .none := Heap.get?_push_size s.heap (o := enObj it) rfl
  exact ⟨⟨_, en, rfl⟩, h _ en fun b u x => Heap.get?_push_of_some _ x⟩
section
variable {T : Tb} {X : Cx} {W : Wx} {r : Ev} {a b : Expr} {a' b' : E} {p p2 pos pos2 tpos : Pos} {elts : List Expr} {kk : Nat}
theorem pi_enumzR (hg0 : Gl X "enumerate") (hm0 : X.mg "enumerate" = none) (hg : Gl X "zip") (hm : X.mg "zip" = none) (ha : PE X a (Rd T X.K W (evA r a') (relA T X.K fun ρ => clean ρ a'))) (hb : PE X b (Rd T X.K W (evA r b') (relA T X.K fun ρ => clean ρ b')))
    (hs : starEach [a, b] X.env = (false, eval a X.env) :: starEach [b] X.env) (hs2 : starEach [b] X.env = [(false, eval b X.env)]) :
    PI X (.Tuple elts kk tpos) (.Call (.Name "enumerate" p2) [.Call (.Name "zip" p) [a, b] [] pos] [] pos2) (Rd T X.K W (evI r (.enumz a' b')) (relI T X.K fun ρ => cleanI ρ (.enumz a' b'))) := by
  refine ⟨fun pins s σ H R I hh => ?_⟩
  obtain ⟨g, ρ, h, s0, z⟩ := hh
  have z : Out T X.K W σ g H ((evAs r [a', b'] ρ h).bind fun ds h1 => match ds with
    | [x, y] => match zipOf x y with
      | some xs => .ok (enumD 0 xs) h1
      | none => .bad
    | _ => .bad) (KK T X.K (relI T X.K fun ρ => cleanI ρ (.enumz a' b')) ρ g H R) := z
  rw [evAs2] at z
  have hE : tCons (Rd T X.K W (evA r a') (relA T X.K fun ρ => clean ρ a')) (tCons (Rd T X.K W (evA r b') (relA T X.K fun ρ => clean ρ b')) tNil) σ H (fun vs H1 => ∃ (g1 : Gh) (h1 : Hh) (d1 d2 : D) (v1 v2 : V) (xs : List D), vs = [v1, v2] ∧ HeapOk T X.K g1 h1 H1 ∧ Opd T X.K (clean ρ a') g1 H1 d1 v1 ∧ Opd T X.K (clean ρ b') g1 H1 d2 v2 ∧ zipOf d1 d2 = some xs ∧
      ∀ J, ItOk T X.K J (enumD 0 xs) (Since T X.K (cleanI ρ (.enumz a' b')) g1 H1) → R J H1) := by
    refine ⟨g, ρ, h, s0, (Out.bind z).imp fun d1 h1 o1 g1 v1 H1 p1 r1 => ?_⟩
    have s1 := s0.post p1
    refine ⟨g1, ρ, h1, s1, ((Out.bind o1).shift p1 fun _ _ q => q).imp fun d2 h2 o2 g2 v2 H2 p2 r2 => ?_⟩
    have s2 := s1.post p2
    dsimp only at o2
    cases q : zipOf d1 d2 with
    | none => rw [q] at o2; exact o2.elim
    | some xs =>
      rw [q] at o2
      exact ⟨g2, h2, d1, d2, v1, v2, xs, rfl, s2.ok, r1.post s1.ok p2, r2, q, fun J it => o2 g2 J H2 (p1.trans p2) it⟩
  refine Call_ (ld_blt I hg0 hm0 boot_enumerate (PyProof.Rows.callWith_type1 ?_ rfl rfl))
  refine Calls.spliced_cons (Call_ (ld_blt I hg hm PyProof.Rows.boot_zip (PyProof.Rows.callWith_type1 (thn ((pa_cons ha (pa_cons hb pa_nil hs2) hs).run pos pins s σ H _ I hE) fun us s1 w1 => ?_) hs (by rw [hs2]; rfl))))
  obtain ⟨vs, H1, I1, rv, g1, h1, d1, d2, v1, v2, xs, ev, ok, q1, q2, ez, k⟩ := w1
  subst ev
  cases rv with
  | cons ru1 rv =>
    cases rv with
    | cons ru2 rv =>
      cases rv
      rename_i u1 u2
      unfold zipOf at ez
      split at ez
      · rename_i xs1 xs2 e1 e2
        cases ez
        have cc : cleanI ρ (.enumz a' b') = (clean ρ a' && clean ρ b') := rfl
        obtain ⟨S1, Hq1, w1, B1, b1, old1, i1, at1⟩ := sr_of (c := cleanI ρ (.enumz a' b')) (fun e => by rw [cc, Bool.and_eq_true] at e; exact e.1) I1 ok q1 ru1 e1
        obtain ⟨S2, Hq2, w2, B2, b2, old2, i2, at2⟩ := sr_of (c := cleanI ρ (.enumz a' b')) (fun e => by rw [cc, Bool.and_eq_true] at e; exact e.2) I1 ok q2 ru2 e2
        refine zip_begins2 B1 B2 b1 b2 fun h' hz hTI hTO g1' g2' hsz hk => Calls.spliced_nil ?_
        refine call_en2 (it := s1.heap.objs.size + 4) (H := fun h => IsZip h (s1.heap.objs.size + 4) (s1.heap.objs.size + 2) (s1.heap.objs.size + 3) .none) (fun prog w A E s Q hz h => wpAny_pyIter_zip hz h) hz fun h3 he hk3 => wpAny_pyIter_enum he ?_
        have hk' : ∀ b u, s1.heap.get? b = some u → h3.get? b = some u := fun b u q => hk3 b u (hk b u q)
        have I2 : Inv X pins σ H1 { s1 with heap := h3 } := I1.kept (t' := s1.toks) hk'
        have he' : IsEnum h3 (s1.heap.objs.size + 5) (s1.heap.objs.size + 4) 0 .none := by
          have := he
          rw [show h'.objs.size = s1.heap.objs.size + 5 from hsz] at this
          exact this
        refine ⟨s1.heap.objs.size + 5, [s1.heap.objs.size + 5, s1.heap.objs.size + 4, s1.heap.objs.size + 2, s1.heap.objs.size + 3, s1.heap.objs.size, s1.heap.objs.size + 1], _, _, H1, by rw [show h'.objs.size = s1.heap.objs.size + 5 from hsz], I2, turn_nz old1 old2, ⟨⟨_, he'⟩, ⟨_, _, hk3 _ _ hz, .non⟩, hk3 _ _ hTI, ⟨_, _, hk3 _ _ hTO⟩, i1 _ _ (hk3 _ _ g1'), i2 _ _ (hk3 _ _ g2')⟩, fun c hcm => ?_, k _ fun g2 h2 H2 ok2 s2 i => ?_⟩
        · have e' : c = s1.heap.objs.size + 5 ∨ c = s1.heap.objs.size + 4 ∨ c = s1.heap.objs.size + 2 ∨ c = s1.heap.objs.size + 3 ∨ c = s1.heap.objs.size ∨ c = s1.heap.objs.size + 1 := by simpa using hcm
          have hle : s1.heap.objs.size ≤ c := by
            rcases e' with e | e | e | e | e | e <;> (rw [e]; first | exact Nat.le_add_right _ _ | exact Nat.le_refl _)
          exact I1.fpOk hle (I1.hok.fresh hle)
        · obtain ⟨ws1, A1, R1⟩ := at1 g2 h2 H2 ok2 s2
          obtain ⟨ws2, A2, R2⟩ := at2 g2 h2 H2 ok2 s2
          refine ⟨fun d hd => ?_, fun hl => ?_⟩
          · obtain ⟨dd, hdd, rfl⟩ := enumD_get hd
            obtain ⟨x, y, x1, y1, rfl⟩ := zipD_get hdd
            obtain ⟨vx, x2, x3⟩ := R1.get x1
            obtain ⟨vy, y2, y3⟩ := R2.get y1
            refine ⟨⟨ws1, ws2, vx, vy, A1, A2, x2, y2⟩, fun w H' yy => ?_⟩
            obtain ⟨Tq, Tq2, x', y', rfl, hn, hne, hn2, rfl, k1, k2⟩ := yy
            have := k1 ws1 A1
            rw [x2] at this
            cases this
            have := k2 ws2 A2
            rw [y2] at this
            cases this
            have po := ok2.newF (o := .tup [vx, vy]) hn
            have t1 := new_tup ok2 hn (.cons x3 (.cons y3 .nil))
            have hn2' : (upd H2 Tq (.tup [vx, vy])) Tq2 = none := by rw [upd_ne hne]; exact hn2
            have po2 := po.ok.newF (o := .tup [.int i, .ref Tq]) hn2'
            rw [Int.zero_add]
            exact ⟨_, po.trans po2, new_tup po.ok hn2' (.cons (.int _) (.cons t1 .nil))⟩
          · rw [enumD_len, zipD_len] at hl
            have l1 := R1.length
            have l2 := R2.length
            exact ⟨ws1, ws2, A1, A2, by omega, by omega, by omega⟩
      · cases ez
end
end PI
end
section
/-! The checker: argument lists, targets, sources. -/
set_option linter.all false
set_option maxRecDepth 100000
set_option maxHeartbeats 1000000
namespace PI
open PySem PySem.Spec PyProof.Rows L2

def inStar (f : Expr → Bool) : Expr → Bool
  | .Starred e _ => f e
  | _ => false
def chkIts (ce ca : Expr → E → Bool) : List Expr → List It → Bool
  | [], [] => true
  | e :: es, .one x :: its => noStar e && ce e x && chkIts ce ca es its
  | e :: es, .star x :: its => inStar (fun e => ca e x) e && chkIts ce ca es its
  | _, _ => false
def notLone : List Expr → Bool
  | [e] => noStar e
  | _ => true
def chkKs (T : Tb) (ce : Expr → E → Bool) : List Keyword → List (Nat × E) → Bool
  | [], [] => true
  | ⟨some y, e, _⟩ :: kws, (n, x) :: ks => decide (y = T.nm n) && ce e x && chkKs T ce kws ks
  | _, _ => false
def chkTgs (f : Expr → Tg → Bool) : List Expr → List Tg → Bool
  | [], [] => true
  | e :: es, t :: l => noStar e && f e t && chkTgs f es l
  | _, _ => false
def chkTg (N : List Str) (sc : Scope) (fo : Str → Bool) : Nat → Expr → Tg → Bool
  | 0, _, _ => false
  | d + 1, e, t => match t with
    | .n i => (match e with | .Name y _ => nAt N i y && isLoc sc y && fo y | _ => false)
    | .t l => (match e with | .Tuple es _ _ => chkTgs (chkTg N sc fo d) es l | _ => false)
def noSet : Expr → Bool
  | .Set _ _ _ => false
  | _ => true
def chkI (ck : Ck) (ca : Expr → E → Bool) (sc : Scope) (tg iter : Expr) (it : I) : Bool :=
  match it with
  | .seq x => ca iter x
  | .range [x] => (match iter with | .Call (.Name y _) [a] [] _ => decide (y = "range") && blk ck sc y && noStar a && ca a x | _ => false)
  | .range [x, z] => (match iter with | .Call (.Name y _) [a, b] [] _ => decide (y = "range") && blk ck sc y && noStar a && noStar b && ca a x && ca b z | _ => false)
  | .enumz x z => (match tg with
    | .Tuple _ _ _ => (match iter with | .Call (.Name y0 _) [.Call (.Name y _) [a, b] [] _] [] _ => decide (y0 = "enumerate") && blk ck sc y0 && decide (y = "zip") && blk ck sc y && noStar a && noStar b && ca a x && ca b z | _ => false)
    | _ => false)
  | .zip x z => (match tg with
    | .Tuple _ _ _ => (match iter with | .Call (.Name y _) [a, b] [] _ => decide (y = "zip") && blk ck sc y && noStar a && noStar b && ca a x && ca b z | _ => false)
    | _ => false)
  | .enum x => (match tg with
    | .Tuple _ _ _ => (match iter with | .Call (.Name y _) [a] [] _ => decide (y = "enumerate") && blk ck sc y && noStar a && ca a x | _ => false)
    | _ => false)
  | _ => false
section
variable {T : Tb} {fa : Nat → Addr} {ck : Ck} {c : Cf} {k : Nat} {W : Wx} {sc : Scope} {N : List Str} {fo : Str → Bool} {X : Cx} {r : Ev} {e iter tg : Expr} {x : E} {pos : Pos} {ce ca : Expr → E → Bool}
theorem caOf_ok (G : Good T fa ck c k W sc N fo X) (hce : ∀ e x, ce e x = true → PE X e (Rd T X.K W (r.e x) (relE T X.K))) (e : Expr) (x : E) (h : caOf N ce sc e x = true) : PE X e (Rd T X.K W (evA r x) (relA T X.K fun ρ => clean ρ x)) := by
  unfold caOf at h
  split at h
  · split at h
    · unfold vOk at h
      simp only [Bool.and_eq_true] at h
      obtain ⟨⟨h1, h2⟩, h3⟩ := h
      obtain ⟨h4, h5⟩ := okN_of h3
      exact pe_vA (by rw [G.ne]; exact nAt_eq h1) (G.vis h2) h4 h5
    · cases h
  · rename_i hn
    exact pe_eA (hce _ _ h) fun i z => hn i z
theorem its_ok (hce : ∀ e x, ce e x = true → PE X e (Rd T X.K W (r.e x) (relE T X.K))) (hca : ∀ e x, ca e x = true → PE X e (Rd T X.K W (evA r x) (relA T X.K fun ρ => clean ρ x))) :
    ∀ (es : List Expr) (its : List It), chkIts ce ca es its = true → PA X es (Rd T X.K W (evIts r its) (relEs T X.K))
  | [], [], _ => pa_nilR
  | [], _ :: _, h => by cases h
  | _ :: _, [], h => by cases h
  | e :: es, .one x :: its, h => by
    have h : (noStar e && ce e x && chkIts ce ca es its) = true := h
    simp only [Bool.and_eq_true] at h
    exact pa_oneR (hce _ _ h.1.2) (its_ok hce hca es its h.2) (star_cons h.1.1 _ _)
  | e :: es, .star x :: its, h => by
    have h : (inStar (fun e => ca e x) e && chkIts ce ca es its) = true := h
    rw [Bool.and_eq_true] at h
    obtain ⟨h1, h2⟩ := h
    unfold inStar at h1
    split at h1
    · exact pa_starR (hca _ _ h1) (its_ok hce hca es its h2) rfl
    · cases h1
theorem notLone_of : ∀ {es : List Expr}, notLone es = true → ∀ (env : Env) (x : Sem Value), starEach es env ≠ [(true, x)]
  | [], _, env, x, z => by cases z
  | [e], h, env, x, z => by
    rw [star_one h] at z
    cases z
  | a :: b :: es, _, env, x, z => by
    have l := congrArg List.length z
    cases a <;> cases b <;> simp [starEach] at l
theorem ks_ok (hce : ∀ e x, ce e x = true → PE X e (Rd T X.K W (r.e x) (relE T X.K))) : ∀ (kws : List Keyword) (ks : List (Nat × E)), chkKs T ce kws ks = true →
    PK X kws (Rd T X.K W (evKs r ks) (relKs T X.K (ks.map (·.1)))) ∧ ∀ pos : Pos, (backToKw pos (keywordEach kws X.env)).all (·.1.isSome) = true ∧ (backToKw pos (keywordEach kws X.env)).filterMap (·.1) = ks.map fun p => T.nm p.1
  | [], [], _ => ⟨pk_nilR, fun pos => ⟨rfl, rfl⟩⟩
  | [], _ :: _, h => by cases h
  | ⟨some y, e, kp⟩ :: kws, [], h => by cases h
  | ⟨none, e, kp⟩ :: kws, [], h => by cases h
  | ⟨none, e, kp⟩ :: kws, _ :: _, h => by cases h
  | ⟨some y, e, kp⟩ :: kws, (n, x) :: ks, h => by
    have h : (decide (y = T.nm n) && ce e x && chkKs T ce kws ks) = true := h
    simp only [Bool.and_eq_true] at h
    obtain ⟨⟨h1, h2⟩, h3⟩ := h
    have e1 := of_decide_eq_true h1
    obtain ⟨q1, q2⟩ := ks_ok hce kws ks h3
    refine ⟨pk_consR (hce _ _ h2) q1, fun pos => ⟨?_, ?_⟩⟩
    · exact (q2 pos).1
    · show y :: (backToKw pos (keywordEach kws X.env)).filterMap (·.1) = _
      rw [(q2 pos).2, e1]
      rfl
theorem asg_cons (h : noStar e = true) (env : Env) (es : List Expr) : assignEach (e :: es) env = (false, assign e env) :: assignEach es env := by
  cases e <;> first | rfl | cases h
theorem tgs_ok {f : Expr → Tg → Bool} (hf : ∀ e t, f e t = true → PG X e (rdG T X.K t)) : ∀ (es : List Expr) (l : List Tg), chkTgs f es l = true → PGs X es (rdGs T X.K l) ∧ (assignEach es X.env).length = l.length ∧ (assignEach es X.env).findIdx? (·.1) = none
  | [], [], _ => ⟨pgs_nilR, rfl, rfl⟩
  | [], _ :: _, h => by cases h
  | _ :: _, [], h => by cases h
  | e :: es, t :: l, h => by
    have h : (noStar e && f e t && chkTgs f es l) = true := h
    simp only [Bool.and_eq_true] at h
    obtain ⟨⟨h1, h2⟩, h3⟩ := h
    obtain ⟨q1, q2, q3⟩ := tgs_ok hf es l h3
    refine ⟨pgs_consR (hf _ _ h2) q1 (by rw [asg_cons h1]; rfl), ?_, ?_⟩
    · rw [asg_cons h1, List.length_cons, q2, List.length_cons]
    · rw [asg_cons h1, List.findIdx?_cons]
      simp [q3]
theorem tg_ok (G : Good T fa ck c k W sc N fo X) : ∀ (d : Nat) (e : Expr) (t : Tg), chkTg N sc fo d e t = true → PG X e (rdG T X.K t)
  | 0, _, _, h => by cases h
  | d + 1, e, t, h => by
    unfold chkTg at h
    split at h
    · split at h
      · simp only [Bool.and_eq_true] at h
        exact pg_nameR (by rw [G.ne]; exact G.nd) (by rw [G.ne]; exact nAt_eq h.1.1) (G.loc h.1.2) (G.fo _ h.2)
      · cases h
    · split at h
      · obtain ⟨q1, q2, q3⟩ := tgs_ok (tg_ok G d) _ _ h
        exact pg_tupR G.calm q1 q2 q3
      · cases h
theorem noSet_of (h : noSet iter = true) (env : Env) (v : Value) : foldedSetIterable iter env v = pure v := by
  cases iter <;> first | rfl | cases h
theorem i_ok {it : I} (G : Good T fa ck c k W sc N fo X) (hca : ∀ e x, ca e x = true → PE X e (Rd T X.K W (evA r x) (relA T X.K fun ρ => clean ρ x))) (h : chkI ck ca sc tg iter it = true) :
    PI X tg iter (Rd T X.K W (evI r it) (relI T X.K fun ρ => cleanI ρ it)) := by
  unfold chkI at h
  split at h
  · exact pi_seqR (hca _ _ h)
  · split at h
    · simp only [Bool.and_eq_true] at h
      obtain ⟨⟨⟨h1, h2⟩, h3⟩, h4⟩ := h
      cases of_decide_eq_true h1
      obtain ⟨hg, hm⟩ := G.bltin h2
      exact pi_rng1 hg hm (hca _ _ h4) (star_one h3 _)
    · cases h
  · split at h
    · simp only [Bool.and_eq_true] at h
      obtain ⟨⟨⟨⟨⟨h1, h2⟩, h3⟩, h4⟩, h5⟩, h6⟩ := h
      cases of_decide_eq_true h1
      obtain ⟨hg, hm⟩ := G.bltin h2
      exact pi_rng2 hg hm (hca _ _ h5) (hca _ _ h6) (star_two h3 h4 _) (star_one h4 _)
    · cases h
  · split at h
    · split at h
      · simp only [Bool.and_eq_true] at h
        obtain ⟨⟨⟨⟨⟨⟨⟨h01, h02⟩, h1⟩, h2⟩, h3⟩, h4⟩, h5⟩, h6⟩ := h
        cases of_decide_eq_true h01
        cases of_decide_eq_true h1
        obtain ⟨hg0, hm0⟩ := G.bltin h02
        obtain ⟨hg, hm⟩ := G.bltin h2
        exact pi_enumzR hg0 hm0 hg hm (hca _ _ h5) (hca _ _ h6) (star_cons h3 _ _) (star_one h4 _)
      · cases h
    · cases h
  · split at h
    · split at h
      · simp only [Bool.and_eq_true] at h
        obtain ⟨⟨⟨⟨⟨h1, h2⟩, h3⟩, h4⟩, h5⟩, h6⟩ := h
        cases of_decide_eq_true h1
        obtain ⟨hg, hm⟩ := G.bltin h2
        exact pi_zipR hg hm (hca _ _ h5) (hca _ _ h6) (star_cons h3 _ _) (star_one h4 _)
      · cases h
    · cases h
  · split at h
    · split at h
      · simp only [Bool.and_eq_true] at h
        obtain ⟨⟨⟨h1, h2⟩, h3⟩, h5⟩ := h
        cases of_decide_eq_true h1
        obtain ⟨hg, hm⟩ := G.bltin h2
        exact pi_enumR hg hm (hca _ _ h5) (star_one h3 _)
      · cases h
    · cases h
  · cases h
/-- within a comprehension's block -/
def foB (scope sc : Scope) (y : Str) : Bool := (match scope.names.lookup y with | some .cell => true | _ => false) || (match (relS scope sc).names.lookup y with | some .local => true | _ => false)
theorem Good.blk (G : Good T fa ck c k W sc N fo X) {scope : Scope} (s : Shared) (H : Hp) (C : Addr) (cl : List (Str × Addr)) (fp : List Addr) :
    Good T fa ck c k noW (relS scope sc) N (foB scope sc) (X.blk s H scope (compEnvC scope cl C X.env) fp) where
  use := ⟨G.use.inj, G.use.fn, G.use.kp, G.use.mks, G.use.cls, G.use.room, fun u s' z => by
    obtain ⟨_, _, _, _, _, _, _, _, _, _, _, _, _, _, _, _, w⟩ := z
    exact w.elim, G.use.dn, G.use.hme, G.use.hpr⟩
  sce := by
    show relS scope X.env.scope = _
    rw [G.sce]
  ne := G.ne
  nd := G.nd
  calm := G.calm
  fo := fun y h => by
    unfold foB at h
    rw [Bool.or_eq_true] at h
    rcases h with h | h
    · split at h
      · rename_i e
        left
        show (scope.names.lookup y == some .cell) = true
        rw [e]
        rfl
      · cases h
    · split at h
      · rename_i e
        right
        show (relS scope X.env.scope).names.lookup y = _
        rw [G.sce]
        exact e
      · cases h
  fnm := G.fnm
  cnm := G.cnm
  con := G.con
  blt := G.blt
  ty := G.ty
end
end PI
end
section
/-! Comprehensions with two fors. -/
set_option linter.all false
set_option maxRecDepth 100000
set_option maxHeartbeats 2000000
namespace PI
open PySem PySem.Spec PyProof.Rows L2

section
variable {T : Tb} {K : PySem.W.Frag} {g : Gh} {ρ : En} {σ : L2.St} {H : Hp}
theorem EnOk.wipeOut (e : EnOk T K g ρ σ H) {vs : List Nat} (hn : ∀ i ∈ vs, ∀ s, ρ[i]? ≠ some (some s)) : EnOk T K g ρ (L2.wipe σ vs) H where
  len := by rw [wipe_length]; exact e.len
  sl := fun i s hi => by
    obtain ⟨v, e1, e2⟩ := e.sl i s hi
    exact ⟨v, by rw [wipe_get, if_neg fun z => hn i z.1 s hi]; exact e1, e2⟩
  ap := fun i j o o' hij hi hj => by
    rw [wipe_get, if_neg fun z => hn i z.1 _ hi, wipe_get, if_neg fun z => hn j z.1 _ hj]
    exact e.ap i j o o' hij hi hj
/-- something that no name holds is written -/
theorem EnOk.writeOut (e : EnOk T K g ρ σ H) {p : Addr} {u : HO} (hn : ∀ (i : Nat) (o : O), ρ[i]? = some (some (Sl.own o)) → ∀ (a : Addr), σ[i]? = some (some (V.ref a)) → a ≠ p) (no : ∀ b, H p ≠ some (.own b)) : EnOk T K g ρ σ (upd H p u) where
  len := e.len
  ap := e.ap
  sl := fun i s hi => by
    obtain ⟨v, e1, e2⟩ := e.sl i s hi
    refine ⟨v, e1, ?_⟩
    cases s with
    | val d => exact e2
    | own o =>
      obtain ⟨a, ev, t, hm, hF⟩ := e2
      subst ev
      have ne := hn i o hi a e1
      exact ⟨a, rfl, t.mono .refl (upd_ne ne) fun dx q => by
        have nd : dx ≠ p := fun z => by rw [z] at q; exact no _ q
        rw [upd_ne nd]
        exact q, hm, hF⟩
theorem CK.all {β : Type} {k : D → Hh → Prop} {acc : List D} {m : R β} {f : β → Hh → R (List D)} (c : CK k acc (m.bind f)) : Out T K noW σ g H m (fun x h2 => CK k acc (f x h2)) := by
  cases m with
  | ok x h2 => exact c
  | exc a b c' => exact c.elim
  | bad => exact c.elim
theorem CK.app {k : D → Hh → Prop} {acc xs : List D} {m : R (List D)} (c : CK k acc (m.bind fun zs h3 => .ok (xs ++ zs) h3)) : CK k (acc ++ xs) m := by
  cases m with
  | ok x h2 =>
    obtain ⟨c1, c2⟩ := (show sizeOk (acc ++ (xs ++ x)).length = true ∧ k (.lst (acc ++ (xs ++ x))) h2 from c)
    rw [← List.append_assoc] at c1 c2
    exact ⟨c1, c2⟩
  | exc a b c' => exact c.elim
  | bad => exact c.elim
/-- an item of the inner for -/
theorem CK.step2 {k : D → Hh → Prop} {acc : List D} {m : R D} {f : D → Hh → R (List D)} {F : List D → Hh → R (List D)} (hF : ∀ x ys h2, CK k acc (F (x :: ys) h2) → CK k (acc ++ [x]) (F ys h2) ∧ acc.length < sizeLine)
    (c : CK k acc ((m.bind fun x h2 => (f x h2).bind fun xs h3 => .ok (x :: xs) h3).bind F)) :
    Out T K noW σ g H m (fun x h2 => acc.length < sizeLine ∧ CK k (acc ++ [x]) ((f x h2).bind F)) := by
  cases m with
  | ok x h2 =>
    have c : CK k acc (((f x h2).bind fun xs h3 => .ok (x :: xs) h3).bind F) := c
    show acc.length < sizeLine ∧ CK k (acc ++ [x]) ((f x h2).bind F)
    cases q : f x h2 with
    | ok ys h3 =>
      rw [q] at c
      obtain ⟨a, b⟩ := hF x ys h3 c
      exact ⟨b, a⟩
    | exc a b c' => rw [q] at c; exact c.elim
    | bad => rw [q] at c; exact c.elim
  | exc a b c' => exact c.elim
  | bad => exact c.elim
end
section
variable {T : Tb} {X : Cx} {W : Wx} {r : Ev} {n : Nat} {pos : Pos}
def lc2F (r : Ev) (n : Nat) (e' : E) (t : Tg) (it : I) (t2 : Tg) (it2 : I) (c' : Option E) (ρ : En) (h : Hh) : R D :=
  (evI r it ρ h).bind fun ds h1 => match evC2 r e' t t2 it2 c' n (wipeR ρ (tgS t ++ tgS t2)) ds h1 with
    | .ok xs h2 => if sizeOk xs.length then .ok (.lst xs) h2 else .bad
    | _ => .bad
theorem lc2_main {own : List (Str × Nat)} {e' : E} {t t2 : Tg} {it it2 : I} {c' : Option E} (ho : own.map (·.2) = tgS t ++ tgS t2) (hdis : ∀ i ∈ tgS t2, i ∉ tgS t)
    {σ : L2.St} {H : Hp} {Q : VK} (hh : Rd T X.K W (lc2F r n e' t it t2 it2 c') (relE T X.K) σ H Q) :
    tLc2 (Rd T X.K W (evI r it) (relI T X.K fun ρ => cleanI ρ it)) (rdG T X.K t) tYes (Rd T X.K noW (evI r it2) (relI T X.K fun ρ => cleanI ρ it2)) (rdG T X.K t2) (optT T X.K r n c') (Rd T X.K noW (r.e e') (relE T X.K)) (own.map (·.2)) (tgS t2) σ H Q := by
  obtain ⟨g0, ρ, h0, a0, o⟩ := hh
  refine ⟨g0, ρ, h0, a0, (Out.bind o).imp fun xs h1 o1 g1 J H1 p1 itk Dd hDd => ?_⟩
  rw [ho]
  have a1 := a0.post p1
  obtain ⟨D1, D2⟩ := a1.ok.out hDd
  let kk : D → Hh → Prop := KK T X.K (relE T X.K) ρ g0 H Q
  have c0 : CK kk [] (evC2 r e' t t2 it2 c' n (wipeR ρ (tgS t ++ tgS t2)) xs h1) := by
    cases q : evC2 r e' t t2 it2 c' n (wipeR ρ (tgS t ++ tgS t2)) xs h1 with
    | ok ys h2 =>
      simp only [q] at o1
      by_cases hz : sizeOk ys.length = true
      · rw [if_pos hz] at o1
        exact ⟨hz, o1⟩
      · rw [if_neg hz] at o1
        exact o1.elim
    | exc a b c => simp only [q] at o1; exact o1.elim
    | bad => simp only [q] at o1; exact o1.elim
  have sinc : ∀ {g h2 H2}, Post T X.K g1 H1 g h2 H2 → Since T X.K (cleanI ρ it) g1 H1 g H2 := fun {g h2 H2} p => by
    unfold Since
    split
    · exact p.le
    · exact ⟨h2, p⟩
  let WW : Nat → Nat → Hp → Prop := fun i m H2 => ∃ (g : Gh) (h : Hh) (acc : List D) (av : List V), Post T X.K g1 H1 g h H2 ∧ H2 Dd = some (.lst av) ∧ Rls T X.K g.F g.m acc av ∧ Dd ∉ g.m ∧ g.F Dd = none ∧ m = xs.length - i ∧ i ≤ xs.length ∧
    CK kk acc (evC2 r e' t t2 it2 c' n (wipeR ρ (tgS t ++ tgS t2)) (xs.drop i) h)
  refine ⟨WW, ⟨xs.length, g1, h1, [], [], a1.ok.newO hDd, upd_same, .nil, D1, D2, by simp, Nat.zero_le _, c0⟩, fun i m H2 w => ?_⟩
  obtain ⟨g, h, acc, av, p, eD, rac, nm, nF, em, hle, ck⟩ := w
  have itn := itk g h H2 p.ok (sinc p) i
  by_cases hlt : i < xs.length
  · obtain ⟨go, yl⟩ := itn.1 _ (List.getElem?_eq_getElem hlt)
    refine .inr ⟨go, fun H' => WW (i + 1) (xs.length - (i + 1)) H', fun H' w => ⟨_, by omega, w⟩, fun x H' y => ?_⟩
    obtain ⟨g', p', rx⟩ := yl x H' y
    have pp := p.trans p'
    obtain ⟨eD', nm', nF'⟩ := p'.keep eD nm nF
    rw [List.drop_eq_getElem_cons hlt] at ck
    unfold evC2 at ck
    cases eb : bindTg t xs[i] (wipeR ρ (tgS t ++ tgS t2)) with
    | none => rw [eb] at ck; exact ck.elim
    | some ρ1 =>
      rw [eb] at ck
      replace ck : CK kk acc (if (!cleanI ρ1 it2) = true then R.bad else (evI r it2 ρ1 h).bind fun ys h1 => (evC r n e' t2 c' ρ1 ys h1).bind fun xs' h2 => (evC2 r e' t t2 it2 c' n (wipeR ρ (tgS t ++ tgS t2)) (xs.drop (i + 1)) h2).bind fun zs h3 => R.ok (xs' ++ zs) h3) := ck
      refine ⟨g', h, _, _, ρ1, pp.ok, rx, eb, fun σ1 as => ⟨as.wipe fun i hi => List.mem_append_left _ hi, ?_⟩⟩
      have here : Here T X.K g' ρ1 h σ1 H' := ⟨pp.ok, as.en ((a1.post pp).en.wipe _)⟩
      have free2 : ∀ j ∈ tgS t2, ∀ s, ρ1[j]? ≠ some (some s) := fun j hj s e => by
        rw [(as.out j (hdis j hj)).2] at e
        obtain ⟨_, hn⟩ := wipeR_some e
        exact hn (List.mem_append_right _ hj)
      simp only [tYes, if_true]
      by_cases hcl : cleanI ρ1 it2 = true
      case neg =>
        have hcl : cleanI ρ1 it2 = false := by simpa using hcl
        rw [hcl, if_pos (by simp)] at ck
        exact ck.elim
      rw [hcl, if_neg (by simp)] at ck
      refine ⟨g', ρ1, h, here, (CK.all ck).imp fun ys h2 ck2 g2 J1 H4 p2 itk2 => ?_⟩
      have here2 := here.post p2
      have pb := pp.trans p2
      obtain ⟨e2, m2, f2⟩ := p2.keep eD' nm' nF'
      have itk2 : ItOk T X.K J1 ys (Since T X.K (cleanI ρ1 it2) g2 H4) := itk2
      rw [hcl] at itk2
      have ownNe : ∀ (i : Nat) (o : O), ρ1[i]? = some (some (Sl.own o)) → ∀ (a : Addr), σ1[i]? = some (some (V.ref a)) → a ≠ Dd := fun i o e a ea z => by
        obtain ⟨e0, e1⟩ := as.own i o e
        obtain ⟨v, e3, b, ev, tt, _, _⟩ := ((a1.en.wipe (tgS t ++ tgS t2)).sl i _ e0)
        rw [← e1, ea] at e3
        cases e3
        cases ev
        obtain ⟨u, hu⟩ := tt.ex
        rw [z, hDd] at hu
        cases hu
      let F : List D → Hh → R (List D) := fun xs' h2 => (evC2 r e' t t2 it2 c' n (wipeR ρ (tgS t ++ tgS t2)) (xs.drop (i + 1)) h2).bind fun zs h3 => .ok (xs' ++ zs) h3
      have hF : ∀ {acc : List D} (x : D) (ys : List D) (h2 : Hh), CK kk acc (F (x :: ys) h2) → CK kk (acc ++ [x]) (F ys h2) ∧ acc.length < sizeLine := fun {acc} x ys h2 c => by
        cases q : evC2 r e' t t2 it2 c' n (wipeR ρ (tgS t ++ tgS t2)) (xs.drop (i + 1)) h2 with
        | ok zs h3 =>
          have c : CK kk acc (.ok ((x :: ys) ++ zs) h3) := by
            have : F (x :: ys) h2 = .ok ((x :: ys) ++ zs) h3 := by show R.bind _ _ = _; rw [q]; rfl
            rw [this] at c
            exact c
          obtain ⟨z1, z2⟩ := (show sizeOk (acc ++ ((x :: ys) ++ zs)).length = true ∧ kk (.lst (acc ++ ((x :: ys) ++ zs))) h3 from c)
          have el : acc ++ ((x :: ys) ++ zs) = (acc ++ [x]) ++ (ys ++ zs) := by simp
          rw [el] at z1 z2
          refine ⟨?_, ?_⟩
          · have : F ys h2 = .ok (ys ++ zs) h3 := by show R.bind _ _ = _; rw [q]; rfl
            rw [this]
            exact ⟨z1, z2⟩
          · have := sizeOk_le z1
            simp at this
            omega
        | exc a b cc => have : F (x :: ys) h2 = .exc a b cc := (by show R.bind _ _ = _; rw [q]; rfl); rw [this] at c; exact c.elim
        | bad => have : F (x :: ys) h2 = .bad := (by show R.bind _ _ = _; rw [q]; rfl); rw [this] at c; exact c.elim
      let W1 : Nat → Nat → Hp → Prop := fun j k H5 => ∃ (g : Gh) (h : Hh) (acc : List D) (av : List V), EnOk T X.K g ρ1 σ1 H5 ∧ Le g2 g ∧ Post T X.K g1 H1 g h H5 ∧ H5 Dd = some (.lst av) ∧ Rls T X.K g.F g.m acc av ∧ Dd ∉ g.m ∧ g.F Dd = none ∧ k = ys.length - j ∧ j ≤ ys.length ∧
        CK kk acc ((evC r n e' t2 c' ρ1 (ys.drop j) h).bind F)
      refine ⟨W1, ⟨ys.length, g2, h2, acc, av, here2.en, .refl, pb, e2, (rac.mono p'.le.s p'.le.p _).mono p2.le.s p2.le.p _, m2, f2, by simp, Nat.zero_le _, ck2⟩, fun j kk2 H5 w => ?_⟩
      obtain ⟨g5, h5, acc5, av5, en5, q5, pq, eD5, rac5, nm5, nF5, ek, hle5, ck5⟩ := w
      have itn2 := itk2 g5 h5 H5 pq.ok q5 j
      by_cases hlt2 : j < ys.length
      · obtain ⟨go2, yl2⟩ := itn2.1 _ (List.getElem?_eq_getElem hlt2)
        refine .inr ⟨go2, fun H' => W1 (j + 1) (ys.length - (j + 1)) H', fun H' w => ⟨_, by omega, w⟩, fun x2 H6 y2 => ?_⟩
        obtain ⟨g6, p6, rx6⟩ := yl2 x2 H6 y2
        have qq := q5.trans p6.le
        have enb : EnOk T X.K g6 ρ1 σ1 H6 := en5.post pq.ok p6
        have pq6 := pq.trans p6
        obtain ⟨eD6, nm6, nF6⟩ := p6.keep eD5 nm5 nF5
        rw [List.drop_eq_getElem_cons hlt2] at ck5
        unfold evC at ck5
        cases eb2 : bindTg t2 ys[j] ρ1 with
        | none => rw [eb2] at ck5; exact ck5.elim
        | some ρ2 =>
          rw [eb2] at ck5
          refine ⟨g6, h5, _, _, ρ2, pq6.ok, rx6, eb2, fun σ3 as2 => ⟨as2.wipe fun i hi => hi, ?_⟩⟩
          have here6 : Here T X.K g6 ρ2 h5 σ3 H6 := ⟨pq6.ok, as2.en (enb.wipeOut free2)⟩
          have one : ∀ (g7 : Gh) (h7 : Hh) (H7 : Hp), Post T X.K g6 H6 g7 h7 H7 → CK kk acc5 (((r.e e' ρ2 h7).bind fun x h2 => (evC r n e' t2 c' ρ1 (ys.drop (j + 1)) h2).bind fun xs h3 => .ok (x :: xs) h3).bind F) →
              Rd T X.K noW (r.e e') (relE T X.K) σ3 H7 (fun y H8 => ∃ acc, H8 Dd = some (.lst acc) ∧ acc.length < sizeLine ∧ W1 (j + 1) (ys.length - (j + 1)) (upd H8 Dd (.lst (acc ++ [y])))) := fun g7 h7 H7 p7 ck7 => by
            refine ⟨g7, ρ2, h7, here6.post p7, (CK.step2 (fun x ys h2 => hF x ys h2) ck7).imp fun y h8 hk g8 yv H8 p8 ry => ?_⟩
            obtain ⟨e7, m7, f7⟩ := p7.keep eD6 nm6 nF6
            obtain ⟨e8, m8, f8⟩ := p8.keep e7 m7 f7
            have rac8 := ((rac5.mono p6.le.s p6.le.p _).mono p7.le.s p7.le.p _).mono p8.le.s p8.le.p _
            have no : ∀ b, H8 Dd ≠ some (.own b) := fun b z => by rw [e8] at z; cases z
            have hne : ∀ (i : Nat) (o : O), ρ1[i]? = some (some (Sl.own o)) → ∀ (a : Addr), σ1[i]? = some (some (V.ref a)) → a ≠ Dd := ownNe
            refine ⟨av5, e8, by rw [rac5.length]; exact hk.1, g8, h8, acc5 ++ [y], av5 ++ [yv], ?_, ?_, ?_, upd_same, rac8.append (.cons ry .nil), m8, f8, rfl, hlt2, hk.2⟩
            · exact ((enb.post pq6.ok p7).post (pq6.trans p7).ok p8).writeOut hne no
            · exact (qq.trans p7.le).trans p8.le
            · exact ((pq6.trans p7).trans p8).write hDd m8 f8 no
          have skip : ∀ (g7 : Gh) (h7 : Hh) (H7 : Hp), Post T X.K g6 H6 g7 h7 H7 → CK kk acc5 ((evC r n e' t2 c' ρ1 (ys.drop (j + 1)) h7).bind F) → W1 (j + 1) (ys.length - (j + 1)) H7 := fun g7 h7 H7 p7 ck7 => by
            obtain ⟨e7, m7, f7⟩ := p7.keep eD6 nm6 nF6
            exact ⟨g7, h7, acc5, av5, enb.post pq6.ok p7, qq.trans p7.le, pq6.trans p7, e7, (rac5.mono p6.le.s p6.le.p _).mono p7.le.s p7.le.p _, m7, f7, rfl, hlt2, ck7⟩
          cases c' with
          | none =>
            simp only [optT, tYes, if_true]
            exact one g6 h5 H6 (.refl pq6.ok) ck5
          | some c =>
            have ck5' : CK kk acc5 ((evT r n c ρ2 h5).bind fun b h1 => (if b then (r.e e' ρ2 h1).bind fun x h2 => (evC r n e' t2 (some c) ρ1 (ys.drop (j + 1)) h2).bind fun xs h3 => .ok (x :: xs) h3 else evC r n e' t2 (some c) ρ1 (ys.drop (j + 1)) h1).bind F) := by
              rw [← R.bind_bind]
              exact ck5
            refine ⟨g6, ρ2, h5, here6, (CK.all ck5').imp fun b h7 ck7 g7 b2 H7 p7 rb => ?_⟩
            cases rb
            cases b with
            | true => exact one g7 h7 H7 p7 ck7
            | false => exact skip g7 h7 H7 p7 ck7
      · have e : j = ys.length := by omega
        subst e
        refine .inl ⟨itn2.2 rfl, g5, h5, acc5, av5, pq, eD5, rac5, nm5, nF5, rfl, hlt, ?_⟩
        rw [List.drop_length] at ck5
        have ck6 : CK kk acc5 (F [] h5) := ck5
        have := CK.app (xs := []) ck6
        rw [List.append_nil] at this
        exact this
  · have e : i = xs.length := by omega
    subst e
    refine .inl ⟨itn.2 rfl, ?_⟩
    rw [List.drop_length] at ck
    unfold evC2 at ck
    obtain ⟨_, c2⟩ := (show sizeOk (acc ++ ([] : List D)).length = true ∧ kk (.lst (acc ++ ([] : List D))) h from ck)
    rw [List.append_nil] at c2
    obtain ⟨F', y1, y2, y3, _⟩ := freeze (o := .lst acc) p ⟨av, eD, rac⟩ nm nF hDd fun C dx gs z => by rw [eD] at z; cases z
    exact c2 ⟨F', g.m⟩ _ H2 (p1.trans y1) y3
end
end PI
end
section
/-! Classmethods of a class; a class that a name holds. -/
set_option linter.all false
set_option maxRecDepth 100000
set_option maxHeartbeats 1000000
namespace PI
open PySem PySem.Spec PyProof.Rows L2

section
variable {T : Tb} {fa : Nat → Addr} {fls : List Nat} {r : Ev} {k : Nat} {X : Cx} {W : Wx} {e : Expr} {es : List Expr} {kws : List Keyword} {its : List It} {ks : List (Nat × E)} {x : Str} {p apos pos : Pos} {f q m n i : Nat}
/-- a def's promise at a record that binds it to a class -/
theorem run_bound (u : Use T fa fls r.c k W X) {C b : Addr} {pins : List (Addr × Obj)} {σ : L2.St} {H : Hp} {s : Shared} {g : Gh} {h : Hh} {ρ : En} {fn : Fn} {ds as : List D} {us : List Value} {Q : VK} (ef : T.pg.fn f = some fn) (eb : bindA fn ds [] = some as)
    (I : Inv X ((b, PySem.W.methodObj (.ref (fa f)) (.ref C)) :: pins) σ H s) (ok : HeapOk T X.K g h H) (r1 : RVs T X.K g.F g.m ds (.ref C :: us)) (o : Out T X.K W σ g H (r.c.f f as h) (KK T X.K (relE T X.K) ρ g H Q)) :
    wpAny (model X.prog X.w) X.A (call (.ref b) us) (EP X pins σ Q) X.xe s := by
  have z : wpAny (model X.prog X.w) X.A (call (.ref b) us) (EP X ((b, PySem.W.methodObj (.ref (fa f)) (.ref C)) :: pins) σ Q) X.xe s := by
    refine wpAny_call (PySem.W.method_call (ClX.pin_at I) (codeAny_mono (u.fn f fn ef X.A X.stack s H g h ds [] as (.ref C :: us) [] Q (WE W σ) (u.room.mono (by omega)) I.env0 ok eb r1 ⟨[], .nil, .nil⟩ ?_) fun rs s' hq => ?_))
    · cases y : r.c.f f as h with
      | ok d h' => rw [y] at o; exact o
      | exc cc fs h' => rw [y] at o; exact o
      | bad => rw [y] at o; exact o
    · cases rs with
      | error er => exact passAt u.tk σ _ H s er s' I hq
      | ok fl =>
        cases fl with
        | ret v => exact I.after hq
        | next => exact False.elim hq
        | brk => exact False.elim hq
        | cont => exact False.elim hq
  exact thn z fun _ _ y => ClX.unpinE y
theorem pe_cmR (u : Use T fa fls r.c k W X) {cl : Cl} (hcl : T.pg.cl q = some cl) (hm : afind cl.cmeths m = some f) (hf : (T.pg.fn f).isSome = true) (hk : ∀ ρ h, r.e (.k (.cls q)) ρ h = .ok (.cls q) h) (hg : Gl X x) (hmg : X.mg x = some (.ref (T.ca q))) (hdb : (x == ("__debug__" : Str)) = false)
    (ha : PA X (e :: es) (Rd T X.K W (evIts r its) (relEs T X.K))) (hst : starEach (e :: es) X.env = (false, eval e X.env) :: starEach es X.env) (hpl : ∀ pos, (backTo pos (starEach es X.env)).any (·.1) = false) {pl : Sem Bool}
    (ht : eval (.Call (.Attribute (.Name x p) (T.nm m) apos) (e :: es) [] pos) X.env = (do
      let ov ← eval (.Name x p) X.env
      standAt apos.atName
      let (f, first) ← holding [ov] (getMethod ov (T.nm m) pl)
      callWith pos f first (backTo pos (starEach (e :: es) X.env)) (backToKw pos (keywordEach [] X.env)))) :
    PE X (.Call (.Attribute (.Name x p) (T.nm m) apos) (e :: es) [] pos) (Rd T X.K W (fun ρ h => (evIts r (.one (.k (.cls q)) :: its) ρ h).bind fun ps h1 => (evKs r [] ρ h1).bind fun kv h2 => evCall T.pg r f ps kv h2) (relE T X.K)) := by
  obtain ⟨fn, ef⟩ := Option.isSome_iff_exists.mp hf
  refine ⟨fun pins s σ H Q I hh => ?_⟩
  obtain ⟨g, ρ, h, a, o⟩ := hh
  replace o : Out T X.K W σ g H ((evIts r its ρ h).bind fun ps h1 => evCall T.pg r f (.cls q :: ps) [] h1) (KK T X.K (relE T X.K) ρ g H Q) := by
    have : ((evIts r (.one (.k (.cls q)) :: its) ρ h).bind fun ps h1 => (evKs r [] ρ h1).bind fun kv h2 => evCall T.pg r f ps kv h2) = (evIts r its ρ h).bind fun ps h1 => evCall T.pg r f (.cls q :: ps) [] h1 := by
      show (((r.e (.k (.cls q)) ρ h).bind fun d h1 => (evIts r its ρ h1).bind fun ds h2 => .ok (d :: ds) h2).bind fun ps h1 => _) = _
      rw [hk]
      show ((evIts r its ρ h).bind fun ds h2 => R.ok (D.cls q :: ds) h2).bind _ = _
      cases evIts r its ρ h <;> rfl
    have o2 : Out T X.K W σ g H ((evIts r (.one (.k (.cls q)) :: its) ρ h).bind fun ps h1 => (evKs r [] ρ h1).bind fun kv h2 => evCall T.pg r f ps kv h2) (KK T X.K (relE T X.K) ρ g H Q) := o
    rw [this] at o2
    exact o2
  have hE : Rd T X.K W (evIts r its) (relEs T X.K) σ H (fun vs H2 => ∃ (g2 : Gh) (ds : List D) (h2 : Hh), Here T X.K g2 ρ h2 σ H2 ∧ Rls T X.K g2.F g2.m ds vs ∧ Out T X.K W σ g2 H2 (evCall T.pg r f (.cls q :: ds) [] h2) (KK T X.K (relE T X.K) ρ g2 H2 Q)) :=
    Rd.mk a o fun g1 ds vs h1 H1 a1 p1 rds o1 => ⟨g1, ds, h1, a1, rds, o1⟩
  refine PySem.W.methodCall_KW (pl := pl) (ld_glob I hg hmg ?_ hdb) ht
  obtain ⟨cr, b, cm⟩ := (u.cls q cl hcl).cm m f hm
  refine ClX.getmethcm_ok I cr cm fun s2 I2 => ?_
  refine ClX.callwith_cm I2 (ClX.base_none I (Nat.le_refl _)) cm.fi (thn (ha.run pos _ s2 σ H _ I2 hE) fun us s3 hz => ?_) hst (hpl pos)
  obtain ⟨vs, H2, I3, rv, g2, ds, h2, a2, rds, o2⟩ := hz
  refine ⟨⟨ClX.pin_at I3, I3.kIn⟩, ?_⟩
  unfold evCall at o2
  rw [ef] at o2
  cases eb : bindA fn (.cls q :: ds) [] with
  | none => simp only [eb] at o2; exact o2.elim
  | some as =>
    simp only [eb] at o2
    exact run_bound u ef eb I3 a2.ok (.mk (Paired.cons (F := L2.RelV) (a := V.ref (T.ca q)) (b := Value.ref (T.ca q)) rfl rv) (.cons (.cls q) rds)) o2
/-- cls(..), the class a parameter -/
theorem pe_newvR (u : Use T fa fls r.c k W X) (hN : X.N[i]? = some x) (hv : Vis X.env.scope x) (hd : (x == ("__debug__" : Str)) = false) (hcd : (x == ("__classdict__" : Str)) = false)
    (ha : PA X es (Rd T X.K W (evIts r its) (relEs T X.K))) (hkw : PK X kws (Rd T X.K W (evKs r ks) (relKs T X.K (ks.map (·.1)))))
    (hall : (backToKw pos (keywordEach kws X.env)).all (·.1.isSome) = true) (hn : (backToKw pos (keywordEach kws X.env)).filterMap (·.1) = ks.map fun p => T.nm p.1) (hl : ∀ x, starEach es X.env ≠ [(true, x)]) :
    PE X (.Call (.Name x p) es kws pos) (Rd T X.K W (fun ρ h => match ρ[i]? with
      | some (some (.val (.cls c))) => if initOk T.pg c then (evIts r its ρ h).bind fun ps h1 => (evKs r ks ρ h1).bind fun kv h2 => evNew T.pg r n c ps kv h2 else .bad
      | _ => .bad) (relE T X.K)) := by
  refine ⟨fun pins s σ H Q I hh => ?_⟩
  obtain ⟨g, ρ, h, a, o⟩ := hh
  dsimp only at o
  split at o
  · rename_i q eq
    obtain ⟨v, e1, rw_⟩ := a.en.sl i _ eq
    replace rw_ : Rl T X.K g.F g.m (.cls q) v := rw_
    cases rw_
    by_cases hq : initOk T.pg q = true
    case neg =>
      rw [if_neg hq] at o
      exact o.elim
    rw [if_pos hq] at o
    unfold initOk at hq
    cases ec : T.pg.cl q with
    | none => rw [ec] at hq; cases hq
    | some cl =>
      simp only [ec] at hq
      cases ei : cl.init with
      | none => rw [ei] at hq; cases hq
      | some f =>
        simp only [ei] at hq
        obtain ⟨fn, ef⟩ := Option.isSome_iff_exists.mp hq
        refine wpAny_Call_Name_kw (thn ((pe_var hN hv hd hcd).run pins s σ H (fun y H1 => y = .ref (T.ca q) ∧ H1 = H) I ⟨_, e1, rfl, rfl⟩) fun uv s1 hz => ?_)
        obtain ⟨y, H1, I1, ry, rfl, rfl⟩ := hz
        obtain rfl : uv = Value.ref (T.ca q) := ry
        refine callW (R := fun vs zs H2 => ∃ (g2 : Gh) (ds : List D) (kv : List (Nat × D)) (h2 : Hh), Here T X.K g2 ρ h2 σ H2 ∧ Rls T X.K g2.F g2.m ds vs ∧ kv.map (·.1) = ks.map (·.1) ∧ Rls T X.K g2.F g2.m (kv.map (·.2)) zs ∧ Out T X.K W σ g2 H2 (evNew T.pg r n q ds kv h2) (KK T X.K (relE T X.K) ρ g2 H2 Q))
          (u.mks q cl f fn ec ei ef).2.kp ha hkw hall hn hl I1 ?_ fun us ws vs zs s2 H2 I2 rv rz hR => ?_
        · refine Rd.mk a o fun g1 ds vs h1 H1 a1 p1 rds o1 => ?_
          exact Rd.mk a1 o1 fun g2 kv zs h2 H2 a2 p2 rks o2 => ⟨g2, ds, kv, h2, a2, rds.mono p2.le.s p2.le.p _, rks.1, rks.2, o2⟩
        · obtain ⟨g2, ds, kv, h2, a2, z1, z2, z3, z4⟩ := hR
          unfold evNew at z4
          simp only [ec, ei, ef] at z4
          cases eb : bindA fn (.non :: ds) kv with
          | none => simp only [eb] at z4; exact z4.elim
          | some as =>
            simp only [eb] at z4
            have y := run_new u ec ei ef eb I2 a2.ok (.mk rv z1) (.mk rz z3) z4
            have en : (kv.map fun p => T.nm p.1) = ks.map fun p => T.nm p.1 := by
              have := congrArg (List.map T.nm) z2
              simpa [List.map_map, Function.comp_def] using this
            rw [en] at y
            exact y
  · exact o.elim
end
end PI
end
section
/-! The checker: one level of expressions; all levels. -/
set_option linter.all false
set_option maxRecDepth 100000
set_option maxHeartbeats 1000000
namespace PI
open PySem PySem.Spec PyProof.Rows L2

def nmOk (l : List (Str × Nat)) (y : Str) (f : Nat) : Bool := l.any fun p => decide (p.1 = y) && p.2 == f
def baseOk : Expr → Bool
  | .Call _ _ _ _ => false
  | _ => true
theorem baseOk_of {e : Expr} (h : baseOk e = true) (y : Str) (env : Env) : attributeBase e y env (eval e env) = eval e env := by
  cases e <;> first | rfl | cases h
def mtM (y : Str) (o : Op) : Bool :=
  match o with
  | .join => decide (y = "join")
  | .split => decide (y = "split")
  | .count => decide (y = "count")
  | _ => false
def ownOf (N : List Str) (t : Tg) : List (Str × Nat) := (tgS t).map fun i => (N[i]?.getD (Str.ofString ""), i)
theorem ownOf_ix (N : List Str) (t : Tg) : (ownOf N t).map (·.2) = tgS t := by
  unfold ownOf
  rw [List.map_map]
  exact List.map_id _
def allNS (es : List Expr) : Bool := es.all noStar
theorem allNS_star : ∀ {es : List Expr}, allNS es = true → ∀ (pos : Pos) (env : Env), (backTo pos (starEach es env)).all (fun p => !p.1) = true ∧ ∀ x, starEach es env ≠ [(true, x)]
  | [], _, pos, env => ⟨rfl, fun x z => by cases z⟩
  | e :: es, h, pos, env => by
    have h : (noStar e && allNS es) = true := h
    rw [Bool.and_eq_true] at h
    obtain ⟨h1, h2⟩ := h
    obtain ⟨q1, q2⟩ := allNS_star h2 pos env
    rw [star_cons h1]
    exact ⟨q1, fun x z => by cases z⟩
theorem mform {es : List Expr} {kws : List Keyword} {pos : Pos} {env : Env} (h : allNS es = true) (hk : (backToKw pos (keywordEach kws env)).all (·.1.isSome) = true) (hl : Nat.ble (es.length + kws.length + 2) 30 = true) :
    methodCallForm (es.length + kws.length) (backTo pos (starEach es env)) (backToKw pos (keywordEach kws env)) = true := by
  unfold methodCallForm
  rw [(allNS_star h pos env).1, hk]
  have := Nat.le_of_ble_eq_true hl
  simp only [Bool.true_and, decide_eq_true_eq]
  split <;> omega
theorem has_of {l : List Nat} {f : Nat} (h : l.contains f = true) : l.contains f = true := h
def dis (t t2 : Tg) : Bool := (tgS t2).all fun i => !(tgS t).contains i
theorem dis_of {t t2 : Tg} (h : dis t t2 = true) : ∀ i ∈ tgS t2, i ∉ tgS t := fun i hi z => by
  unfold dis at h
  rw [List.all_eq_true] at h
  have := h i hi
  simp [z] at this
def ownOf2 (N : List Str) (t t2 : Tg) : List (Str × Nat) := (tgS t ++ tgS t2).map fun i => (N[i]?.getD (Str.ofString ""), i)
theorem ownOf2_ix (N : List Str) (t t2 : Tg) : (ownOf2 N t t2).map (·.2) = tgS t ++ tgS t2 := by
  unfold ownOf2
  rw [List.map_map]
  exact List.map_id _
def initFn (T : Tb) (q : Nat) : Bool :=
  match T.pg.cl q with
  | some cl => match cl.init with
    | some f => (T.pg.fn f).isSome
    | none => false
  | none => false
def chkCall (T : Tb) (ce ca : Expr → E → Bool) (es : List Expr) (kws : List Keyword) (its : List It) (ks : List (Nat × E)) : Bool := notLone es && chkIts ce ca es its && chkKs T ce kws ks
def cmIx (T : Tb) (q f : Nat) (z : Str) : Bool :=
  match T.pg.cl q with
  | some cl => (cl.cmeths.any fun p => decide (z = T.nm p.1) && (match afind cl.cmeths p.1 with | some g => g == f | none => false)) && (T.pg.fn f).isSome
  | none => false
theorem cmIx_of {T : Tb} {q f : Nat} {z : Str} (h : cmIx T q f z = true) : ∃ cl m, T.pg.cl q = some cl ∧ z = T.nm m ∧ afind cl.cmeths m = some f ∧ (T.pg.fn f).isSome = true := by
  unfold cmIx at h
  split at h
  · rename_i cl e
    rw [Bool.and_eq_true, List.any_eq_true] at h
    obtain ⟨⟨p, _, h1⟩, h2⟩ := h
    rw [Bool.and_eq_true] at h1
    obtain ⟨h3, h4⟩ := h1
    split at h4
    · rename_i g eg
      have : g = f := by simpa using h4
      subst this
      exact ⟨cl, p.1, e, of_decide_eq_true h3, eg, h2⟩
    · cases h4
  · cases h
def step (T : Tb) (ck : Ck) (N : List Str) (n : Nat) (c1 c0 : Chk) : Chk := fun sc fo e x =>
  match x with
  | .v i => (match e with | .Name y _ => vOk sc N i y | _ => false)
  | .k d => kOk ck sc e d
  | .op o es => (match es with
    | [a'] => op1Ok ck sc (caOf N (c1 sc fo) sc) e o a'
    | [a', b'] => op2Ok ck sc (caOf N (c1 sc fo) sc) e o a' b'
    | _ => false)
  | .chain o o2 a' b' c' => (match e with
    | .Compare a [op, op2] [b, c] _ => cmpM op o && cmpM op2 o2 && !lastMarks [op, op2] [b, c] && caOf N (c1 sc fo) sc a a' && caOf N (c1 sc fo) sc b b' && caOf N (c1 sc fo) sc c c'
    | _ => false)
  | .mt o a' b' => (match e with
    | .Call (.Attribute a y apos) [b] [] pos => mtM y o && baseOk a && apos.endLine == pos.line && noStar b && caOf N (c1 sc fo) sc a a' && caOf N (c1 sc fo) sc b b'
    | _ => false)
  | .sl3 a' b' c' => (match e with
    | .Subscript a (.Slice (some b) (some c) none _) _ => caOf N (c1 sc fo) sc a a' && caOf N (c1 sc fo) sc b b' && caOf N (c1 sc fo) sc c c'
    | _ => false)
  | .and a' b' => (match e with
    | .BoolOp .And (a :: b :: rest) p => c1 sc fo a a' && (match rest with | [] => c1 sc fo b b' | r :: rs => c1 sc fo (.BoolOp .And (b :: r :: rs) p) b')
    | _ => false)
  | .or a' b' => (match e with
    | .BoolOp .Or (a :: b :: rest) p => c1 sc fo a a' && (match rest with | [] => c1 sc fo b b' | r :: rs => c1 sc fo (.BoolOp .Or (b :: r :: rs) p) b')
    | _ => false)
  | .not a' => (match e with
    | .UnaryOp .Not a _ => !isJ a' && caOf N (c1 sc fo) sc a a'
    | _ => false)
  | .ite c' a' b' => (match e with
    | .IfExp c a b _ => chkT (caOf N (c1 sc fo) sc) (c0 sc fo) (caOf N (c0 sc fo) sc) n c c' && c1 sc fo a a' && c1 sc fo b b'
    | _ => false)
  | .tup its => (match e with | .Tuple es _ _ => chkIts (c1 sc fo) (caOf N (c1 sc fo) sc) es its | _ => false)
  | .lst its => (match e with | .List es _ => chkIts (c1 sc fo) (caOf N (c1 sc fo) sc) es its | _ => false)
  | .cell its => (match e with | .List es _ => chkIts (c1 sc fo) (caOf N (c1 sc fo) sc) es its | _ => false)
  | .call f its ks => (match e with
    | .Call (.Name y _) es kws _ => nmOk ck.fns y f && isGl sc y && okN y && chkCall T (c1 sc fo) (caOf N (c1 sc fo) sc) es kws its ks
    | .Call (.Attribute (.Name y _) z apos) (e1 :: es) [] pos => (match its with
      | .one (.k (.cls q)) :: its' => nmOk ck.cls y q && isGl sc y && okN y && cmIx T q f z && allNS (e1 :: es) && Nat.ble ((e1 :: es).length + 0 + 2) 30 && apos.endLine == pos.line && chkIts (c1 sc fo) (caOf N (c1 sc fo) sc) (e1 :: es) its' && ks.isEmpty
      | _ => false)
    | _ => false)
  | .newv i its ks => (match e with
    | .Call (.Name y _) es kws _ => vOk sc N i y && chkCall T (c1 sc fo) (caOf N (c1 sc fo) sc) es kws its ks
    | _ => false)
  | .new q its ks => (match e with
    | .Call (.Name y _) es kws _ => nmOk ck.cls y q && initFn T q && isGl sc y && okN y && chkCall T (c1 sc fo) (caOf N (c1 sc fo) sc) es kws its ks
    | _ => false)
  | .comp e' t it c' => (match e with
    | .ListComp elt [⟨tg, iter, ifs, 0⟩] scope _ => chkI ck (caOf N (c1 sc fo) sc) sc tg iter it && noSet iter && blkC N sc scope (ownOf N t) && chkTg N (relS scope sc) (foB scope sc) 20 tg t && c1 (relS scope sc) (foB scope sc) elt e' &&
        (match ifs with
        | [] => c'.isNone
        | [cd] => (match c' with | some c' => chkT (caOf N (c1 (relS scope sc) (foB scope sc)) (relS scope sc)) (c0 (relS scope sc) (foB scope sc)) (caOf N (c0 (relS scope sc) (foB scope sc)) (relS scope sc)) n cd c' | none => false)
        | _ => false)
    | _ => false)
  | .opd1 o a' => (match e with
    | .Call (.Name y _) [a] [] _ => blk ck sc y && noStar a && c1 sc fo a a' && (match o with | .len => decide (y = "len") | .repr => decide (y = "repr") | _ => false)
    | _ => false)
  | .opd2 o a' b' => (match e with
    | .Compare a [op] [b] _ => cmpM op o && cmpD o && !behindInMarks op b && c1 sc fo a a' && c1 sc fo b b'
    | _ => false)
  | .lmul its k => (match e with
    | .BinOp (.List es _) .Mult (.Constant (.int m) _ _) _ => decide (m = (k : Int)) && Nat.ble k 1000000 && chkIts (c1 sc fo) (caOf N (c1 sc fo) sc) es its
    | _ => false)
  | .fld a' f => (match e with
    | .Attribute a y _ => decide (y = T.nm f) && baseOk a && ck.fls.contains f && caOf N (c1 sc fo) sc a a'
    | _ => false)
  | .meth a' m its ks => (match e with
    | .Call (.Attribute a y apos) es kws pos => decide (y = T.nm m) && baseOk a && allNS es && Nat.ble (es.length + kws.length + 2) 30 && apos.endLine == pos.line && c1 sc fo a a' && chkIts (c1 sc fo) (caOf N (c1 sc fo) sc) es its && chkKs T (c1 sc fo) kws ks
    | _ => false)
  | .comp2 e' t it t2 it2 c' => (match e with
    | .ListComp elt [⟨tg, iter, [], 0⟩, ⟨tg2, iter2, ifs, 0⟩] scope _ => chkI ck (caOf N (c1 sc fo) sc) sc tg iter it && noSet iter && noSet iter2 && dis t t2 && blkC N sc scope (ownOf2 N t t2) && chkTg N (relS scope sc) (foB scope sc) 20 tg t && chkTg N (relS scope sc) (foB scope sc) 20 tg2 t2 &&
        chkI ck (caOf N (c1 (relS scope sc) (foB scope sc)) (relS scope sc)) (relS scope sc) tg2 iter2 it2 && c1 (relS scope sc) (foB scope sc) elt e' &&
        (match ifs with
        | [] => c'.isNone
        | [cd] => (match c' with | some c' => chkT (caOf N (c1 (relS scope sc) (foB scope sc)) (relS scope sc)) (c0 (relS scope sc) (foB scope sc)) (caOf N (c0 (relS scope sc) (foB scope sc)) (relS scope sc)) n cd c' | none => false)
        | _ => false)
    | _ => false)
  | _ => false
/-- what a checker is worth at a level -/
def Snd (T : Tb) (fa : Nat → Addr) (ck : Ck) (c : Cf) (k : Nat) (N : List Str) (n : Nat) (ch : Chk) : Prop :=
  ∀ (W : Wx) (X : Cx) (sc : Scope) (fo : Str → Bool), Good T fa ck c k W sc N fo X → ∀ (e : Expr) (x : E), ch sc fo e x = true → PE X e (Rd T X.K W ((inner T.pg turns c n).e x) (relE T X.K))
section
variable {T : Tb} {fa : Nat → Addr} {ck : Ck} {c : Cf} {k : Nat} {W : Wx} {sc : Scope} {N : List Str} {fo : Str → Bool} {X : Cx} {n : Nat}
theorem Good.hu (G : Good T fa ck c k W sc N fo X) : X.A.units + 65 < cLine := by
  have := G.use.room.un
  omega
theorem nmOk_of {l : List (Str × Nat)} {y : Str} {f : Nat} (h : nmOk l y f = true) : (y, f) ∈ l := by
  unfold nmOk at h
  rw [List.any_eq_true] at h
  obtain ⟨p, hp, h2⟩ := h
  rw [Bool.and_eq_true] at h2
  have e1 := of_decide_eq_true h2.1
  have e2 : p.2 = f := by simpa using h2.2
  obtain ⟨p1, p2⟩ := p
  simp only at e1 e2
  rw [← e1, ← e2]
  exact hp
/-- tests at a level -/
theorem tst_ok {c1 c0 : Chk} (h1 : Snd T fa ck c k N n c1) (h0 : ∀ m, n = m + 1 → Snd T fa ck c k N m c0) (G : Good T fa ck c k W sc N fo X) {e : Expr} {x : E} (h : chkT (caOf N (c1 sc fo) sc) (c0 sc fo) (caOf N (c0 sc fo) sc) n e x = true) :
    PT X e (Rd T X.K W (evT (inner T.pg turns c n) n x) relB) := by
  cases n with
  | zero => cases h
  | succ m => exact (chkT_ok (fun e x q => h0 m rfl W X sc fo G e x q) G G.hu (caOf_ok G fun e x q => h1 W X sc fo G e x q) (caOf_ok G fun e x q => h0 m rfl W X sc fo G e x q) (m + 1) e x h).1
theorem step_ok {c1 c0 : Chk} (h1 : Snd T fa ck c k N n c1) (h0 : ∀ m, n = m + 1 → Snd T fa ck c k N m c0) : Snd T fa ck c k N (n + 1) (step T ck N n c1 c0) := by
  intro W X sc fo G e x h
  have hce : ∀ e x, c1 sc fo e x = true → PE X e (Rd T X.K W ((inner T.pg turns c n).e x) (relE T X.K)) := h1 W X sc fo G
  have hca : ∀ e x, caOf N (c1 sc fo) sc e x = true → PE X e (Rd T X.K W (evA (inner T.pg turns c n) x) (relA T X.K fun ρ => clean ρ x)) := caOf_ok G hce
  have u : Use T fa ck.fls (inner T.pg turns c n).c k W X := by
    have : (inner T.pg turns c n).c = c := by cases n <;> rfl
    rw [this]
    exact G.use
  cases x with
  | v i =>
    simp only [step] at h
    split at h
    · unfold vOk at h
      simp only [Bool.and_eq_true] at h
      obtain ⟨⟨q1, q2⟩, q3⟩ := h
      exact pe_vR (by rw [G.ne]; exact nAt_eq q1) (G.vis q2) (okN_of q3).1 (okN_of q3).2
    · cases h
  | k d => exact k_ok (r := inner T.pg turns c n) G h
  | op o es =>
    simp only [step] at h
    split at h
    · exact op1_ok G hca h
    · exact op2_ok G G.hu hca h
    · cases h
  | chain o o2 a' b' c' =>
    simp only [step] at h
    split at h
    · simp only [Bool.and_eq_true, Bool.not_eq_true'] at h
      obtain ⟨⟨⟨⟨⟨q1, q2⟩, q3⟩, q4⟩, q5⟩, q6⟩ := h
      obtain ⟨f, z1, z2, z3⟩ := cmp_ok (T := T) G.hu q1
      obtain ⟨f2, y1, y2, y3⟩ := cmp_ok (T := T) G.hu q2
      exact pe_chainR z1 y1 z2 y2 z3 (hca _ _ q4) (hca _ _ q5) (hca _ _ q6) q3
    · cases h
  | mt o a' b' =>
    simp only [step] at h
    split at h
    · simp only [Bool.and_eq_true] at h
      obtain ⟨⟨⟨⟨⟨q1, q2⟩, q3⟩, q4⟩, q5⟩, q6⟩ := h
      unfold mtM at q1
      split at q1 <;> first | (cases q1; done) | (cases of_decide_eq_true q1)
      · exact pe_mtR PySem.F.slot_str_join PySem.F.type_str_join ok_join (fun _ _ => rfl) (hca _ _ q5) (hca _ _ q6) (star_one q4 _) (baseOk_of q2 _ _) q3
      · exact pe_mtR PySem.F.slot_str_split PySem.F.type_str_split ok_split (fun _ _ => rfl) (hca _ _ q5) (hca _ _ q6) (star_one q4 _) (baseOk_of q2 _ _) q3
      · exact pe_mtR PySem.F.slot_str_count PySem.F.type_str_count ok_count (fun _ _ => rfl) (hca _ _ q5) (hca _ _ q6) (star_one q4 _) (baseOk_of q2 _ _) q3
    · cases h
  | sl3 a' b' c' =>
    simp only [step] at h
    split at h
    · simp only [Bool.and_eq_true] at h
      exact pe_slcB (hca _ _ h.1.1) (hca _ _ h.1.2) (hca _ _ h.2)
    · cases h
  | and a' b' =>
    simp only [step] at h
    split at h
    · rw [Bool.and_eq_true] at h
      obtain ⟨q1, q2⟩ := h
      split at q2
      · exact pe_andR (hce _ _ q1) (pe_one (hce _ _ q2))
      · exact pe_andR (hce _ _ q1) (hce _ _ q2)
    · cases h
  | or a' b' =>
    simp only [step] at h
    split at h
    · rw [Bool.and_eq_true] at h
      obtain ⟨q1, q2⟩ := h
      split at q2
      · exact pe_orR (hce _ _ q1) (pe_one (hce _ _ q2))
      · exact pe_orR (hce _ _ q1) (hce _ _ q2)
    · cases h
  | not a' =>
    simp only [step] at h
    split at h
    · rename_i a0 p0
      rw [Bool.and_eq_true] at h
      obtain ⟨q1, q2⟩ := h
      have q1 : isJ a' = false := by simpa using q1
      cases n with
      | zero => exact pe_bad (β := D)
      | succ m =>
        have y := pe_notR (pos := p0) (hca _ _ q2)
        rw [show (fun ρ h => ((evA (inner T.pg turns c (m + 1)) a' ρ h).bind fun d h1 => truthD d h1).bind fun k h1 => R.ok (.bl (!k)) h1) = (inner T.pg turns c (m + 1 + 1)).e (.not a') from funext fun ρ => funext fun hh => by
          rw [← evT_leaf (m := m) q1 ρ hh]
          rfl] at y
        exact y
    · cases h
  | ite c' a' b' =>
    simp only [step] at h
    split at h
    · simp only [Bool.and_eq_true] at h
      exact pe_iteR (tst_ok h1 h0 G h.1.1) (hce _ _ h.1.2) (hce _ _ h.2)
    · cases h
  | tup its =>
    simp only [step] at h
    split at h
    · exact pe_tupR (its_ok hce hca _ _ h)
    · cases h
  | lst its =>
    simp only [step] at h
    split at h
    · exact pe_lstR (its_ok hce hca _ _ h)
    · cases h
  | cell its =>
    simp only [step] at h
    split at h
    · exact pe_cellR (its_ok hce hca _ _ h)
    · cases h
  | call f its ks =>
    simp only [step] at h
    split at h
    · simp only [Bool.and_eq_true, chkCall] at h
      obtain ⟨⟨⟨q1, q2⟩, q3⟩, ⟨q4, q5⟩, q6⟩ := h
      obtain ⟨z1, z2⟩ := G.fnm _ (nmOk_of q1)
      obtain ⟨y1, y2⟩ := ks_ok hce _ _ q6
      have u : Use T fa ck.fls (inner T.pg turns c n).c k W X := by
        have : (inner T.pg turns c n).c = c := by cases n <;> rfl
        rw [this]
        exact G.use
      exact pe_callR u z2 (G.gl q2) z1 (its_ok hce hca _ _ q5) y1 (y2 _).1 (y2 _).2 (notLone_of q4 _) (okN_of q3).1
    · split at h
      · simp only [Bool.and_eq_true, List.isEmpty_iff] at h
        obtain ⟨⟨⟨⟨⟨⟨⟨⟨q1, q2⟩, q3⟩, q4⟩, q5⟩, q6⟩, q7⟩, q8⟩, q9⟩ := h
        subst q9
        obtain ⟨cl, m, w1, rfl, w3, w4⟩ := cmIx_of q4
        cases n with
        | zero => exact pe_bad (β := D)
        | succ n0 =>
          refine pe_cmR u w1 w3 w4 (fun ρ h => rfl) (G.gl q2) (G.cnm _ (nmOk_of q1)) (okN_of q3).1 (its_ok hce hca _ _ q8) ?_ (fun pos => ?_) (meth_tree rfl (mform q5 rfl q6) q7)
          · have q5' : (noStar _ && allNS _) = true := q5
            rw [Bool.and_eq_true] at q5'
            exact star_cons q5'.1 _ _
          · have q5' : (noStar _ && allNS _) = true := q5
            rw [Bool.and_eq_true] at q5'
            have := (allNS_star q5'.2 pos X.env).1
            rw [List.any_eq_false]
            rw [List.all_eq_true] at this
            intro p hp
            have := this p hp
            simpa using this
      · cases h
    · cases h
  | newv i its ks =>
    simp only [step] at h
    split at h
    · simp only [Bool.and_eq_true, chkCall, vOk] at h
      obtain ⟨⟨⟨q1, q2⟩, q3⟩, ⟨q4, q5⟩, q6⟩ := h
      obtain ⟨y1, y2⟩ := ks_ok hce _ _ q6
      exact pe_newvR u (by rw [G.ne]; exact nAt_eq q1) (G.vis q2) (okN_of q3).1 (okN_of q3).2 (its_ok hce hca _ _ q5) y1 (y2 _).1 (y2 _).2 (notLone_of q4 _)
    · cases h
  | new q its ks =>
    simp only [step] at h
    split at h
    · simp only [Bool.and_eq_true, chkCall] at h
      obtain ⟨⟨⟨⟨q1, q0⟩, q2⟩, q3⟩, ⟨q4, q5⟩, q6⟩ := h
      have z1 := G.cnm _ (nmOk_of q1)
      obtain ⟨y1, y2⟩ := ks_ok hce _ _ q6
      have u : Use T fa ck.fls (inner T.pg turns c n).c k W X := by
        have : (inner T.pg turns c n).c = c := by cases n <;> rfl
        rw [this]
        exact G.use
      unfold initFn at q0
      split at q0
      · rename_i cl ec
        split at q0
        · rename_i f ei
          obtain ⟨fn, ef⟩ := Option.isSome_iff_exists.mp q0
          exact pe_newR u ec ei ef (G.gl q2) z1 (its_ok hce hca _ _ q5) y1 (y2 _).1 (y2 _).2 (notLone_of q4 _) (okN_of q3).1
        · cases q0
      · cases q0
    · cases h
  | comp e' t it c' =>
    simp only [step] at h
    split at h
    · simp only [Bool.and_eq_true] at h
      obtain ⟨⟨⟨⟨⟨q1, q2⟩, q3⟩, q4⟩, q5⟩, q6⟩ := h
      refine pe_lcR G.calm (by rw [G.ne]; exact G.nd) (i_ok G hca q1) (by rw [G.ne, G.sce]; exact blkOk_by q3) (ownOf_ix N t) (fun s H C cl fp => tg_ok (G.blk s H C cl fp) 20 _ _ q4) (fun s H C cl fp => ?_)
        (fun s H C cl fp => h1 noW _ _ _ (G.blk s H C cl fp) _ _ q5) (fun v => noSet_of q2 _ v)
      split at q6
      · have : c' = none := by simpa using q6
        subst this
        simp only [optT]
        exact pts_nil
      · split at q6
        · simp only [optT]
          exact pts_one (tst_ok h1 h0 (G.blk s H C cl fp) q6)
        · cases q6
      · cases q6
    · cases h
  | opd1 o a' =>
    simp only [step] at h
    split at h
    · simp only [Bool.and_eq_true] at h
      obtain ⟨⟨⟨q1, q2⟩, q3⟩, q4⟩ := h
      obtain ⟨hg, hm⟩ := G.bltin q1
      split at q4
      · cases of_decide_eq_true q4
        exact pe_fnD (ok_lenD u u.dn u.hme) hg hm rfl (hce _ _ q3) (by decide) rfl (star_one q2 _)
      · cases of_decide_eq_true q4
        exact pe_fnD (ok_reprD u u.dn u.hme) hg hm rfl (hce _ _ q3) (by decide) rfl (star_one q2 _)
      · cases q4
    · cases h
  | opd2 o a' b' =>
    simp only [step] at h
    split at h
    · rename_i a op b pos
      simp only [Bool.and_eq_true, Bool.not_eq_true'] at h
      obtain ⟨⟨⟨⟨h1, h2⟩, h3⟩, h4⟩, h5⟩ := h
      unfold cmpD at h2
      split at h2 <;> first | (cases h2; done) | skip
      · have : op = .Eq := by cases op <;> first | rfl | cases h1
        subst this
        exact pe_cmpD (ok_eqD u u.dn u.hme) (hce _ _ h4) (hce _ _ h5) h3
      · have : op = .In := by cases op <;> first | rfl | cases h1
        subst this
        exact pe_cmpD (ok_inD u u.dn u.hme) (hce _ _ h4) (hce _ _ h5) h3
      · have : op = .NotIn := by cases op <;> first | rfl | cases h1
        subst this
        exact pe_cmpD (ok_notinD u u.dn u.hme) (hce _ _ h4) (hce _ _ h5) h3
    · cases h
  | lmul its k0 =>
    simp only [step] at h
    split at h
    · simp only [Bool.and_eq_true] at h
      obtain ⟨⟨q1, q2⟩, q3⟩ := h
      rw [of_decide_eq_true q1]
      exact pe_lmulR (its_ok hce hca _ _ q3) (Nat.le_of_ble_eq_true q2)
    · cases h
  | fld a' f =>
    simp only [step] at h
    split at h
    · simp only [Bool.and_eq_true] at h
      obtain ⟨⟨⟨q1, q2⟩, q3⟩, q4⟩ := h
      rw [of_decide_eq_true q1]
      exact pe_fldR u (hca _ _ q4) (baseOk_of q2 _ _) q3 fun q cl g h1 h2 => u.hpr q cl g f h1 h2
    · cases h
  | meth a' m its ks =>
    simp only [step] at h
    split at h
    · simp only [Bool.and_eq_true] at h
      obtain ⟨⟨⟨⟨⟨⟨⟨q1, q2⟩, q3⟩, q4⟩, q5⟩, q6⟩, q7⟩, q8⟩ := h
      rw [of_decide_eq_true q1]
      obtain ⟨y1, y2⟩ := ks_ok hce _ _ q8
      exact pe_methR u (hce _ _ q6) (its_ok hce hca _ _ q7) y1 (y2 _).1 (y2 _).2 (allNS_star q3 (Expr.pos ‹Expr›) X.env).2 (fun q cl g h1 h2 => u.hme q cl m g h1 h2) (meth_tree (baseOk_of q2 _ _) (mform q3 (y2 _).1 q4) q5)
    · cases h
  | comp2 e' t it t2 it2 c' =>
    simp only [step] at h
    split at h
    · simp only [Bool.and_eq_true] at h
      obtain ⟨⟨⟨⟨⟨⟨⟨⟨⟨q1, q2⟩, q2b⟩, q2c⟩, q3⟩, q4⟩, q4b⟩, q1b⟩, q5⟩, q6⟩ := h
      refine PE.imp (pe_lc2 G.calm (by rw [G.ne]; exact G.nd) (i_ok G hca q1) (by rw [G.ne, G.sce]; exact blkOk_by q3) (vs1 := tgS t2) (by rw [ownOf2_ix]; exact fun i hi => List.mem_append_right _ hi)
        (fun s H C cl fp => tg_ok (G.blk s H C cl fp) 20 _ _ q4) (fun s H C cl fp => pts_nil)
        (fun s H C cl fp => i_ok (G.blk s H C cl fp) (caOf_ok (G.blk s H C cl fp) (h1 noW _ _ _ (G.blk s H C cl fp))) q1b)
        (fun s H C cl fp => tg_ok (G.blk s H C cl fp) 20 _ _ q4b) (fun s H C cl fp => ?_)
        (fun s H C cl fp => h1 noW _ _ _ (G.blk s H C cl fp) _ _ q5) (fun v => noSet_of q2 _ v) (fun env v => noSet_of q2b env v)) fun σ H Q hh => lc2_main (ownOf2_ix N t t2) (dis_of q2c) hh
      split at q6
      · have : c' = none := by simpa using q6
        subst this
        simp only [optT]
        exact pts_nil
      · split at q6
        · simp only [optT]
          exact pts_one (tst_ok h1 h0 (G.blk s H C cl fp) q6)
        · cases q6
      · cases q6
    · cases h
  | _ => cases h
/-- all levels -/
def chkL (T : Tb) (ck : Ck) (N : List Str) : Nat → Chk × Chk
  | 0 => (fun _ _ _ _ => false, fun _ _ _ _ => false)
  | n + 1 => (step T ck N n (chkL T ck N n).1 (chkL T ck N n).2, (chkL T ck N n).1)
theorem chkL_ok : ∀ n : Nat, Snd T fa ck c k N n (chkL T ck N n).1 ∧ ∀ m, n = m + 1 → Snd T fa ck c k N m (chkL T ck N n).2
  | 0 => ⟨fun W X sc fo G e x h => (by cases h), fun m z => (by cases z)⟩
  | n + 1 => by
    obtain ⟨h1, h2⟩ := chkL_ok n
    refine ⟨step_ok h1 h2, fun m z => ?_⟩
    cases z
    exact h1
end
end PI
end
section
/-! The checker: side conditions of assignments. -/
set_option linter.all false
set_option maxRecDepth 100000
set_option maxHeartbeats 1000000
namespace PI
open PySem PySem.Spec PyProof.Rows L2

def noComp : Expr → Bool
  | .ListComp _ _ _ _ => false
  | .SetComp _ _ _ _ => false
  | .DictComp _ _ _ _ _ => false
  | _ => true
theorem noComp_of {v : Expr} (h : noComp v = true) (t : Option Expr) (l : Nat) (env : Env) : swapsWith v t l env = pure false := by
  cases v <;> first | rfl | cases h
theorem swAttr (v o : Expr) (f : Str) (p : Pos) (l : Nat) (env : Env) : swapsWith v (some (.Attribute o f p)) l env = pure false := by
  cases v <;> rfl
theorem asgSub_of {a b : Expr} {p : Pos} (h : plainIx b = true) (env : Env) (v : Value) : assign (.Subscript a b p) env v = (do
      let ov ← holding [v] (eval a env)
      let iv ← holding [v, ov] (eval b env)
      standAt p
      holding [v, ov, iv] (setItem ov iv v)
      release [v, ov, iv] []) := by
  cases b <;> first | rfl | cases h
def swLc (sc : Scope) (scope : Scope) (y : Str) (py p : Pos) : Bool :=
  (match sc.names.lookup y with | some .local => true | _ => false) && py.line == p.line && !(scope.names.any fun (n, k) => n == y && (k == .local || k == .cell))
theorem swLc_of {sc scope : Scope} {y : Str} {py p : Pos} {elt : Expr} {gs : List Comprehension} {l : Nat} {env : Env} (hs : env.scope = sc) (hk : sc.kind = .function) : swapsWith (.ListComp elt gs scope p) (some (.Name y py)) l env = pure (swLc sc scope y py p) := by
  have hb : env.blockKind = .function := by
    unfold Env.blockKind
    rw [hs, hk]
    rfl
  show pure (env.blockKind == .function && env.kindOf y == some .local && py.line == p.line && !(scope.names.any fun (n, k) => n == y && (k == .local || k == .cell))) = _
  rw [hb]
  unfold swLc
  show pure (true && (env.scope.names.lookup y == some .local) && _ && _) = _
  rw [hs]
  cases sc.names.lookup y with
  | none => rfl
  | some k => cases k <;> rfl
def isLocal (sc : Scope) (y : Str) : Bool := match sc.names.lookup y with | some .local => true | _ => false
theorem isLocal_of {sc : Scope} {y : Str} (h : isLocal sc y = true) : sc.names.lookup y = some .local := by
  unfold isLocal at h
  split at h
  · assumption
  · cases h
def sw2 (sc : Scope) (x y : Str) (px py : Pos) (a b : Expr) : Bool :=
  isLocal sc x && isLocal sc y && py.line == px.line && decide (x ≠ y) && noStar a && noStar b && !(foldedForSure 8 a && foldedForSure 8 b) && !(constantsAlone 8 a && constantsAlone 8 b)
def starB : Expr → Bool
  | .Starred .. => true
  | _ => false
theorem noStar_m {a : Expr} (h : noStar a = true) : starB a = false := by
  cases a <;> first | rfl | cases h
theorem sw2_of {sc : Scope} {x y : Str} {px py pt pt2 : Pos} {kt k2 : Nat} {a b : Expr} {env : Env} (hs : env.scope = sc) (hk : sc.kind = .function) (h : sw2 sc x y px py a b = true) :
    swappedStores [.Tuple [.Name x px, .Name y py] kt pt] (.Tuple [a, b] k2 pt2) env = pure (some [x, y]) := by
  have hb : env.blockKind = .function := by
    unfold Env.blockKind
    rw [hs, hk]
    rfl
  unfold sw2 at h
  simp only [Bool.and_eq_true, Bool.not_eq_true', decide_eq_true_eq] at h
  obtain ⟨⟨⟨⟨⟨⟨⟨h1, h2⟩, h3⟩, h4⟩, h5⟩, h6⟩, h7⟩, h8⟩ := h
  have k1 : env.kindOf x = some .local := by
    show env.scope.names.lookup x = _
    rw [hs]
    exact isLocal_of h1
  have k2' : env.kindOf y = some .local := by
    show env.scope.names.lookup y = _
    rw [hs]
    exact isLocal_of h2
  have ed : ([x, y] : List Str).eraseDups = [x, y] := by
    have : (x == y) = false := beq_eq_false_iff_ne.mpr h4
    have h4' : (y == x) = false := beq_eq_false_iff_ne.mpr (Ne.symm h4)
    simp [List.eraseDups_cons, h4']
  have hl : ((Expr.Name x px).pos.line) = px.line := rfl
  unfold swappedStores
  simp only [List.length_cons, List.length_nil, hb, List.any_cons, List.any_nil, List.head?_cons, Option.map_some, Option.getD_some, List.filterMap_cons, List.filterMap_nil, k1, k2', hl, beq_self_eq_true, Bool.and_self, if_true, h3, List.all_cons, List.all_nil, Bool.and_true, h7, h8, ed]
  refine Eq.trans (if_neg (by simp)) (Eq.trans (if_neg ?_) rfl)
  show ¬ ((starB a || (starB b || false)) = true)
  rw [noStar_m h5, noStar_m h6]
  simp
def sw3 (sc : Scope) (x y w : Str) (px py pw : Pos) (a b c : Expr) : Bool :=
  isLocal sc x && isLocal sc y && isLocal sc w && py.line == px.line && pw.line == px.line && decide (x ≠ y) && decide (x ≠ w) && decide (y ≠ w) && noStar a && noStar b && noStar c && !(foldedForSure 8 a && (foldedForSure 8 b && foldedForSure 8 c)) && !(constantsAlone 8 a && (constantsAlone 8 b && constantsAlone 8 c))
theorem sw3_of {sc : Scope} {x y w : Str} {px py pw pt pt2 : Pos} {kt k2 : Nat} {a b c : Expr} {env : Env} (hs : env.scope = sc) (hk : sc.kind = .function) (h : sw3 sc x y w px py pw a b c = true) :
    swappedStores [.Tuple [.Name x px, .Name y py, .Name w pw] kt pt] (.Tuple [a, b, c] k2 pt2) env = pure (some [x, y, w]) := by
  have hb : env.blockKind = .function := by
    unfold Env.blockKind
    rw [hs, hk]
    rfl
  unfold sw3 at h
  simp only [Bool.and_eq_true, Bool.not_eq_true', decide_eq_true_eq] at h
  obtain ⟨⟨⟨⟨⟨⟨⟨⟨⟨⟨⟨⟨h1, h2⟩, h2w⟩, h3⟩, h3w⟩, h4⟩, h4a⟩, h4b⟩, h5⟩, h6⟩, h6c⟩, h7⟩, h8⟩ := h
  have kk : ∀ z, isLocal sc z = true → env.kindOf z = some .local := fun z hz => by
    show env.scope.names.lookup z = _
    rw [hs]
    exact isLocal_of hz
  have ed : ([x, y, w] : List Str).eraseDups = [x, y, w] := by
    have e1 : (y == x) = false := beq_eq_false_iff_ne.mpr (Ne.symm h4)
    have e2 : (w == x) = false := beq_eq_false_iff_ne.mpr (Ne.symm h4a)
    have e3 : (w == y) = false := beq_eq_false_iff_ne.mpr (Ne.symm h4b)
    simp [List.eraseDups_cons, e1, e2, e3]
  have hl : ((Expr.Name x px).pos.line) = px.line := rfl
  unfold swappedStores
  simp only [List.length_cons, List.length_nil, hb, List.any_cons, List.any_nil, List.head?_cons, Option.map_some, Option.getD_some, List.filterMap_cons, List.filterMap_nil, kk x h1, kk y h2, kk w h2w, hl, beq_self_eq_true, Bool.and_self, if_true, h3, h3w, List.all_cons, List.all_nil, Bool.and_true, h7, h8, ed]
  refine Eq.trans (if_neg (by simp)) (Eq.trans (if_neg ?_) rfl)
  show ¬ ((starB a || (starB b || (starB c || false))) = true)
  rw [noStar_m h5, noStar_m h6, noStar_m h6c]
  simp
end PI
end
section
/-! a, *rest = a tuple, a list. -/
set_option linter.all false
set_option maxRecDepth 100000
set_option maxHeartbeats 2000000
namespace PI
open PySem PySem.Spec PyProof.Rows L2

section
variable {prog : Program} {w : World} {A : Around} {E : Value → Shared → Prop} {s : Shared}
/-- the last name starred: what is behind the first ones goes into a new list -/
theorem star_tail {it l : Addr} {items : Array Value} {n : Nat} {T : String} {St : Nat → Heap → Prop} {Q : List Value → Shared → Prop} {h1 : Heap}
    (hT : T = "str_ascii_iterator" ∨ T = "str_iterator" ∨ T = "list_iterator" ∨ T = "tuple_iterator") (Wk : Walks prog w A.in1 it [it, l] [it] items.size (fun i v => items[i]? = some v) St)
    (ty : ∀ i (u : Shared), St i u.heap → u.TypeIs (.ref it) T) (hn : n ≤ items.size) (st : St n h1) (li : it < h1.objs.size) (ll : l < h1.objs.size) (hz : items.size ≤ sizeLine)
    (hQ : ∀ (h2 : Heap) (tk : Tok), (∀ b o, b ≠ it → h1.get? b = some o → h2.get? b = some o) → Q (items.toList.take n ++ [.ref h2.objs.size] ++ []) { s with heap := h2.push { cls := .type "list", data := .seq (items.toList.drop n).toArray }, toks := tk }) :
    wpAny (model prog w) A (do
      if (items.toList.take n).length < n then
        rule "unpack.star.too-few-before"
        raiseError "ValueError" s!"not enough values to unpack (expected at least {(n + 1) - 1}, got {(items.toList.take n).length})"
      let rest ← holding (items.toList.take n) (collect (.ref it))
      let after := (n + 1) - 1 - n
      if rest.length < after then
        rule "unpack.star.too-few"
        raiseError "ValueError" s!"not enough values to unpack (expected at least {(n + 1) - 1}, got {n + rest.length})"
      let mid := rest.length - after
      return items.toList.take n ++ [← newList (rest.take mid)] ++ rest.drop mid) Q E { s with heap := h1 } := by
  have lt : (items.toList.take n).length = n := by rw [List.length_take, Array.length_toList]; omega
  rw [if_neg (by rw [lt]; omega)]
  refine wpAny_bind (wpAny_holding (PySem.W.kun_collect (s := { s with heap := h1 }) hT Wk ty hn st li ll (fun h2 tk hk => ?_) hz))
  have e0 : n + 1 - 1 - n = 0 := by omega
  simp only [e0, Nat.not_lt_zero, if_false, Nat.sub_zero]
  have tk1 : (items.toList.drop n).take (items.toList.drop n).length = items.toList.drop n := List.take_length
  have dk1 : (items.toList.drop n).drop (items.toList.drop n).length = [] := List.drop_length
  rw [tk1, dk1]
  refine wpAny_bind (wpAny_newList (s := { s with heap := h2, toks := tk }) (wpAny_pure (hQ h2 tk hk)) ?_)
  rw [List.length_drop, Array.length_toList]
  omega
theorem star_tup {l : Addr} {items : Array Value} {n : Nat} {Q : List Value → Shared → Prop} (ht : IsTup s.heap l items) (hh : A.handled = none) (hn : n ≤ items.size) (hz : items.size ≤ sizeLine)
    (h : ∀ (h2 : Heap) (tk : Tok), (∀ b o, s.heap.get? b = some o → h2.get? b = some o) → Q (items.toList.take n ++ [.ref h2.objs.size] ++ []) { s with heap := h2.push { cls := .type "list", data := .seq (items.toList.drop n).toArray }, toks := tk }) :
    wpAny (model prog w) A (unpackItems (.ref l) (n + 1) (some n)) Q E s := by
  have ne : l ≠ s.heap.objs.size := by
    obtain ⟨o, ho, _⟩ := ht
    exact Nat.ne_of_lt (Heap.lt_size ho)
  unfold unpackItems
  refine wpAny_bind ?_
  unfold notIterableAtAll
  refine wpAny_bind (wpAny_specialOf ht.typeIs slot_tuple_iter.lookup (wpAny_pure ?_))
  simp only [Bool.false_eq_true, if_false]
  refine wpAny_bind (wpAny_holding (iter_tuple ht (wpAny_bind (wpAny_holding (draw_tuple ne n 0 _ _ ⟨_, Heap.get?_push_size _ rfl, rfl, rfl⟩ (ht.push _) (by omega) fun h1 st1 sb => ?_)))))
  have ht1 : IsTup h1 l items := (ht.push _).extBut sb.extBut ne
  rw [Nat.zero_add] at st1
  rw [List.drop_zero]
  refine star_tail (T := "tuple_iterator") (.inr (.inr (.inr rfl))) (Walks.tuple (A := A.in1) hh s.heap.objs.size l ne items) (fun j u st => st.1.typeIs) hn ⟨st1, ht1⟩ ?_ ?_ hz fun h2 tk hk => h h2 tk fun b o e => ?_
  · obtain ⟨o, ho, _⟩ := st1
    exact Heap.lt_size ho
  · obtain ⟨o, ho, _⟩ := ht1
    exact Heap.lt_size ho
  · have nb : b ≠ s.heap.objs.size := Nat.ne_of_lt (Heap.lt_size e)
    exact hk b o nb (sb.extBut b o nb (Heap.get?_push_of_some _ e))
theorem star_lst {l : Addr} {items : Array Value} {n : Nat} {Q : List Value → Shared → Prop} (ht : s.heap.IsList l items) (hh : A.handled = none) (hn : n ≤ items.size) (hz : items.size ≤ sizeLine)
    (h : ∀ (h2 : Heap) (tk : Tok), (∀ b o, s.heap.get? b = some o → h2.get? b = some o) → Q (items.toList.take n ++ [.ref h2.objs.size] ++ []) { s with heap := h2.push { cls := .type "list", data := .seq (items.toList.drop n).toArray }, toks := tk }) :
    wpAny (model prog w) A (unpackItems (.ref l) (n + 1) (some n)) Q E s := by
  have ne : l ≠ s.heap.objs.size := by
    obtain ⟨o, ho, _⟩ := ht
    exact Nat.ne_of_lt (Heap.lt_size ho)
  unfold unpackItems
  refine wpAny_bind ?_
  unfold notIterableAtAll
  refine wpAny_bind (wpAny_specialOf ht.typeIs slot_list_iter.lookup (wpAny_pure ?_))
  simp only [Bool.false_eq_true, if_false]
  refine wpAny_bind (wpAny_holding (wpAny_pyIter_list ht (wpAny_bind (wpAny_holding (PySem.W.kun_draw ne n 0 _ _ ⟨_, Heap.get?_push_size _ rfl, rfl, rfl⟩ (ht.push _) (by omega) fun h1 st1 sb => ?_)))))
  have ht1 : h1.IsList l items := (ht.push _).extBut sb.extBut ne
  rw [Nat.zero_add] at st1
  rw [List.drop_zero]
  refine star_tail (T := "list_iterator") (.inr (.inr (.inl rfl))) (Walks.list (A := A.in1) hh s.heap.objs.size l ne items) (fun j u st => st.1.typeIs) hn ⟨st1, ht1⟩ ?_ ?_ hz fun h2 tk hk => h h2 tk fun b o e => ?_
  · obtain ⟨o, ho, _⟩ := st1
    exact Heap.lt_size ho
  · obtain ⟨o, ho, _⟩ := ht1
    exact Heap.lt_size ho
  · have nb : b ≠ s.heap.objs.size := Nat.ne_of_lt (Heap.lt_size e)
    exact hk b o nb (sb.extBut b o nb (Heap.get?_push_of_some _ e))
end
/-- (a, .., *b) = a tuple, a list -/
def gStar (K : PySem.W.Frag) (n : Nat) (t : TGs) : TG := fun v σ H Q => ∃ a xs, v = .ref a ∧ (SqT K H a xs ∨ SqL K H a xs) ∧ n ≤ xs.length ∧ xs.length ≤ sizeLine ∧ ∀ D, H D = none → t (xs.take n ++ [.ref D]) σ (upd H D (.lst (xs.drop n))) Q
theorem pg_star {X : Cx} {es es' : List Expr} {k n : Nat} {pos : Pos} {t : TGs} (hc : X.calm = true) (h : PGs X es t) (he : (assignEach es' X.env).map (·.2) = (assignEach es X.env).map (·.2)) (hn : (assignEach es' X.env).length = n + 1) (hst : (assignEach es' X.env).findIdx? (·.1) = some n) :
    PG X (.Tuple es' k pos) (gStar X.K n t) := by
  refine ⟨fun pins s σ H v u Q I r hw => ?_⟩
  obtain ⟨a, xs, e1, hq, hl, hz, hw⟩ := hw
  subst e1
  cases r
  rw [assign_Tuple]
  refine wpAny_bind (wpAny_standAt ?_)
  unfold unpack
  rw [hn, hst]
  have fin : ∀ (its : List Value), Vals xs its → ∀ (h2 : Heap) (tk : Tok), (∀ b o, s.heap.get? b = some o → h2.get? b = some o) →
      wpAny (model X.prog X.w) X.A (assignInOrder ((assignEach es' X.env).map (·.2)) (its.take n ++ [.ref h2.objs.size] ++ [])) (fun _ s' => ∃ σ' H', Inv X pins σ' H' s' ∧ Q σ' H') X.xe { s with heap := h2.push { cls := .type "list", data := .seq (its.drop n).toArray }, toks := tk } := fun its rv h2 tk hk => by
    have I1 : Inv X pins σ H { s with heap := h2, toks := tk } := I.kept (t' := tk) hk
    have hD : H h2.objs.size = none := I1.hok.fresh (Nat.le_refl _)
    have I2 : Inv X pins σ (upd H h2.objs.size (.lst (xs.drop n))) { s with heap := h2.push { cls := .type "list", data := .seq (its.drop n).toArray }, toks := tk } :=
      I1.laid (a := h2.objs.size) (o := .lst (xs.drop n)) (t' := tk) (fun b u q => Heap.get?_push_of_some _ q) (Nat.le_refl _) (by
        refine ⟨?_, its.drop n, _, rv.drop n, Heap.get?_push_size _ rfl⟩
        rw [List.length_drop]
        omega)
    rw [List.append_nil, he]
    have rl : Vals (xs.take n ++ [V.ref h2.objs.size]) (its.take n ++ [.ref h2.objs.size]) := Vals.append (rv.take n) (.cons rfl .nil)
    exact h.run pins _ σ _ _ _ Q I2 rl (hw _ hD)
  refine wpAny_bind (wpAny_holding ?_)
  rcases hq with hq | hq
  · obtain ⟨its, rv, ht, _⟩ := I.tuple hq
    have sz : its.toArray.size = xs.length := by rw [rv.length]; simp
    refine star_tup ht (I.ok.hd hc) (by rw [sz]; exact hl) (by rw [sz]; exact hz) fun h2 tk hk => ?_
    exact fin its rv h2 tk hk
  · obtain ⟨its, rv, ht, _⟩ := I.list hq
    have sz : its.toArray.size = xs.length := by rw [rv.length]; simp
    refine star_lst ht.isList (I.ok.hd hc) (by rw [sz]; exact hl) (by rw [sz]; exact hz) fun h2 tk hk => ?_
    exact fin its rv h2 tk hk
end PI
end
section
/-! Statements: targets of any form, starred names, attributes. -/
set_option linter.all false
set_option maxRecDepth 100000
set_option maxHeartbeats 1000000
namespace PI
open PySem PySem.Spec PyProof.Rows L2

section
variable {T : Tb} {X : Cx} {W : Wx} {ini : Bool} {e tg : Expr} {ee : En → Hh → R D} {pos : Pos} {t : Tg}
theorem ps_asgR (he : PE X e (Rd T X.K W ee (relE T X.K))) (hg : PG X tg (rdG T X.K t)) (hs : swapsWithSole [tg] e pos.line X.env = pure false) (hw : swappedStores [tg] e X.env = pure none) (h1 : (assignEach [tg] X.env).map (·.2) = [assign tg X.env]) (hi0 : ini = true → 0 ∉ tgS t) :
    PS X (.Assign [tg] e pos) (rdS T X.K W ini fun ρ h => (ee ρ h).toS ρ fun d h1 => match bindTg t d ρ with
      | some ρ1 => .nx ρ1 h1
      | none => .bad) :=
  PS.imp (ps_asg he hg hs hw h1) fun D σ H hh => by
    obtain ⟨ge, He, z, g, ρ, h, hz, a, o⟩ := hh
    refine rdS_of a o fun g' d v h' H' a' r o' => ?_
    cases q : bindTg t d ρ with
    | none => simp only [q] at o'; exact o'.elim
    | some ρ1 =>
      simp only [q] at o'
      exact ⟨g', h', d, ρ, ρ1, a'.hr.ok, r, q, fun σ1 as => o' g' σ1 H' .refl (as.here a' (zin hz hi0))⟩
theorem rdGs_star {K : PySem.W.Frag} {l : List Nat} {i : Nat} {ds : List D} {ρ ρ1 : En} {g : Gh} {h : Hh} {σ : L2.St} {H : Hp} {vs : List V} {Q : L2.St → Hp → Prop} (ok : HeapOk T K g h H) (r : Rls T K g.F g.m ds vs) (e : bindTgs ((l ++ [i]).map .n) (ds.take l.length ++ [.lst (ds.drop l.length)]) ρ = some ρ1)
    (hQ : ∀ (g' : Gh) (H' : Hp) (σ1 : L2.St), Post T K g H g' h H' → Asg T K g' ρ σ ρ1 σ1 (l ++ [i]) → Q σ1 H') : ∀ p, H p = none → rdGs T K ((l ++ [i]).map .n) (vs.take l.length ++ [.ref p]) σ (upd H p (.lst (vs.drop l.length))) Q := fun p hp => by
  have P := ok.newF (o := .lst (vs.drop l.length)) hp
  have n := new_lst ok hp (r.drop l.length)
  refine ⟨_, h, _, ρ, ρ1, P.ok, ((r.take l.length).mono P.le.s P.le.p _).append (.cons n .nil), e, fun σ1 as => ?_⟩
  have ix : tgsS ((l ++ [i]).map .n) = l ++ [i] := by
    have : ∀ k : List Nat, tgsS (k.map .n) = k := fun k => by
      induction k with
      | nil => rfl
      | cons a k ih => show [a] ++ tgsS (k.map .n) = _; rw [ih]; rfl
    exact this _
  rw [ix] at as
  exact hQ _ _ σ1 P as
theorem ps_unpsR {es es' : List Expr} {kt : Nat} {pt : Pos} {l : List Nat} {i : Nat} (hc : X.calm = true) (he : PE X e (Rd T X.K W ee (relE T X.K))) (hg : PGs X es (rdGs T X.K ((l ++ [i]).map .n))) (hes : (assignEach es' X.env).map (·.2) = (assignEach es X.env).map (·.2)) (hn : (assignEach es' X.env).length = l.length + 1) (hst : (assignEach es' X.env).findIdx? (·.1) = some l.length)
    (hs : swapsWithSole [.Tuple es' kt pt] e pos.line X.env = pure false) (hw : swappedStores [.Tuple es' kt pt] e X.env = pure none) (h1 : (assignEach [.Tuple es' kt pt] X.env).map (·.2) = [assign (.Tuple es' kt pt) X.env]) (hi0 : ini = true → 0 ∉ l ++ [i]) :
    PS X (.Assign [.Tuple es' kt pt] e pos) (rdS T X.K W ini fun ρ h => (ee ρ h).toS ρ fun d h1 => match vw h1 d with
      | .tup ds => unpsB l i ds ρ h1
      | .lst ds => unpsB l i ds ρ h1
      | _ => .bad) :=
  PS.imp (ps_asg he (pg_star hc hg hes hn hst) hs hw h1) fun De σ H hh => by
    obtain ⟨ge, He, z, g, ρ, h, hz, a, o⟩ := hh
    refine rdS_of a o fun g' d v h' H' a' r o' => ?_
    have w := Opd.vw (c := true) a'.hr.ok (.inl r)
    have key : ∀ {ds : List D} {vs : List V} {b : Addr}, v = .ref b → (SqT X.K H' b vs ∨ SqL X.K H' b vs) → Rls T X.K g'.F g'.m ds vs → OutS T X.K W ge He z g' De (unpsB l i ds ρ h') → gStar X.K l.length (rdGs T X.K ((l ++ [i]).map .n)) v σ H' De.nx := fun {ds vs b} ev hq hr o2 => by
      unfold unpsB at o2
      split at o2
      · rename_i hc2
        rw [Bool.and_eq_true] at hc2
        cases q : bindTgs ((l ++ [i]).map .n) (ds.take l.length ++ [.lst (ds.drop l.length)]) ρ with
        | none => rw [q] at o2; exact o2.elim
        | some ρ1 =>
          rw [q] at o2
          have len := hr.length
          refine ⟨b, vs, ev, hq, by rw [len]; exact Nat.le_of_ble_eq_true hc2.1, by rw [len]; exact sizeOk_le hc2.2, rdGs_star a'.hr.ok hr q fun g2 H2 σ1 P as => ?_⟩
          exact o2 g2 σ1 H2 P.le (as.here (a'.post P) (zin hz hi0))
      · exact o2.elim
    split at o'
    · rename_i ds e1
      rw [e1] at w
      obtain ⟨b, vs, ev, hq, hr⟩ := w.tup a'.hr.ok
      exact key ev (.inl hq) hr o'
    · rename_i ds e1
      rw [e1] at w
      obtain ⟨b, vs, ev, hq, hr⟩ := w.lst a'.hr.ok
      exact key ev (.inr hq) hr o'
    · exact o'.elim
end
end PI
end
section
/-! Statements: an attribute set. -/
set_option linter.all false
set_option maxRecDepth 100000
set_option maxHeartbeats 1000000
namespace PI
open PySem PySem.Spec PyProof.Rows L2

section
variable {T : Tb} {fa : Nat → Addr} {fls : List Nat} {k : Nat} {X : Cx} {W : Wx} {ini : Bool} {e : Expr} {r : Ev} {e' : E} {pos pos' p0 : Pos} {x : Str} {j f : Nat}
theorem len_put {α : Type} (f : Nat) (v : α) : ∀ fs : List (Nat × α), (aput f v fs).length ≤ fs.length + 1
  | [] => Nat.le_refl _
  | (k, x) :: r => by
    unfold aput
    split
    · simp
    · simp [len_put f v r]
theorem ps_setFR (u : Use T fa fls r.c k W X) (hN : X.N[j]? = some x) (hv : Vis X.env.scope x) (hd : (x == ("__debug__" : Str)) = false) (hcd : (x == ("__classdict__" : Str)) = false) (hfl : fls.contains f = true) (he : PE X e (Rd T X.K W (r.e e') (relE T X.K)))
    (hs : swapsWith e (some (.Attribute (.Name x p0) (T.nm f) pos')) pos.line X.env = pure false) :
    PS X (.Assign [.Attribute (.Name x p0) (T.nm f) pos'] e pos) (rdS T X.K W ini fun ρ h => (r.e e' ρ h).toS ρ fun x h1 => match ρ[j]? with
      | some (some (.own (.ins c fs))) => if Nat.blt fs.length 900 && (match T.pg.cl c with | some cl => free cl f | none => false) then .nx (ρ.set j (some (.own (.ins c (aput f x fs))))) h1 else .bad
      | some (some (.val (.ref m))) => match h1[m]? with
        | some (.ins c fs) => if Nat.blt fs.length 900 && (match T.pg.cl c with | some cl => free cl f | none => false) then .nx ρ (h1.set m (.ins c (aput f x fs))) else .bad
        | _ => .bad
      | _ => .bad) :=
  PS.imp (ps_fld (pe_var hN hv hd hcd) he hs) fun D σ H hh => by
    obtain ⟨ge, He, z, g, ρ, h, hz, a, o⟩ := hh
    refine rdS_of a o fun g' d v h' H' a' rd o' => ?_
    have cls : ∀ {c : Nat}, (match T.pg.cl c with | some cl => free cl f | none => false) = true → Cls X.K (T.ca c) ∧ NoAttr X.K (T.ca c) (T.nm f) := fun {c} q => by
      split at q
      · rename_i cl ec
        have C := u.cls c cl ec
        exact ⟨C.ok, C.fr f hfl q⟩
      · cases q
    split at o'
    · rename_i c fs q
      obtain ⟨w, e1, p, ev, t, hm, hF⟩ := a'.hr.en.sl j _ q
      subst ev
      obtain ⟨dx, gs, t1, t2, t3⟩ := id t
      by_cases hc : (Nat.blt fs.length 900 && (match T.pg.cl c with | some cl => free cl f | none => false)) = true
      · rw [if_pos hc] at o'
        rw [Bool.and_eq_true] at hc
        obtain ⟨c1, c2⟩ := cls hc.2
        have hl := blt_lt hc.1
        have hpn := a'.ow j _ q p e1
        refine ⟨.ref p, e1, p, T.ca c, dx, gs, rfl, t1, c1, c2, by rw [t3.length]; omega, ?_⟩
        have ne : dx ≠ p := fun zz => by rw [zz, t1] at t2; cases t2
        refine o' g' σ _ .refl (a'.write q e1 ⟨dx, _, upd_same, by rw [upd_ne ne]; exact t2, t3.put u.inj rd f⟩ fun C2 dx2 gs2 zz => ?_)
        cases zz
        exact hpn.2 _ _ _ t1
      · rw [if_neg hc] at o'
        exact o'.elim
    · rename_i m q
      split at o'
      · rename_i c fs em
        by_cases hc : (Nat.blt fs.length 900 && (match T.pg.cl c with | some cl => free cl f | none => false)) = true
        · rw [if_pos hc] at o'
          rw [Bool.and_eq_true] at hc
          obtain ⟨c1, c2⟩ := cls hc.2
          have hl := blt_lt hc.1
          obtain ⟨w, e1, rw_⟩ := a'.hr.en.sl j _ q
          replace rw_ : Rl T X.K g'.F g'.m (.ref m) w := rw_
          cases rw_ with
          | ref em2 =>
            rename_i p
            obtain ⟨dx, gs, t1, t2, t3⟩ := a'.hr.ok.cell m _ p em em2
            have ne : dx ≠ p := fun zz => by rw [zz, t1] at t2; cases t2
            refine ⟨.ref p, e1, p, T.ca c, dx, gs, rfl, t1, c1, c2, by rw [t3.length]; omega, ?_⟩
            exact o' g' σ _ .refl (a'.cell em em2 ⟨dx, _, upd_same, by rw [upd_ne ne]; exact t2, t3.put u.inj rd f⟩)
        · rw [if_neg hc] at o'
          exact o'.elim
      · exact o'.elim
    · exact o'.elim
end
end PI
end
section
/-! name = [..] on one line, the name a local; a tuple written, unpacked. -/
set_option linter.all false
set_option maxRecDepth 100000
set_option maxHeartbeats 1000000
namespace PI
open PySem PySem.Spec PyProof.Rows L2

section
variable {T : Tb} {X : Cx} {W : Wx} {r : Ev} {n i : Nat} {ini : Bool} {y : Str} {py pos spos : Pos} {elt tg iter tg2 iter2 : Expr} {ifs : List Expr} {scope : Scope} {own : List (Str × Nat)} {e' : E} {t t2 : Tg} {it it2 : I} {c' : Option E}
theorem ps_setLcR (hc : X.calm = true) (hN : X.N.Nodup) (hy : X.N[i]? = some y) (hyl : X.env.scope.names.lookup y = some .local) (hsw : swapsWith (.ListComp elt [⟨tg, iter, ifs, 0⟩] scope pos) (some (.Name y py)) spos.line X.env = pure true)
    (hi : PI X tg iter (Rd T X.K W (evI r it) (relI T X.K fun ρ => cleanI ρ it))) (ok : BlkOk X.N X.env.scope scope own) (ho : own.map (·.2) = tgS t)
    (hg : ∀ (s : Shared) (H : Hp) (C : Addr) (cl : List (Str × Addr)) (fp : List Addr), PG (X.blk s H scope (compEnvC scope cl C X.env) fp) tg (rdG T X.K t))
    (ht : ∀ (s : Shared) (H : Hp) (C : Addr) (cl : List (Str × Addr)) (fp : List Addr), PTs (X.blk s H scope (compEnvC scope cl C X.env) fp) ifs (optT T X.K r n c'))
    (he : ∀ (s : Shared) (H : Hp) (C : Addr) (cl : List (Str × Addr)) (fp : List Addr), PE (X.blk s H scope (compEnvC scope cl C X.env) fp) elt (Rd T X.K noW (r.e e') (relE T X.K))) (hs : ∀ x, foldedSetIterable iter X.env x = pure x) (hi0 : ini = true → i ≠ 0) :
    PS X (.Assign [.Name y py] (.ListComp elt [⟨tg, iter, ifs, 0⟩] scope pos) spos) (rdS T X.K W ini fun ρ h => (lcF r n e' t it c' ρ h).toS ρ fun d h1 => .nx (setN ρ i d) h1) :=
  PS.imp (ps_setLc hc hN hy hyl hsw hi ok hg ht he hs) fun D σ H hh => lc_val ho (set_read (te := Rd T X.K W (lcF r n e' t it c') (relE T X.K)) hi0 hh)
theorem ps_setLc2R (hc : X.calm = true) (hN : X.N.Nodup) (hy : X.N[i]? = some y) (hyl : X.env.scope.names.lookup y = some .local) (hsw : swapsWith (.ListComp elt [⟨tg, iter, [], 0⟩, ⟨tg2, iter2, ifs, 0⟩] scope pos) (some (.Name y py)) spos.line X.env = pure true)
    (hi : PI X tg iter (Rd T X.K W (evI r it) (relI T X.K fun ρ => cleanI ρ it))) (ok : BlkOk X.N X.env.scope scope own) (ho : own.map (·.2) = tgS t ++ tgS t2) (hdis : ∀ i ∈ tgS t2, i ∉ tgS t)
    (hg : ∀ (s : Shared) (H : Hp) (C : Addr) (cl : List (Str × Addr)) (fp : List Addr), PG (X.blk s H scope (compEnvC scope cl C X.env) fp) tg (rdG T X.K t))
    (hi2 : ∀ (s : Shared) (H : Hp) (C : Addr) (cl : List (Str × Addr)) (fp : List Addr), PI (X.blk s H scope (compEnvC scope cl C X.env) fp) tg2 iter2 (Rd T X.K noW (evI r it2) (relI T X.K fun ρ => cleanI ρ it2)))
    (hg2 : ∀ (s : Shared) (H : Hp) (C : Addr) (cl : List (Str × Addr)) (fp : List Addr), PG (X.blk s H scope (compEnvC scope cl C X.env) fp) tg2 (rdG T X.K t2))
    (ht : ∀ (s : Shared) (H : Hp) (C : Addr) (cl : List (Str × Addr)) (fp : List Addr), PTs (X.blk s H scope (compEnvC scope cl C X.env) fp) ifs (optT T X.K r n c'))
    (he : ∀ (s : Shared) (H : Hp) (C : Addr) (cl : List (Str × Addr)) (fp : List Addr), PE (X.blk s H scope (compEnvC scope cl C X.env) fp) elt (Rd T X.K noW (r.e e') (relE T X.K))) (hs : ∀ x, foldedSetIterable iter X.env x = pure x) (hs2 : ∀ env x, foldedSetIterable iter2 env x = pure x) (hi0 : ini = true → i ≠ 0) :
    PS X (.Assign [.Name y py] (.ListComp elt [⟨tg, iter, [], 0⟩, ⟨tg2, iter2, ifs, 0⟩] scope pos) spos) (rdS T X.K W ini fun ρ h => (lc2F r n e' t it t2 it2 c' ρ h).toS ρ fun d h1 => .nx (setN ρ i d) h1) :=
  PS.imp (ps_setLc2 (vs1 := tgS t2) hc hN hy hyl hsw hi ok (by rw [ho]; exact fun i hi => List.mem_append_right _ hi) hg (fun s H C cl fp => pts_nil) hi2 hg2 ht he hs hs2) fun D σ H hh => lc2_main ho hdis (set_read (te := Rd T X.K W (lc2F r n e' t it t2 it2 c') (relE T X.K)) hi0 hh)
end
/-! ### a tuple written and unpacked, when the stores are not swapped -/
def locLn (sc : Scope) (ln : Nat) : Expr → Option Str
  | .Name id pos => if isLocal sc id && pos.line == ln then some id else none
  | _ => none
def swNone (sc : Scope) (ts vs : List Expr) : Bool :=
  vs.any starB || decide ((ts.filterMap (locLn sc ((ts.head?.map (·.pos.line)).getD 0))).length ≠ ts.length)
theorem swNone_of {sc : Scope} {ts vs : List Expr} {k k2 : Nat} {p p2 : Pos} {env : Env} (hs : env.scope = sc) (hk : sc.kind = .function) (h : swNone sc ts vs = true) : swappedStores [.Tuple ts k p] (.Tuple vs k2 p2) env = pure none := by
  have loc : ∀ z, (env.kindOf z == some .local) = isLocal sc z := fun z => by
    show (env.scope.names.lookup z == some .local) = _
    rw [hs]
    unfold isLocal
    cases sc.names.lookup z with
    | none => rfl
    | some q => cases q <;> rfl
  unfold swappedStores
  simp only
  split
  · rfl
  · split
    · rfl
    · rename_i h2
      unfold swNone at h
      rw [Bool.or_eq_true] at h
      rcases h with h | h
      · exfalso
        exact h2 h
      · have h := of_decide_eq_true h
        refine if_pos ?_
        rw [Bool.or_eq_true]
        refine .inl (bne_iff_ne.mpr fun z => h ?_)
        rw [← z]
        refine congrArg List.length (congrArg (fun f => List.filterMap f ts) (funext fun e => ?_))
        cases e <;> first | rfl | skip
        simp only [loc]
        rfl
end PI
end
section
/-! The checker: statements, bodies. -/
set_option linter.all false
set_option maxRecDepth 100000
set_option maxHeartbeats 1000000
namespace PI
open PySem PySem.Spec PyProof.Rows L2

theorem bne_of {i j : Nat} (h : (i != j) = true) : i ≠ j := by simpa using h
theorem sole_of (t v : Expr) (l : Nat) (env : Env) : swapsWithSole [t] v l env = swapsWith v (some t) l env := by
  unfold swapsWithSole
  rfl
def okI (ini : Bool) (l : List Nat) : Bool := !ini || !(l.contains 0)
theorem okI_of {ini : Bool} {l : List Nat} (h : okI ini l = true) : ini = true → 0 ∉ l := fun e => by
  unfold okI at h
  subst e
  simpa using h
def notTup : Expr → Bool
  | .Tuple _ _ _ => false
  | _ => true
theorem notTup_of {e : Expr} (h : notTup e = true) (ts : List Expr) (env : Env) : swappedStores ts e env = pure none := by
  unfold swappedStores
  split
  · rename_i hq
    split at hq <;> first | (cases hq; done) | (cases h; done)
  · rfl
def chkStar (f : Expr → Tg → Bool) : List Expr → List Nat → Nat → Bool
  | [.Starred t _], [], i => noStar t && f t (.n i)
  | e :: es, j :: l, i => noStar e && f e (.n j) && chkStar f es l i
  | _, _, _ => false
theorem chkStar_ok {T : Tb} {X : Cx} {f : Expr → Tg → Bool} (hf : ∀ e t, f e t = true → PG X e (rdG T X.K t)) : ∀ (es' : List Expr) (l : List Nat) (i : Nat), chkStar f es' l i = true →
    ∃ es, PGs X es (rdGs T X.K ((l ++ [i]).map .n)) ∧ (assignEach es' X.env).map (·.2) = (assignEach es X.env).map (·.2) ∧ (assignEach es' X.env).length = l.length + 1 ∧ (assignEach es' X.env).findIdx? (·.1) = some l.length
  | [], l, i, h => by cases l <;> cases h
  | e :: es, j :: l, i, h => by
    have h : (noStar e && f e (.n j) && chkStar f es l i) = true := by
      cases e <;> cases es <;> exact h
    simp only [Bool.and_eq_true] at h
    obtain ⟨⟨h1, h2⟩, h3⟩ := h
    obtain ⟨es0, q1, q2, q3, q4⟩ := chkStar_ok hf es l i h3
    refine ⟨e :: es0, pgs_consR (hf _ _ h2) q1 (by rw [asg_cons h1]; rfl), ?_, ?_, ?_⟩
    · rw [asg_cons h1, asg_cons h1, List.map_cons, List.map_cons, q2]
    · rw [asg_cons h1, List.length_cons, q3, List.length_cons]
    · rw [asg_cons h1, List.findIdx?_cons]
      simp [q4]
  | [e], [], i, h => by
    cases e <;> first | (cases h; done) | skip
    rename_i t p
    have h : (noStar t && f t (.n i)) = true := h
    rw [Bool.and_eq_true] at h
    refine ⟨[t], pgs_consR (hf _ _ h.2) pgs_nilR ?_, ?_, rfl, rfl⟩
    · rw [asg_cons h.1]; rfl
    · rw [asg_cons h.1]; rfl
  | e :: e2 :: es, [], i, h => by cases e <;> cases h
def cdOk (N : List Str) (m : Nat) (c0 c00 : Chk) (sc : Scope) (fo : Str → Bool) (ifs : List Expr) (c' : Option E) : Bool :=
  match ifs with
  | [] => c'.isNone
  | [cd] => (match c' with | some c' => chkT (caOf N (c0 sc fo) sc) (c00 sc fo) (caOf N (c00 sc fo) sc) m cd c' | none => false)
  | _ => false
def chkLcS (ck : Ck) (N : List Str) (m : Nat) (c0 c00 : Chk) (sc : Scope) (fo : Str → Bool) (elt : Expr) (gs : List Comprehension) (scope : Scope) (e' : E) : Bool :=
  match gs with
  | [⟨tg, iter, ifs, 0⟩] => (match e' with
    | .comp e' t it c' => chkI ck (caOf N (c0 sc fo) sc) sc tg iter it && noSet iter && blkC N sc scope (ownOf N t) && chkTg N (relS scope sc) (foB scope sc) 20 tg t && c0 (relS scope sc) (foB scope sc) elt e' && cdOk N m c0 c00 (relS scope sc) (foB scope sc) ifs c'
    | _ => false)
  | [⟨tg, iter, [], 0⟩, ⟨tg2, iter2, ifs, 0⟩] => (match e' with
    | .comp2 e' t it t2 it2 c' => chkI ck (caOf N (c0 sc fo) sc) sc tg iter it && noSet iter && noSet iter2 && dis t t2 && blkC N sc scope (ownOf2 N t t2) && chkTg N (relS scope sc) (foB scope sc) 20 tg t && chkTg N (relS scope sc) (foB scope sc) 20 tg2 t2 &&
        chkI ck (caOf N (c0 (relS scope sc) (foB scope sc)) (relS scope sc)) (relS scope sc) tg2 iter2 it2 && c0 (relS scope sc) (foB scope sc) elt e' && cdOk N m c0 c00 (relS scope sc) (foB scope sc) ifs c'
    | _ => false)
  | _ => false
def one (T : Tb) (ck : Ck) (N : List Str) (n : Nat) (c1 c0 c00 : Chk) (sb : List Stmt → List S → Bool) (ini : Bool) (sc : Scope) (fo : Str → Bool) (st : Stmt) (s : S) : Bool :=
  match s with
  | .set i e' => (match st with
    | .Assign [.Name y py] v _ => nAt N i y && isLoc sc y && fo y && okI ini [i] && (match v with
      | .ListComp elt gs scope p => (c1 sc fo (.ListComp elt gs scope p) e' && !swLc sc scope y py p) || (swLc sc scope y py p && isLocal sc y && chkLcS ck N n.pred c0 c00 sc fo elt gs scope e')
      | v => noComp v && c1 sc fo v e')
    | _ => false)
  | .own i e' => (match st with
    | .Assign [.Name y _] v _ => nAt N i y && isLoc sc y && fo y && okI ini [i] && (match v with
      | .List es _ => (match e' with | .lst its => chkIts (c0 sc fo) (caOf N (c0 sc fo) sc) es its | _ => false)
      | _ => false)
    | _ => false)
  | .setI a' b' e' => (match st with
    | .Assign [.Subscript a b _] v _ => plainIx b && noComp v && c1 sc fo v e' && c1 sc fo a a' && c1 sc fo b b'
    | _ => false)
  | .app i e' => (match st with
    | .Expr (.Call (.Attribute (.Name y _) z apos) [v] [] cpos) _ => decide (z = "append") && vOk sc N i y && apos.endLine == cpos.line && noStar v && c1 sc fo v e'
    | _ => false)
  | .exp e' => (match st with | .Expr v _ => noComp v && c1 sc fo v e' | _ => false)
  | .ret e' => (match st with | .Return (some v) _ => c1 sc fo v e' | _ => false)
  | .retN => (match st with | .Return none _ => true | _ => false)
  | .iff c' a' b' => (match st with | .If c a b _ => chkT (caOf N (c1 sc fo) sc) (c0 sc fo) (caOf N (c0 sc fo) sc) n c c' && sb a a' && sb b b' | _ => false)
  | .for t it b' => (match st with | .For tg iter body [] _ => chkI ck (caOf N (c1 sc fo) sc) sc tg iter it && noSet iter && chkTg N sc fo 20 tg t && okI ini (tgS t) && sb body b' | _ => false)
  | .par l es' => (match st with
    | .Assign [.Tuple [.Name x px, .Name y py] _ _] (.Tuple [a, b] _ _) _ => (match l with
      | [i, j] => nAt N i x && nAt N j y && (i != j) && okI ini [i, j] && sw2 sc x y px py a b && chkIts (c1 sc fo) (caOf N (c1 sc fo) sc) [a, b] (es'.map .one)
      | _ => false)
    | .Assign [.Tuple [.Name x px, .Name y py, .Name w pw] _ _] (.Tuple [a, b, c] _ _) _ => (match l with
      | [i, j, m] => nAt N i x && nAt N j y && nAt N m w && (i != j) && (i != m) && (j != m) && okI ini [i, j, m] && sw3 sc x y w px py pw a b c && chkIts (c1 sc fo) (caOf N (c1 sc fo) sc) [a, b, c] (es'.map .one)
      | _ => false)
    | _ => false)
  | .asg t e' => (match st with
    | .Assign [tg] v _ => noStar tg && (notTup v || (match tg with | .Tuple ts _ _ => (match v with | .Tuple vs _ _ => swNone sc ts vs | _ => false) | _ => false)) && noComp v && chkTg N sc fo 20 tg t && okI ini (tgS t) && c1 sc fo v e'
    | _ => false)
  | .unps l i e' => (match st with
    | .Assign [.Tuple es _ _] v _ => notTup v && noComp v && chkStar (chkTg N sc fo 20) es l i && okI ini (l ++ [i]) && c1 sc fo v e'
    | _ => false)
  | .setF a' f e' => (match a' with
    | .v j => (match st with
      | .Assign [.Attribute (.Name y _) z _] v _ => decide (z = T.nm f) && vOk sc N j y && ck.fls.contains f && c1 sc fo v e'
      | _ => false)
    | _ => false)
  | .brk => (match st with | .Break _ => true | _ => false)
  | .cnt => (match st with | .Continue _ => true | _ => false)
  | .pass => (match st with | .Pass _ => true | _ => false)
  | .never => true
  | _ => false
def seqC (f : Stmt → S → Bool) : Nat → List Stmt → List S → Bool
  | 0, _, _ => false
  | _ + 1, [], [] => true
  | d + 1, sts, .frz i :: ss => seqC f d sts ss
  | d + 1, st :: sts, s :: ss => f st s && seqC f d sts ss
  | _ + 1, _, _ => false
structure GoodS (T : Tb) (fa : Nat → Addr) (ck : Ck) (c : Cf) (k : Nat) (W : Wx) (sc : Scope) (N : List Str) (fo : Str → Bool) (X : Cx) : Prop extends Good T fa ck c k W sc N fo X where
  hk : sc.kind = .function
  pass : PassesOwn (model X.prog X.w) X.A X.env X.xe
section
variable {T : Tb} {fa : Nat → Addr} {ck : Ck} {c : Cf} {k : Nat} {W : Wx} {sc : Scope} {N : List Str} {fo : Str → Bool} {X : Cx} {n : Nat} {ini : Bool}
theorem one_ok {c1 c0 c00 : Chk} {sb : List Stmt → List S → Bool} (h1 : Snd T fa ck c k N n c1) (h0 : ∀ m, n = m + 1 → Snd T fa ck c k N m c0) (h00 : ∀ m, n = m + 2 → Snd T fa ck c k N m c00) (G : GoodS T fa ck c k W sc N fo X)
    (hsb : ∀ sts ss, sb sts ss = true → PSs X sts (rdS T X.K W ini ((inner T.pg turns c n).s ss))) {st : Stmt} {s : S} (h : one T ck N n c1 c0 c00 sb ini sc fo st s = true) :
    PS X st (rdS T X.K W ini (stepS1 T.pg (inner T.pg turns c n) turns n s)) := by
  have G0 : Good T fa ck c k W sc N fo X := G.toGood
  have hce : ∀ e x, c1 sc fo e x = true → PE X e (Rd T X.K W ((inner T.pg turns c n).e x) (relE T X.K)) := h1 W X sc fo G0
  have hca : ∀ e x, caOf N (c1 sc fo) sc e x = true → PE X e (Rd T X.K W (evA (inner T.pg turns c n) x) (relA T X.K fun ρ => clean ρ x)) := caOf_ok G0 hce
  have nd : X.N.Nodup := by rw [G0.ne]; exact G0.nd
  have at_ : ∀ {i y}, nAt N i y = true → X.N[i]? = some y := fun q => by rw [G0.ne]; exact nAt_eq q
  cases s with
  | set i e' =>
    simp only [one] at h
    split at h
    · simp only [Bool.and_eq_true] at h
      obtain ⟨⟨⟨⟨q1, q2⟩, q3⟩, q4⟩, q5⟩ := h
      have hi0 : ini = true → i ≠ 0 := fun e z => okI_of q4 e (by simp [z])
      split at q5
      · rename_i elt gs scope p
        rw [Bool.or_eq_true] at q5
        rcases q5 with q5 | q5
        · rw [Bool.and_eq_true] at q5
          exact ps_setR nd (at_ q1) (G0.loc q2) (hce _ _ q5.1) (by rw [swLc_of G0.sce G.hk, (Bool.not_eq_true' _).mp q5.2]) (G0.fo _ q3) hi0
        · simp only [Bool.and_eq_true] at q5
          obtain ⟨⟨w1, w2⟩, w3⟩ := q5
          have lo := isLocal_of w2
          rw [← G0.sce] at lo
          cases n with
          | zero =>
            refine PS.imp ps_never fun D σ H hh => ?_
            obtain ⟨ge, He, z, g, ρ, hh2, hz, a, o⟩ := hh
            exact o.elim
          | succ m =>
            have hc0 := h0 m rfl
            have hce0 := hc0 W X sc fo G0
            have hca0 := caOf_ok G0 hce0
            have h000 : ∀ j, m = j + 1 → Snd T fa ck c k N j c00 := fun j e => h00 j (by omega)
            have cond : ∀ {scope : Scope} {ifs : List Expr} {c' : Option E}, cdOk N m c0 c00 (relS scope sc) (foB scope sc) ifs c' = true → ∀ (s : Shared) (H : Hp) (C : Addr) (cl : List (Str × Addr)) (fp : List Addr), PTs (X.blk s H scope (compEnvC scope cl C X.env) fp) ifs (optT T X.K (inner T.pg turns c m) m c') := fun {scope ifs c'} hq s H C cl fp => by
              unfold cdOk at hq
              split at hq
              · have : c' = none := by simpa using hq
                subst this
                simp only [optT]
                exact pts_nil
              · split at hq
                · simp only [optT]
                  exact pts_one (tst_ok hc0 h000 (G0.blk s H C cl fp) hq)
                · cases hq
              · cases hq
            unfold chkLcS at w3
            split at w3
            · split at w3
              · simp only [Bool.and_eq_true, Nat.pred_succ] at w3
                obtain ⟨⟨⟨⟨⟨v1, v2⟩, v3⟩, v4⟩, v5⟩, v6⟩ := w3
                exact ps_setLcR G0.calm nd (at_ q1) lo (by rw [swLc_of G0.sce G.hk, w1]) (i_ok G0 hca0 v1) (by rw [G0.ne, G0.sce]; exact blkOk_by v3) (ownOf_ix N _) (fun s H C cl fp => tg_ok (G0.blk s H C cl fp) 20 _ _ v4) (cond v6)
                  (fun s H C cl fp => hc0 noW _ _ _ (G0.blk s H C cl fp) _ _ v5) (fun v => noSet_of v2 _ v) hi0
              · cases w3
            · split at w3
              · simp only [Bool.and_eq_true, Nat.pred_succ] at w3
                obtain ⟨⟨⟨⟨⟨⟨⟨⟨⟨v1, v2⟩, v2b⟩, v2c⟩, v3⟩, v4⟩, v4b⟩, v1b⟩, v5⟩, v6⟩ := w3
                exact ps_setLc2R G0.calm nd (at_ q1) lo (by rw [swLc_of G0.sce G.hk, w1]) (i_ok G0 hca0 v1) (by rw [G0.ne, G0.sce]; exact blkOk_by v3) (ownOf2_ix N _ _) (dis_of v2c) (fun s H C cl fp => tg_ok (G0.blk s H C cl fp) 20 _ _ v4)
                  (fun s H C cl fp => i_ok (G0.blk s H C cl fp) (caOf_ok (G0.blk s H C cl fp) (hc0 noW _ _ _ (G0.blk s H C cl fp))) v1b) (fun s H C cl fp => tg_ok (G0.blk s H C cl fp) 20 _ _ v4b) (cond v6)
                  (fun s H C cl fp => hc0 noW _ _ _ (G0.blk s H C cl fp) _ _ v5) (fun v => noSet_of v2 _ v) (fun env v => noSet_of v2b env v) hi0
              · cases w3
            · cases w3
      · rw [Bool.and_eq_true] at q5
        exact ps_setR nd (at_ q1) (G0.loc q2) (hce _ _ q5.2) (noComp_of q5.1 _ _ _) (G0.fo _ q3) hi0
    · cases h
  | own i e' =>
    simp only [one] at h
    split at h
    · simp only [Bool.and_eq_true] at h
      obtain ⟨⟨⟨⟨q1, q2⟩, q3⟩, q4⟩, q5⟩ := h
      have hi0 : ini = true → i ≠ 0 := fun e z => okI_of q4 e (by simp [z])
      split at q5
      · split at q5
        · cases n with
          | zero =>
            refine PS.imp ps_never fun D σ H hh => ?_
            obtain ⟨ge, He, z, g, ρ, hh2, hz, a, o⟩ := hh
            exact o.elim
          | succ m =>
            have hce0 := h0 m rfl W X sc fo G0
            exact ps_ownR nd (at_ q1) (G0.loc q2) (pe_lstN (its_ok hce0 (caOf_ok G0 hce0) _ _ q5)) rfl (G0.fo _ q3) hi0
        · cases q5
      · cases q5
    · cases h
  | setI a' b' e' =>
    simp only [one] at h
    split at h
    · simp only [Bool.and_eq_true] at h
      obtain ⟨⟨⟨⟨q1, q2⟩, q3⟩, q4⟩, q5⟩ := h
      exact ps_setIR (hce _ _ q3) (hce _ _ q4) (hce _ _ q5) (asgSub_of q1 X.env) ((sole_of _ _ _ _).trans (noComp_of q2 _ _ _)) rfl rfl
    · cases h
  | app i e' =>
    simp only [one] at h
    split at h
    · simp only [Bool.and_eq_true, vOk] at h
      obtain ⟨⟨⟨⟨q1, ⟨q2, q3⟩, q4⟩, q5⟩, q6⟩, q7⟩ := h
      cases of_decide_eq_true q1
      exact ps_appR (at_ q2) (G0.vis q3) (okN_of q4).1 (okN_of q4).2 (hce _ _ q7) (star_one q6 _) rfl q5
    · cases h
  | exp e' =>
    simp only [one] at h
    split at h
    · rw [Bool.and_eq_true] at h
      exact ps_exprR (hce _ _ h.2) (noComp_of h.1 _ _ _)
    · cases h
  | ret e' =>
    simp only [one] at h
    split at h
    · exact ps_retR (hce _ _ h)
    · cases h
  | retN =>
    simp only [one] at h
    split at h
    · exact ps_retNR
    · cases h
  | iff c' a' b' =>
    simp only [one] at h
    split at h
    · simp only [Bool.and_eq_true] at h
      exact ps_ifR (tst_ok h1 h0 G0 h.1.1) (hsb _ _ h.1.2) (hsb _ _ h.2)
    · cases h
  | «for» t it b' =>
    simp only [one] at h
    split at h
    · simp only [Bool.and_eq_true] at h
      obtain ⟨⟨⟨⟨q1, q2⟩, q3⟩, q4⟩, q5⟩ := h
      exact ps_forR G.pass G0.calm (i_ok G0 hca q1) (tg_ok G0 20 _ _ q3) (hsb _ _ q5) (fun v => noSet_of q2 _ v) (okI_of q4)
    · cases h
  | par l es' =>
    simp only [one] at h
    split at h
    · split at h
      · simp only [Bool.and_eq_true] at h
        obtain ⟨⟨⟨⟨⟨q1, q2⟩, q3⟩, q4⟩, q5⟩, q6⟩ := h
        have q3 := bne_of q3
        have q50 := q5
        unfold sw2 at q50
        simp only [Bool.and_eq_true] at q50
        obtain ⟨⟨⟨⟨⟨⟨⟨l1, l2⟩, _⟩, _⟩, _⟩, _⟩, _⟩, _⟩ := q50
        exact ps_par2R G0.calm nd (at_ q1) (at_ q2) q3 (by rw [G0.sce]; exact isLocal_of l1) (by rw [G0.sce]; exact isLocal_of l2) (its_ok hce hca _ _ q6) (sw2_of G0.sce G.hk q5) rfl (okI_of q4)
      · cases h
    · split at h
      · simp only [Bool.and_eq_true] at h
        obtain ⟨⟨⟨⟨⟨⟨⟨⟨q1, q2⟩, q2b⟩, q3⟩, q3b⟩, q3c⟩, q4⟩, q5⟩, q6⟩ := h
        have q3 := bne_of q3
        have q3b := bne_of q3b
        have q3c := bne_of q3c
        have q50 := q5
        unfold sw3 at q50
        simp only [Bool.and_eq_true] at q50
        obtain ⟨⟨⟨⟨⟨⟨⟨⟨⟨⟨⟨⟨y1, y2⟩, y3⟩, _⟩, _⟩, _⟩, _⟩, _⟩, _⟩, _⟩, _⟩, _⟩, _⟩ := q50
        exact ps_par3R G0.calm nd (at_ q1) (at_ q2) (at_ q2b) q3 q3b q3c (by rw [G0.sce]; exact isLocal_of y1) (by rw [G0.sce]; exact isLocal_of y2) (by rw [G0.sce]; exact isLocal_of y3) (its_ok hce hca _ _ q6) (sw3_of G0.sce G.hk q5) rfl (okI_of q4)
      · cases h
    · cases h
  | asg t e' =>
    simp only [one] at h
    split at h
    · simp only [Bool.and_eq_true] at h
      obtain ⟨⟨⟨⟨⟨q1, q2⟩, q3⟩, q4⟩, q5⟩, q6⟩ := h
      refine ps_asgR (hce _ _ q6) (tg_ok G0 20 _ _ q4) ((sole_of _ _ _ _).trans (noComp_of q3 _ _ _)) ?_ (by rw [asg_cons q1]; rfl) (okI_of q5)
      rw [Bool.or_eq_true] at q2
      rcases q2 with q2 | q2
      · exact notTup_of q2 _ _
      · split at q2
        · split at q2
          · exact swNone_of G0.sce G.hk q2
          · cases q2
        · cases q2
    · cases h
  | unps l i e' =>
    simp only [one] at h
    split at h
    · simp only [Bool.and_eq_true] at h
      obtain ⟨⟨⟨⟨q1, q2⟩, q3⟩, q4⟩, q5⟩ := h
      obtain ⟨es, z1, z2, z3, z4⟩ := chkStar_ok (tg_ok G0 20) _ _ _ q3
      exact ps_unpsR G0.calm (hce _ _ q5) z1 z2 z3 z4 ((sole_of _ _ _ _).trans (noComp_of q2 _ _ _)) (notTup_of q1 _ _) rfl (okI_of q4)
    · cases h
  | setF a' f e' =>
    simp only [one] at h
    split at h
    · split at h
      · simp only [Bool.and_eq_true, vOk] at h
        obtain ⟨⟨⟨q1, ⟨q2, q3⟩, q4⟩, q5⟩, q7⟩ := h
        rw [of_decide_eq_true q1]
        have u : Use T fa ck.fls (inner T.pg turns c n).c k W X := by
          have : (inner T.pg turns c n).c = c := by cases n <;> rfl
          rw [this]
          exact G0.use
        exact ps_setFR u (at_ q2) (G0.vis q3) (okN_of q4).1 (okN_of q4).2 q5 (hce _ _ q7) (swAttr _ _ _ _ _ _)
      · cases h
    · cases h
  | brk =>
    simp only [one] at h
    split at h
    · exact ps_breakR
    · cases h
  | cnt =>
    simp only [one] at h
    split at h
    · exact ps_contR
    · cases h
  | pass =>
    simp only [one] at h
    split at h
    · exact ps_passR
    · cases h
  | never => exact ps_neverR
  | _ => cases h
theorem seq_ok {f : Stmt → S → Bool} (hf : ∀ st s, f st s = true → PS X st (rdS T X.K W ini (stepS1 T.pg (inner T.pg turns c n) turns n s))) : ∀ (d : Nat) (sts : List Stmt) (ss : List S), seqC f d sts ss = true → PSs X sts (rdS T X.K W ini (stepSs T.pg (inner T.pg turns c n) turns n ss))
  | 0, _, _, h => by cases h
  | d + 1, sts, ss, h => by
    cases ss with
    | nil => cases sts with
      | nil => exact pss_nilR
      | cons st sts => cases h
    | cons s ss =>
      have key : (∃ i, s = .frz i) ∨ ∀ i, s ≠ .frz i := by
        cases s <;> first | exact .inl ⟨_, rfl⟩ | exact .inr fun i z => nomatch z
      rcases key with ⟨i, rfl⟩ | hn
      · have h : seqC f d sts ss = true := by cases sts <;> exact h
        exact PSs.imp (seq_ok hf d _ _ h) fun D σ H hh => frz_read hh
      · cases sts with
        | nil =>
          exfalso
          cases s <;> first | (cases h; done) | exact hn _ rfl
        | cons st sts =>
          have h : (f st s && seqC f d sts ss) = true := by cases s <;> first | exact h | exact absurd rfl (hn _)
          rw [Bool.and_eq_true] at h
          exact pss_consR (hf _ _ h.1) (seq_ok hf d _ _ h.2)
end
end PI
end
section
/-! All defs at all depths. -/
set_option linter.all false
set_option maxRecDepth 100000
set_option maxHeartbeats 1000000
namespace PI
open PySem PySem.Spec PyProof.Rows L2

def bodyC (T : Tb) (ck : Ck) (N : List Str) (ini : Bool) (sc : Scope) : Nat → List Stmt → List S → Bool
  | 0, _, _ => false
  | n + 1, sts, ss => seqC (one T ck N n (chkL T ck N n).1 (chkL T ck N n).2 (chkL T ck N n.pred).2 (bodyC T ck N ini sc n) ini sc fun _ => true) 400 sts ss
section
variable {T : Tb} {fa : Nat → Addr} {ck : Ck} {c : Cf} {k : Nat} {W : Wx} {sc : Scope} {N : List Str} {X : Cx} {ini : Bool}
theorem body_ok (G : GoodS T fa ck c k W sc N (fun _ => true) X) : ∀ (n : Nat) (sts : List Stmt) (ss : List S), bodyC T ck N ini sc n sts ss = true → PSs X sts (rdS T X.K W ini ((inner T.pg turns c n).s ss))
  | 0, _, _, h => by cases h
  | n + 1, sts, ss, h => by
    obtain ⟨h1, h0⟩ := chkL_ok (T := T) (fa := fa) (ck := ck) (c := c) (k := k) (N := N) n
    exact seq_ok (fun st s hs => one_ok h1 h0 (fun m e => by subst e; exact (chkL_ok (T := T) (fa := fa) (ck := ck) (c := c) (k := k) (N := N) (m + 1)).2 m rfl) G (fun sts ss q => body_ok G n sts ss q) hs) 400 sts ss h
end
/-- a law's world: what stands behind the top, and that texts and terms agree -/
structure Wld (T : Tb) (fa : Nat → Addr) (ck : Ck) (sr : Nat → FnSrc) (K : PySem.W.Frag) (mg : Str → Option Value) : Prop where
  inj : ∀ a b, T.nm a = T.nm b → a = b
  here : ∀ f fn, T.pg.fn f = some fn → FnHere T K (fa f) (sr f) fn
  kp : ∀ f fn, T.pg.fn f = some fn → PySem.W.keepIn K (.ref (fa f)) = true
  body : ∀ f fn, T.pg.fn f = some fn → bodyC T ck (sr f).N false (sr f).scope deep (sr f).body fn.body = true
  ini : ∀ q cl f fn, T.pg.cl q = some cl → cl.init = some f → T.pg.fn f = some fn → fn.pos ≠ [] ∧ Mk K (T.ca q) (fa f) ∧ bodyC T ck (sr f).N true (sr f).scope deep (sr f).body fn.body = true
  cls : ∀ q cl, T.pg.cl q = some cl → ClsHere T K fa ck.fls q cl ∧ cl.frozen = true
  fnm : ∀ p ∈ ck.fns, mg p.1 = some (.ref (fa p.2)) ∧ (T.pg.fn p.2).isSome = true
  cnm : ∀ p ∈ ck.cls, mg p.1 = some (.ref (T.ca p.2))
  con : ∀ p ∈ ck.consts, ∃ v u, mg p.1 = some u ∧ RelV v u ∧ ∀ F m, Rl T K F m p.2 v
  blt : ∀ x ∈ ck.bl, mg x = none
  ty : TyHere T K ck.tcs
  dn : DnN T
  hme : ∀ q cl m g, T.pg.cl q = some cl → afind cl.meths m = some g → (T.pg.fn g).isSome = true
  hpr : ∀ q cl g f, T.pg.cl q = some cl → afind cl.props f = some g → (T.pg.fn g).isSome = true
section
variable {T : Tb} {fa : Nat → Addr} {ck : Ck} {sr : Nat → FnSrc} {P : Program} {w : World} {K : PySem.W.Frag} {mg : Str → Option Value} {base : Heap}
theorem runF_eq {d f : Nat} {fn : Fn} (e : T.pg.fn f = some fn) (as : List D) (h : Hh) : (cfs T.pg (d + 1)).f f as h = runF ((inner T.pg turns (cfs T.pg d) deep).s fn.body) fn.slots as h := by
  show stepF T.pg (inner T.pg turns (cfs T.pg d) deep) f as h = _
  unfold stepF runF
  rw [e]
  all_goals rfl
theorem runI_eq {d q f : Nat} {cl : Cl} {fn : Fn} (e : T.pg.fn f = some fn) (ec : T.pg.cl q = some cl) (ef : cl.frozen = true) (as : List D) (h : Hh) : (cfs T.pg (d + 1)).i q f as h = runI q ((inner T.pg turns (cfs T.pg d) deep).s fn.body) fn.slots as h := by
  show stepI T.pg (inner T.pg turns (cfs T.pg d) deep) q f as h = _
  unfold stepI runI
  rw [e, ec]
  simp only [ef, if_true]
  all_goals rfl
theorem FP.congr {a : Addr} {fn : Fn} {r1 r2 : List D → Hh → R D} {k : Nat} (F : FP T P w K mg base a fn r1 k) (e : ∀ as h, r2 as h = r1 as h) : FP T P w K mg base a fn r2 k := fun A outer s H g h ds kv as us ws Q E hr e0 ok eb rs rk o =>
  F A outer s H g h ds kv as us ws Q E hr e0 ok eb rs rk (by rw [← e]; exact o)
theorem FPi.congr {a : Addr} {fn : Fn} {q : Nat} {r1 r2 : List D → Hh → R D} {k : Nat} (F : FPi T P w K mg base a fn q r1 k) (e : ∀ as h, r2 as h = r1 as h) : FPi T P w K mg base a fn q r2 k := fun A outer s H g h ds kv as x dx us ws Q E hr ok h1 h2 ne e0 eb rs rk o =>
  F A outer s H g h ds kv as x dx us ws Q E hr ok h1 h2 ne e0 eb rs rk (by rw [← e]; exact o)
/-- the context of a body -/
theorem good_of (L : Wld T fa ck sr K mg) {d f : Nat} {fn : Fn} (e : T.pg.fn f = some fn) {k : Nat}
    (hf : ∀ f fn, T.pg.fn f = some fn → FP T P w K mg base (fa f) fn ((cfs T.pg d).f f) k)
    (hi : ∀ q cl f fn, T.pg.cl q = some cl → cl.init = some f → T.pg.fn f = some fn → FPi T P w K mg base (fa f) fn q ((cfs T.pg d).i q f) k)
    {cdv : Value} {A : Around} {outer : List Env} {s : Shared} {H : Hp} {E : XK} (hr : Room (k + 2) (A.deeper (envOfC (sr f).qual (sr f).scope s.heap.objs.size (fa f) cdv))) :
    GoodS T fa ck (cfs T.pg d) k (fun c d _ H => E c d H) (sr f).scope (sr f).N (fun _ => true) (cxOf (L2.CX P w) P w K mg base (sr f).N (sr f).qual (sr f).scope (fa f) cdv A outer s H E) where
  use := ⟨L.inj, hf, L.kp, fun q cl f fn e1 e2 e3 => ⟨hi q cl f fn e1 e2 e3, (L.ini q cl f fn e1 e2 e3).2.1⟩, fun q cl e1 => (L.cls q cl e1).1, hr, takes_of rfl rfl rfl rfl, L.dn, L.hme, L.hpr⟩
  sce := rfl
  ne := rfl
  nd := (L.here f fn e).sc.nd
  calm := rfl
  fo := fun x _ => .inl rfl
  fnm := L.fnm
  cnm := L.cnm
  con := L.con
  blt := L.blt
  ty := L.ty
  hk := (L.here f fn e).sc.kind
  pass := passes_of rfl
theorem all_fp (L : Wld T fa ck sr K mg) : ∀ d : Nat, (∀ f fn, T.pg.fn f = some fn → FP T P w K mg base (fa f) fn ((cfs T.pg d).f f) (3 * d)) ∧
    (∀ q cl f fn, T.pg.cl q = some cl → cl.init = some f → T.pg.fn f = some fn → FPi T P w K mg base (fa f) fn q ((cfs T.pg d).i q f) (3 * d))
  | 0 => ⟨fun f fn e A outer s H g h ds kv as us ws Q E hr e0 ok eb rs rk o => o.elim, fun q cl f fn e1 e2 e3 A outer s H g h ds kv as x dx us ws Q E hr ok h1 h2 ne e0 eb rs rk o => o.elim⟩
  | d + 1 => by
    obtain ⟨hf, hi⟩ := all_fp L d
    refine ⟨fun f fn e => ?_, fun q cl f fn e1 e2 e3 => ?_⟩
    · exact FP.congr (fp_of (k := 3 * d + 2) L.inj (L.here f fn e) fun cdv A outer s H E hr => body_ok (good_of L e hf hi hr) deep _ _ (L.body f fn e)) fun as h => runF_eq e as h
    · obtain ⟨h1, h2, h3⟩ := L.ini q cl f fn e1 e2 e3
      exact FPi.congr (fpi_of (k := 3 * d + 2) L.inj (L.here f fn e3) h1 fun cdv A outer s H E hr => body_ok (good_of L e3 hf hi hr) deep _ _ h3) fun as h => runI_eq e3 e1 (L.cls q cl e1).2 as h
end
end PI
end
section
set_option linter.all false
namespace PI
open PySem
def nmF (l : List Str) (n : Nat) : Str := match l[n]? with | some x => x | none => ⟨#[3000000 + n]⟩
/-- a def of the text -/
def findD (y : Str) : List Stmt → Option (List Stmt × Scope)
  | [] => none
  | .FunctionDef z _ b _ _ _ sc _ _ _ :: r => if z = y then some (b, sc) else findD y r
  | _ :: r => findD y r
def findC (y : Str) : List Stmt → Option (List Stmt)
  | [] => none
  | .ClassDef z _ _ b _ _ _ _ _ _ _ :: r => if z = y then some b else findC y r
  | _ :: r => findC y r
def findQ (top : List Stmt) : List Str → Option (List Stmt × Scope)
  | [y] => findD y top
  | [q, y] => (findC q top).bind (findD y)
  | _ => none
end PI
end
section
/-! From the head's facts to the law's def. -/
set_option linter.all false
set_option maxRecDepth 100000
set_option maxHeartbeats 1000000
namespace PI
open PySem PySem.Spec PyProof.Rows L2

/-! ### scopes, parameters -/
def scC (N ps : List Str) (sc : Scope) : Bool :=
  (match sc.kind with | .function => true | _ => false) && !sc.isCoroutine && !sc.isGenerator && decide N.Nodup && decide (N.take ps.length = ps) && (ps.all fun x => isLoc sc x) && (sc.names.all fun y => match y.2 with | .free => false | _ => true)
theorem sc_of {N ps : List Str} {sc : Scope} (h : scC N ps sc = true) : FnScope N ps sc := by
  unfold scC at h
  simp only [Bool.and_eq_true, Bool.not_eq_true', decide_eq_true_eq, List.all_eq_true] at h
  obtain ⟨⟨⟨⟨⟨⟨h1, h2⟩, h3⟩, h4⟩, h5⟩, h6⟩, h7⟩ := h
  refine ⟨?_, h2, h3, h4, h5, fun x hx => ?_, fun y hy e => ?_⟩
  · split at h1
    · assumption
    · cases h1
  · have := h6 x hx
    unfold isLoc at this
    split at this
    · rename_i e; exact .inl e
    · rename_i e; exact .inr e
    · cases this
  · have := h7 y hy
    rw [e] at this
    cases this
/-- a default, as it stands in the heap -/
def vOf : D → Option V
  | .non => some .non
  | .bl b => some (.bl b)
  | .int i => some (.int i)
  | .str x => some (.str (tS x))
  | _ => none
theorem vOf_rl {T : Tb} {K : PySem.W.Frag} {d : D} {v : V} (h : vOf d = some v) : ∀ F m, Rl T K F m d v := fun F m => by
  cases d <;> first | (cases h; done) | skip
  · cases h; exact .non
  · cases h; exact .bl _
  · cases h; exact .int _
  · cases h; exact .str _
def dvC : List (Nat × Option D) → List V → Bool
  | [], [] => true
  | (_, none) :: r, vs => dvC r vs && (match vs with | _ => Nat.ble vs.length r.length)
  | (_, some d) :: r, v :: vs => decide (vOf d = some v) && Nat.beq vs.length r.length && dvC r vs
  | _, _ => false
def parC (T : Tb) (ps : Arguments) (fn : Fn) (pv : Str) : Bool :=
  ps.posonlyargs.isEmpty && decide (ps.args.map (·.arg) = fn.pos.map fun p => T.nm p.1) && decide (ps.kwonlyargs.map (·.arg) = fn.kwo.map fun p => T.nm p.1) && ps.kwarg.isNone &&
    decide (ps.vararg.map (·.arg) = if fn.var then some pv else none) && decide (((fn.pos ++ fn.kwo).map fun p => T.nm p.1).Nodup)
/-- a def without defaults -/
theorem here_of {T : Tb} {K : PySem.W.Frag} {a : Addr} {fd : FuncData} {fn : Fn} {sr : FnSrc} (F : FunD K sr.name sr.qual sr.params sr.body sr.scope [] [] a fd) (hp : parC T sr.params fn sr.pv = true) (hs : scC sr.N (psOf T fn sr.pv) sr.scope = true)
    (hn : ∀ p ∈ fn.pos ++ fn.kwo, p.2 = none) (hl : sr.N.length = fn.slots) : FnHere T K a sr fn := by
  unfold parC at hp
  simp only [Bool.and_eq_true, decide_eq_true_eq, List.isEmpty_iff, Option.isNone_iff_eq_none] at hp
  obtain ⟨⟨⟨⟨⟨h1, h2⟩, h3⟩, h4⟩, h5⟩, h6⟩ := hp
  obtain ⟨oc, od, dV, kV, doc, pm, an, cdv, ct, osl, rfl, lk, hcd, hD, hK⟩ := F.ex
  refine ⟨⟨oc, od, dV, kV, doc, pm, an, cdv, ct, osl, lk, hcd, ⟨h1, h2, h3, h4, h5, h6, ⟨[], .inl ⟨rfl, ?_⟩, Nat.zero_le _, fun i p hi => .inl ⟨?_, hn p (List.mem_append_left _ (List.mem_of_getElem? hi))⟩⟩, fun p hp d hd => ?_⟩⟩, sc_of hs, hl⟩
  · rcases hD with ⟨_, e⟩ | ⟨e, _⟩
    · exact e
    · exact absurd rfl e
  · have := (List.getElem?_eq_some_iff.mp hi).1
    simpa using this
  · have := hn p (List.mem_append_right _ hp)
    rw [hd] at this
    cases this
/-! ### the law's def -/
def spLaw (K : PySem.W.Frag) (n : Nat) : Sp := fun vs H Q _ => ∃ (a : Addr) (ns : List Int), vs = [.ref a] ∧ ns.length ≤ n ∧ SqL K H a (ns.map V.int) ∧ ∀ H', Q (.bl true) H'
section
variable {T : Tb} {fa : Nat → Addr} {ck : Ck} {sr : Nat → FnSrc} {P : Program} {w : World} {K : PySem.W.Frag} {mg : Str → Option Value} {base : Heap}
theorem law_good (L : Wld T fa ck sr K mg) {d f : Nat} {fn : Fn} (e : T.pg.fn f = some fn) {cdv : Value} {A : Around} {outer : List Env} {s : Shared} {H : Hp} {E : XK} (hr : Room (3 * d + 2) (A.deeper (envOfC (sr f).qual (sr f).scope s.heap.objs.size (fa f) cdv))) :
    GoodS T fa ck (cfs T.pg d) (3 * d) noW (sr f).scope (sr f).N (fun _ => true) (cxOf CX0 P w K mg base (sr f).N (sr f).qual (sr f).scope (fa f) cdv A outer s H E) where
  use := ⟨L.inj, (all_fp L d).1, L.kp, fun q cl f fn e1 e2 e3 => ⟨(all_fp L d).2 q cl f fn e1 e2 e3, (L.ini q cl f fn e1 e2 e3).2.1⟩, fun q cl e1 => (L.cls q cl e1).1, hr, fun u s' z => by
    obtain ⟨_, _, _, _, _, _, _, _, _, _, _, _, _, _, _, _, w⟩ := z
    exact w.elim, L.dn, L.hme, L.hpr⟩
  sce := rfl
  ne := rfl
  nd := (L.here f fn e).sc.nd
  calm := rfl
  fo := fun x _ => .inl rfl
  fnm := L.fnm
  cnm := L.cnm
  con := L.con
  blt := L.blt
  ty := L.ty
  hk := (L.here f fn e).sc.kind
  pass := passes_of rfl
theorem ints_rls {T : Tb} {K : PySem.W.Frag} {F : Hp} {m : List Addr} : ∀ ns : List Int, Rls T K F m (ns.map .int) (ns.map V.int)
  | [] => .nil
  | i :: ns => .cons (.int i) (ints_rls ns)
theorem law_ok (L : Wld T fa ck sr K mg) {d f n : Nat} {fn : Fn} {fd : FuncData} (e : T.pg.fn f = some fn) (F : FunD K (sr f).name (sr f).qual (sr f).params (sr f).body (sr f).scope [] [] (fa f) fd) {x : Str} (hx : psOf T fn (sr f).pv = [x])
    (hrun : ∀ ns : List Int, ns.length ≤ n → ∃ h, (cfs T.pg (d + 1)).f f [.lst (ns.map .int)] [] = .ok (.bl true) h) : FnOk P w K mg base CX0 (3 * d + 3) (fa f) fd [x] (spLaw K n) := by
  have sc := (L.here f fn e).sc
  rw [hx] at sc
  refine F.ok sc (fun vs H Q E h => ?_) (fun cdv A outer s H vs Q E hr h => ⟨_, body_ok (law_good L (d := d) e hr) deep _ _ (L.body f fn e), ?_⟩)
  · obtain ⟨a, ns, rfl, _⟩ := h
    rfl
  · obtain ⟨a, ns, rfl, hl, hS, hQ⟩ := h
    obtain ⟨h', hh⟩ := hrun ns hl
    rw [runF_eq e] at hh
    let F0 : Hp := fun b => if b = a then H b else none
    have s0 : Sub F0 H := fun b u q => by
      by_cases z : b = a
      · subst z
        have q : (if b = b then H b else none) = some u := q
        rw [if_pos rfl] at q
        exact q
      · have q : (if b = a then H b else none) = some u := q
        rw [if_neg z] at q
        cases q
    have hS0 : SqL K F0 a (ns.map V.int) := by
      have fe : F0 a = H a := if_pos rfl
      rcases hS with (q | ⟨o, q⟩) | q
      · exact .inl (.inl (fe.trans q))
      · exact .inl (.inr ⟨o, fe.trans q⟩)
      · exact .inr q
    have ok : HeapOk T K ⟨F0, []⟩ [] H := ⟨s0, rfl, fun n o b e1 e2 => by simp at e2, List.nodup_nil, fun b hb => by cases hb⟩
    have r : Rls T K F0 [] [.lst (ns.map .int)] [.ref a] := .cons (.lst hS0 (ints_rls ns)) .nil
    refine ⟨⟨F0, []⟩, H, none, ⟨F0, []⟩, start fn.slots [.lst (ns.map .int)], [], fun _ => rfl, start_here ok r (L.here f fn e).sl, ?_⟩
    unfold runF at hh
    cases q : (inner T.pg turns (cfs T.pg d) deep).s fn.body (start fn.slots [.lst (ns.map .int)]) [] with
    | nx ρ h1 => rw [q] at hh; cases hh
    | rt dd h1 =>
      rw [q] at hh
      injection hh with h2 h3
      subst h2
      intro g2 H2 v l2 p2 rv
      cases rv
      exact hQ H2
    | exc c fs ρ h1 => rw [q] at hh; cases hh
    | bk ρ h1 => rw [q] at hh; cases hh
    | ct ρ h1 => rw [q] at hh; cases hh
    | bad => rw [q] at hh; cases hh
end
end PI
end
section
/-! A law's world from the head's facts (laws without own classes). -/
set_option linter.all false
set_option maxRecDepth 100000
set_option maxHeartbeats 1000000
namespace PI
open PySem PySem.Spec PyProof.Rows L2

/-! ### names -/
def nmC (l : List Str) : Bool := decide l.Nodup && l.all fun x => match x.cps.toList with | [c] => Nat.blt c 3000000 | _ => true
theorem nmF_inj {l : List Str} (h : nmC l = true) : ∀ a b, nmF l a = nmF l b → a = b := fun a b e => by
  unfold nmC at h
  simp only [Bool.and_eq_true, decide_eq_true_eq, List.all_eq_true] at h
  obtain ⟨h1, h2⟩ := h
  have no : ∀ (x : Str) (n : Nat), x ∈ l → x ≠ ⟨#[3000000 + n]⟩ := fun x n hx z => by
    have := h2 x hx
    rw [z] at this
    have := Nat.le_of_ble_eq_true (show Nat.ble (3000000 + n + 1) 3000000 = true from this)
    omega
  unfold nmF at e
  cases ea : l[a]? with
  | none =>
    cases eb : l[b]? with
    | none =>
      rw [ea, eb] at e
      have e : (⟨#[3000000 + a]⟩ : Str) = ⟨#[3000000 + b]⟩ := e
      simp at e
      exact e
    | some y =>
      rw [ea, eb] at e
      exact absurd e.symm (no y a (List.mem_of_getElem? eb))
  | some x =>
    cases eb : l[b]? with
    | none =>
      rw [ea, eb] at e
      exact absurd e (no x b (List.mem_of_getElem? ea))
    | some y =>
      rw [ea, eb] at e
      have e : x = y := e
      subst e
      exact (List.getElem?_inj (List.getElem?_eq_some_iff.mp ea).1 h1).mp (ea.trans eb.symm)
def dnL : List Str := ["__eq__", "__len__", "__contains__", "__add__", "__sub__", "__and__", "__getitem__", "__bool__", "__repr__", "__call__"]
def dnC (l : List Str) : Bool := decide (l.take 10 = dnL)
theorem dn_of {l : List Str} {ca : Nat → Addr} {pg : Pg} (h : dnC l = true) : DnN ⟨nmF l, ca, pg⟩ := by
  have h := of_decide_eq_true h
  have key : ∀ i, i < 10 → nmF l i = nmF dnL i := fun i hi => by
    unfold nmF
    rw [← h, List.getElem?_take_of_lt hi]
  exact ⟨key 0 (by decide), key 1 (by decide), key 2 (by decide), key 8 (by decide), key 3 (by decide), key 4 (by decide), key 5 (by decide), key 6 (by decide), key 7 (by decide), key 9 (by decide)⟩
/-! ### texts -/
def dOf (s : FnSrc) : He.DefD := ⟨(s.name, none), s.name, s.qual, s.params, s.body, s.scope, [], []⟩
def noSrc : FnSrc := ⟨Str.ofString "", Str.ofString "", ⟨[], [], none, [], [], none, []⟩, [], ⟨.function, [], false, false, []⟩, [], Str.ofString ""⟩
def srF (srs : List FnSrc) (f : Nat) : FnSrc := (srs[f]?).getD noSrc
def okOne (T : Tb) (ck : Ck) (s : FnSrc) (fn : Fn) : Bool :=
  bodyC T ck s.N false s.scope deep s.body fn.body && parC T s.params fn s.pv && scC s.N (psOf T fn s.pv) s.scope && decide (s.N.length = fn.slots) && (fn.pos ++ fn.kwo).all fun p => p.2.isNone
def okAll (T : Tb) (ck : Ck) : List FnSrc → List Fn → Bool
  | [], [] => true
  | s :: srs, fn :: fns => okOne T ck s fn && okAll T ck srs fns
  | _, _ => false
theorem okAll_at {T : Tb} {ck : Ck} : ∀ {srs : List FnSrc} {fns : List Fn} {f : Nat} {fn : Fn}, okAll T ck srs fns = true → fns[f]? = some fn → ∃ s, srs[f]? = some s ∧ okOne T ck s fn = true
  | [], [], f, fn, _, e => by simp at e
  | [], _ :: _, _, _, h, _ => by cases h
  | _ :: _, [], _, _, h, _ => by cases h
  | s :: srs, g :: fns, 0, fn, h, e => by
    have h : (okOne T ck s g && okAll T ck srs fns) = true := h
    rw [Bool.and_eq_true] at h
    simp at e
    subst e
    exact ⟨s, rfl, h.1⟩
  | s :: srs, g :: fns, f + 1, fn, h, e => by
    have h : (okOne T ck s g && okAll T ck srs fns) = true := h
    rw [Bool.and_eq_true] at h
    have e : fns[f]? = some fn := by simpa using e
    obtain ⟨s2, h1, h2⟩ := okAll_at (f := f) h.2 e
    exact ⟨s2, h1, h2⟩
/-- constants by facts -/
def faC : Str × D → Option He.Fa
  | (x, .int i) => some (.int x i)
  | (x, .str s) => some (.str x (tS s))
  | _ => none
/-! ### types -/
def bltT : List TyC := [.blt .int, .blt .str, .blt .bool, .blt .list, .blt .tuple, .blt .dict]
theorem ty_none {T : Tb} {K : PySem.W.Frag} (hc : ∀ q, T.pg.cl q = none) : TyHere T K bltT where
  ins := fun q cl e => by rw [hc q] at e; cases e
  one := fun t ht d kn => by
    have k0 : ∀ c fs, d ≠ .ins c fs := fun c fs z => by
      subst z
      have kn : (T.pg.cl c).isSome = true := kn
      rw [hc c] at kn
      cases kn
    have e : t = .blt .int ∨ t = .blt .str ∨ t = .blt .bool ∨ t = .blt .list ∨ t = .blt .tuple ∨ t = .blt .dict := by simpa [bltT] using ht
    rcases e with rfl | rfl | rfl | rfl | rfl | rfl <;> cases d <;> first
      | (cases kn; done)
      | exact absurd rfl (k0 _ _)
      | exact kit_ty (r := false) (by decide +kernel)
      | exact kit_ty (r := true) (by decide +kernel)
/-! ### the world -/
def fasOf (ck : Ck) : List He.Fa := ck.fns.map (fun p => .glo p.1) ++ (ck.bl.map .free ++ ck.consts.filterMap faC)
def ckC (ck : Ck) (srs : List FnSrc) (fns : List Fn) : Bool := (ck.fns.all fun p => decide ((srF srs p.2).name = p.1) && (fns[p.2]?).isSome) && ck.consts.all fun p => (faC p).isSome
section
variable {ck : Ck} {srs : List FnSrc} {fns : List Fn} {pg : Pg} {nmL : List Str} {K : PySem.W.Frag} {mg : Str → Option Value} {h : Heap}
theorem fact_mem {fas : List He.Fa} {ds : List He.DefD} (c : He.SaysD fas ds K) {f : He.Fa} (hf : f ∈ fas) : f.ok K = true := by
  obtain ⟨i, hi⟩ := List.mem_iff_getElem?.mp hf
  exact c.fact i hi
theorem wld_none (hp : ∀ f, pg.fn f = fns[f]?) (hc : ∀ q, pg.cl q = none) (ht : ck.tcs = bltT) (hcl : ck.cls = []) (h1 : (nmC nmL && dnC nmL) = true) (h2 : okAll ⟨nmF nmL, fun _ => 0, pg⟩ ck srs fns = true) (h3 : ckC ck srs fns = true)
    (X : K.In h) (G : h.Ns mainGlobals mg) (c : He.SaysD (fasOf ck) (srs.map dOf) K) :
    Wld ⟨nmF nmL, fun _ => 0, pg⟩ (fun f => He.fAd K ((srF srs f).name, none)) ck (srF srs) K mg ∧ ∀ f fn, fns[f]? = some fn → ∃ fd, FunD K (srF srs f).name (srF srs f).qual (srF srs f).params (srF srs f).body (srF srs f).scope [] [] (He.fAd K ((srF srs f).name, none)) fd := by
  rw [Bool.and_eq_true] at h1
  unfold ckC at h3
  rw [Bool.and_eq_true, List.all_eq_true, List.all_eq_true] at h3
  obtain ⟨h3, h4⟩ := h3
  have src : ∀ {f s}, srs[f]? = some s → srF srs f = s := fun {f s} e => by
    unfold srF
    rw [e]
    rfl
  have fun_ : ∀ f fn, fns[f]? = some fn → ∃ fd, FunD K (srF srs f).name (srF srs f).qual (srF srs f).params (srF srs f).body (srF srs f).scope [] [] (He.fAd K ((srF srs f).name, none)) fd := fun f fn e => by
    obtain ⟨s, es, ok⟩ := okAll_at h2 e
    rw [src es]
    exact c.def_ f (d := dOf s) (by rw [List.getElem?_map, es]; rfl)
  have part : ∀ f fn, fns[f]? = some fn → okOne ⟨nmF nmL, fun _ => 0, pg⟩ ck (srF srs f) fn = true := fun f fn e => by
    obtain ⟨s, es, ok⟩ := okAll_at h2 e
    rw [src es]
    exact ok
  refine ⟨⟨nmF_inj h1.1, fun f fn e => ?_, fun f fn e => ?_, fun f fn e => ?_, fun q cl f fn e => ?_, fun q cl e => ?_, fun p hp' => ?_, fun p hp' => ?_, fun p hp' => ?_, fun x hx => ?_, ?_, dn_of h1.2, fun q cl m g e => ?_, fun q cl g f e => ?_⟩, fun_⟩
  · have e : fns[f]? = some fn := (hp f).symm.trans e
    obtain ⟨fd, F⟩ := fun_ f fn e
    have q := part f fn e
    unfold okOne at q
    simp only [Bool.and_eq_true, decide_eq_true_eq, List.all_eq_true, Option.isNone_iff_eq_none] at q
    exact here_of F q.1.1.1.2 q.1.1.2 q.2 q.1.2
  · obtain ⟨fd, F⟩ := fun_ f fn ((hp f).symm.trans e)
    exact F.kp
  · have q := part f fn ((hp f).symm.trans e)
    unfold okOne at q
    simp only [Bool.and_eq_true] at q
    exact q.1.1.1.1
  · have e : pg.cl q = some cl := e
    rw [hc q] at e
    cases e
  · have e : pg.cl q = some cl := e
    rw [hc q] at e
    cases e
  · have q := h3 p hp'
    rw [Bool.and_eq_true] at q
    have e1 := of_decide_eq_true q.1
    refine ⟨?_, ?_⟩
    · rw [e1]
      exact He.glo_ok X G (fact_mem c (List.mem_append_left _ (List.mem_map.mpr ⟨p, hp', rfl⟩)))
    · show (pg.fn p.2).isSome = true
      rw [hp]
      exact q.2
  · rw [hcl] at hp'
    cases hp'
  · have q := h4 p hp'
    obtain ⟨x, d⟩ := p
    obtain ⟨f, hf⟩ := Option.isSome_iff_exists.mp q
    have mem : f ∈ fasOf ck := List.mem_append_right _ (List.mem_append_right _ (List.mem_filterMap.mpr ⟨(x, d), hp', hf⟩))
    cases d with
    | int i =>
      cases hf
      obtain ⟨t, e⟩ := He.int_ok X G (fact_mem c mem)
      exact ⟨.int i, _, e, ⟨t, rfl⟩, fun F m => .int i⟩
    | str s =>
      cases hf
      obtain ⟨t, e⟩ := He.str_ok X G (fact_mem c mem)
      exact ⟨.str (tS s), _, e, ⟨t, rfl⟩, fun F m => .str s⟩
    | _ => cases hf
  · exact He.free_ok X G (fact_mem c (List.mem_append_right _ (List.mem_append_left _ (List.mem_map.mpr ⟨x, hx, rfl⟩))))
  · rw [ht]
    exact ty_none hc
  · have e : pg.cl q = some cl := e
    rw [hc q] at e
    cases e
  · have e : pg.cl q = some cl := e
    rw [hc q] at e
    cases e
end
end PI
end
section
/-! A law's world from the head's facts, own classes too. -/
set_option linter.all false
set_option maxRecDepth 100000
set_option maxHeartbeats 1000000
namespace PI
open PySem PySem.Spec PyProof.Rows L2

/-! ### what is looked at behind the head: facts, defs -/
abbrev Fc := PySem.W.Frag → Bool
/-- where a def stands: a name of the module; a class's method, property, classmethod -/
inductive Pl where
  | glo (x : Str) | met (c m : Str) | prop (c m : Str) | clm (c m : Str)
def Pl.ad (K : PySem.W.Frag) : Pl → Addr
  | .glo x => He.ga K x
  | .met c m => He.ma K (He.ga K c) m
  | .prop c m => He5.wf K (He.ga K c) "property" m
  | .clm c m => He5.wf K (He.ga K c) "classmethod" m
def seenP (fcs : List Fc) (ds : List He5.DefA) (K : PySem.W.Frag) : He.AlD := (fcs.all (fun f => f K) && ds.all fun d => d.ok K, ds.map fun d => He5.fnA K (d.at_ K))
def dueP (ds : List He5.DefA) : He.AlD := (true, ds.map He5.DefA.val)
def partP (n : Nat) (g : Addr → Option Obj) : PySem.W.Frag := He.frG g (He5.asA g n)
def hookP (n : Nat) (fcs : List Fc) (ds : List He5.DefA) : PySem.W.Hook where
  α := He.AlD
  obs s := seenP fcs ds (partP n s.heap.get?)
  val _ := dueP ds
  says _ h := ∃ K : PySem.W.Frag, K.In h ∧ seenP fcs ds K = dueP ds
  of _ _ e := ⟨_, He.frG_in, e⟩
  keeps _ _ _ z k := z.imp fun K q => ⟨PySem.W.Frag.In.keeps q.1 k, q.2⟩
theorem hookP_eq {n : Nat} {fcs : List Fc} {ds : List He5.DefA} {g : Addr → Option Obj} {s : Shared} (h : ∀ a, g a = s.heap.get? a) : seenP fcs ds (partP n g) = (hookP n fcs ds).obs s := by
  show _ = seenP fcs ds (partP n s.heap.get?)
  rw [funext h]
section
variable {fcs : List Fc} {ds : List He5.DefA} {K : PySem.W.Frag}
theorem seen_fact (c : seenP fcs ds K = dueP ds) {f : Fc} (hf : f ∈ fcs) : f K = true := by
  have := congrArg Prod.fst c
  have : (fcs.all (fun f => f K) && ds.all fun d => d.ok K) = true := this
  rw [Bool.and_eq_true, List.all_eq_true] at this
  exact this.1 f hf
theorem seen_def (c : seenP fcs ds K = dueP ds) {d : He5.DefA} {i : Nat} (hi : ds[i]? = some d) : ∃ fd, FunD K d.name d.qual d.params d.body d.scope (d.dvs K) (d.kws K) (d.at_ K) fd := by
  have h1 : (fcs.all (fun f => f K) && ds.all fun d => d.ok K) = true := congrArg Prod.fst c
  rw [Bool.and_eq_true, List.all_eq_true, List.all_eq_true] at h1
  have h2 : (ds.map fun d => He5.fnA K (d.at_ K)) = ds.map He5.DefA.val := congrArg Prod.snd c
  have h3 := congrArg (·[i]?) h2
  simp only [List.getElem?_map, hi, Option.map_some] at h3
  exact He5.DefA.funD (Option.some.inj h3) (h1.2 d (List.mem_of_getElem? hi))
end
/-! ### defaults -/
def dvD : D → He.Dv
  | .bl b => .bl b
  | .int i => .int i
  | .str x => .str (tS x)
  | _ => .non
theorem dvD_ok {T : Tb} {K : PySem.W.Frag} {d : D} (h : (vOf d).isSome = true) : ∀ F m, Rl T K F m d ((dvD d).v K) := fun F m => by
  cases d <;> first | (cases h; done) | skip
  · exact .non
  · exact .bl _
  · exact .int _
  · exact .str _
def tailD (l : List (Nat × Option D)) : List D := (l.dropWhile fun p => p.2.isNone).filterMap (·.2)
def smp (p : Nat × Option D) : Bool := match p.2 with | some d => (vOf d).isSome | none => false
def tailC (l : List (Nat × Option D)) : Bool := (l.dropWhile fun p => p.2.isNone).all smp
def kwC (l : List (Nat × Option D)) : Bool := l.all fun p => match p.2 with | some d => (vOf d).isSome | none => true
theorem fm_get : ∀ {l : List (Nat × Option D)}, l.all smp = true → (l.filterMap (·.2)).length = l.length ∧ ∀ (j : Nat) p, l[j]? = some p → ∃ d, p.2 = some d ∧ (vOf d).isSome = true ∧ (l.filterMap (·.2))[j]? = some d
  | [], _ => ⟨rfl, fun j p e => by simp at e⟩
  | (n, none) :: l, h => by
    rw [List.all_cons, Bool.and_eq_true] at h
    cases h.1
  | (n, some d) :: l, h => by
    rw [List.all_cons, Bool.and_eq_true] at h
    obtain ⟨h1, h2⟩ := fm_get h.2
    refine ⟨by simp [h1], fun j p e => ?_⟩
    cases j with
    | zero =>
      simp at e
      subst e
      exact ⟨d, rfl, h.1, by simp⟩
    | succ j =>
      obtain ⟨d', a, b, c⟩ := h2 j p (by simpa using e)
      exact ⟨d', a, b, by simpa using c⟩
theorem tw_none : ∀ {l : List (Nat × Option D)} {p : Nat × Option D}, p ∈ l.takeWhile (fun p => p.2.isNone) → p.2 = none
  | [], p, h => by cases h
  | q :: l, p, h => by
    rw [List.takeWhile_cons] at h
    split at h
    · rename_i e
      cases h with
      | head => simpa using e
      | tail _ h => exact tw_none h
    · cases h
def dOfC (nm : Nat → Str) (pl : Pl) (s : FnSrc) (fn : Fn) : He5.DefA :=
  ⟨fun K => pl.ad K, s.name, s.qual, s.params, s.body, s.scope, (tailD fn.pos).map dvD, fn.kwo.filterMap fun p => p.2.map fun d => (nm p.1, dvD d)⟩
theorem here_ofD {T : Tb} {K : PySem.W.Frag} {pl : Pl} {fd : FuncData} {fn : Fn} {sr : FnSrc} (F : FunD K sr.name sr.qual sr.params sr.body sr.scope ((dOfC T.nm pl sr fn).dvs K) ((dOfC T.nm pl sr fn).kws K) (pl.ad K) fd) (hp : parC T sr.params fn sr.pv = true) (hs : scC sr.N (psOf T fn sr.pv) sr.scope = true)
    (hd : tailC fn.pos = true) (hk : kwC fn.kwo = true) (hl : sr.N.length = fn.slots) : FnHere T K (pl.ad K) sr fn := by
  unfold parC at hp
  simp only [Bool.and_eq_true, decide_eq_true_eq, List.isEmpty_iff, Option.isNone_iff_eq_none] at hp
  obtain ⟨⟨⟨⟨⟨p1, p2⟩, p3⟩, p4⟩, p5⟩, p6⟩ := hp
  obtain ⟨oc, od, dV, kV, doc, pm, an, cdv, ct, osl, e0, lk, hcd, hD, hK⟩ := F.ex
  subst e0
  have spl := List.takeWhile_append_dropWhile (p := fun p : Nat × Option D => p.2.isNone) (l := fn.pos)
  generalize htw : fn.pos.takeWhile (fun p : Nat × Option D => p.2.isNone) = tw at spl
  generalize hdw : fn.pos.dropWhile (fun p : Nat × Option D => p.2.isNone) = dw at spl
  have htn : ∀ p ∈ tw, p.2 = none := fun p hp => by
    rw [← htw] at hp
    exact tw_none hp
  unfold tailC at hd
  rw [hdw] at hd
  obtain ⟨fl, fg⟩ := fm_get hd
  have hv : (dOfC T.nm pl sr fn).dvs K = (dw.filterMap (·.2)).map fun d => (dvD d).v K := by
    show ((tailD fn.pos).map dvD).map (He.Dv.v K) = _
    unfold tailD
    rw [hdw, List.map_map]
    rfl
  rw [hv] at hD
  have len : fn.pos.length = tw.length + dw.length := by rw [← spl, List.length_append]
  have main : ∀ dl : List Value, Vals ((dw.filterMap (·.2)).map fun d => (dvD d).v K) dl → dl.length ≤ fn.pos.length ∧
      ∀ (i : Nat) p, fn.pos[i]? = some p → (i < fn.pos.length - dl.length ∧ p.2 = none) ∨ ∃ d u, p.2 = some d ∧ fn.pos.length - dl.length ≤ i ∧ dl[i - (fn.pos.length - dl.length)]? = some u ∧ ∀ F m, RV T K F m d u := fun dl rv => by
    have dll : dl.length = dw.length := by rw [← rv.length, List.length_map, fl]
    have cut : fn.pos.length - dl.length = tw.length := by omega
    refine ⟨by omega, fun i p hi => ?_⟩
    rw [cut]
    by_cases q : i < tw.length
    · left
      rw [← spl, List.getElem?_append_left q] at hi
      exact ⟨q, htn p (List.mem_of_getElem? hi)⟩
    · right
      rw [← spl, List.getElem?_append_right (by omega)] at hi
      obtain ⟨d, a, b, c⟩ := fg _ p hi
      obtain ⟨u, h1, h2⟩ := rv.get (i := i - tw.length) (x := (dvD d).v K) (by rw [List.getElem?_map, c]; rfl)
      exact ⟨d, u, a, by omega, h1, fun F m => ⟨_, h2, dvD_ok b F m⟩⟩
  refine ⟨⟨oc, od, dV, kV, doc, pm, an, cdv, ct, osl, lk, hcd, ⟨p1, p2, p3, p4, p5, p6, ?_, fun p hp d hd2 => ?_⟩⟩, sc_of hs, hl⟩
  · rcases hD with ⟨z, e⟩ | ⟨z, t, o, its, n, e1, e2, e3, e4⟩
    · obtain ⟨m1, m2⟩ := main [] (by rw [z]; exact .nil)
      exact ⟨[], .inl ⟨rfl, e⟩, m1, m2⟩
    · obtain ⟨m1, m2⟩ := main its e4
      exact ⟨its, .inr ⟨t, o, n, e1, e2, e3⟩, m1, m2⟩
  · have mem : (T.nm p.1, (dvD d).v K) ∈ (dOfC T.nm pl sr fn).kws K := by
      show _ ∈ (fn.kwo.filterMap fun p => p.2.map fun d => (T.nm p.1, dvD d)).map fun q => (q.1, q.2.v K)
      refine List.mem_map.mpr ⟨(T.nm p.1, dvD d), List.mem_filterMap.mpr ⟨p, hp, by rw [hd2]; rfl⟩, rfl⟩
    have sd : (vOf d).isSome = true := by
      have := List.all_eq_true.mp hk p hp
      rw [hd2] at this
      exact this
    rcases hK with z | ⟨t, e1, e2⟩
    · rw [z] at mem
      cases mem
    · obtain ⟨u, a, b⟩ := e2 _ mem
      exact ⟨t, u, e1, a, fun F m => ⟨_, b, dvD_ok sd F m⟩⟩
end PI
end
section
/-! A law's world: classes. -/
set_option linter.all false
set_option maxRecDepth 100000
set_option maxHeartbeats 1000000
namespace PI
open PySem PySem.Spec PyProof.Rows L2

/-! ### facts of a class -/
section
variable (K : PySem.W.Frag) (C : Addr)
def propB (f : Str) (g : Addr) : Bool := He.eqO (PySem.W.findIn K (.ref C) f) (some (some (.ref (He.ma K C f)))) && (He.eqO (PySem.W.specialIn K (.ref (He.ma K C f)) "__get__") (some (some (.builtin "property.__get__"))) && (decide (PySem.W.takesIn K (.ref (He.ma K C f)) = some true) && (match PySem.W.recIn K (He.ma K C f) "property" with
  | some (.ref a :: _) => decide (a = g)
  | _ => false)))
def conB (f : Str) (d : D) : Bool := match PySem.W.findIn K (.ref C) f with
  | some (some u) => He.relB ((dvD d).v K) u && ((vOf d).isSome && (He.eqO (PySem.W.specialIn K u "__get__") (some none) && !PySem.W.copiedNames.contains f))
  | _ => false
def metB (m : Str) (f : Addr) : Bool := He.eqO (PySem.W.findIn K (.ref C) m) (some (some (.ref f))) && (PySem.W.isFn K (.ref f) && PySem.W.keepIn K (.ref f))
def mkB (f : Addr) : Bool := PySem.W.makesIn K C && (He.eqO (PySem.W.findIn K (.ref C) "__init__") (some (some (.ref f))) && (PySem.W.isFn K (.ref f) && PySem.W.keepIn K (.ref C)))
def cmB (m : Str) (f : Addr) : Bool := He5.wrapB K C "classmethod" "classmethod.__get__" m && (PySem.W.fnIn K (He5.wf K C "classmethod" m) && (decide (He5.wf K C "classmethod" m = f) && (PySem.W.readsIn K C (.type "type") && He.eqO (PySem.W.specialIn K (.ref C) "__getattribute__") (some (some (.builtin "type.__getattribute__"))))))
def tyB : Bool := He.eqO (PySem.W.findIn K (.ref C) "__class__") (some (some (.builtin "object.__class__"))) && (He.eqO (PySem.W.specialIn K (.builtin "object.__class__") "__get__") (some (some (.builtin "getset_descriptor.__get__"))) && (decide (PySem.W.takesIn K (.builtin "object.__class__") = some true) && decide (PySem.W.mroIn K C (.type "object") = some true)))
variable {K C}
theorem ba2 {a b : Bool} (h : (a && b) = true) : a = true ∧ b = true := Bool.and_eq_true_iff.mp h
theorem propB_ok {f : Str} {g : Addr} (h : propB K C f g = true) : ∃ p, PropOf K C f p g := by
  obtain ⟨h1, h⟩ := ba2 h
  obtain ⟨h2, h⟩ := ba2 h
  obtain ⟨h3, h4⟩ := ba2 h
  refine ⟨_, He.eqO_ok h1, He.eqO_ok h2, of_decide_eq_true h3, ?_⟩
  split at h4
  · rename_i a r e
    exact ⟨r, by rw [e, of_decide_eq_true h4]⟩
  · cases h4
theorem conB_ok {T : Tb} {f : Str} {d : D} (h : conB K C f d = true) : ∃ v u, Con K C f v u ∧ ∀ F m, Rl T K F m d v := by
  unfold conB at h
  split at h
  · rename_i u e
    obtain ⟨h1, h⟩ := ba2 h
    obtain ⟨h2, h⟩ := ba2 h
    obtain ⟨h3, h4⟩ := ba2 h
    exact ⟨_, u, ⟨e, He.relB_ok h1, He.eqO_ok h3, by simpa using h4⟩, dvD_ok h2⟩
  · cases h
theorem metB_ok {m : Str} {f : Addr} (h : metB K C m f = true) : Meth K C m f := by
  obtain ⟨h1, h⟩ := ba2 h
  obtain ⟨h2, h3⟩ := ba2 h
  exact ⟨He.eqO_ok h1, h2, h3⟩
theorem mkB_ok {f : Addr} (h : mkB K C f = true) : Mk K C f := by
  obtain ⟨h1, h⟩ := ba2 h
  obtain ⟨h2, h⟩ := ba2 h
  obtain ⟨h3, h4⟩ := ba2 h
  exact ⟨h1, He.eqO_ok h2, h3, h4⟩
theorem cmB_ok {m : Str} {f : Addr} (h : cmB K C m f = true) : ClX.CRead K C (.type "type") ∧ ∃ p, ClX.CMet K C (.type "type") m p f := by
  obtain ⟨h1, h⟩ := ba2 h
  obtain ⟨h2, h⟩ := ba2 h
  obtain ⟨h3, h⟩ := ba2 h
  obtain ⟨h4, h5⟩ := ba2 h
  have e := of_decide_eq_true h3
  have z := He5.cmet_of h1 h2
  rw [e] at z
  exact ⟨⟨h4, He.eqO_ok h5⟩, _, z⟩
theorem tyB_ok (h : tyB K C = true) (c : Cls K C) {H : Hp} {a dx : Addr} {fs : List (Str × V)} (e : H a = some (.ins C dx fs)) : TyX K H (.ref a) (.ref C) := by
  obtain ⟨h1, h⟩ := ba2 h
  obtain ⟨h2, h⟩ := ba2 h
  obtain ⟨h3, h4⟩ := ba2 h
  exact .base (.ins e c (He.eqO_ok h1) (He.eqO_ok h2) (of_decide_eq_true h3) (of_decide_eq_true h4))
end
def tbK (nmL : List Str) (cn : List Str) (pg : Pg) (K : PySem.W.Frag) : Tb := ⟨nmF nmL, fun q => He.ga K ((cn[q]?).getD (Str.ofString "")), pg⟩
def plF (pls : List Pl) (f : Nat) : Pl := (pls[f]?).getD (.glo (Str.ofString ""))
/-- sorts of data that isinstance tells apart -/
def kinds (own : List Nat) : List D := [.non, .bl true, .int 0, .str [], .tup [], .lst []] ++ own.map fun q => .ins q []
def isB : D → TyC → Bool
  | .ins _ _, _ => false
  | _, .own _ => false
  | _, _ => true
def clsFc (nmL cn : List Str) (pg : Pg) (pls : List Pl) (fls : List Nat) (q : Nat) (cl : Cl) : List Fc :=
  let C : PySem.W.Frag → Addr := fun K => (tbK nmL cn pg K).ca q
  [fun K => (He.Fa.cls ((cn[q]?).getD (Str.ofString ""))).ok K, fun K => tyB K (C K)] ++ cl.meths.map (fun p K => metB K (C K) (nmF nmL p.1) ((plF pls p.2).ad K)) ++ (fls.filter (free cl)).map (fun f K => He.eqO (PySem.W.findIn K (.ref (C K)) (nmF nmL f)) (some none)) ++
    cl.props.map (fun p K => propB K (C K) (nmF nmL p.1) ((plF pls p.2).ad K)) ++ cl.consts.map (fun p K => conB K (C K) (nmF nmL p.1) p.2) ++ (match cl.init with | some f => [fun K => mkB K (C K) ((plF pls f).ad K)] | none => []) ++
    cl.cmeths.map fun p K => cmB K (C K) (nmF nmL p.1) ((plF pls p.2).ad K)
def faX : He.Fa → Fc := fun f K => f.ok K
def allFc (nmL cn : List Str) (pg : Pg) (pls : List Pl) (own : List Nat) (ck : Ck) : List Fc :=
  (ck.fns.map fun p => faX (.glo p.1)) ++ (ck.bl.map fun x => faX (.free x)) ++ (ck.consts.filterMap faC).map faX ++ (ck.cls.map fun p => faX (.glo p.1)) ++
    (own.flatMap fun q => match pg.cl q with | some cl => clsFc nmL cn pg pls ck.fls q cl | none => []) ++
    ((kinds own).flatMap fun d => (ck.tcs.filter fun t => !isB d t).map fun t K => decide (PySem.W.kitOne K (dTy (tbK nmL cn pg K) d) (tyV (tbK nmL cn pg K) t) = some (isC pg d t)))
def dsP (nm : Nat → Str) : List Pl → List FnSrc → List Fn → List He5.DefA
  | p :: ps, s :: ss, f :: fs => dOfC nm p s f :: dsP nm ps ss fs
  | _, _, _ => []
def okOneC (T : Tb) (ck : Ck) (s : FnSrc) (fn : Fn) : Bool :=
  bodyC T ck s.N false s.scope deep s.body fn.body && parC T s.params fn s.pv && scC s.N (psOf T fn s.pv) s.scope && decide (s.N.length = fn.slots) && tailC fn.pos && kwC fn.kwo
def okAllC (T : Tb) (ck : Ck) : List Pl → List FnSrc → List Fn → Bool
  | [], [], [] => true
  | _ :: ps, s :: srs, fn :: fns => okOneC T ck s fn && okAllC T ck ps srs fns
  | _, _, _ => false
theorem okAllC_at {T : Tb} {ck : Ck} {nm : Nat → Str} : ∀ {pls : List Pl} {srs : List FnSrc} {fns : List Fn} {f : Nat} {fn : Fn}, okAllC T ck pls srs fns = true → fns[f]? = some fn → ∃ p s, pls[f]? = some p ∧ srs[f]? = some s ∧ okOneC T ck s fn = true ∧ (dsP nm pls srs fns)[f]? = some (dOfC nm p s fn)
  | [], [], [], f, fn, _, e => by simp at e
  | p :: ps, s :: srs, g :: fns, 0, fn, h, e => by
    have h : (okOneC T ck s g && okAllC T ck ps srs fns) = true := h
    rw [Bool.and_eq_true] at h
    simp at e
    subst e
    exact ⟨p, s, rfl, rfl, h.1, rfl⟩
  | p :: ps, s :: srs, g :: fns, f + 1, fn, h, e => by
    have h : (okOneC T ck s g && okAllC T ck ps srs fns) = true := h
    rw [Bool.and_eq_true] at h
    have e : fns[f]? = some fn := by simpa using e
    obtain ⟨p2, s2, h1, h2, h3, h4⟩ := okAllC_at (nm := nm) (f := f) h.2 e
    exact ⟨p2, s2, h1, h2, h3, h4⟩
  | [], _ :: _, _, _, _, h, _ => by cases h
  | [], [], _ :: _, _, _, h, _ => by cases h
  | _ :: _, [], _, _, _, h, _ => by cases h
  | _ :: _, _ :: _, [], _, _, h, _ => by cases h
/-- what is looked at in the terms alone -/
def ckCC (T : Tb) (ck : Ck) (cn : List Str) (own : List Nat) (srs : List FnSrc) (pls : List Pl) (fns : List Fn) : Bool :=
  (ck.fns.all fun p => (match plF pls p.2 with | .glo x => decide (x = p.1) | _ => false) && (fns[p.2]?).isSome) && (ck.consts.all fun p => (faC p).isSome) && (ck.cls.all fun p => decide ((cn[p.2]?).getD (Str.ofString "") = p.1)) &&
    own.all fun q => match T.pg.cl q with
      | some cl => cl.frozen && (cl.meths.all fun p => (fns[p.2]?).isSome) && (cl.props.all fun p => (fns[p.2]?).isSome) && (match cl.init with
        | some f => (match fns[f]? with | some fn => !fn.pos.isEmpty && bodyC T ck (srF srs f).N true (srF srs f).scope deep (srF srs f).body fn.body | none => true)
        | none => true)
      | none => true
section
variable {ck : Ck} {srs : List FnSrc} {fns : List Fn} {pls : List Pl} {own : List Nat} {pg : Pg} {nmL cn : List Str} {K : PySem.W.Frag} {mg : Str → Option Value} {h : Heap}
theorem isC_kind {d : D} {own : List Nat} (kn : known pg d = true) (hown : ∀ q cl, pg.cl q = some cl → q ∈ own) : ∃ d' ∈ kinds own, (∀ t, isC pg d t = isC pg d' t) ∧ (∀ T : Tb, dTy T d = dTy T d') ∧ ∀ t, isB d t = isB d' t := by
  unfold kinds
  cases d with
  | non => exact ⟨.non, by simp, fun t => rfl, fun T => rfl, fun t => rfl⟩
  | bl b => exact ⟨.bl true, by simp, fun t => (by cases t with | own q => rfl | blt t => cases t <;> rfl), fun T => rfl, fun t => (by cases t <;> rfl)⟩
  | int i => exact ⟨.int 0, by simp, fun t => (by cases t with | own q => rfl | blt t => cases t <;> rfl), fun T => rfl, fun t => (by cases t <;> rfl)⟩
  | str x => exact ⟨.str [], by simp, fun t => (by cases t with | own q => rfl | blt t => cases t <;> rfl), fun T => rfl, fun t => (by cases t <;> rfl)⟩
  | tup x => exact ⟨.tup [], by simp, fun t => (by cases t with | own q => rfl | blt t => cases t <;> rfl), fun T => rfl, fun t => (by cases t <;> rfl)⟩
  | lst x => exact ⟨.lst [], by simp, fun t => (by cases t with | own q => rfl | blt t => cases t <;> rfl), fun T => rfl, fun t => (by cases t <;> rfl)⟩
  | ins c fs =>
    obtain ⟨cl, e⟩ := Option.isSome_iff_exists.mp (show (pg.cl c).isSome = true from kn)
    exact ⟨.ins c [], by simp [hown c cl e], fun t => (by cases t with | own q => rfl | blt t => cases t <;> rfl), fun T => rfl, fun t => (by cases t <;> rfl)⟩
  | dct _ => cases kn
  | ref _ => cases kn
  | cls _ => cases kn
theorem base_ty {T : Tb} {d : D} {t : TyC} (hb : isB d t = true) (kn : known pg d = true) : PySem.W.kitOne K (dTy T d) (tyV T t) = some (isC pg d t) := by
  cases t with
  | own q => cases d <;> cases hb
  | blt t =>
    cases d <;> first | (cases hb; done) | (cases kn; done) | skip
    all_goals cases t <;> first
      | exact kit_ty (r := false) (by decide +kernel)
      | exact kit_ty (r := true) (by decide +kernel)
theorem wld_cls (hp : ∀ f, pg.fn f = fns[f]?) (hown : ∀ q cl, pg.cl q = some cl → q ∈ own) (h1 : (nmC nmL && dnC nmL) = true) (h2 : ∀ ca, okAllC ⟨nmF nmL, ca, pg⟩ ck pls srs fns = true) (h3 : ∀ ca, ckCC ⟨nmF nmL, ca, pg⟩ ck cn own srs pls fns = true)
    (X : K.In h) (G : h.Ns mainGlobals mg) (c : seenP (allFc nmL cn pg pls own ck) (dsP (nmF nmL) pls srs fns) K = dueP (dsP (nmF nmL) pls srs fns)) :
    Wld (tbK nmL cn pg K) (fun f => (plF pls f).ad K) ck (srF srs) K mg ∧ ∀ f fn, fns[f]? = some fn → ∃ p s fd, plF pls f = p ∧ srF srs f = s ∧ FunD K s.name s.qual s.params s.body s.scope ((dOfC (nmF nmL) p s fn).dvs K) ((dOfC (nmF nmL) p s fn).kws K) (p.ad K) fd := by
  rw [Bool.and_eq_true] at h1
  have ok := h2 (tbK nmL cn pg K).ca
  have okc := h3 (tbK nmL cn pg K).ca
  unfold ckCC at okc
  simp only [Bool.and_eq_true] at okc
  obtain ⟨⟨⟨o1, o2⟩, o3⟩, o4⟩ := okc
  rw [List.all_eq_true] at o1 o2 o3 o4
  have fm : ∀ {f : Fc}, f ∈ allFc nmL cn pg pls own ck → f K = true := fun hf => seen_fact c hf
  have part : ∀ f fn, fns[f]? = some fn → okOneC (tbK nmL cn pg K) ck (srF srs f) fn = true ∧ ∃ fd, FunD K (srF srs f).name (srF srs f).qual (srF srs f).params (srF srs f).body (srF srs f).scope ((dOfC (nmF nmL) (plF pls f) (srF srs f) fn).dvs K) ((dOfC (nmF nmL) (plF pls f) (srF srs f) fn).kws K) ((plF pls f).ad K) fd := fun f fn e => by
    obtain ⟨p, s, e1, e2, e3, e4⟩ := okAllC_at (nm := nmF nmL) ok e
    have ep : plF pls f = p := by unfold plF; rw [e1]; rfl
    have es : srF srs f = s := by unfold srF; rw [e2]; rfl
    rw [ep, es]
    exact ⟨e3, seen_def c e4⟩
  have clsIn : ∀ {q cl}, pg.cl q = some cl → ∀ {f : Fc}, f ∈ clsFc nmL cn pg pls ck.fls q cl → f K = true := fun {q cl} e {f} hf => fm (by
    unfold allFc
    refine List.mem_append_left _ (List.mem_append_right _ (List.mem_flatMap.mpr ⟨q, hown q cl e, ?_⟩))
    rw [e]
    exact hf)
  have clsCk : ∀ {q cl}, pg.cl q = some cl → (cl.frozen = true ∧ (∀ p ∈ cl.meths, (fns[p.2]?).isSome = true) ∧ ∀ p ∈ cl.props, (fns[p.2]?).isSome = true) ∧ ∀ f fn, cl.init = some f → fns[f]? = some fn → fn.pos ≠ [] ∧ bodyC (tbK nmL cn pg K) ck (srF srs f).N true (srF srs f).scope deep (srF srs f).body fn.body = true := fun {q cl} e => by
    have := o4 q (hown q cl e)
    rw [show (Tb.mk (nmF nmL) (tbK nmL cn pg K).ca pg).pg.cl q = some cl from e] at this
    simp only [Bool.and_eq_true, List.all_eq_true] at this
    obtain ⟨⟨⟨a1, a2⟩, a3⟩, a4⟩ := this
    refine ⟨⟨a1, a2, a3⟩, fun f fn e1 e2 => ?_⟩
    rw [e1] at a4
    simp only [e2, Bool.and_eq_true, Bool.not_eq_true'] at a4
    exact ⟨fun z => (by rw [z] at a4; cases a4.1), a4.2⟩
  have memA : ∀ {q cl}, pg.cl q = some cl → Cls K ((tbK nmL cn pg K).ca q) := fun {q cl} e => He.cls_ok (clsIn e (f := fun K => (He.Fa.cls ((cn[q]?).getD (Str.ofString ""))).ok K) (by unfold clsFc; simp))
  refine ⟨⟨nmF_inj h1.1, fun f fn e => ?_, fun f fn e => ?_, fun f fn e => ?_, fun q cl f fn e e1 e2 => ?_, fun q cl e => ⟨⟨memA e, fun m f a => ?_, fun f a b => ?_, fun f g a => ?_, fun f d a => ?_, fun m f a => ?_⟩, (clsCk e).1.1⟩, fun p hp' => ?_, fun p hp' => ?_, fun p hp' => ?_, fun x hx => ?_, ⟨fun q cl e H a dx fs ea => ?_, fun t ht d kn => ?_⟩, dn_of h1.2, fun q cl m g e a => ?_, fun q cl g f e a => ?_⟩, fun f fn e => ?_⟩
  · have e : fns[f]? = some fn := (hp f).symm.trans e
    obtain ⟨q, fd, F⟩ := part f fn e
    unfold okOneC at q
    simp only [Bool.and_eq_true, decide_eq_true_eq] at q
    obtain ⟨⟨⟨⟨⟨q1, q2⟩, q3⟩, q4⟩, q5⟩, q6⟩ := q
    exact here_ofD (T := tbK nmL cn pg K) F q2 q3 q5 q6 q4
  · obtain ⟨q, fd, F⟩ := part f fn ((hp f).symm.trans e)
    exact F.kp
  · obtain ⟨q, fd, F⟩ := part f fn ((hp f).symm.trans e)
    unfold okOneC at q
    simp only [Bool.and_eq_true] at q
    exact q.1.1.1.1.1
  · obtain ⟨b1, b2⟩ := (clsCk e).2 f fn e1 ((hp f).symm.trans e2)
    refine ⟨b1, mkB_ok (clsIn e (f := fun K => mkB K ((tbK nmL cn pg K).ca q) ((plF pls f).ad K)) ?_), b2⟩
    unfold clsFc
    rw [e1]
    simp
  · refine metB_ok (clsIn e (f := fun K => metB K ((tbK nmL cn pg K).ca q) (nmF nmL m) ((plF pls f).ad K)) ?_)
    unfold clsFc
    have := (List.mem_map (f := fun p : Nat × Nat => fun K : PySem.W.Frag => metB K ((tbK nmL cn pg K).ca q) (nmF nmL p.1) ((plF pls p.2).ad K))).mpr ⟨(m, f), afind_mem a, rfl⟩
    simp only [List.mem_append]
    exact .inl (.inl (.inl (.inl (.inl (.inr this)))))
  · have := clsIn e (f := fun K => He.eqO (PySem.W.findIn K (.ref ((tbK nmL cn pg K).ca q)) (nmF nmL f)) (some none)) (by
      unfold clsFc
      have := (List.mem_map (f := fun f : Nat => fun K : PySem.W.Frag => He.eqO (PySem.W.findIn K (.ref ((tbK nmL cn pg K).ca q)) (nmF nmL f)) (some none))).mpr ⟨f, List.mem_filter.mpr ⟨by simpa using a, b⟩, rfl⟩
      simp only [List.mem_append]
      exact .inl (.inl (.inl (.inl (.inr this)))))
    exact He.eqO_ok this
  · refine propB_ok (clsIn e (f := fun K => propB K ((tbK nmL cn pg K).ca q) (nmF nmL f) ((plF pls g).ad K)) ?_)
    unfold clsFc
    have := (List.mem_map (f := fun p : Nat × Nat => fun K : PySem.W.Frag => propB K ((tbK nmL cn pg K).ca q) (nmF nmL p.1) ((plF pls p.2).ad K))).mpr ⟨(f, g), afind_mem a, rfl⟩
    simp only [List.mem_append]
    exact .inl (.inl (.inl (.inr this)))
  · refine conB_ok (clsIn e (f := fun K => conB K ((tbK nmL cn pg K).ca q) (nmF nmL f) d) ?_)
    unfold clsFc
    have := (List.mem_map (f := fun p : Nat × D => fun K : PySem.W.Frag => conB K ((tbK nmL cn pg K).ca q) (nmF nmL p.1) p.2)).mpr ⟨(f, d), afind_mem a, rfl⟩
    simp only [List.mem_append]
    exact .inl (.inl (.inr this))
  · refine cmB_ok (clsIn e (f := fun K => cmB K ((tbK nmL cn pg K).ca q) (nmF nmL m) ((plF pls f).ad K)) ?_)
    unfold clsFc
    have := (List.mem_map (f := fun p : Nat × Nat => fun K : PySem.W.Frag => cmB K ((tbK nmL cn pg K).ca q) (nmF nmL p.1) ((plF pls p.2).ad K))).mpr ⟨(m, f), afind_mem a, rfl⟩
    simp only [List.mem_append]
    exact .inr this
  · have q := o1 p hp'
    rw [Bool.and_eq_true] at q
    refine ⟨?_, by show (pg.fn p.2).isSome = true; rw [hp]; exact q.2⟩
    have gl := fm (f := faX (.glo p.1)) (by
      unfold allFc
      simp only [List.mem_append]
      exact .inl (.inl (.inl (.inl (.inl (List.mem_map.mpr ⟨p, hp', rfl⟩))))))
    have ad : (plF pls p.2).ad K = He.ga K p.1 := by
      have q1 := q.1
      split at q1
      · rename_i x ex
        rw [ex, of_decide_eq_true q1]
        rfl
      · cases q1
    show mg p.1 = some (.ref ((plF pls p.2).ad K))
    rw [ad]
    exact He.glo_ok X G gl
  · have q := of_decide_eq_true (o3 p hp')
    have gl := fm (f := faX (.glo p.1)) (by
      unfold allFc
      simp only [List.mem_append]
      exact .inl (.inl (.inr (List.mem_map.mpr ⟨p, hp', rfl⟩))))
    show mg p.1 = some (.ref (He.ga K ((cn[p.2]?).getD (Str.ofString ""))))
    rw [q]
    exact He.glo_ok X G gl
  · obtain ⟨x, d⟩ := p
    obtain ⟨f, hf⟩ := Option.isSome_iff_exists.mp (o2 _ hp')
    have mem := fm (f := faX f) (by
      unfold allFc
      simp only [List.mem_append]
      exact .inl (.inl (.inl (.inr (List.mem_map.mpr ⟨f, List.mem_filterMap.mpr ⟨(x, d), hp', hf⟩, rfl⟩)))))
    cases d with
    | int i =>
      cases hf
      obtain ⟨t, e⟩ := He.int_ok X G mem
      exact ⟨.int i, _, e, ⟨t, rfl⟩, fun F m => .int i⟩
    | str s =>
      cases hf
      obtain ⟨t, e⟩ := He.str_ok X G mem
      exact ⟨.str (tS s), _, e, ⟨t, rfl⟩, fun F m => .str s⟩
    | _ => cases hf
  · exact He.free_ok X G (fm (f := faX (.free x)) (by
      unfold allFc
      simp only [List.mem_append]
      exact .inl (.inl (.inl (.inl (.inr (List.mem_map.mpr ⟨x, hx, rfl⟩)))))))
  · refine tyB_ok (clsIn e (f := fun K => tyB K ((tbK nmL cn pg K).ca q)) ?_) (memA e) ea
    unfold clsFc
    simp
  · by_cases hb : isB d t = true
    · exact base_ty hb kn
    · obtain ⟨d', hd', k1, k2, k3⟩ := isC_kind (pg := pg) (own := own) kn hown
      have := fm (f := fun K => decide (PySem.W.kitOne K (dTy (tbK nmL cn pg K) d') (tyV (tbK nmL cn pg K) t) = some (isC pg d' t))) (by
        unfold allFc
        refine List.mem_append_right _ (List.mem_flatMap.mpr ⟨d', hd', List.mem_map.mpr ⟨t, List.mem_filter.mpr ⟨ht, ?_⟩, rfl⟩⟩)
        rw [← k3 t]
        simpa using hb)
      show PySem.W.kitOne K (dTy _ d) (tyV _ t) = some (isC pg d t)
      rw [k2, k1]
      exact of_decide_eq_true this
  · show (pg.fn g).isSome = true
    rw [hp]
    exact (clsCk e).1.2.1 _ (afind_mem a)
  · show (pg.fn g).isSome = true
    rw [hp]
    exact (clsCk e).1.2.2 _ (afind_mem a)
  · obtain ⟨q, fd, F⟩ := part f fn e
    exact ⟨_, _, fd, rfl, rfl, F⟩
end
end PI
namespace PI
open PySem
/-- a class statement's own statements -/
def clsBody : Stmt → List Stmt
  | .ClassDef _ _ _ b _ _ _ _ _ _ _ => b
  | _ => []
end PI
end
section
/-! Steps of the interpreter, for plain laws. -/
set_option linter.all false
set_option maxRecDepth 100000
namespace PI
variable {pg : Pg} {w : Nat} {c : Cf}
theorem R.bind_congr {α β : Type} {r r' : R α} {f : α → Hh → R β} (h : r = r') : r.bind f = r'.bind f := by rw [h]
theorem R.toS_congr {α : Type} {r r' : R α} {ρ : En} {f : α → Hh → RS} (h : r = r') : r.toS ρ f = r'.toS ρ f := by rw [h]
theorem R.ok_bind {α β : Type} (a : α) (h : Hh) (f : α → Hh → R β) : (R.ok a h).bind f = f a h := rfl
theorem R.ok_toS {α : Type} (a : α) (h : Hh) (ρ : En) (f : α → Hh → RS) : (R.ok a h).toS ρ f = f a h := rfl
theorem R.ite_bind {α β : Type} (p : Prop) [Decidable p] (a b : R α) (f : α → Hh → R β) : (if p then a else b).bind f = if p then a.bind f else b.bind f := by split <;> rfl
theorem R.ite_toS {α : Type} (p : Prop) [Decidable p] (a b : R α) (ρ : En) (f : α → Hh → RS) : (if p then a else b).toS ρ f = if p then a.toS ρ f else b.toS ρ f := by split <;> rfl
theorem ie (n : Nat) (x : E) (y : Option Sl) (ρ : En) (h : Hh) : (inner pg w c (n + 1)).e x (y :: ρ) h = stepE pg (inner pg w c n) n x (y :: ρ) h := rfl
theorem is_ (n : Nat) (x : List S) (y : Option Sl) (ρ : En) (h : Hh) : (inner pg w c (n + 1)).s x (y :: ρ) h = stepSs pg (inner pg w c n) w n x (y :: ρ) h := rfl
theorem ic (n : Nat) : (inner pg w c n).c = c := by cases n <;> rfl
theorem cf (d f : Nat) (as : List D) (h : Hh) : (cfs pg (d + 1)).f f as h = stepF pg (inner pg turns (cfs pg d) 40) f as h := rfl
theorem sf {r : Ev} {f : Nat} {fn : Fn} (e : pg.fn f = some fn) (as : List D) (h : Hh) : stepF pg r f as h = match r.s fn.body (start fn.slots as) h with
    | .nx _ h1 => .ok .non h1
    | .rt d h1 => .ok d h1
    | .exc c fs _ h1 => .exc c fs h1
    | _ => .bad := by unfold stepF; rw [e]; all_goals rfl
/-! statements -/
section
variable {r : Ev} {n : Nat} {ρ : En} {h : Hh}
theorem ss_nil : stepSs pg r w n [] ρ h = .nx ρ h := rfl
theorem ss_cons (s : S) (ss : List S) (y : Option Sl) : stepSs pg r w n (s :: ss) (y :: ρ) h = match stepS1 pg r w n s (y :: ρ) h with
    | .nx ρ1 h1 => stepSs pg r w n ss ρ1 h1
    | x => x := rfl
theorem s_set (i : Nat) (e : E) : stepS1 pg r w n (.set i e) ρ h = (r.e e ρ h).toS ρ fun d h1 => .nx (ρ.set i (some (.val d))) h1 := rfl
theorem s_own (i : Nat) (e : E) : stepS1 pg r w n (.own i e) ρ h = if fresh e then (r.e e ρ h).toS ρ fun d h1 => match oOf d with
      | some o => .nx (ρ.set i (some (.own o))) h1
      | none => .bad
    else .bad := rfl
theorem s_frz (i : Nat) : stepS1 pg r w n (.frz i) ρ h = match ρ[i]? with
    | some (some (.own o)) => .nx (ρ.set i (some (.val o.d))) h
    | some (some (.val d)) => .nx ρ h
    | _ => .bad := rfl
theorem s_unp (l : List Nat) (e : E) : stepS1 pg r w n (.unp l e) ρ h = (evA r e ρ h).toS ρ fun d h1 => match vw h1 d with
    | .tup ds => match setNs ρ l ds with | some ρ1 => .nx ρ1 h1 | none => .bad
    | .lst ds => match setNs ρ l ds with | some ρ1 => .nx ρ1 h1 | none => .bad
    | _ => .bad := rfl
theorem s_unps (l : List Nat) (i : Nat) (e : E) : stepS1 pg r w n (.unps l i e) ρ h = (r.e e ρ h).toS ρ fun d h1 => match vw h1 d with
    | .tup ds => unpsB l i ds ρ h1
    | .lst ds => unpsB l i ds ρ h1
    | _ => .bad := rfl
theorem s_asg (t : Tg) (e : E) : stepS1 pg r w n (.asg t e) ρ h = (r.e e ρ h).toS ρ fun d h1 => match bindTg t d ρ with
    | some ρ1 => .nx ρ1 h1
    | none => .bad := rfl
theorem s_par (l : List Nat) (es : List E) : stepS1 pg r w n (.par l es) ρ h = (evIts r (es.map .one) ρ h).toS ρ fun ds h1 => match setNs ρ l ds with
    | some ρ1 => .nx ρ1 h1
    | none => .bad := rfl
theorem s_setI (a i e : E) : stepS1 pg r w n (.setI a i e) ρ h = (r.e e ρ h).toS ρ fun x h1 => (r.e a ρ h1).toS ρ fun d h2 => (r.e i ρ h2).toS ρ fun k h3 => match putI d k x h3 with
    | some h4 => .nx ρ h4
    | none => .bad := rfl
theorem s_app (i : Nat) (e : E) : stepS1 pg r w n (.app i e) ρ h = match ρ[i]? with
    | some (some (.own (.lst xs))) => (r.e e ρ h).toS ρ fun x h1 => if Nat.blt xs.length line then .nx (ρ.set i (some (.own (.lst (xs ++ [x]))))) h1 else .bad
    | _ => .bad := rfl
theorem s_exp (e : E) : stepS1 pg r w n (.exp e) ρ h = (r.e e ρ h).toS ρ fun _ h1 => .nx ρ h1 := rfl
theorem s_ret (e : E) : stepS1 pg r w n (.ret e) ρ h = (r.e e ρ h).toS ρ fun d h1 => .rt d h1 := rfl
theorem s_retN : stepS1 pg r w n .retN ρ h = .rt .non h := rfl
theorem s_iff (c : E) (a b : List S) : stepS1 pg r w n (.iff c a b) ρ h = (evT r n c ρ h).toS ρ fun c h1 => if c then r.s a ρ h1 else r.s b ρ h1 := rfl
theorem s_for (tg : Tg) (it : I) (b : List S) : stepS1 pg r w n (.for tg it b) ρ h = if !cleanI ρ it then .bad else (evI r it ρ h).toS ρ fun ds h1 => evFor r tg b ds ρ h1 := rfl
theorem s_pass : stepS1 pg r w n .pass ρ h = .nx ρ h := rfl
theorem s_brk : stepS1 pg r w n .brk ρ h = .bk ρ h := rfl
theorem s_cnt : stepS1 pg r w n .cnt ρ h = .ct ρ h := rfl
/-! expressions -/
theorem x_v (i : Nat) : stepE pg r n (.v i) ρ h = match ρ[i]? with
    | some (some (.val d)) => .ok d h
    | _ => .bad := rfl
theorem x_k (d : D) : stepE pg r n (.k d) ρ h = .ok d h := rfl
theorem x_op (o : Op) (es : List E) : stepE pg r n (.op o es) ρ h = (evAs r es ρ h).bind fun ds h1 => evOp pg o ds h1 := rfl
theorem x_chain (o o' : Op) (a b c : E) : stepE pg r n (.chain o o' a b c) ρ h = (evA r a ρ h).bind fun x h1 => (evA r b ρ h1).bind fun y h2 => (evOp pg o [x, y] h2).bind fun z h3 => match z with
    | .bl true => (evA r c ρ h3).bind fun u h4 => evOp pg o' [y, u] h4
    | .bl false => .ok (.bl false) h3
    | _ => .bad := rfl
theorem x_mt (o : Op) (a b : E) : stepE pg r n (.mt o a b) ρ h = (evA r a ρ h).bind fun x h1 => match x with
    | .str s => (evA r b ρ h1).bind fun y h2 => evOp pg o [.str s, y] h2
    | _ => .bad := rfl
theorem x_sl3 (a b c : E) : stepE pg r n (.sl3 a b c) ρ h = (evA r a ρ h).bind fun x h1 => (evA r b ρ h1).bind fun y h2 => match y with
    | .int i => (evA r c ρ h2).bind fun z h3 => match z with
      | .int j => match oCut (vw h3 x) (some i) (some j) with
        | some d => .ok d h3
        | none => .bad
      | _ => .bad
    | _ => .bad := rfl
theorem x_and (a b : E) : stepE pg r n (.and a b) ρ h = (r.e a ρ h).bind fun d h1 => (truthD d h1).bind fun c h2 => if c then r.e b ρ h2 else .ok d h2 := rfl
theorem x_or (a b : E) : stepE pg r n (.or a b) ρ h = (r.e a ρ h).bind fun d h1 => (truthD d h1).bind fun c h2 => if c then .ok d h2 else r.e b ρ h2 := rfl
theorem x_not (a : E) : stepE pg r n (.not a) ρ h = (evT r n a ρ h).bind fun c h1 => .ok (.bl (!c)) h1 := rfl
theorem x_ite (c a b : E) : stepE pg r n (.ite c a b) ρ h = (evT r n c ρ h).bind fun c h1 => if c then r.e a ρ h1 else r.e b ρ h1 := rfl
theorem x_tup (es : List It) : stepE pg r n (.tup es) ρ h = (evIts r es ρ h).bind fun ds h1 => if sizeOk ds.length then .ok (.tup ds) h1 else .bad := rfl
theorem x_lst (es : List It) : stepE pg r n (.lst es) ρ h = (evIts r es ρ h).bind fun ds h1 => if sizeOk ds.length then .ok (.lst ds) h1 else .bad := rfl
theorem x_cell (es : List It) : stepE pg r n (.cell es) ρ h = (evIts r es ρ h).bind fun ds h1 => if sizeOk ds.length then .ok (.ref h1.length) (h1 ++ [.lst ds]) else .bad := rfl
theorem x_call (f : Nat) (es : List It) (ks : List (Nat × E)) : stepE pg r n (.call f es ks) ρ h = (evIts r es ρ h).bind fun ps h1 => (evKs r ks ρ h1).bind fun kv h2 => evCall pg r f ps kv h2 := rfl
theorem x_comp (elt : E) (tg : Tg) (it : I) (c : Option E) : stepE pg r n (.comp elt tg it c) ρ h = (evI r it ρ h).bind fun ds h1 => match evC r n elt tg c (wipeR ρ (tgS tg)) ds h1 with
    | .ok xs h2 => if sizeOk xs.length then .ok (.lst xs) h2 else .bad
    | _ => .bad := rfl
theorem x_lmul (es : List It) (k : Nat) : stepE pg r n (.lmul es k) ρ h = (evIts r es ρ h).bind fun ds h1 => if sizeOk ds.length && sizeOk (ds.length * k) then .ok (.lst (List.replicate k ds).flatten) h1 else .bad := rfl
theorem x_opd1 (o : Op) (a : E) : stepE pg r n (.opd1 o a) ρ h = (r.e a ρ h).bind fun x h1 => evDun pg r o [x] h1 := rfl
theorem x_opd2 (o : Op) (a b : E) : stepE pg r n (.opd2 o a b) ρ h = (r.e a ρ h).bind fun x h1 => (r.e b ρ h1).bind fun y h2 => evDun pg r o [x, y] h2 := rfl
theorem x_fld (a : E) (f : Nat) : stepE pg r n (.fld a f) ρ h = (evA r a ρ h).bind fun d h1 => evFld pg r (clean ρ a) d f h1 := rfl
theorem x_comp2 (elt : E) (tg : Tg) (it : I) (tg2 : Tg) (it2 : I) (c : Option E) : stepE pg r n (.comp2 elt tg it tg2 it2 c) ρ h = (evI r it ρ h).bind fun ds h1 => match evC2 r elt tg tg2 it2 c n (wipeR ρ (tgS tg ++ tgS tg2)) ds h1 with
    | .ok xs h2 => if sizeOk xs.length then .ok (.lst xs) h2 else .bad
    | _ => .bad := rfl
theorem evCall_eq {f : Nat} {fn : Fn} (e : pg.fn f = some fn) (ps : List D) (ks : List (Nat × D)) : evCall pg r f ps ks h = match bindA fn ps ks with
    | none => .bad
    | some as => r.c.f f as h := by unfold evCall; rw [e]; all_goals rfl
theorem t_1 (e : E) (b : Bool) (h' : Hh) (q : r.e e ρ h = .ok (.bl b) h') (hv : ∀ i, e ≠ .v i) : evA r e ρ h = .ok (.bl b) h' := by
  cases e <;> first | exact q | exact absurd rfl (hv _)
end
/-! operands -/
theorem a_v {r : Ev} {ρ : En} {h : Hh} (i : Nat) : evA r (.v i) ρ h = match ρ[i]? with
    | some (some (.val d)) => .ok d h
    | some (some (.own o)) => .ok o.d h
    | _ => .bad := rfl
section
variable {r : Ev} {ρ : En} {h : Hh}
theorem a_k (d : D) : evA r (.k d) ρ h = r.e (.k d) ρ h := rfl
theorem a_op (o : Op) (es : List E) : evA r (.op o es) ρ h = r.e (.op o es) ρ h := rfl
theorem a_chain (o o' : Op) (a b c : E) : evA r (.chain o o' a b c) ρ h = r.e (.chain o o' a b c) ρ h := rfl
theorem a_mt (o : Op) (a b : E) : evA r (.mt o a b) ρ h = r.e (.mt o a b) ρ h := rfl
theorem a_sl3 (a b c : E) : evA r (.sl3 a b c) ρ h = r.e (.sl3 a b c) ρ h := rfl
theorem a_and (a b : E) : evA r (.and a b) ρ h = r.e (.and a b) ρ h := rfl
theorem a_or (a b : E) : evA r (.or a b) ρ h = r.e (.or a b) ρ h := rfl
theorem a_not (a : E) : evA r (.not a) ρ h = r.e (.not a) ρ h := rfl
theorem a_ite (c a b : E) : evA r (.ite c a b) ρ h = r.e (.ite c a b) ρ h := rfl
theorem a_tup (es : List It) : evA r (.tup es) ρ h = r.e (.tup es) ρ h := rfl
theorem a_lst (es : List It) : evA r (.lst es) ρ h = r.e (.lst es) ρ h := rfl
theorem a_cell (es : List It) : evA r (.cell es) ρ h = r.e (.cell es) ρ h := rfl
theorem a_fld (a : E) (f : Nat) : evA r (.fld a f) ρ h = r.e (.fld a f) ρ h := rfl
theorem a_call (f : Nat) (es : List It) (ks : List (Nat × E)) : evA r (.call f es ks) ρ h = r.e (.call f es ks) ρ h := rfl
theorem a_new (f : Nat) (es : List It) (ks : List (Nat × E)) : evA r (.new f es ks) ρ h = r.e (.new f es ks) ρ h := rfl
theorem a_meth (a : E) (f : Nat) (es : List It) (ks : List (Nat × E)) : evA r (.meth a f es ks) ρ h = r.e (.meth a f es ks) ρ h := rfl
theorem a_comp (elt : E) (tg : Tg) (it : I) (c : Option E) : evA r (.comp elt tg it c) ρ h = r.e (.comp elt tg it c) ρ h := rfl
theorem a_lmul (es : List It) (k : Nat) : evA r (.lmul es k) ρ h = r.e (.lmul es k) ρ h := rfl
theorem a_opd1 (o : Op) (a : E) : evA r (.opd1 o a) ρ h = r.e (.opd1 o a) ρ h := rfl
theorem a_opd2 (o : Op) (a b : E) : evA r (.opd2 o a b) ρ h = r.e (.opd2 o a b) ρ h := rfl
theorem a_comp2 (elt : E) (tg : Tg) (it : I) (tg2 : Tg) (it2 : I) (c : Option E) : evA r (.comp2 elt tg it tg2 it2 c) ρ h = r.e (.comp2 elt tg it tg2 it2 c) ρ h := rfl
theorem as_nil : evAs r [] ρ h = .ok [] h := rfl
theorem as_cons (e : E) (es : List E) : evAs r (e :: es) ρ h = (evA r e ρ h).bind fun d h1 => (evAs r es ρ h1).bind fun ds h2 => .ok (d :: ds) h2 := rfl
theorem its_nil : evIts r [] ρ h = .ok [] h := rfl
theorem its_one (e : E) (es : List It) : evIts r (.one e :: es) ρ h = (r.e e ρ h).bind fun d h1 => (evIts r es ρ h1).bind fun ds h2 => .ok (d :: ds) h2 := rfl
theorem its_star (e : E) (es : List It) : evIts r (.star e :: es) ρ h = (evA r e ρ h).bind fun d h1 => match vw h1 d with
    | .lst xs => (evIts r es ρ h1).bind fun ds h2 => .ok (xs ++ ds) h2
    | .tup xs => (evIts r es ρ h1).bind fun ds h2 => .ok (xs ++ ds) h2
    | _ => .bad := rfl
theorem ks_nil : evKs r [] ρ h = .ok [] h := rfl
theorem ks_cons (n : Nat) (e : E) (es : List (Nat × E)) : evKs r ((n, e) :: es) ρ h = (r.e e ρ h).bind fun d h1 => (evKs r es ρ h1).bind fun ds h2 => .ok ((n, d) :: ds) h2 := rfl
/-! tests -/
theorem t_and (n : Nat) (a b : E) : evT r (n + 1) (.and a b) ρ h = (evT r n a ρ h).bind fun c h1 => if c then evT r n b ρ h1 else .ok false h1 := rfl
theorem t_or (n : Nat) (a b : E) : evT r (n + 1) (.or a b) ρ h = (evT r n a ρ h).bind fun c h1 => if c then .ok true h1 else evT r n b ρ h1 := rfl
theorem t_not (n : Nat) (a : E) : evT r (n + 1) (.not a) ρ h = (evT r n a ρ h).bind fun c h1 => .ok (!c) h1 := rfl
theorem t_v (n i : Nat) : evT r (n + 1) (.v i) ρ h = (evA r (.v i) ρ h).bind fun d h1 => truthD d h1 := rfl
theorem t_op (n : Nat) (o : Op) (es : List E) : evT r (n + 1) (.op o es) ρ h = (r.e (.op o es) ρ h).bind fun d h1 => truthD d h1 := rfl
theorem t_chain (n : Nat) (o o' : Op) (a b c : E) : evT r (n + 1) (.chain o o' a b c) ρ h = (r.e (.chain o o' a b c) ρ h).bind fun d h1 => truthD d h1 := rfl
theorem t_call (n : Nat) (f : Nat) (es : List It) (ks : List (Nat × E)) : evT r (n + 1) (.call f es ks) ρ h = (r.e (.call f es ks) ρ h).bind fun d h1 => truthD d h1 := rfl
theorem t_meth (n : Nat) (a : E) (f : Nat) (es : List It) (ks : List (Nat × E)) : evT r (n + 1) (.meth a f es ks) ρ h = (r.e (.meth a f es ks) ρ h).bind fun d h1 => truthD d h1 := rfl
theorem t_k (n : Nat) (d : D) : evT r (n + 1) (.k d) ρ h = (r.e (.k d) ρ h).bind fun d h1 => truthD d h1 := rfl
theorem t_fld (n : Nat) (a : E) (f : Nat) : evT r (n + 1) (.fld a f) ρ h = (r.e (.fld a f) ρ h).bind fun d h1 => truthD d h1 := rfl
/-! sources -/
theorem i_seq (e : E) : evI r (.seq e) ρ h = (evA r e ρ h).bind fun d h1 => match seqOf d with | some xs => .ok xs h1 | none => .bad := rfl
theorem i_range (es : List E) : evI r (.range es) ρ h = (evAs r es ρ h).bind fun ds h1 => match ds with
    | [.int j] => if rangeOk j then .ok (countUp j.toNat 0) h1 else .bad
    | [.int i, .int j] => if rangeOk i && rangeOk j then .ok (countUp (j - i).toNat i) h1 else .bad
    | _ => .bad := rfl
theorem i_enum (e : E) : evI r (.enum e) ρ h = (evA r e ρ h).bind fun d h1 => match seqOf d with
    | some xs => .ok (enumD 0 xs) h1
    | none => .bad := rfl
theorem i_enumz (a b : E) : evI r (.enumz a b) ρ h = (evAs r [a, b] ρ h).bind fun ds h1 => match ds with
    | [x, y] => match zipOf x y with
      | some xs => .ok (enumD 0 xs) h1
      | none => .bad
    | _ => .bad := rfl
theorem t_mt (n : Nat) (o : Op) (a b : E) : evT r (n + 1) (.mt o a b) ρ h = (r.e (.mt o a b) ρ h).bind fun d h1 => truthD d h1 := rfl
theorem t_opd1 (n : Nat) (o : Op) (a : E) : evT r (n + 1) (.opd1 o a) ρ h = (r.e (.opd1 o a) ρ h).bind fun d h1 => truthD d h1 := rfl
theorem t_opd2 (n : Nat) (o : Op) (a b : E) : evT r (n + 1) (.opd2 o a b) ρ h = (r.e (.opd2 o a b) ρ h).bind fun d h1 => truthD d h1 := rfl
theorem i_zip (a b : E) : evI r (.zip a b) ρ h = (evAs r [a, b] ρ h).bind fun ds h1 => match ds with
    | [x, y] => match zipOf x y with
      | some xs => .ok xs h1
      | none => .bad
    | _ => .bad := rfl
end
theorem bt_n (i : Nat) (d : D) (ρ : En) : bindTg (.n i) d ρ = some (setN ρ i d) := rfl
theorem bt_t (l : List Tg) (ds : List D) (ρ : En) : bindTg (.t l) (.tup ds) ρ = bindTgs l ds ρ := rfl
theorem bts_nil (ρ : En) : bindTgs [] [] ρ = some ρ := rfl
theorem bts_cons (t : Tg) (l : List Tg) (d : D) (ds : List D) (ρ : En) : bindTgs (t :: l) (d :: ds) ρ = (bindTg t d ρ).bind fun ρ1 => bindTgs l ds ρ1 := rfl
theorem truth_bl (b : Bool) (h : Hh) : truthD (.bl b) h = .ok b h := rfl
/-! loops, comprehensions -/
theorem for_nil {r : Ev} {tg : Tg} {b : List S} {ρ : En} {h : Hh} : evFor r tg b [] ρ h = .nx ρ h := rfl
theorem for_cons {r : Ev} {tg : Tg} {b : List S} {d : D} {ds : List D} {ρ : En} {h : Hh} : evFor r tg b (d :: ds) ρ h = match bindTg tg d ρ with
    | none => .bad
    | some ρ1 => match r.s b ρ1 h with
      | .nx ρ2 h2 => evFor r tg b ds ρ2 h2
      | .ct ρ2 h2 => evFor r tg b ds ρ2 h2
      | .bk ρ2 h2 => .nx ρ2 h2
      | x => x := rfl
/-- a loop that always goes on -/
theorem for_inv {r : Ev} {tg : Tg} {b : List S} {α : Type} (I : Nat → En → Hh → Prop) : ∀ (ds : List D) (k : Nat) (ρ : En) (h : Hh), I k ρ h →
    (∀ (i : Nat) (d : D) (ρ : En) (h : Hh), ds[i]? = some d → I (k + i) ρ h → ∃ ρ1 ρ2 h2, bindTg tg d ρ = some ρ1 ∧ r.s b ρ1 h = .nx ρ2 h2 ∧ I (k + i + 1) ρ2 h2) →
    ∃ ρ' h', evFor r tg b ds ρ h = .nx ρ' h' ∧ I (k + ds.length) ρ' h'
  | [], k, ρ, h, i0, _ => ⟨ρ, h, rfl, i0⟩
  | d :: ds, k, ρ, h, i0, st => by
    obtain ⟨ρ1, ρ2, h2, e1, e2, i1⟩ := st 0 d ρ h rfl i0
    obtain ⟨ρ', h', e3, i3⟩ := for_inv (α := α) I ds (k + 1) ρ2 h2 i1 fun i d ρ h e q => by
      have := st (i + 1) d ρ h (by simpa using e) (by rw [show k + (i + 1) = k + 1 + i by omega]; exact q)
      rw [show k + (i + 1) = k + 1 + i by omega] at this
      exact this
    refine ⟨ρ', h', ?_, by rw [List.length_cons, show k + (ds.length + 1) = k + 1 + ds.length by omega]; exact i3⟩
    rw [for_cons, e1]
    simp only [e2]
    exact e3
theorem c_nil {r : Ev} {n : Nat} {elt : E} {tg : Tg} {c : Option E} {ρ : En} {h : Hh} : evC r n elt tg c ρ [] h = .ok [] h := rfl
theorem c_cons {r : Ev} {n : Nat} {elt : E} {tg : Tg} {ρ : En} {d : D} {ds : List D} {h : Hh} : evC r n elt tg none ρ (d :: ds) h = match bindTg tg d ρ with
    | none => .bad
    | some ρ1 => (r.e elt ρ1 h).bind fun x h2 => (evC r n elt tg none ρ ds h2).bind fun xs h3 => .ok (x :: xs) h3 := rfl
theorem c_consI {r : Ev} {n : Nat} {elt c : E} {tg : Tg} {ρ : En} {d : D} {ds : List D} {h : Hh} : evC r n elt tg (some c) ρ (d :: ds) h = match bindTg tg d ρ with
    | none => .bad
    | some ρ1 => (evT r n c ρ1 h).bind fun b h1 => if b then (r.e elt ρ1 h1).bind fun x h2 => (evC r n elt tg (some c) ρ ds h2).bind fun xs h3 => .ok (x :: xs) h3 else evC r n elt tg (some c) ρ ds h1 := rfl
/-- a comprehension over things that come from xs, which changes nothing -/
theorem c_map {α : Type} {r : Ev} {n : Nat} {elt : E} {tg : Tg} {ρ : En} {h : Hh} (g f : α → D) : ∀ (xs : List α), (∀ a ∈ xs, ∃ ρ1, bindTg tg (g a) ρ = some ρ1 ∧ r.e elt ρ1 h = .ok (f a) h) →
    evC r n elt tg none ρ (xs.map g) h = .ok (xs.map f) h
  | [], _ => rfl
  | a :: xs, hx => by
    obtain ⟨ρ1, e1, e2⟩ := hx a (List.mem_cons_self ..)
    rw [List.map_cons, c_cons, e1]
    simp only [e2, R.ok_bind, c_map g f xs fun b hb => hx b (List.mem_cons_of_mem _ hb), List.map_cons]
theorem c_mapI {α : Type} {r : Ev} {n : Nat} {elt c : E} {tg : Tg} {ρ : En} {h : Hh} (g f : α → D) (p : α → Bool) : ∀ (xs : List α), (∀ a ∈ xs, ∃ ρ1, bindTg tg (g a) ρ = some ρ1 ∧ evT r n c ρ1 h = .ok (p a) h ∧ (p a = true → r.e elt ρ1 h = .ok (f a) h)) →
    evC r n elt tg (some c) ρ (xs.map g) h = .ok ((xs.filter p).map f) h
  | [], _ => rfl
  | a :: xs, hx => by
    obtain ⟨ρ1, e1, e2, e3⟩ := hx a (List.mem_cons_self ..)
    rw [List.map_cons, c_consI, e1]
    simp only [e2, R.ok_bind, c_mapI g f p xs fun b hb => hx b (List.mem_cons_of_mem _ hb), List.filter_cons]
    cases q : p a with
    | false => simp
    | true => rw [if_pos rfl, e3 q, R.ok_bind, c_mapI g f p xs fun b hb => hx b (List.mem_cons_of_mem _ hb)]; simp [R.ok_bind]
theorem countUp_map : ∀ (n : Nat) (i : Int), countUp n i = (List.range n).map fun (k : Nat) => .int (i + k)
  | 0, _ => rfl
  | n + 1, i => by
    rw [List.range_succ_eq_map, List.map_cons, List.map_map]
    show D.int i :: countUp n (i + 1) = _
    rw [countUp_map n (i + 1)]
    congr 1
    · simp
    · apply List.map_congr_left
      intro k _
      simp only [Function.comp]
      congr 1
      omega
theorem countUp0 (n : Nat) : countUp n 0 = (List.range n).map fun (k : Nat) => .int k := by
  rw [countUp_map]
  apply List.map_congr_left
  intro k _
  rw [Int.zero_add]
theorem zipD_map {α β : Type} (f : α → D) (g : β → D) : ∀ (xs : List α) (ys : List β), zipD (xs.map f) (ys.map g) = (xs.zip ys).map fun p => .tup [f p.1, g p.2]
  | [], _ => by simp [zipD]
  | _ :: _, [] => by simp [zipD]
  | x :: xs, y :: ys => by simp [zipD, zipD_map f g xs ys]
theorem bools_map {α : Type} (p : α → Bool) : ∀ (xs : List α), bools? (xs.map fun a => .bl (p a)) = some (xs.map p)
  | [] => rfl
  | x :: xs => by simp [bools?, bools_map p xs]
theorem ints_map {α : Type} (p : α → Int) : ∀ (xs : List α), ints? (xs.map fun a => .int (p a)) = some (xs.map p)
  | [] => rfl
  | x :: xs => by simp [ints?, ints_map p xs]
theorem strs_map {α : Type} (p : α → Tx) : ∀ (xs : List α), strs? (xs.map fun a => .str (p a)) = some (xs.map p)
  | [] => rfl
  | x :: xs => by simp [strs?, strs_map p xs]
theorem sizeOk_of {n : Nat} (h : n ≤ 16777216) : sizeOk n = true := by
  unfold sizeOk line
  exact Nat.ble_eq.mpr h
theorem okMul_r (i j : Int) (h : -18446744073709551616 < j ∧ j < 18446744073709551616) : okMul i j = true := by
  unfold okMul lim
  simp [h]
theorem okMul_l (i j : Int) (h : -18446744073709551616 < i ∧ i < 18446744073709551616) : okMul i j = true := by
  unfold okMul lim
  simp [h]
theorem rangeOk_i {i : Int} (h : -4611686018427387904 ≤ i ∧ i < 4611686018427387904) : rangeOk i = true := by
  unfold rangeOk big
  simp [h]
theorem oI {p : Prop} [Decidable p] {h : Hh} (x : D) : (match (if p then some x else none) with | some d => R.ok d h | none => .bad) = if p then .ok x h else .bad := by
  by_cases q : p
  · rw [if_pos q, if_pos q]
  · rw [if_neg q, if_neg q]
theorem oIm {p : Prop} [Decidable p] {h : Hh} (b : Bool) : (match (if p then some b else none).map D.bl with | some d => R.ok d h | none => .bad) = if p then .ok (.bl b) h else .bad := by
  by_cases q : p
  · rw [if_pos q, if_pos q]; rfl
  · rw [if_neg q, if_neg q]; rfl
/-! operations -/
section
variable {h : Hh}
theorem o_add (i j : Int) : evOp pg .add [.int i, .int j] h = .ok (.int (i + j)) h := rfl
theorem o_addS (x y : Tx) : evOp pg .add [.str x, .str y] h = if sizeOk (x.length + y.length) then .ok (.str (x ++ y)) h else .bad := oI _
theorem o_addL (x y : List D) : evOp pg .add [.lst x, .lst y] h = if sizeOk (x.length + y.length) then .ok (.lst (x ++ y)) h else .bad := oI _
theorem o_sub (i j : Int) : evOp pg .sub [.int i, .int j] h = .ok (.int (i - j)) h := rfl
theorem o_neg (i : Int) : evOp pg .neg [.int i] h = .ok (.int (-i)) h := rfl
theorem o_mul (i j : Int) : evOp pg .mul [.int i, .int j] h = if okMul i j then .ok (.int (i * j)) h else .bad := oI _
theorem o_mod (i j : Int) : evOp pg .mod [.int i, .int j] h = if 0 < j then .ok (.int (i % j)) h else .bad := oI _
theorem o_eqI (i j : Int) : evOp pg .eq [.int i, .int j] h = .ok (.bl (i == j)) h := rfl
theorem o_neI (i j : Int) : evOp pg .ne [.int i, .int j] h = .ok (.bl (!(i == j))) h := rfl
theorem o_eqS (i j : Tx) : evOp pg .eq [.str i, .str j] h = .ok (.bl (i == j)) h := rfl
theorem o_neS (i j : Tx) : evOp pg .ne [.str i, .str j] h = .ok (.bl (!(i == j))) h := rfl
theorem o_eqB (i j : Bool) : evOp pg .eq [.bl i, .bl j] h = .ok (.bl (i == j)) h := rfl
theorem o_neB (i j : Bool) : evOp pg .ne [.bl i, .bl j] h = .ok (.bl (!(i == j))) h := rfl
theorem o_eqL (x y : List D) : evOp pg .eq [.lst x, .lst y] h = if okD (.lst x) && okD (.lst y) then .ok (.bl (deqs x y)) h else .bad := oIm _
theorem o_eqT (x y : List D) : evOp pg .eq [.tup x, .tup y] h = if okD (.tup x) && okD (.tup y) then .ok (.bl (deqs x y)) h else .bad := oIm _
theorem o_lt (i j : Int) : evOp pg .lt [.int i, .int j] h = .ok (.bl (decide (i < j))) h := rfl
theorem o_ltS (i j : Tx) : evOp pg .lt [.str i, .str j] h = .ok (.bl (decide (i < j))) h := rfl
theorem o_le (i j : Int) : evOp pg .le [.int i, .int j] h = .ok (.bl (decide (i ≤ j))) h := rfl
theorem o_gt (i j : Int) : evOp pg .gt [.int i, .int j] h = .ok (.bl (decide (j < i))) h := rfl
theorem o_ge (i j : Int) : evOp pg .ge [.int i, .int j] h = .ok (.bl (decide (j ≤ i))) h := rfl
theorem o_isT (b : Bool) : evOp pg .isTrue [.bl b] h = .ok (.bl b) h := rfl
theorem o_notT (b : Bool) : evOp pg .notTrue [.bl b] h = .ok (.bl (!b)) h := rfl
theorem o_inS (c : Nat) (y : Tx) : evOp pg .isin [.str [c], .str y] h = .ok (.bl (y.contains c)) h := rfl
theorem o_lenL (x : List D) : evOp pg .len [.lst x] h = .ok (.int x.length) h := rfl
theorem o_lenT (x : List D) : evOp pg .len [.tup x] h = .ok (.int x.length) h := rfl
theorem o_lenS (x : Tx) : evOp pg .len [.str x] h = if sizeOk x.length then .ok (.int x.length) h else .bad := oI _
theorem o_idxL (x : List D) (i : Int) : evOp pg .idx [.lst x, .int i] h = match at? x i with | some d => .ok d h | none => .bad := rfl
theorem o_idxT (x : List D) (i : Int) : evOp pg .idx [.tup x, .int i] h = match at? x i with | some d => .ok d h | none => .bad := rfl
theorem o_idxS (x : Tx) (i : Int) : evOp pg .idx [.str x, .int i] h = if sizeOk x.length then match at? x i with | some c => .ok (.str [c]) h | none => .bad else .bad := by
  show (match (if sizeOk x.length then (at? x i).map fun c => D.str [c] else none) with | some d => R.ok d h | none => .bad) = _
  by_cases q : sizeOk x.length = true
  · rw [if_pos q, if_pos q]
    cases at? x i <;> rfl
  · rw [if_neg q, if_neg q]
theorem o_all {α : Type} (p : α → Bool) (xs : List α) : evOp pg .all [.lst (xs.map fun a => .bl (p a))] h = .ok (.bl (xs.all p)) h := by
  show (match (bools? (xs.map fun a => .bl (p a))).map fun bs => D.bl (bs.all id) with | some d => R.ok d h | none => .bad) = _
  rw [bools_map]
  simp only [Option.map_some, List.all_map]
  rfl
theorem o_any {α : Type} (p : α → Bool) (xs : List α) : evOp pg .any [.lst (xs.map fun a => .bl (p a))] h = .ok (.bl (xs.any p)) h := by
  show (match (bools? (xs.map fun a => .bl (p a))).map fun bs => D.bl (bs.any id) with | some d => R.ok d h | none => .bad) = _
  rw [bools_map]
  simp only [Option.map_some, List.any_map]
  rfl
theorem o_split (x : Tx) (c : Nat) : evOp pg .split [.str x, .str [c]] h = if Nat.blt c 256 && sizeOk (x.length + 2) then .ok (.lst ((splitOn c x).map .str)) h else .bad := oI _
theorem o_join (x : Tx) (ts : List Tx) : evOp pg .join [.str x, .lst (ts.map .str)] h = if sizeOk ((ts.map List.length).sum + ts.length * x.length) then .ok (.str (joinT x ts)) h else .bad := by
  show (match oJoin (.str x) (.lst (ts.map .str)) with | some d => R.ok d h | none => .bad) = _
  unfold oJoin
  have : strs? (ts.map .str) = some ts := by
    have := strs_map (fun x : Tx => x) ts
    simpa using this
  simp only [this]
  exact oI _
theorem o_tupL (x : List D) : evOp pg .tuple [.lst x] h = .ok (.tup x) h := rfl
theorem o_tupT (x : List D) : evOp pg .tuple [.tup x] h = .ok (.tup x) h := rfl
theorem o_listL (x : List D) : evOp pg .list [.lst x] h = .ok (.lst x) h := rfl
theorem o_listT (x : List D) : evOp pg .list [.tup x] h = .ok (.lst x) h := rfl
theorem o_int (i : Int) : evOp pg .int [.int i] h = .ok (.int i) h := rfl
theorem o_count (x : Tx) (c : Nat) : evOp pg .count [.str x, .str [c]] h = .ok (.int (x.count c)) h := rfl
theorem o_eqNil (xs : List D) (ok : okD (.lst xs) = true) : evOp pg .eq [.lst xs, .lst []] h = .ok (.bl xs.isEmpty) h := by
  rw [o_eqL, ok]
  cases xs <;> rfl
theorem o_neL (x y : List D) : evOp pg .ne [.lst x, .lst y] h = if okD (.lst x) && okD (.lst y) then .ok (.bl (!deqs x y)) h else .bad := by
  show (match ((if okD (.lst x) && okD (.lst y) then some (deqs x y) else none).map fun b => D.bl (!b)) with | some d => R.ok d h | none => .bad) = _
  by_cases q : (okD (.lst x) && okD (.lst y)) = true
  · rw [if_pos q, if_pos q]; rfl
  · rw [if_neg q, if_neg q]; rfl
theorem o_neNil (xs : List D) (ok : okD (.lst xs) = true) : evOp pg .ne [.lst xs, .lst []] h = .ok (.bl (!xs.isEmpty)) h := by
  rw [o_neL, ok]
  cases xs <;> rfl
theorem o_max2 (i j : Int) : evOp pg .max [.int i, .int j] h = .ok (.int (if j > i then j else i)) h := rfl
end
theorem at_nat {α : Type} (xs : List α) (i : Nat) (h : i < xs.length) : at? xs (i : Int) = some xs[i] := by
  unfold at? ixOf
  rw [if_pos (by omega), if_pos (by omega)]
  simp [h]
theorem at_int {α : Type} (xs : List α) (i : Int) (h0 : 0 ≤ i) (h : i.toNat < xs.length) : at? xs i = some xs[i.toNat] := by
  unfold at? ixOf
  rw [if_pos (by omega), if_pos (by omega)]
  simp [h]
theorem at_z {α : Type} (x : α) (l : List α) : at? (x :: l) 0 = some x := by
  unfold at? ixOf
  simp
theorem blt_of {a b : Nat} (h : a < b) : Nat.blt a b = true := by
  unfold Nat.blt
  exact Nat.ble_eq.mpr h
end PI
namespace PI
variable {pg : Pg} {w : Nat} {c : Cf}
section
variable {h : Hh}
theorem o_isiN (ts : List TyC) : evOp pg (.isi ts) [.non] h = .ok (.bl (ts.any (isC pg .non))) h := rfl
theorem o_isiI (ts : List TyC) (i : Int) : evOp pg (.isi ts) [.int i] h = .ok (.bl (ts.any (isC pg (.int i)))) h := rfl
theorem o_isiB (ts : List TyC) (i : Bool) : evOp pg (.isi ts) [.bl i] h = .ok (.bl (ts.any (isC pg (.bl i)))) h := rfl
theorem o_isiS (ts : List TyC) (i : Tx) : evOp pg (.isi ts) [.str i] h = .ok (.bl (ts.any (isC pg (.str i)))) h := rfl
theorem o_isiL (ts : List TyC) (i : List D) : evOp pg (.isi ts) [.lst i] h = .ok (.bl (ts.any (isC pg (.lst i)))) h := rfl
theorem o_isiT (ts : List TyC) (i : List D) : evOp pg (.isi ts) [.tup i] h = .ok (.bl (ts.any (isC pg (.tup i)))) h := rfl
theorem o_eqN : evOp pg .eq [.non, .non] h = .ok (.bl true) h := rfl
end
theorem dat_strs : ∀ (ts : List Tx), (∀ t ∈ ts, ∀ c ∈ t, c < 1114112) → dats (ts.map .str) = true
  | [], _ => rfl
  | t :: ts, hc => by
    show (t.all (fun c => Nat.blt c 1114112) && dats (ts.map .str)) = true
    rw [dat_strs ts fun u hu => hc u (List.mem_cons_of_mem _ hu), Bool.and_true, List.all_eq_true]
    exact fun c h => blt_of (hc t (List.mem_cons_self ..) c h)
theorem dep_strs : ∀ (ts : List Tx), deps (ts.map .str) = 0
  | [] => rfl
  | t :: ts => by
    show Nat.max 0 (deps (ts.map .str)) = 0
    rw [dep_strs ts]
    rfl
theorem okD_strs (ts : List Tx) (hc : ∀ t ∈ ts, ∀ c ∈ t, c < 1114112) : okD (.lst (ts.map .str)) = true := by
  show (dats (ts.map .str) && Nat.ble (deps (ts.map .str) + 1) 64) = true
  rw [dat_strs ts hc, dep_strs]
  rfl
theorem dat_ints : ∀ (ts : List Int), dats (ts.map .int) = true
  | [] => rfl
  | t :: ts => dat_ints ts
theorem dep_ints : ∀ (ts : List Int), deps (ts.map .int) = 0
  | [] => rfl
  | t :: ts => by
    show Nat.max 0 (deps (ts.map .int)) = 0
    rw [dep_ints ts]
    rfl
theorem okD_ints (ts : List Int) : okD (.lst (ts.map .int)) = true := by
  show (dats (ts.map .int) && Nat.ble (deps (ts.map .int) + 1) 64) = true
  rw [dat_ints ts, dep_ints]
  rfl
theorem zipD_self : ∀ (xs : List D), zipD xs xs = xs.map fun x => .tup [x, x]
  | [] => rfl
  | x :: xs => by simp [zipD, zipD_self xs]
/-- things that a law may compare: k deep -/
inductive Lk : Nat → D → Prop
  | non (k : Nat) : Lk k .non
  | bl (k : Nat) (b : Bool) : Lk k (.bl b)
  | int (k : Nat) (i : Int) : Lk k (.int i)
  | str (k : Nat) (x : Tx) : Lk k (.str x)
  | lst {k : Nat} {xs : List D} : xs.length ≤ 16777216 → (∀ x ∈ xs, Lk k x) → Lk (k + 1) (.lst xs)
  | tup {k : Nat} {xs : List D} : xs.length ≤ 16777216 → (∀ x ∈ xs, Lk k x) → Lk (k + 1) (.tup xs)
end PI
end
section
set_option linter.all false
set_option maxRecDepth 100000
namespace K04
open PI
def f_is_number : Fn := ⟨3, [(10, none), (11, none), (12, none)], false, [],
    [.ret (.and (.op (.isi [.blt .int]) [(.v 0)]) (.and (.not (.op (.isi [.blt .bool]) [(.v 0)])) (.chain .le .le (.v 1) (.v 0) (.v 2))))]⟩
def ce_is_letters_1 : E := (.op .isin [(.v 2), (.k (.str [97, 98, 99, 100, 101, 102, 103, 104, 105, 106, 107, 108, 109, 110, 111, 112, 113, 114, 115, 116, 117, 118, 119, 120, 121, 122]))])
theorem qce_is_letters_1 {P : Pg} {r : Ev} {n : Nat} {y : Option Sl} {ρ : En} {h : Hh} : stepE P r n ce_is_letters_1 (y :: ρ) h = stepE P r n (.op .isin [(.v 2), (.k (.str [97, 98, 99, 100, 101, 102, 103, 104, 105, 106, 107, 108, 109, 110, 111, 112, 113, 114, 115, 116, 117, 118, 119, 120, 121, 122]))]) (y :: ρ) h := rfl
theorem tce_is_letters_1 {r : Ev} {n : Nat} {y : Option Sl} {ρ : En} {h : Hh} : evT r n ce_is_letters_1 (y :: ρ) h = evT r n (.op .isin [(.v 2), (.k (.str [97, 98, 99, 100, 101, 102, 103, 104, 105, 106, 107, 108, 109, 110, 111, 112, 113, 114, 115, 116, 117, 118, 119, 120, 121, 122]))]) (y :: ρ) h := rfl
def ce_is_letters_2 : E := (.op .lt [(.op .idx [(.v 0), (.v 3)]), (.op .idx [(.v 0), (.op .add [(.v 3), (.k (.int 1))])])])
theorem qce_is_letters_2 {P : Pg} {r : Ev} {n : Nat} {y : Option Sl} {ρ : En} {h : Hh} : stepE P r n ce_is_letters_2 (y :: ρ) h = stepE P r n (.op .lt [(.op .idx [(.v 0), (.v 3)]), (.op .idx [(.v 0), (.op .add [(.v 3), (.k (.int 1))])])]) (y :: ρ) h := rfl
theorem tce_is_letters_2 {r : Ev} {n : Nat} {y : Option Sl} {ρ : En} {h : Hh} : evT r n ce_is_letters_2 (y :: ρ) h = evT r n (.op .lt [(.op .idx [(.v 0), (.v 3)]), (.op .idx [(.v 0), (.op .add [(.v 3), (.k (.int 1))])])]) (y :: ρ) h := rfl
def f_is_letters : Fn := ⟨4, [(13, none), (12, none)], false, [],
    [.iff (.or (.not (.chain .le .le (.k (.int 1)) (.op .len [(.v 0)]) (.v 1))) (.not (.op .all [(.comp ce_is_letters_1 (.n 2) (.seq (.v 0)) none)])))
      [.ret (.k (.bl false))]
      [],
     .ret (.op .all [(.comp ce_is_letters_2 (.n 3) (.range [(.op .sub [(.op .len [(.v 0)]), (.k (.int 1))])]) none)])]⟩
def f_is_shift : Fn := ⟨2, [(10, none), (14, none)], false, [],
    [.ret (.and (.op (.isi [.blt .str]) [(.v 0)]) (.and (.op .eq [(.op .len [(.v 0)]), (.k (.int 1))]) (.op .isin [(.v 0), (.v 1)])))]⟩
def f_is_need : Fn := ⟨8, [(15, none), (14, none), (16, none)], false, [],
    [.never, .never, .never, .never, .never, .never, .never]⟩
def ce_meets_1 : E := (.v 4)
theorem qce_meets_1 {P : Pg} {r : Ev} {n : Nat} {y : Option Sl} {ρ : En} {h : Hh} : stepE P r n ce_meets_1 (y :: ρ) h = stepE P r n (.v 4) (y :: ρ) h := rfl
theorem tce_meets_1 {r : Ev} {n : Nat} {y : Option Sl} {ρ : En} {h : Hh} : evT r n ce_meets_1 (y :: ρ) h = evT r n (.v 4) (y :: ρ) h := rfl
def cc_meets_2 : E := (.op .eq [(.v 4), (.op .idx [(.v 3), (.k (.int 0))])])
theorem qcc_meets_2 {P : Pg} {r : Ev} {n : Nat} {y : Option Sl} {ρ : En} {h : Hh} : stepE P r n cc_meets_2 (y :: ρ) h = stepE P r n (.op .eq [(.v 4), (.op .idx [(.v 3), (.k (.int 0))])]) (y :: ρ) h := rfl
theorem tcc_meets_2 {r : Ev} {n : Nat} {y : Option Sl} {ρ : En} {h : Hh} : evT r n cc_meets_2 (y :: ρ) h = evT r n (.op .eq [(.v 4), (.op .idx [(.v 3), (.k (.int 0))])]) (y :: ρ) h := rfl
def ce_meets_3 : E := (.v 4)
theorem qce_meets_3 {P : Pg} {r : Ev} {n : Nat} {y : Option Sl} {ρ : En} {h : Hh} : stepE P r n ce_meets_3 (y :: ρ) h = stepE P r n (.v 4) (y :: ρ) h := rfl
theorem tce_meets_3 {r : Ev} {n : Nat} {y : Option Sl} {ρ : En} {h : Hh} : evT r n ce_meets_3 (y :: ρ) h = evT r n (.v 4) (y :: ρ) h := rfl
def cc_meets_4 : E := (.op .eq [(.v 4), (.op .idx [(.v 3), (.k (.int 0))])])
theorem qcc_meets_4 {P : Pg} {r : Ev} {n : Nat} {y : Option Sl} {ρ : En} {h : Hh} : stepE P r n cc_meets_4 (y :: ρ) h = stepE P r n (.op .eq [(.v 4), (.op .idx [(.v 3), (.k (.int 0))])]) (y :: ρ) h := rfl
theorem tcc_meets_4 {r : Ev} {n : Nat} {y : Option Sl} {ρ : En} {h : Hh} : evT r n cc_meets_4 (y :: ρ) h = evT r n (.op .eq [(.v 4), (.op .idx [(.v 3), (.k (.int 0))])]) (y :: ρ) h := rfl
def f_meets : Fn := ⟨8, [(17, none), (15, none)], false, [],
    [.unps [2] 3 (.v 1),
     .iff (.op .eq [(.v 2), (.k (.str [108, 101, 97, 115, 116]))])
      [.ret (.op .ge [(.op .len [(.comp ce_meets_1 (.n 4) (.seq (.v 0)) (some cc_meets_2))]), (.op .idx [(.v 3), (.k (.int 1))])])]
      [],
     .iff (.op .eq [(.v 2), (.k (.str [109, 111, 115, 116]))])
      [.ret (.op .le [(.op .len [(.comp ce_meets_3 (.n 4) (.seq (.v 0)) (some cc_meets_4))]), (.op .idx [(.v 3), (.k (.int 1))])])]
      [],
     .iff (.op .eq [(.v 2), (.k (.str [110, 101, 118, 101, 114]))])
      [.ret (.op .ne [(.op .idx [(.v 0), (.op .idx [(.v 3), (.k (.int 0))])]), (.op .idx [(.v 3), (.k (.int 1))])])]
      [],
     .asg (.t [.n 5, .n 6, .n 7]) (.v 3),
     .ret (.or (.op .ne [(.op .idx [(.v 0), (.v 5)]), (.v 7)]) (.op .ne [(.op .idx [(.v 0), (.v 6)]), (.v 7)]))]⟩
def ce_all_strings_1 : E := (.op .add [(.v 4), (.v 5)])
theorem qce_all_strings_1 {P : Pg} {r : Ev} {n : Nat} {y : Option Sl} {ρ : En} {h : Hh} : stepE P r n ce_all_strings_1 (y :: ρ) h = stepE P r n (.op .add [(.v 4), (.v 5)]) (y :: ρ) h := rfl
theorem tce_all_strings_1 {r : Ev} {n : Nat} {y : Option Sl} {ρ : En} {h : Hh} : evT r n ce_all_strings_1 (y :: ρ) h = evT r n (.op .add [(.v 4), (.v 5)]) (y :: ρ) h := rfl
def lp_all_strings_1 : List S := [.set 2 (.comp2 ce_all_strings_1 (.n 4) (.seq (.v 2)) (.n 5) (.seq (.v 0)) none)]
theorem qlp_all_strings_1 {P : Pg} {r : Ev} {w n : Nat} {y : Option Sl} {ρ : En} {h : Hh} : stepSs P r w n lp_all_strings_1 (y :: ρ) h = stepSs P r w n [.set 2 (.comp2 ce_all_strings_1 (.n 4) (.seq (.v 2)) (.n 5) (.seq (.v 0)) none)] (y :: ρ) h := rfl
def f_all_strings : Fn := ⟨6, [(14, none), (16, none)], false, [],
    [.set 2 (.lst [.one (.k (.str []))]),
     .for (.n 3) (.range [(.v 1)]) lp_all_strings_1,
     .ret (.v 2)]⟩
def lp_Crew___init___1 : List S := [.iff (.not (.call 3 [.one (.v 5), .one (.v 1), .one (.v 2)] []))
      [.never]
      []]
theorem qlp_Crew___init___1 {P : Pg} {r : Ev} {w n : Nat} {y : Option Sl} {ρ : En} {h : Hh} : stepSs P r w n lp_Crew___init___1 (y :: ρ) h = stepSs P r w n [.iff (.not (.call 3 [.one (.v 5), .one (.v 1), .one (.v 2)] []))
      [.never]
      []] (y :: ρ) h := rfl
def ce_Crew___init___1 : E := (.v 7)
theorem qce_Crew___init___1 {P : Pg} {r : Ev} {n : Nat} {y : Option Sl} {ρ : En} {h : Hh} : stepE P r n ce_Crew___init___1 (y :: ρ) h = stepE P r n (.v 7) (y :: ρ) h := rfl
theorem tce_Crew___init___1 {r : Ev} {n : Nat} {y : Option Sl} {ρ : En} {h : Hh} : evT r n ce_Crew___init___1 (y :: ρ) h = evT r n (.v 7) (y :: ρ) h := rfl
def ce_Crew___init___3 : E := (.call 4 [.one (.v 7), .one (.v 5)] [])
theorem qce_Crew___init___3 {P : Pg} {r : Ev} {n : Nat} {y : Option Sl} {ρ : En} {h : Hh} : stepE P r n ce_Crew___init___3 (y :: ρ) h = stepE P r n (.call 4 [.one (.v 7), .one (.v 5)] []) (y :: ρ) h := rfl
theorem tce_Crew___init___3 {r : Ev} {n : Nat} {y : Option Sl} {ρ : En} {h : Hh} : evT r n ce_Crew___init___3 (y :: ρ) h = evT r n (.call 4 [.one (.v 7), .one (.v 5)] []) (y :: ρ) h := rfl
def cc_Crew___init___2 : E := (.op .all [(.comp ce_Crew___init___3 (.n 5) (.seq (.v 3)) none)])
theorem qcc_Crew___init___2 {P : Pg} {r : Ev} {n : Nat} {y : Option Sl} {ρ : En} {h : Hh} : stepE P r n cc_Crew___init___2 (y :: ρ) h = stepE P r n (.op .all [(.comp ce_Crew___init___3 (.n 5) (.seq (.v 3)) none)]) (y :: ρ) h := rfl
theorem tcc_Crew___init___2 {r : Ev} {n : Nat} {y : Option Sl} {ρ : En} {h : Hh} : evT r n cc_Crew___init___2 (y :: ρ) h = evT r n (.op .all [(.comp ce_Crew___init___3 (.n 5) (.seq (.v 3)) none)]) (y :: ρ) h := rfl
def f_Crew___init__ : Fn := ⟨8, [(18, none), (14, none)], true, [(16, some (.int 1))],
    [.iff (.not (.call 1 [.one (.v 1), .one (.k (.int 4))] []))
      [.never]
      [],
     .iff (.not (.call 0 [.one (.v 2), .one (.k (.int 1)), .one (.k (.int 3))] []))
      [.never]
      [],
     .for (.t [(.n 4), (.n 5)]) (.enum (.v 3)) lp_Crew___init___1,
     .setF (.v 0) 19 (.v 1),
     .setF (.v 0) 20 (.v 2),
     .setF (.v 0) 21 (.op .list [(.v 3)]),
     .set 6 (.call 5 [.one (.v 1), .one (.v 2)] []),
     .setF (.v 0) 22 (.comp ce_Crew___init___1 (.n 7) (.seq (.v 6)) (some cc_Crew___init___2)),
     .iff (.op .gt [(.op .len [(.fld (.v 0) 22)]), (.k (.int 24))])
      [.never]
      []]⟩
def f_Crew_plain : Fn := ⟨2, [(23, none), (14, none)], false, [],
    [.ret (.newv 0 [.one (.v 1)] [])]⟩
def f_Crew_shifts : Fn := ⟨1, [(18, none)], false, [],
    [.ret (.fld (.v 0) 19)]⟩
def f_Crew_workers : Fn := ⟨1, [(18, none)], false, [],
    [.ret (.fld (.v 0) 20)]⟩
def f_Crew_needs : Fn := ⟨1, [(18, none)], false, [],
    [.ret (.op .list [(.fld (.v 0) 21)])]⟩
def f_Crew_days : Fn := ⟨1, [(18, none)], false, [],
    [.ret (.op .list [(.fld (.v 0) 22)])]⟩
def f_Crew___contains__ : Fn := ⟨2, [(18, none), (17, none)], false, [],
    [.ret (.op .isin [(.v 1), (.fld (.v 0) 22)])]⟩
def f_Crew___len__ : Fn := ⟨1, [(18, none)], false, [],
    [.ret (.op .len [(.fld (.v 0) 22)])]⟩
def f_Crew___eq__ : Fn := ⟨2, [(18, none), (24, none)], false, [],
    [.iff (.or (.not (.op (.isi [.own 5]) [(.v 1)])) (.op .ne [(.fld (.v 0) 19), (.fld (.v 1) 19)]))
      [.ret (.k (.bl false))]
      [],
     .ret (.and (.op .eq [(.fld (.v 0) 20), (.fld (.v 1) 20)]) (.op .eq [(.fld (.v 0) 22), (.fld (.v 1) 22)]))]⟩
def f_Crew___repr__ : Fn := ⟨1, [(18, none)], false, [],
    [.never]⟩
def ce_shifts_of_1 : E := (.op .idx [(.v 2), (.v 1)])
theorem qce_shifts_of_1 {P : Pg} {r : Ev} {n : Nat} {y : Option Sl} {ρ : En} {h : Hh} : stepE P r n ce_shifts_of_1 (y :: ρ) h = stepE P r n (.op .idx [(.v 2), (.v 1)]) (y :: ρ) h := rfl
theorem tce_shifts_of_1 {r : Ev} {n : Nat} {y : Option Sl} {ρ : En} {h : Hh} : evT r n ce_shifts_of_1 (y :: ρ) h = evT r n (.op .idx [(.v 2), (.v 1)]) (y :: ρ) h := rfl
def f_shifts_of : Fn := ⟨3, [(25, none), (26, none)], false, [],
    [.ret (.mt .join (.k (.str [])) (.comp ce_shifts_of_1 (.n 2) (.seq (.v 0)) none))]⟩
def lp__law_bag_1 : List S := [.set 1 (.op .mod [(.op .int [(.op .add [(.op .add [(.op .mul [(.v 1), (.k (.int 50021))]), (.op .mod [(.op .int [(.v 2)]), (.k (.int 2147483423))])]), (.k (.int 71))])]), (.k (.int 2147483563))])]
theorem qlp__law_bag_1 {P : Pg} {r : Ev} {w n : Nat} {y : Option Sl} {ρ : En} {h : Hh} : stepSs P r w n lp__law_bag_1 (y :: ρ) h = stepSs P r w n [.set 1 (.op .mod [(.op .int [(.op .add [(.op .add [(.op .mul [(.v 1), (.k (.int 50021))]), (.op .mod [(.op .int [(.v 2)]), (.k (.int 2147483423))])]), (.k (.int 71))])]), (.k (.int 2147483563))])] (y :: ρ) h := rfl
def f__law_bag : Fn := ⟨3, [(27, none)], false, [],
    [.set 1 (.k (.int 5764)),
     .for (.n 2) (.seq (.op (.slc false true) [(.v 0), (.k (.int 63))])) lp__law_bag_1,
     .ret (.cell [.one (.op .list [(.op (.slc false true) [(.v 0), (.k (.int 63))])]), .one (.k (.int 0)), .one (.k (.int 0)), .one (.v 1), .one (.k (.int 0))])]⟩
def f__law_draw : Fn := ⟨5, [(28, none), (29, none)], false, [],
    [.setI (.v 0) (.k (.int 4)) (.op .add [(.op .idx [(.v 0), (.k (.int 4))]), (.k (.int 1))]),
     .iff (.and (.op .eq [(.op .idx [(.v 0), (.k (.int 2))]), (.k (.int 0))]) (.op .lt [(.op .idx [(.v 0), (.k (.int 1))]), (.op .len [(.op .idx [(.v 0), (.k (.int 0))])])]))
      [.set 2 (.op .idx [(.op .idx [(.v 0), (.k (.int 0))]), (.op .idx [(.v 0), (.k (.int 1))])]), .setI (.v 0) (.k (.int 1)) (.op .add [(.op .idx [(.v 0), (.k (.int 1))]), (.k (.int 1))]), .iff (.op .ge [(.v 2), (.op .pow [(.k (.int 10)), (.k (.int 18))])])
      [.setI (.v 0) (.k (.int 2)) (.v 2)]
      [.setI (.v 0) (.k (.int 3)) (.op .mod [(.op .int [(.op .add [(.op .add [(.op .mul [(.op .idx [(.v 0), (.k (.int 3))]), (.k (.int 39989))]), (.op .mul [(.op .mod [(.op .int [(.v 2)]), (.k (.int 2147483423))]), (.k (.int 30011))])]), (.k (.int 83))])]), (.k (.int 2147483563))])]]
      [],
     .iff (.op .gt [(.op .idx [(.v 0), (.k (.int 2))]), (.k (.int 0))])
      [.set 3 (.op .mod [(.op .int [(.op .idx [(.v 0), (.k (.int 2))])]), (.v 1)]), .setI (.v 0) (.k (.int 2)) (.op .fdiv [(.op .idx [(.v 0), (.k (.int 2))]), (.v 1)]), .ret (.v 3)]
      [],
     .set 4 (.op .idx [(.v 0), (.k (.int 3))]),
     .setI (.v 0) (.k (.int 3)) (.op .mod [(.op .int [(.op .add [(.op .add [(.op .add [(.op .mul [(.op .mul [(.v 4), (.v 4)]), (.k (.int 13))]), (.op .mul [(.v 4), (.k (.int 42013))])]), (.op .mul [(.op .idx [(.v 0), (.k (.int 4))]), (.k (.int 1299743))])]), (.k (.int 50021))])]), (.k (.int 2147483563))]),
     .ret (.op .mod [(.op .int [(.op .add [(.op .fdiv [(.op .idx [(.v 0), (.k (.int 3))]), (.k (.int 97))]), (.op .mul [(.op .mod [(.op .int [(.op .idx [(.v 0), (.k (.int 3))])]), (.k (.int 7927))]), (.k (.int 59))])])]), (.v 1)])]⟩
def f__law_pick : Fn := ⟨2, [(28, none), (30, none)], false, [],
    [.ret (.op .idx [(.v 1), (.call 18 [.one (.v 0), .one (.op .len [(.v 1)])] [])])]⟩
def lp__law_shifts_1 : List S := [.set 4 (.op .add [(.v 4), (.op .idx [(.v 2), (.v 3)])]), .set 3 (.op .add [(.op .add [(.v 3), (.k (.int 1))]), (.call 18 [.one (.v 0), .one (.k (.int 5))] [])])]
theorem qlp__law_shifts_1 {P : Pg} {r : Ev} {w n : Nat} {y : Option Sl} {ρ : En} {h : Hh} : stepSs P r w n lp__law_shifts_1 (y :: ρ) h = stepSs P r w n [.set 4 (.op .add [(.v 4), (.op .idx [(.v 2), (.v 3)])]), .set 3 (.op .add [(.op .add [(.v 3), (.k (.int 1))]), (.call 18 [.one (.v 0), .one (.k (.int 5))] [])])] (y :: ρ) h := rfl
def f__law_shifts : Fn := ⟨6, [(28, none), (31, none)], false, [],
    [.par [2, 3, 4] [(.k (.str [97, 98, 99, 100, 101, 102, 103, 104, 105, 106, 107, 108, 109, 110, 111, 112, 113, 114, 115, 116, 117, 118, 119, 120, 121, 122])), (.call 18 [.one (.v 0), .one (.k (.int 8))] []), (.k (.str []))],
     .for (.n 5) (.range [(.v 1)]) lp__law_shifts_1,
     .ret (.v 4)]⟩
def f__law_need : Fn := ⟨6, [(28, none), (32, none), (33, none)], false, [],
    [.par [3, 4] [(.call 18 [.one (.v 0), .one (.ite (.op .gt [(.v 2), (.k (.int 1))]) (.k (.int 4)) (.k (.int 3)))] []), (.call 19 [.one (.v 0), .one (.v 1)] [])],
     .iff (.op .lt [(.v 3), (.k (.int 2))])
      [.ret (.tup [.one (.op .idx [(.lst [.one (.k (.str [108, 101, 97, 115, 116])), .one (.k (.str [109, 111, 115, 116]))]), (.v 3)]), .one (.v 4), .one (.call 18 [.one (.v 0), .one (.op .add [(.v 2), (.k (.int 1))])] [])])]
      [],
     .iff (.op .eq [(.v 3), (.k (.int 2))])
      [.ret (.tup [.one (.k (.str [110, 101, 118, 101, 114])), .one (.call 18 [.one (.v 0), .one (.v 2)] []), .one (.v 4)])]
      [],
     .set 5 (.call 18 [.one (.v 0), .one (.v 2)] []),
     .ret (.tup [.one (.k (.str [97, 112, 97, 114, 116])), .one (.v 5), .one (.op .mod [(.op .int [(.op .add [(.op .add [(.v 5), (.k (.int 1))]), (.call 18 [.one (.v 0), .one (.op .sub [(.v 2), (.k (.int 1))])] [])])]), (.v 2)]), .one (.v 4)])]⟩
def ce__law_strings_1 : E := (.op .add [(.v 5), (.v 6)])
theorem qce__law_strings_1 {P : Pg} {r : Ev} {n : Nat} {y : Option Sl} {ρ : En} {h : Hh} : stepE P r n ce__law_strings_1 (y :: ρ) h = stepE P r n (.op .add [(.v 5), (.v 6)]) (y :: ρ) h := rfl
theorem tce__law_strings_1 {r : Ev} {n : Nat} {y : Option Sl} {ρ : En} {h : Hh} : evT r n ce__law_strings_1 (y :: ρ) h = evT r n (.op .add [(.v 5), (.v 6)]) (y :: ρ) h := rfl
def lp__law_strings_2 : List S := [.set 4 (.op .add [(.v 4), (.comp ce__law_strings_1 (.n 6) (.seq (.v 0)) none)])]
theorem qlp__law_strings_2 {P : Pg} {r : Ev} {w n : Nat} {y : Option Sl} {ρ : En} {h : Hh} : stepSs P r w n lp__law_strings_2 (y :: ρ) h = stepSs P r w n [.set 4 (.op .add [(.v 4), (.comp ce__law_strings_1 (.n 6) (.seq (.v 0)) none)])] (y :: ρ) h := rfl
def lp__law_strings_1 : List S := [.set 4 (.lst []), .for (.n 5) (.seq (.v 2)) lp__law_strings_2, .set 2 (.v 4)]
theorem qlp__law_strings_1 {P : Pg} {r : Ev} {w n : Nat} {y : Option Sl} {ρ : En} {h : Hh} : stepSs P r w n lp__law_strings_1 (y :: ρ) h = stepSs P r w n [.set 4 (.lst []), .for (.n 5) (.seq (.v 2)) lp__law_strings_2, .set 2 (.v 4)] (y :: ρ) h := rfl
def f__law_strings : Fn := ⟨7, [(32, none), (33, none)], false, [],
    [.set 2 (.lst [.one (.k (.str []))]),
     .for (.n 3) (.range [(.v 1)]) lp__law_strings_1,
     .ret (.v 2)]⟩
def f__law_meets : Fn := ⟨2, [(34, none), (35, none)], false, [],
    [.iff (.op .eq [(.op .idx [(.v 1), (.k (.int 0))]), (.k (.str [108, 101, 97, 115, 116]))])
      [.ret (.op .ge [(.mt .count (.v 0) (.op .idx [(.v 1), (.k (.int 1))])), (.op .idx [(.v 1), (.k (.int 2))])])]
      [],
     .iff (.op .eq [(.op .idx [(.v 1), (.k (.int 0))]), (.k (.str [109, 111, 115, 116]))])
      [.ret (.op .le [(.mt .count (.v 0) (.op .idx [(.v 1), (.k (.int 1))])), (.op .idx [(.v 1), (.k (.int 2))])])]
      [],
     .iff (.op .eq [(.op .idx [(.v 1), (.k (.int 0))]), (.k (.str [110, 101, 118, 101, 114]))])
      [.ret (.op .ne [(.op .idx [(.v 0), (.op .idx [(.v 1), (.k (.int 1))])]), (.op .idx [(.v 1), (.k (.int 2))])])]
      [],
     .ret (.or (.op .ne [(.op .idx [(.v 0), (.op .idx [(.v 1), (.k (.int 1))])]), (.op .idx [(.v 1), (.k (.int 3))])]) (.op .ne [(.op .idx [(.v 0), (.op .idx [(.v 1), (.k (.int 2))])]), (.op .idx [(.v 1), (.k (.int 3))])]))]⟩
def ce__law_crew_1 : E := (.call 21 [.one (.v 0), .one (.v 4), .one (.v 3)] [])
theorem qce__law_crew_1 {P : Pg} {r : Ev} {n : Nat} {y : Option Sl} {ρ : En} {h : Hh} : stepE P r n ce__law_crew_1 (y :: ρ) h = stepE P r n (.call 21 [.one (.v 0), .one (.v 4), .one (.v 3)] []) (y :: ρ) h := rfl
theorem tce__law_crew_1 {r : Ev} {n : Nat} {y : Option Sl} {ρ : En} {h : Hh} : evT r n ce__law_crew_1 (y :: ρ) h = evT r n (.call 21 [.one (.v 0), .one (.v 4), .one (.v 3)] []) (y :: ρ) h := rfl
def ce__law_crew_2 : E := (.v 9)
theorem qce__law_crew_2 {P : Pg} {r : Ev} {n : Nat} {y : Option Sl} {ρ : En} {h : Hh} : stepE P r n ce__law_crew_2 (y :: ρ) h = stepE P r n (.v 9) (y :: ρ) h := rfl
theorem tce__law_crew_2 {r : Ev} {n : Nat} {y : Option Sl} {ρ : En} {h : Hh} : evT r n ce__law_crew_2 (y :: ρ) h = evT r n (.v 9) (y :: ρ) h := rfl
def ce__law_crew_4 : E := (.call 23 [.one (.v 9), .one (.v 10)] [])
theorem qce__law_crew_4 {P : Pg} {r : Ev} {n : Nat} {y : Option Sl} {ρ : En} {h : Hh} : stepE P r n ce__law_crew_4 (y :: ρ) h = stepE P r n (.call 23 [.one (.v 9), .one (.v 10)] []) (y :: ρ) h := rfl
theorem tce__law_crew_4 {r : Ev} {n : Nat} {y : Option Sl} {ρ : En} {h : Hh} : evT r n ce__law_crew_4 (y :: ρ) h = evT r n (.call 23 [.one (.v 9), .one (.v 10)] []) (y :: ρ) h := rfl
def cc__law_crew_3 : E := (.op .all [(.comp ce__law_crew_4 (.n 10) (.seq (.v 5)) none)])
theorem qcc__law_crew_3 {P : Pg} {r : Ev} {n : Nat} {y : Option Sl} {ρ : En} {h : Hh} : stepE P r n cc__law_crew_3 (y :: ρ) h = stepE P r n (.op .all [(.comp ce__law_crew_4 (.n 10) (.seq (.v 5)) none)]) (y :: ρ) h := rfl
theorem tcc__law_crew_3 {r : Ev} {n : Nat} {y : Option Sl} {ρ : En} {h : Hh} : evT r n cc__law_crew_3 (y :: ρ) h = evT r n (.op .all [(.comp ce__law_crew_4 (.n 10) (.seq (.v 5)) none)]) (y :: ρ) h := rfl
def f__law_crew : Fn := ⟨11, [(28, none), (36, none)], false, [],
    [.asg (.t [.n 2, .n 3]) (.call 19 [.one (.v 0), .one (.v 1)] []),
     .asg (.t [.n 4, .n 5]) (.tup [.one (.call 20 [.one (.v 0), .one (.v 2)] []), .one (.lst [])]),
     .iff (.op .eq [(.call 18 [.one (.v 0), .one (.k (.int 3))] []), (.k (.int 0))])
      [.set 5 (.comp ce__law_crew_1 (.n 6) (.range [(.call 18 [.one (.v 0), .one (.k (.int 3))] [])]) none)]
      [],
     .set 7 (.call 22 [.one (.v 4), .one (.v 3)] []),
     .set 8 (.comp ce__law_crew_2 (.n 9) (.seq (.v 7)) (some cc__law_crew_3)),
     .ret (.ite (.op .ne [(.v 8), (.lst [])]) (.lst [.one (.v 4), .one (.v 3), .one (.v 5), .one (.lst []), .one (.v 8)]) (.lst [.one (.v 4), .one (.v 3), .one (.lst []), .one (.lst []), .one (.v 7)]))]⟩
def ce__law_lane_1 : E := (.op .idx [(.v 2), (.v 1)])
theorem qce__law_lane_1 {P : Pg} {r : Ev} {n : Nat} {y : Option Sl} {ρ : En} {h : Hh} : stepE P r n ce__law_lane_1 (y :: ρ) h = stepE P r n (.op .idx [(.v 2), (.v 1)]) (y :: ρ) h := rfl
theorem tce__law_lane_1 {r : Ev} {n : Nat} {y : Option Sl} {ρ : En} {h : Hh} : evT r n ce__law_lane_1 (y :: ρ) h = evT r n (.op .idx [(.v 2), (.v 1)]) (y :: ρ) h := rfl
def f__law_lane : Fn := ⟨3, [(37, none), (38, none)], false, [],
    [.ret (.mt .join (.k (.str [])) (.comp ce__law_lane_1 (.n 2) (.seq (.v 0)) none))]⟩
def ce__law_like_1 : E := (.call 26 [.one (.v 2), .one (.v 3)] [])
theorem qce__law_like_1 {P : Pg} {r : Ev} {n : Nat} {y : Option Sl} {ρ : En} {h : Hh} : stepE P r n ce__law_like_1 (y :: ρ) h = stepE P r n (.call 26 [.one (.v 2), .one (.v 3)] []) (y :: ρ) h := rfl
theorem tce__law_like_1 {r : Ev} {n : Nat} {y : Option Sl} {ρ : En} {h : Hh} : evT r n ce__law_like_1 (y :: ρ) h = evT r n (.call 26 [.one (.v 2), .one (.v 3)] []) (y :: ρ) h := rfl
def f__law_like : Fn := ⟨4, [(39, none), (40, none)], false, [],
    [.iff (.op (.isi [.blt .list, .blt .tuple]) [(.v 1)])
      [.iff (.or (.op .ne [(.op (.isi [.blt .list]) [(.v 0)]), (.op (.isi [.blt .list]) [(.v 1)])]) (.op .ne [(.op (.isi [.blt .tuple]) [(.v 0)]), (.op (.isi [.blt .tuple]) [(.v 1)])]))
      [.ret (.k (.bl false))]
      [], .ret (.and (.op .eq [(.op .len [(.v 0)]), (.op .len [(.v 1)])]) (.op .all [(.comp ce__law_like_1 (.t [(.n 2), (.n 3)]) (.zip (.v 0) (.v 1)) none)]))]
      [],
     .iff (.or (.op (.isi [.blt .list, .blt .tuple]) [(.v 0)]) (.op .ne [(.op (.isi [.blt .bool]) [(.v 0)]), (.op (.isi [.blt .bool]) [(.v 1)])]))
      [.ret (.k (.bl false))]
      [],
     .ret (.op .eq [(.v 0), (.v 1)])]⟩
def ce_law_1 : E := (.call 19 [.one (.v 1), .one (.op .idx [(.v 3), (.k (.int 4))])] [])
theorem qce_law_1 {P : Pg} {r : Ev} {n : Nat} {y : Option Sl} {ρ : En} {h : Hh} : stepE P r n ce_law_1 (y :: ρ) h = stepE P r n (.call 19 [.one (.v 1), .one (.op .idx [(.v 3), (.k (.int 4))])] []) (y :: ρ) h := rfl
theorem tce_law_1 {r : Ev} {n : Nat} {y : Option Sl} {ρ : En} {h : Hh} : evT r n ce_law_1 (y :: ρ) h = evT r n (.call 19 [.one (.v 1), .one (.op .idx [(.v 3), (.k (.int 4))])] []) (y :: ρ) h := rfl
def lp_law_2 : List S := [.set 7 (.call 25 [.one (.v 4), .one (.v 6)] []), .iff (.not (.call 26 [.one (.lst [.one (.call 16 [.one (.v 4), .one (.v 6)] []), .one (.call 16 [.one (.op .tuple [(.v 4)]), .one (.v 6)] []), .one (.call 16 [] [(26, (.v 6)), (25, (.v 4))])]), .one (.lst [.one (.v 7), .one (.v 7), .one (.v 7)])] []))
      [.ret (.k (.bl false))]
      []]
theorem qlp_law_2 {P : Pg} {r : Ev} {w n : Nat} {y : Option Sl} {ρ : En} {h : Hh} : stepSs P r w n lp_law_2 (y :: ρ) h = stepSs P r w n [.set 7 (.call 25 [.one (.v 4), .one (.v 6)] []), .iff (.not (.call 26 [.one (.lst [.one (.call 16 [.one (.v 4), .one (.v 6)] []), .one (.call 16 [.one (.op .tuple [(.v 4)]), .one (.v 6)] []), .one (.call 16 [] [(26, (.v 6)), (25, (.v 4))])]), .one (.lst [.one (.v 7), .one (.v 7), .one (.v 7)])] []))
      [.ret (.k (.bl false))]
      []] (y :: ρ) h := rfl
def lp_law_1 : List S := [.set 3 (.call 24 [.one (.v 1), .one (.lst [.one (.tup [.one (.k (.int 4)), .one (.k (.int 1))]), .one (.tup [.one (.k (.int 2)), .one (.k (.int 3))]), .one (.tup [.one (.k (.int 3)), .one (.k (.int 2))]), .one (.tup [.one (.k (.int 1)), .one (.k (.int 2))])])] []), .set 4 (.comp ce_law_1 (.n 5) (.range [(.call 18 [.one (.v 1), .one (.k (.int 9))] [])]) none), .for (.n 6) (.range [(.op .idx [(.v 3), (.k (.int 1))])]) lp_law_2]
theorem qlp_law_1 {P : Pg} {r : Ev} {w n : Nat} {y : Option Sl} {ρ : En} {h : Hh} : stepSs P r w n lp_law_1 (y :: ρ) h = stepSs P r w n [.set 3 (.call 24 [.one (.v 1), .one (.lst [.one (.tup [.one (.k (.int 4)), .one (.k (.int 1))]), .one (.tup [.one (.k (.int 2)), .one (.k (.int 3))]), .one (.tup [.one (.k (.int 3)), .one (.k (.int 2))]), .one (.tup [.one (.k (.int 1)), .one (.k (.int 2))])])] []), .set 4 (.comp ce_law_1 (.n 5) (.range [(.call 18 [.one (.v 1), .one (.k (.int 9))] [])]) none), .for (.n 6) (.range [(.op .idx [(.v 3), (.k (.int 1))])]) lp_law_2] (y :: ρ) h := rfl
def f_law : Fn := ⟨8, [(27, none)], false, [],
    [.set 1 (.call 17 [.one (.v 0)] []),
     .for (.n 2) (.range [(.k (.int 4))]) lp_law_1,
     .ret (.and (.op .eq [(.call 16 [.one (.lst []), .one (.k (.int 0))] []), (.k (.str []))]) (.op .eq [(.opd1 .len (.call 7 [.one (.k (.cls 5)), .one (.k (.str [97, 98, 99, 100]))] [])), (.k (.int 4))]))]⟩
def fns : List Fn := [f_is_number, f_is_letters, f_is_shift, f_is_need, f_meets, f_all_strings, f_Crew___init__, f_Crew_plain, f_Crew_shifts, f_Crew_workers, f_Crew_needs, f_Crew_days, f_Crew___contains__, f_Crew___len__, f_Crew___eq__, f_Crew___repr__, f_shifts_of, f__law_bag, f__law_draw, f__law_pick, f__law_shifts, f__law_need, f__law_strings, f__law_meets, f__law_crew, f__law_lane, f__law_like, f_law]
def cls : List (Option Cl) := [none,
  none,
  none,
  none,
  none,
  some ⟨true, some 6, [(42, 10), (25, 11), (2, 12), (1, 13), (0, 14), (8, 15)], [(14, 8), (16, 9)], [(41, (.int 24))], [], [(43, 7)]⟩]
def pg : Pg := ⟨fun n => fns[n]?, fun n => (cls[n]?).bind id⟩
abbrev i_is_number : Nat := 0
theorem pg_is_number : pg.fn 0 = some f_is_number := rfl
theorem cl_is_number {r : Ev} {h : Hh} (a0 a1 a2 : D) : evCall pg r 0 [a0, a1, a2] [] h = r.c.f 0 [a0, a1, a2] h := rfl
theorem fn_is_number (d : Nat) (as : List D) (h : Hh) : (cfs pg (d + 1)).f 0 as h = match (inner pg turns (cfs pg d) 40).s f_is_number.body (start 3 as) h with
    | .nx _ h1 => .ok .non h1
    | .rt d h1 => .ok d h1
    | .exc c fs _ h1 => .exc c fs h1
    | _ => .bad := (cf d 0 as h).trans (sf pg_is_number as h)
theorem bd_is_number : f_is_number.body = [.ret (.and (.op (.isi [.blt .int]) [(.v 0)]) (.and (.not (.op (.isi [.blt .bool]) [(.v 0)])) (.chain .le .le (.v 1) (.v 0) (.v 2))))] := rfl
abbrev i_is_letters : Nat := 1
theorem pg_is_letters : pg.fn 1 = some f_is_letters := rfl
theorem cl_is_letters {r : Ev} {h : Hh} (a0 a1 : D) : evCall pg r 1 [a0, a1] [] h = r.c.f 1 [a0, a1] h := rfl
theorem fn_is_letters (d : Nat) (as : List D) (h : Hh) : (cfs pg (d + 1)).f 1 as h = match (inner pg turns (cfs pg d) 40).s f_is_letters.body (start 4 as) h with
    | .nx _ h1 => .ok .non h1
    | .rt d h1 => .ok d h1
    | .exc c fs _ h1 => .exc c fs h1
    | _ => .bad := (cf d 1 as h).trans (sf pg_is_letters as h)
theorem bd_is_letters : f_is_letters.body = [.iff (.or (.not (.chain .le .le (.k (.int 1)) (.op .len [(.v 0)]) (.v 1))) (.not (.op .all [(.comp ce_is_letters_1 (.n 2) (.seq (.v 0)) none)])))
      [.ret (.k (.bl false))]
      [],
     .ret (.op .all [(.comp ce_is_letters_2 (.n 3) (.range [(.op .sub [(.op .len [(.v 0)]), (.k (.int 1))])]) none)])] := rfl
abbrev i_is_shift : Nat := 2
theorem pg_is_shift : pg.fn 2 = some f_is_shift := rfl
theorem cl_is_shift {r : Ev} {h : Hh} (a0 a1 : D) : evCall pg r 2 [a0, a1] [] h = r.c.f 2 [a0, a1] h := rfl
theorem fn_is_shift (d : Nat) (as : List D) (h : Hh) : (cfs pg (d + 1)).f 2 as h = match (inner pg turns (cfs pg d) 40).s f_is_shift.body (start 2 as) h with
    | .nx _ h1 => .ok .non h1
    | .rt d h1 => .ok d h1
    | .exc c fs _ h1 => .exc c fs h1
    | _ => .bad := (cf d 2 as h).trans (sf pg_is_shift as h)
theorem bd_is_shift : f_is_shift.body = [.ret (.and (.op (.isi [.blt .str]) [(.v 0)]) (.and (.op .eq [(.op .len [(.v 0)]), (.k (.int 1))]) (.op .isin [(.v 0), (.v 1)])))] := rfl
abbrev i_is_need : Nat := 3
theorem pg_is_need : pg.fn 3 = some f_is_need := rfl
theorem cl_is_need {r : Ev} {h : Hh} (a0 a1 a2 : D) : evCall pg r 3 [a0, a1, a2] [] h = r.c.f 3 [a0, a1, a2] h := rfl
theorem fn_is_need (d : Nat) (as : List D) (h : Hh) : (cfs pg (d + 1)).f 3 as h = match (inner pg turns (cfs pg d) 40).s f_is_need.body (start 8 as) h with
    | .nx _ h1 => .ok .non h1
    | .rt d h1 => .ok d h1
    | .exc c fs _ h1 => .exc c fs h1
    | _ => .bad := (cf d 3 as h).trans (sf pg_is_need as h)
theorem bd_is_need : f_is_need.body = [.never, .never, .never, .never, .never, .never, .never] := rfl
abbrev i_meets : Nat := 4
theorem pg_meets : pg.fn 4 = some f_meets := rfl
theorem cl_meets {r : Ev} {h : Hh} (a0 a1 : D) : evCall pg r 4 [a0, a1] [] h = r.c.f 4 [a0, a1] h := rfl
theorem fn_meets (d : Nat) (as : List D) (h : Hh) : (cfs pg (d + 1)).f 4 as h = match (inner pg turns (cfs pg d) 40).s f_meets.body (start 8 as) h with
    | .nx _ h1 => .ok .non h1
    | .rt d h1 => .ok d h1
    | .exc c fs _ h1 => .exc c fs h1
    | _ => .bad := (cf d 4 as h).trans (sf pg_meets as h)
theorem bd_meets : f_meets.body = [.unps [2] 3 (.v 1),
     .iff (.op .eq [(.v 2), (.k (.str [108, 101, 97, 115, 116]))])
      [.ret (.op .ge [(.op .len [(.comp ce_meets_1 (.n 4) (.seq (.v 0)) (some cc_meets_2))]), (.op .idx [(.v 3), (.k (.int 1))])])]
      [],
     .iff (.op .eq [(.v 2), (.k (.str [109, 111, 115, 116]))])
      [.ret (.op .le [(.op .len [(.comp ce_meets_3 (.n 4) (.seq (.v 0)) (some cc_meets_4))]), (.op .idx [(.v 3), (.k (.int 1))])])]
      [],
     .iff (.op .eq [(.v 2), (.k (.str [110, 101, 118, 101, 114]))])
      [.ret (.op .ne [(.op .idx [(.v 0), (.op .idx [(.v 3), (.k (.int 0))])]), (.op .idx [(.v 3), (.k (.int 1))])])]
      [],
     .asg (.t [.n 5, .n 6, .n 7]) (.v 3),
     .ret (.or (.op .ne [(.op .idx [(.v 0), (.v 5)]), (.v 7)]) (.op .ne [(.op .idx [(.v 0), (.v 6)]), (.v 7)]))] := rfl
abbrev i_all_strings : Nat := 5
theorem pg_all_strings : pg.fn 5 = some f_all_strings := rfl
theorem cl_all_strings {r : Ev} {h : Hh} (a0 a1 : D) : evCall pg r 5 [a0, a1] [] h = r.c.f 5 [a0, a1] h := rfl
theorem fn_all_strings (d : Nat) (as : List D) (h : Hh) : (cfs pg (d + 1)).f 5 as h = match (inner pg turns (cfs pg d) 40).s f_all_strings.body (start 6 as) h with
    | .nx _ h1 => .ok .non h1
    | .rt d h1 => .ok d h1
    | .exc c fs _ h1 => .exc c fs h1
    | _ => .bad := (cf d 5 as h).trans (sf pg_all_strings as h)
theorem bd_all_strings : f_all_strings.body = [.set 2 (.lst [.one (.k (.str []))]),
     .for (.n 3) (.range [(.v 1)]) lp_all_strings_1,
     .ret (.v 2)] := rfl
abbrev i_Crew___init__ : Nat := 6
theorem pg_Crew___init__ : pg.fn 6 = some f_Crew___init__ := rfl
theorem fn_Crew___init__ (d : Nat) (as : List D) (h : Hh) : (cfs pg (d + 1)).f 6 as h = match (inner pg turns (cfs pg d) 40).s f_Crew___init__.body (start 8 as) h with
    | .nx _ h1 => .ok .non h1
    | .rt d h1 => .ok d h1
    | .exc c fs _ h1 => .exc c fs h1
    | _ => .bad := (cf d 6 as h).trans (sf pg_Crew___init__ as h)
theorem bd_Crew___init__ : f_Crew___init__.body = [.iff (.not (.call 1 [.one (.v 1), .one (.k (.int 4))] []))
      [.never]
      [],
     .iff (.not (.call 0 [.one (.v 2), .one (.k (.int 1)), .one (.k (.int 3))] []))
      [.never]
      [],
     .for (.t [(.n 4), (.n 5)]) (.enum (.v 3)) lp_Crew___init___1,
     .setF (.v 0) 19 (.v 1),
     .setF (.v 0) 20 (.v 2),
     .setF (.v 0) 21 (.op .list [(.v 3)]),
     .set 6 (.call 5 [.one (.v 1), .one (.v 2)] []),
     .setF (.v 0) 22 (.comp ce_Crew___init___1 (.n 7) (.seq (.v 6)) (some cc_Crew___init___2)),
     .iff (.op .gt [(.op .len [(.fld (.v 0) 22)]), (.k (.int 24))])
      [.never]
      []] := rfl
abbrev i_Crew_plain : Nat := 7
theorem pg_Crew_plain : pg.fn 7 = some f_Crew_plain := rfl
theorem cl_Crew_plain {r : Ev} {h : Hh} (a0 a1 : D) : evCall pg r 7 [a0, a1] [] h = r.c.f 7 [a0, a1] h := rfl
theorem fn_Crew_plain (d : Nat) (as : List D) (h : Hh) : (cfs pg (d + 1)).f 7 as h = match (inner pg turns (cfs pg d) 40).s f_Crew_plain.body (start 2 as) h with
    | .nx _ h1 => .ok .non h1
    | .rt d h1 => .ok d h1
    | .exc c fs _ h1 => .exc c fs h1
    | _ => .bad := (cf d 7 as h).trans (sf pg_Crew_plain as h)
theorem bd_Crew_plain : f_Crew_plain.body = [.ret (.newv 0 [.one (.v 1)] [])] := rfl
abbrev i_Crew_shifts : Nat := 8
theorem pg_Crew_shifts : pg.fn 8 = some f_Crew_shifts := rfl
theorem cl_Crew_shifts {r : Ev} {h : Hh} (a0 : D) : evCall pg r 8 [a0] [] h = r.c.f 8 [a0] h := rfl
theorem fn_Crew_shifts (d : Nat) (as : List D) (h : Hh) : (cfs pg (d + 1)).f 8 as h = match (inner pg turns (cfs pg d) 40).s f_Crew_shifts.body (start 1 as) h with
    | .nx _ h1 => .ok .non h1
    | .rt d h1 => .ok d h1
    | .exc c fs _ h1 => .exc c fs h1
    | _ => .bad := (cf d 8 as h).trans (sf pg_Crew_shifts as h)
theorem bd_Crew_shifts : f_Crew_shifts.body = [.ret (.fld (.v 0) 19)] := rfl
abbrev i_Crew_workers : Nat := 9
theorem pg_Crew_workers : pg.fn 9 = some f_Crew_workers := rfl
theorem cl_Crew_workers {r : Ev} {h : Hh} (a0 : D) : evCall pg r 9 [a0] [] h = r.c.f 9 [a0] h := rfl
theorem fn_Crew_workers (d : Nat) (as : List D) (h : Hh) : (cfs pg (d + 1)).f 9 as h = match (inner pg turns (cfs pg d) 40).s f_Crew_workers.body (start 1 as) h with
    | .nx _ h1 => .ok .non h1
    | .rt d h1 => .ok d h1
    | .exc c fs _ h1 => .exc c fs h1
    | _ => .bad := (cf d 9 as h).trans (sf pg_Crew_workers as h)
theorem bd_Crew_workers : f_Crew_workers.body = [.ret (.fld (.v 0) 20)] := rfl
abbrev i_Crew_needs : Nat := 10
theorem pg_Crew_needs : pg.fn 10 = some f_Crew_needs := rfl
theorem cl_Crew_needs {r : Ev} {h : Hh} (a0 : D) : evCall pg r 10 [a0] [] h = r.c.f 10 [a0] h := rfl
theorem fn_Crew_needs (d : Nat) (as : List D) (h : Hh) : (cfs pg (d + 1)).f 10 as h = match (inner pg turns (cfs pg d) 40).s f_Crew_needs.body (start 1 as) h with
    | .nx _ h1 => .ok .non h1
    | .rt d h1 => .ok d h1
    | .exc c fs _ h1 => .exc c fs h1
    | _ => .bad := (cf d 10 as h).trans (sf pg_Crew_needs as h)
theorem bd_Crew_needs : f_Crew_needs.body = [.ret (.op .list [(.fld (.v 0) 21)])] := rfl
abbrev i_Crew_days : Nat := 11
theorem pg_Crew_days : pg.fn 11 = some f_Crew_days := rfl
theorem cl_Crew_days {r : Ev} {h : Hh} (a0 : D) : evCall pg r 11 [a0] [] h = r.c.f 11 [a0] h := rfl
theorem fn_Crew_days (d : Nat) (as : List D) (h : Hh) : (cfs pg (d + 1)).f 11 as h = match (inner pg turns (cfs pg d) 40).s f_Crew_days.body (start 1 as) h with
    | .nx _ h1 => .ok .non h1
    | .rt d h1 => .ok d h1
    | .exc c fs _ h1 => .exc c fs h1
    | _ => .bad := (cf d 11 as h).trans (sf pg_Crew_days as h)
theorem bd_Crew_days : f_Crew_days.body = [.ret (.op .list [(.fld (.v 0) 22)])] := rfl
abbrev i_Crew___contains__ : Nat := 12
theorem pg_Crew___contains__ : pg.fn 12 = some f_Crew___contains__ := rfl
theorem cl_Crew___contains__ {r : Ev} {h : Hh} (a0 a1 : D) : evCall pg r 12 [a0, a1] [] h = r.c.f 12 [a0, a1] h := rfl
theorem fn_Crew___contains__ (d : Nat) (as : List D) (h : Hh) : (cfs pg (d + 1)).f 12 as h = match (inner pg turns (cfs pg d) 40).s f_Crew___contains__.body (start 2 as) h with
    | .nx _ h1 => .ok .non h1
    | .rt d h1 => .ok d h1
    | .exc c fs _ h1 => .exc c fs h1
    | _ => .bad := (cf d 12 as h).trans (sf pg_Crew___contains__ as h)
theorem bd_Crew___contains__ : f_Crew___contains__.body = [.ret (.op .isin [(.v 1), (.fld (.v 0) 22)])] := rfl
abbrev i_Crew___len__ : Nat := 13
theorem pg_Crew___len__ : pg.fn 13 = some f_Crew___len__ := rfl
theorem cl_Crew___len__ {r : Ev} {h : Hh} (a0 : D) : evCall pg r 13 [a0] [] h = r.c.f 13 [a0] h := rfl
theorem fn_Crew___len__ (d : Nat) (as : List D) (h : Hh) : (cfs pg (d + 1)).f 13 as h = match (inner pg turns (cfs pg d) 40).s f_Crew___len__.body (start 1 as) h with
    | .nx _ h1 => .ok .non h1
    | .rt d h1 => .ok d h1
    | .exc c fs _ h1 => .exc c fs h1
    | _ => .bad := (cf d 13 as h).trans (sf pg_Crew___len__ as h)
theorem bd_Crew___len__ : f_Crew___len__.body = [.ret (.op .len [(.fld (.v 0) 22)])] := rfl
abbrev i_Crew___eq__ : Nat := 14
theorem pg_Crew___eq__ : pg.fn 14 = some f_Crew___eq__ := rfl
theorem cl_Crew___eq__ {r : Ev} {h : Hh} (a0 a1 : D) : evCall pg r 14 [a0, a1] [] h = r.c.f 14 [a0, a1] h := rfl
theorem fn_Crew___eq__ (d : Nat) (as : List D) (h : Hh) : (cfs pg (d + 1)).f 14 as h = match (inner pg turns (cfs pg d) 40).s f_Crew___eq__.body (start 2 as) h with
    | .nx _ h1 => .ok .non h1
    | .rt d h1 => .ok d h1
    | .exc c fs _ h1 => .exc c fs h1
    | _ => .bad := (cf d 14 as h).trans (sf pg_Crew___eq__ as h)
theorem bd_Crew___eq__ : f_Crew___eq__.body = [.iff (.or (.not (.op (.isi [.own 5]) [(.v 1)])) (.op .ne [(.fld (.v 0) 19), (.fld (.v 1) 19)]))
      [.ret (.k (.bl false))]
      [],
     .ret (.and (.op .eq [(.fld (.v 0) 20), (.fld (.v 1) 20)]) (.op .eq [(.fld (.v 0) 22), (.fld (.v 1) 22)]))] := rfl
abbrev i_Crew___repr__ : Nat := 15
theorem pg_Crew___repr__ : pg.fn 15 = some f_Crew___repr__ := rfl
theorem cl_Crew___repr__ {r : Ev} {h : Hh} (a0 : D) : evCall pg r 15 [a0] [] h = r.c.f 15 [a0] h := rfl
theorem fn_Crew___repr__ (d : Nat) (as : List D) (h : Hh) : (cfs pg (d + 1)).f 15 as h = match (inner pg turns (cfs pg d) 40).s f_Crew___repr__.body (start 1 as) h with
    | .nx _ h1 => .ok .non h1
    | .rt d h1 => .ok d h1
    | .exc c fs _ h1 => .exc c fs h1
    | _ => .bad := (cf d 15 as h).trans (sf pg_Crew___repr__ as h)
theorem bd_Crew___repr__ : f_Crew___repr__.body = [.never] := rfl
abbrev i_shifts_of : Nat := 16
theorem pg_shifts_of : pg.fn 16 = some f_shifts_of := rfl
theorem cl_shifts_of {r : Ev} {h : Hh} (a0 a1 : D) : evCall pg r 16 [a0, a1] [] h = r.c.f 16 [a0, a1] h := rfl
theorem fn_shifts_of (d : Nat) (as : List D) (h : Hh) : (cfs pg (d + 1)).f 16 as h = match (inner pg turns (cfs pg d) 40).s f_shifts_of.body (start 3 as) h with
    | .nx _ h1 => .ok .non h1
    | .rt d h1 => .ok d h1
    | .exc c fs _ h1 => .exc c fs h1
    | _ => .bad := (cf d 16 as h).trans (sf pg_shifts_of as h)
theorem bd_shifts_of : f_shifts_of.body = [.ret (.mt .join (.k (.str [])) (.comp ce_shifts_of_1 (.n 2) (.seq (.v 0)) none))] := rfl
abbrev i__law_bag : Nat := 17
theorem pg__law_bag : pg.fn 17 = some f__law_bag := rfl
theorem cl__law_bag {r : Ev} {h : Hh} (a0 : D) : evCall pg r 17 [a0] [] h = r.c.f 17 [a0] h := rfl
theorem fn__law_bag (d : Nat) (as : List D) (h : Hh) : (cfs pg (d + 1)).f 17 as h = match (inner pg turns (cfs pg d) 40).s f__law_bag.body (start 3 as) h with
    | .nx _ h1 => .ok .non h1
    | .rt d h1 => .ok d h1
    | .exc c fs _ h1 => .exc c fs h1
    | _ => .bad := (cf d 17 as h).trans (sf pg__law_bag as h)
theorem bd__law_bag : f__law_bag.body = [.set 1 (.k (.int 5764)),
     .for (.n 2) (.seq (.op (.slc false true) [(.v 0), (.k (.int 63))])) lp__law_bag_1,
     .ret (.cell [.one (.op .list [(.op (.slc false true) [(.v 0), (.k (.int 63))])]), .one (.k (.int 0)), .one (.k (.int 0)), .one (.v 1), .one (.k (.int 0))])] := rfl
abbrev i__law_draw : Nat := 18
theorem pg__law_draw : pg.fn 18 = some f__law_draw := rfl
theorem cl__law_draw {r : Ev} {h : Hh} (a0 a1 : D) : evCall pg r 18 [a0, a1] [] h = r.c.f 18 [a0, a1] h := rfl
theorem fn__law_draw (d : Nat) (as : List D) (h : Hh) : (cfs pg (d + 1)).f 18 as h = match (inner pg turns (cfs pg d) 40).s f__law_draw.body (start 5 as) h with
    | .nx _ h1 => .ok .non h1
    | .rt d h1 => .ok d h1
    | .exc c fs _ h1 => .exc c fs h1
    | _ => .bad := (cf d 18 as h).trans (sf pg__law_draw as h)
theorem bd__law_draw : f__law_draw.body = [.setI (.v 0) (.k (.int 4)) (.op .add [(.op .idx [(.v 0), (.k (.int 4))]), (.k (.int 1))]),
     .iff (.and (.op .eq [(.op .idx [(.v 0), (.k (.int 2))]), (.k (.int 0))]) (.op .lt [(.op .idx [(.v 0), (.k (.int 1))]), (.op .len [(.op .idx [(.v 0), (.k (.int 0))])])]))
      [.set 2 (.op .idx [(.op .idx [(.v 0), (.k (.int 0))]), (.op .idx [(.v 0), (.k (.int 1))])]), .setI (.v 0) (.k (.int 1)) (.op .add [(.op .idx [(.v 0), (.k (.int 1))]), (.k (.int 1))]), .iff (.op .ge [(.v 2), (.op .pow [(.k (.int 10)), (.k (.int 18))])])
      [.setI (.v 0) (.k (.int 2)) (.v 2)]
      [.setI (.v 0) (.k (.int 3)) (.op .mod [(.op .int [(.op .add [(.op .add [(.op .mul [(.op .idx [(.v 0), (.k (.int 3))]), (.k (.int 39989))]), (.op .mul [(.op .mod [(.op .int [(.v 2)]), (.k (.int 2147483423))]), (.k (.int 30011))])]), (.k (.int 83))])]), (.k (.int 2147483563))])]]
      [],
     .iff (.op .gt [(.op .idx [(.v 0), (.k (.int 2))]), (.k (.int 0))])
      [.set 3 (.op .mod [(.op .int [(.op .idx [(.v 0), (.k (.int 2))])]), (.v 1)]), .setI (.v 0) (.k (.int 2)) (.op .fdiv [(.op .idx [(.v 0), (.k (.int 2))]), (.v 1)]), .ret (.v 3)]
      [],
     .set 4 (.op .idx [(.v 0), (.k (.int 3))]),
     .setI (.v 0) (.k (.int 3)) (.op .mod [(.op .int [(.op .add [(.op .add [(.op .add [(.op .mul [(.op .mul [(.v 4), (.v 4)]), (.k (.int 13))]), (.op .mul [(.v 4), (.k (.int 42013))])]), (.op .mul [(.op .idx [(.v 0), (.k (.int 4))]), (.k (.int 1299743))])]), (.k (.int 50021))])]), (.k (.int 2147483563))]),
     .ret (.op .mod [(.op .int [(.op .add [(.op .fdiv [(.op .idx [(.v 0), (.k (.int 3))]), (.k (.int 97))]), (.op .mul [(.op .mod [(.op .int [(.op .idx [(.v 0), (.k (.int 3))])]), (.k (.int 7927))]), (.k (.int 59))])])]), (.v 1)])] := rfl
abbrev i__law_pick : Nat := 19
theorem pg__law_pick : pg.fn 19 = some f__law_pick := rfl
theorem cl__law_pick {r : Ev} {h : Hh} (a0 a1 : D) : evCall pg r 19 [a0, a1] [] h = r.c.f 19 [a0, a1] h := rfl
theorem fn__law_pick (d : Nat) (as : List D) (h : Hh) : (cfs pg (d + 1)).f 19 as h = match (inner pg turns (cfs pg d) 40).s f__law_pick.body (start 2 as) h with
    | .nx _ h1 => .ok .non h1
    | .rt d h1 => .ok d h1
    | .exc c fs _ h1 => .exc c fs h1
    | _ => .bad := (cf d 19 as h).trans (sf pg__law_pick as h)
theorem bd__law_pick : f__law_pick.body = [.ret (.op .idx [(.v 1), (.call 18 [.one (.v 0), .one (.op .len [(.v 1)])] [])])] := rfl
abbrev i__law_shifts : Nat := 20
theorem pg__law_shifts : pg.fn 20 = some f__law_shifts := rfl
theorem cl__law_shifts {r : Ev} {h : Hh} (a0 a1 : D) : evCall pg r 20 [a0, a1] [] h = r.c.f 20 [a0, a1] h := rfl
theorem fn__law_shifts (d : Nat) (as : List D) (h : Hh) : (cfs pg (d + 1)).f 20 as h = match (inner pg turns (cfs pg d) 40).s f__law_shifts.body (start 6 as) h with
    | .nx _ h1 => .ok .non h1
    | .rt d h1 => .ok d h1
    | .exc c fs _ h1 => .exc c fs h1
    | _ => .bad := (cf d 20 as h).trans (sf pg__law_shifts as h)
theorem bd__law_shifts : f__law_shifts.body = [.par [2, 3, 4] [(.k (.str [97, 98, 99, 100, 101, 102, 103, 104, 105, 106, 107, 108, 109, 110, 111, 112, 113, 114, 115, 116, 117, 118, 119, 120, 121, 122])), (.call 18 [.one (.v 0), .one (.k (.int 8))] []), (.k (.str []))],
     .for (.n 5) (.range [(.v 1)]) lp__law_shifts_1,
     .ret (.v 4)] := rfl
abbrev i__law_need : Nat := 21
theorem pg__law_need : pg.fn 21 = some f__law_need := rfl
theorem cl__law_need {r : Ev} {h : Hh} (a0 a1 a2 : D) : evCall pg r 21 [a0, a1, a2] [] h = r.c.f 21 [a0, a1, a2] h := rfl
theorem fn__law_need (d : Nat) (as : List D) (h : Hh) : (cfs pg (d + 1)).f 21 as h = match (inner pg turns (cfs pg d) 40).s f__law_need.body (start 6 as) h with
    | .nx _ h1 => .ok .non h1
    | .rt d h1 => .ok d h1
    | .exc c fs _ h1 => .exc c fs h1
    | _ => .bad := (cf d 21 as h).trans (sf pg__law_need as h)
theorem bd__law_need : f__law_need.body = [.par [3, 4] [(.call 18 [.one (.v 0), .one (.ite (.op .gt [(.v 2), (.k (.int 1))]) (.k (.int 4)) (.k (.int 3)))] []), (.call 19 [.one (.v 0), .one (.v 1)] [])],
     .iff (.op .lt [(.v 3), (.k (.int 2))])
      [.ret (.tup [.one (.op .idx [(.lst [.one (.k (.str [108, 101, 97, 115, 116])), .one (.k (.str [109, 111, 115, 116]))]), (.v 3)]), .one (.v 4), .one (.call 18 [.one (.v 0), .one (.op .add [(.v 2), (.k (.int 1))])] [])])]
      [],
     .iff (.op .eq [(.v 3), (.k (.int 2))])
      [.ret (.tup [.one (.k (.str [110, 101, 118, 101, 114])), .one (.call 18 [.one (.v 0), .one (.v 2)] []), .one (.v 4)])]
      [],
     .set 5 (.call 18 [.one (.v 0), .one (.v 2)] []),
     .ret (.tup [.one (.k (.str [97, 112, 97, 114, 116])), .one (.v 5), .one (.op .mod [(.op .int [(.op .add [(.op .add [(.v 5), (.k (.int 1))]), (.call 18 [.one (.v 0), .one (.op .sub [(.v 2), (.k (.int 1))])] [])])]), (.v 2)]), .one (.v 4)])] := rfl
abbrev i__law_strings : Nat := 22
theorem pg__law_strings : pg.fn 22 = some f__law_strings := rfl
theorem cl__law_strings {r : Ev} {h : Hh} (a0 a1 : D) : evCall pg r 22 [a0, a1] [] h = r.c.f 22 [a0, a1] h := rfl
theorem fn__law_strings (d : Nat) (as : List D) (h : Hh) : (cfs pg (d + 1)).f 22 as h = match (inner pg turns (cfs pg d) 40).s f__law_strings.body (start 7 as) h with
    | .nx _ h1 => .ok .non h1
    | .rt d h1 => .ok d h1
    | .exc c fs _ h1 => .exc c fs h1
    | _ => .bad := (cf d 22 as h).trans (sf pg__law_strings as h)
theorem bd__law_strings : f__law_strings.body = [.set 2 (.lst [.one (.k (.str []))]),
     .for (.n 3) (.range [(.v 1)]) lp__law_strings_1,
     .ret (.v 2)] := rfl
abbrev i__law_meets : Nat := 23
theorem pg__law_meets : pg.fn 23 = some f__law_meets := rfl
theorem cl__law_meets {r : Ev} {h : Hh} (a0 a1 : D) : evCall pg r 23 [a0, a1] [] h = r.c.f 23 [a0, a1] h := rfl
theorem fn__law_meets (d : Nat) (as : List D) (h : Hh) : (cfs pg (d + 1)).f 23 as h = match (inner pg turns (cfs pg d) 40).s f__law_meets.body (start 2 as) h with
    | .nx _ h1 => .ok .non h1
    | .rt d h1 => .ok d h1
    | .exc c fs _ h1 => .exc c fs h1
    | _ => .bad := (cf d 23 as h).trans (sf pg__law_meets as h)
theorem bd__law_meets : f__law_meets.body = [.iff (.op .eq [(.op .idx [(.v 1), (.k (.int 0))]), (.k (.str [108, 101, 97, 115, 116]))])
      [.ret (.op .ge [(.mt .count (.v 0) (.op .idx [(.v 1), (.k (.int 1))])), (.op .idx [(.v 1), (.k (.int 2))])])]
      [],
     .iff (.op .eq [(.op .idx [(.v 1), (.k (.int 0))]), (.k (.str [109, 111, 115, 116]))])
      [.ret (.op .le [(.mt .count (.v 0) (.op .idx [(.v 1), (.k (.int 1))])), (.op .idx [(.v 1), (.k (.int 2))])])]
      [],
     .iff (.op .eq [(.op .idx [(.v 1), (.k (.int 0))]), (.k (.str [110, 101, 118, 101, 114]))])
      [.ret (.op .ne [(.op .idx [(.v 0), (.op .idx [(.v 1), (.k (.int 1))])]), (.op .idx [(.v 1), (.k (.int 2))])])]
      [],
     .ret (.or (.op .ne [(.op .idx [(.v 0), (.op .idx [(.v 1), (.k (.int 1))])]), (.op .idx [(.v 1), (.k (.int 3))])]) (.op .ne [(.op .idx [(.v 0), (.op .idx [(.v 1), (.k (.int 2))])]), (.op .idx [(.v 1), (.k (.int 3))])]))] := rfl
abbrev i__law_crew : Nat := 24
theorem pg__law_crew : pg.fn 24 = some f__law_crew := rfl
theorem cl__law_crew {r : Ev} {h : Hh} (a0 a1 : D) : evCall pg r 24 [a0, a1] [] h = r.c.f 24 [a0, a1] h := rfl
theorem fn__law_crew (d : Nat) (as : List D) (h : Hh) : (cfs pg (d + 1)).f 24 as h = match (inner pg turns (cfs pg d) 40).s f__law_crew.body (start 11 as) h with
    | .nx _ h1 => .ok .non h1
    | .rt d h1 => .ok d h1
    | .exc c fs _ h1 => .exc c fs h1
    | _ => .bad := (cf d 24 as h).trans (sf pg__law_crew as h)
theorem bd__law_crew : f__law_crew.body = [.asg (.t [.n 2, .n 3]) (.call 19 [.one (.v 0), .one (.v 1)] []),
     .asg (.t [.n 4, .n 5]) (.tup [.one (.call 20 [.one (.v 0), .one (.v 2)] []), .one (.lst [])]),
     .iff (.op .eq [(.call 18 [.one (.v 0), .one (.k (.int 3))] []), (.k (.int 0))])
      [.set 5 (.comp ce__law_crew_1 (.n 6) (.range [(.call 18 [.one (.v 0), .one (.k (.int 3))] [])]) none)]
      [],
     .set 7 (.call 22 [.one (.v 4), .one (.v 3)] []),
     .set 8 (.comp ce__law_crew_2 (.n 9) (.seq (.v 7)) (some cc__law_crew_3)),
     .ret (.ite (.op .ne [(.v 8), (.lst [])]) (.lst [.one (.v 4), .one (.v 3), .one (.v 5), .one (.lst []), .one (.v 8)]) (.lst [.one (.v 4), .one (.v 3), .one (.lst []), .one (.lst []), .one (.v 7)]))] := rfl
abbrev i__law_lane : Nat := 25
theorem pg__law_lane : pg.fn 25 = some f__law_lane := rfl
theorem cl__law_lane {r : Ev} {h : Hh} (a0 a1 : D) : evCall pg r 25 [a0, a1] [] h = r.c.f 25 [a0, a1] h := rfl
theorem fn__law_lane (d : Nat) (as : List D) (h : Hh) : (cfs pg (d + 1)).f 25 as h = match (inner pg turns (cfs pg d) 40).s f__law_lane.body (start 3 as) h with
    | .nx _ h1 => .ok .non h1
    | .rt d h1 => .ok d h1
    | .exc c fs _ h1 => .exc c fs h1
    | _ => .bad := (cf d 25 as h).trans (sf pg__law_lane as h)
theorem bd__law_lane : f__law_lane.body = [.ret (.mt .join (.k (.str [])) (.comp ce__law_lane_1 (.n 2) (.seq (.v 0)) none))] := rfl
abbrev i__law_like : Nat := 26
theorem pg__law_like : pg.fn 26 = some f__law_like := rfl
theorem cl__law_like {r : Ev} {h : Hh} (a0 a1 : D) : evCall pg r 26 [a0, a1] [] h = r.c.f 26 [a0, a1] h := rfl
theorem fn__law_like (d : Nat) (as : List D) (h : Hh) : (cfs pg (d + 1)).f 26 as h = match (inner pg turns (cfs pg d) 40).s f__law_like.body (start 4 as) h with
    | .nx _ h1 => .ok .non h1
    | .rt d h1 => .ok d h1
    | .exc c fs _ h1 => .exc c fs h1
    | _ => .bad := (cf d 26 as h).trans (sf pg__law_like as h)
theorem bd__law_like : f__law_like.body = [.iff (.op (.isi [.blt .list, .blt .tuple]) [(.v 1)])
      [.iff (.or (.op .ne [(.op (.isi [.blt .list]) [(.v 0)]), (.op (.isi [.blt .list]) [(.v 1)])]) (.op .ne [(.op (.isi [.blt .tuple]) [(.v 0)]), (.op (.isi [.blt .tuple]) [(.v 1)])]))
      [.ret (.k (.bl false))]
      [], .ret (.and (.op .eq [(.op .len [(.v 0)]), (.op .len [(.v 1)])]) (.op .all [(.comp ce__law_like_1 (.t [(.n 2), (.n 3)]) (.zip (.v 0) (.v 1)) none)]))]
      [],
     .iff (.or (.op (.isi [.blt .list, .blt .tuple]) [(.v 0)]) (.op .ne [(.op (.isi [.blt .bool]) [(.v 0)]), (.op (.isi [.blt .bool]) [(.v 1)])]))
      [.ret (.k (.bl false))]
      [],
     .ret (.op .eq [(.v 0), (.v 1)])] := rfl
abbrev i_law : Nat := 27
theorem pg_law : pg.fn 27 = some f_law := rfl
theorem cl_law {r : Ev} {h : Hh} (a0 : D) : evCall pg r 27 [a0] [] h = r.c.f 27 [a0] h := rfl
theorem fn_law (d : Nat) (as : List D) (h : Hh) : (cfs pg (d + 1)).f 27 as h = match (inner pg turns (cfs pg d) 40).s f_law.body (start 8 as) h with
    | .nx _ h1 => .ok .non h1
    | .rt d h1 => .ok d h1
    | .exc c fs _ h1 => .exc c fs h1
    | _ => .bad := (cf d 27 as h).trans (sf pg_law as h)
theorem bd_law : f_law.body = [.set 1 (.call 17 [.one (.v 0)] []),
     .for (.n 2) (.range [(.k (.int 4))]) lp_law_1,
     .ret (.and (.op .eq [(.call 16 [.one (.lst []), .one (.k (.int 0))] []), (.k (.str []))]) (.op .eq [(.opd1 .len (.call 7 [.one (.k (.cls 5)), .one (.k (.str [97, 98, 99, 100]))] [])), (.k (.int 4))]))] := rfl
abbrev c_Crew : Nat := 5
abbrev n___eq__ : Nat := 0
abbrev n___len__ : Nat := 1
abbrev n___contains__ : Nat := 2
abbrev n___add__ : Nat := 3
abbrev n___sub__ : Nat := 4
abbrev n___and__ : Nat := 5
abbrev n___getitem__ : Nat := 6
abbrev n___bool__ : Nat := 7
abbrev n___repr__ : Nat := 8
abbrev n___call__ : Nat := 9
abbrev n_value : Nat := 10
abbrev n_least : Nat := 11
abbrev n_most : Nat := 12
abbrev n_text : Nat := 13
abbrev n_shifts : Nat := 14
abbrev n_need : Nat := 15
abbrev n_workers : Nat := 16
abbrev n_day : Nat := 17
abbrev n_self : Nat := 18
abbrev n_own_shifts : Nat := 19
abbrev n_own_workers : Nat := 20
abbrev n_own_needs : Nat := 21
abbrev n_own_days : Nat := 22
abbrev n_cls : Nat := 23
abbrev n_other : Nat := 24
abbrev n_days : Nat := 25
abbrev n_worker : Nat := 26
abbrev n__law_script : Nat := 27
abbrev n__law_bag_here : Nat := 28
abbrev n__law_sides : Nat := 29
abbrev n__law_things : Nat := 30
abbrev n__law_many : Nat := 31
abbrev n__law_shifts_here : Nat := 32
abbrev n__law_hands : Nat := 33
abbrev n__law_text : Nat := 34
abbrev n__law_need_here : Nat := 35
abbrev n__law_kinds : Nat := 36
abbrev n__law_line : Nat := 37
abbrev n__law_hand : Nat := 38
abbrev n__law_found : Nat := 39
abbrev n__law_due : Nat := 40
abbrev n_MOST : Nat := 41
abbrev n_needs : Nat := 42
abbrev n_plain : Nat := 43
end K04
end
section
set_option linter.all false
set_option maxRecDepth 100000
set_option maxHeartbeats 0
namespace K04
open PySem PySem.Spec PyProof.Rows L2 PI
def nmL : List Str := ((["__eq__", "__len__", "__contains__", "__add__", "__sub__", "__and__", "__getitem__", "__bool__", "__repr__", "__call__", "value", "least", "most", "text", "shifts", "need", "workers", "day", "self", "own_shifts", "own_workers", "own_needs", "own_days", "cls", "other"] : List PySem.Str) ++ (["days", "worker", "_law_script", "_law_bag_here", "_law_sides", "_law_things", "_law_many", "_law_shifts_here", "_law_hands", "_law_text", "_law_need_here", "_law_kinds", "_law_line", "_law_hand", "_law_found", "_law_due", "MOST", "needs", "plain"] : List PySem.Str))
def tp (i : Nat) : Stmt := PySem.Challenge.pw_fewdays_k04_shifts_of_workers.main.body.getD i (.Pass ⟨0, 0, 0, 0⟩)
def mt (i j : Nat) : Stmt := (clsBody (tp i)).getD j (.Pass ⟨0, 0, 0, 0⟩)
def s0 : FnSrc := ⟨"is_number", "is_number", defArgs (tp 12), defBody (tp 12), defScope (tp 12), (["value", "least", "most"] : List PySem.Str), ""⟩
def s1 : FnSrc := ⟨"is_letters", "is_letters", defArgs (tp 13), defBody (tp 13), defScope (tp 13), (["text", "most", "sign", "at"] : List PySem.Str), ""⟩
def s2 : FnSrc := ⟨"is_shift", "is_shift", defArgs (tp 14), defBody (tp 14), defScope (tp 14), (["value", "shifts"] : List PySem.Str), ""⟩
def s3 : FnSrc := ⟨"is_need", "is_need", defArgs (tp 15), defBody (tp 15), defScope (tp 15), (["need", "shifts", "workers", "word", "rest", "one", "other", "shift"] : List PySem.Str), ""⟩
def s4 : FnSrc := ⟨"meets", "meets", defArgs (tp 16), defBody (tp 16), defScope (tp 16), (["day", "need", "word", "rest", "sign", "one", "other", "shift"] : List PySem.Str), ""⟩
def s5 : FnSrc := ⟨"all_strings", "all_strings", defArgs (tp 17), defBody (tp 17), defScope (tp 17), (["shifts", "workers", "found", "worker", "text", "sign"] : List PySem.Str), ""⟩
def s6 : FnSrc := ⟨"__init__", "Crew.__init__", defArgs (mt 18 1), defBody (mt 18 1), defScope (mt 18 1), (["self", "shifts", "workers", "needs", "at", "need", "texts", "text"] : List PySem.Str), "needs"⟩
def s7 : FnSrc := ⟨"plain", "Crew.plain", defArgs (mt 18 2), defBody (mt 18 2), defScope (mt 18 2), (["cls", "shifts"] : List PySem.Str), ""⟩
def s8 : FnSrc := ⟨"shifts", "Crew.shifts", defArgs (mt 18 3), defBody (mt 18 3), defScope (mt 18 3), (["self"] : List PySem.Str), ""⟩
def s9 : FnSrc := ⟨"workers", "Crew.workers", defArgs (mt 18 4), defBody (mt 18 4), defScope (mt 18 4), (["self"] : List PySem.Str), ""⟩
def s10 : FnSrc := ⟨"needs", "Crew.needs", defArgs (mt 18 5), defBody (mt 18 5), defScope (mt 18 5), (["self"] : List PySem.Str), ""⟩
def s11 : FnSrc := ⟨"days", "Crew.days", defArgs (mt 18 6), defBody (mt 18 6), defScope (mt 18 6), (["self"] : List PySem.Str), ""⟩
def s12 : FnSrc := ⟨"__contains__", "Crew.__contains__", defArgs (mt 18 7), defBody (mt 18 7), defScope (mt 18 7), (["self", "day"] : List PySem.Str), ""⟩
def s13 : FnSrc := ⟨"__len__", "Crew.__len__", defArgs (mt 18 8), defBody (mt 18 8), defScope (mt 18 8), (["self"] : List PySem.Str), ""⟩
def s14 : FnSrc := ⟨"__eq__", "Crew.__eq__", defArgs (mt 18 9), defBody (mt 18 9), defScope (mt 18 9), (["self", "other"] : List PySem.Str), ""⟩
def s15 : FnSrc := ⟨"__repr__", "Crew.__repr__", defArgs (mt 18 10), defBody (mt 18 10), defScope (mt 18 10), (["self"] : List PySem.Str), ""⟩
def s16 : FnSrc := ⟨"shifts_of", "shifts_of", defArgs (tp 19), defBody (tp 19), defScope (tp 19), (["days", "worker", "day"] : List PySem.Str), ""⟩
def s17 : FnSrc := ⟨"_law_bag", "_law_bag", defArgs (tp 21), defBody (tp 21), defScope (tp 21), (["_law_script", "_law_seed", "_law_cell"] : List PySem.Str), ""⟩
def s18 : FnSrc := ⟨"_law_draw", "_law_draw", defArgs (tp 22), defBody (tp 22), defScope (tp 22), (["_law_bag_here", "_law_sides", "_law_cell", "_law_digit", "_law_seed"] : List PySem.Str), ""⟩
def s19 : FnSrc := ⟨"_law_pick", "_law_pick", defArgs (tp 23), defBody (tp 23), defScope (tp 23), (["_law_bag_here", "_law_things"] : List PySem.Str), ""⟩
def s20 : FnSrc := ⟨"_law_shifts", "_law_shifts", defArgs (tp 24), defBody (tp 24), defScope (tp 24), (["_law_bag_here", "_law_many", "_law_letters", "_law_at", "_law_found", "_law_k"] : List PySem.Str), ""⟩
def s21 : FnSrc := ⟨"_law_need", "_law_need", defArgs (tp 25), defBody (tp 25), defScope (tp 25), (["_law_bag_here", "_law_shifts_here", "_law_hands", "_law_way", "_law_sign", "_law_one"] : List PySem.Str), ""⟩
def s22 : FnSrc := ⟨"_law_strings", "_law_strings", defArgs (tp 26), defBody (tp 26), defScope (tp 26), (["_law_shifts_here", "_law_hands", "_law_found", "_law_k", "_law_late", "_law_text", "_law_sign"] : List PySem.Str), ""⟩
def s23 : FnSrc := ⟨"_law_meets", "_law_meets", defArgs (tp 27), defBody (tp 27), defScope (tp 27), (["_law_text", "_law_need_here"] : List PySem.Str), ""⟩
def s24 : FnSrc := ⟨"_law_crew", "_law_crew", defArgs (tp 28), defBody (tp 28), defScope (tp 28), (["_law_bag_here", "_law_kinds", "_law_many", "_law_hands", "_law_shifts_here", "_law_needs", "_law_k", "_law_texts", "_law_days_z", "_law_text", "_law_need_here"] : List PySem.Str), ""⟩
def s25 : FnSrc := ⟨"_law_lane", "_law_lane", defArgs (tp 29), defBody (tp 29), defScope (tp 29), (["_law_line", "_law_hand", "_law_text"] : List PySem.Str), ""⟩
def s26 : FnSrc := ⟨"_law_like", "_law_like", defArgs (tp 30), defBody (tp 30), defScope (tp 30), (["_law_found", "_law_due", "_law_a", "_law_b"] : List PySem.Str), ""⟩
def s27 : FnSrc := ⟨"law", "law", defArgs (tp 31), defBody (tp 31), defScope (tp 31), (["_law_script", "_law_bag_here", "_law_turn", "_law_model", "_law_line", "_law_k", "_law_hand", "_law_due"] : List PySem.Str), ""⟩
def srs : List FnSrc := [s0, s1, s2, s3, s4, s5, s6, s7, s8, s9, s10, s11, s12, s13, s14, s15, s16, s17, s18, s19, s20, s21, s22, s23, s24, s25, s26, s27]
def pls : List Pl := [.glo "is_number", .glo "is_letters", .glo "is_shift", .glo "is_need", .glo "meets", .glo "all_strings", .met "Crew" "__init__", .clm "Crew" "plain", .prop "Crew" "shifts", .prop "Crew" "workers", .met "Crew" "needs", .met "Crew" "days", .met "Crew" "__contains__", .met "Crew" "__len__", .met "Crew" "__eq__", .met "Crew" "__repr__", .glo "shifts_of", .glo "_law_bag", .glo "_law_draw", .glo "_law_pick", .glo "_law_shifts", .glo "_law_need", .glo "_law_strings", .glo "_law_meets", .glo "_law_crew", .glo "_law_lane", .glo "_law_like", .glo "law"]
def cn : List Str := (["RosterError", "InvalidShifts", "InvalidWorkers", "InvalidNeed", "TooMany", "Crew"] : List PySem.Str)
def own : List Nat := [5]
def ck : Ck := ⟨[("is_number", 0), ("is_letters", 1), ("is_shift", 2), ("is_need", 3), ("meets", 4), ("all_strings", 5), ("shifts_of", 16), ("_law_bag", 17), ("_law_draw", 18), ("_law_pick", 19), ("_law_shifts", 20), ("_law_need", 21), ("_law_strings", 22), ("_law_meets", 23), ("_law_crew", 24), ("_law_lane", 25), ("_law_like", 26), ("law", 27)], [("Crew", 5)], [("__name__", (.str [108, 97, 119, 95, 102, 101, 119, 100, 97, 121, 115, 95, 107, 48, 52, 95, 115, 104, 105, 102, 116, 115, 95, 111, 102, 95, 119, 111, 114, 107, 101, 114, 115])), ("SMALL", (.str [97, 98, 99, 100, 101, 102, 103, 104, 105, 106, 107, 108, 109, 110, 111, 112, 113, 114, 115, 116, 117, 118, 119, 120, 121, 122])), ("MOST_SHIFTS", (.int 4)), ("MOST_CREW", (.int 3)), ("MOST_DAYS", (.int 24))], (["len", "all", "any", "sum", "max", "min", "int", "list", "tuple", "range", "zip", "isinstance", "str", "bool", "dict", "enumerate", "repr"] : List PySem.Str), [19, 20, 21, 22], bltT ++ [.own 5]⟩
theorem nm_ok : (nmC nmL && dnC nmL) = true := by kernel_rfl
theorem txt_ok : ∀ ca, okAllC ⟨nmF nmL, ca, pg⟩ ck pls srs fns = true := fun ca => by kernel_rfl
theorem ck_ok : ∀ ca, ckCC ⟨nmF nmL, ca, pg⟩ ck cn own srs pls fns = true := fun ca => by kernel_rfl
theorem pg_fn (f : Nat) : pg.fn f = fns[f]? := rfl
theorem pg_own : ∀ q cl, pg.cl q = some cl → q ∈ own := fun q cl e => by
  match q, e with
  | 0, e => exact absurd (show (none : Option Cl) = some cl from e) (by simp)
  | 1, e => exact absurd (show (none : Option Cl) = some cl from e) (by simp)
  | 2, e => exact absurd (show (none : Option Cl) = some cl from e) (by simp)
  | 3, e => exact absurd (show (none : Option Cl) = some cl from e) (by simp)
  | 4, e => exact absurd (show (none : Option Cl) = some cl from e) (by simp)
  | 5, _ => exact by simp [own]
  | n + 6, e => exact absurd (show (none : Option Cl) = some cl from e) (by simp)
def nms : List PySem.Str := (["RosterError", "InvalidShifts", "InvalidWorkers", "InvalidNeed", "TooMany", "SMALL", "MOST_SHIFTS", "MOST_CREW", "MOST_DAYS", "LENGTHS", "is_number", "is_letters", "is_shift", "is_need", "meets", "all_strings", "Crew", "shifts_of", "_law_bag", "_law_draw", "_law_pick", "_law_shifts", "_law_need", "_law_strings", "_law_meets"] : List PySem.Str) ++ (["_law_crew", "_law_lane", "_law_like"] : List PySem.Str)
abbrev fcs : List Fc := allFc nmL cn pg pls own ck
abbrev dss : List He5.DefA := dsP (nmF nmL) pls srs fns
abbrev R : PySem.W.OpenRow := PySem.W.OpenLaw.row PySem.Challenge.rw_fewdays_k04_shifts_of_workers
abbrev hk : PySem.W.Hook := hookP 7 fcs dss
def ob (s : PySem.W.SharedT) : He.AlD := seenP fcs dss (partP 7 (HandSHeadRun.getT s))
theorem ob_eq (s : PySem.W.SharedT) : ob s = hk.obs s.abs := hookP_eq (HandSHeadRun.getT_eq s)
theorem runF (w : World) : HandSHeadRun.RunEq R (PySem.W.view R.prog [31]) hk ob 6000 nms (w.withFollow "special-get-raises" false) := by
  intro os
  kernel_rfl
theorem runT (w : World) : HandSHeadRun.RunEq R (PySem.W.view R.prog [31]) hk ob 6000 nms (w.withFollow "special-get-raises" true) := by
  intro os
  kernel_rfl
theorem run (w : World) : HandSHeadRun.RunEq R (PySem.W.view R.prog [31]) hk ob 6000 nms w := PySem.W.byRow2 "special-get-raises" (P := fun w => HandSHeadRun.RunEq R (PySem.W.view R.prog [31]) hk ob 6000 nms w) runF runT w
theorem facts {w : World} {K : PySem.W.Frag} {h : Heap} {mg : Str → Option Value} {f : Addr} (hrun : ∀ ns : List Int, ns.length ≤ 63 → ∃ h, (cfs pg 40).f 27 [.lst (ns.map .int)] [] = .ok (.bl true) h) (X : K.In h) (G : h.Ns mainGlobals mg) (hfa : mg ("law" : Str) = some (.ref f)) (c : seenP fcs dss K = dueP dss) :
    ∃ fd : FuncData, (∀ (s : Shared) (v : Value), BindsTo s fd ⟨[v], []⟩ [("_law_script", v)]) ∧ ∀ base : Heap, K.In base → base.Ns mainGlobals mg → FnOk PySem.Challenge.pw_fewdays_k04_shifts_of_workers w K mg base CX0 120 f fd ["_law_script"] (spLaw K 63) := by
  obtain ⟨L, fun_⟩ := wld_cls pg_fn pg_own nm_ok txt_ok ck_ok X G c
  obtain ⟨_, _, fd, rfl, rfl, F0⟩ := fun_ 27 _ rfl
  have F : FunD K (srF srs 27).name (srF srs 27).qual (srF srs 27).params (srF srs 27).body (srF srs 27).scope [] [] ((plF pls 27).ad K) fd := F0
  have e := hfa.symm.trans (L.fnm ("law", 27) (by simp [ck])).1
  cases e
  refine ⟨fd, fun s v => FunD.bindsA (ps := ["_law_script"]) F (fun _ _ _ _ _ _ us hl => match us, hl with | [_], _ => rfl) s [v] rfl, fun base _ _ => ?_⟩
  exact law_ok (d := 39) L (f := 27) rfl F rfl hrun
end K04
open PySem PySem.W PySem.Calls PyProof.Rows
theorem K04_row (hrun : ∀ ns : List Int, ns.length ≤ 63 → ∃ h, (PI.cfs K04.pg 40).f 27 [.lst (ns.map .int)] [] = .ok (.bl true) h) : PySem.Challenge.rw_fewdays_k04_shifts_of_workers.Holds := by
  w_on; o_law
  refine HandSHeadRun.head_any (r := OpenLaw.row PySem.Challenge.rw_fewdays_k04_shifts_of_workers) (q := view (OpenLaw.row PySem.Challenge.rw_fewdays_k04_shifts_of_workers).prog [31]) (H := K04.hk) (ob := K04.ob) (M := 6000) (loose := K04.nms) (d := HandSHeadRun.topDef (OpenLaw.row PySem.Challenge.rw_fewdays_k04_shifts_of_workers).prog 31) (kwd := []) K04.ob_eq
    (by kernel_rfl) (fun s => by kernel_rfl) K04.run (by kernel_rfl) (by kernel_rfl) (by kernel_rfl) (by rfl) (by first | assumption | decide +kernel) (by decide +kernel) ⟨rfl, rfl, rfl, rfl, rfl, by decide +kernel⟩ ?hw ?hc
  case hw => w_witness2
  case hc =>
    refine L2.walk_ofE (l := PySem.Challenge.rw_fewdays_k04_shifts_of_workers) (n := 63) (k := 120) (x := "_law_script") (CX := L2.CX0) rfl (by decide) (by kernel_rfl) ⟨rfl, by decide, by decide⟩ ?F (fun _ _ _ _ z => z)
    intro w mg fa h Y G hmg0
    obtain ⟨K, KX, c⟩ := Y
    have hmg : mg ("law" : PySem.Str) = some (.ref fa) := by
      have e : (HandSHeadRun.topDef (OpenLaw.row PySem.Challenge.rw_fewdays_k04_shifts_of_workers).prog 31).name = ("law" : PySem.Str) := by kernel_rfl
      rw [← e]
      exact hmg0
    obtain ⟨fd, hb, hF⟩ := K04.facts (w := w) hrun KX G hmg c
    exact ⟨K, fd, PI.spLaw K 63, KX, hb, fun H a ns hl _ hS => ⟨a, ns, rfl, hl, hS, fun _ => rfl⟩, hF⟩
end
section
set_option linter.all false
set_option maxRecDepth 100000
set_option maxHeartbeats 4000000
namespace K04
open PI
theorem natAbs10 : Int.natAbs 10 = 10 := rfl
/-- the drawing bag -/
structure Bg where
  cells : List Int
  pos : Nat
  left : Int
  seed : Int
  count : Int
  hl : 0 ≤ left
  h1 : 0 ≤ seed
  h2 : seed < 2147483563
def Bg.o (b : Bg) : O := .lst [.lst (b.cells.map .int), .int (b.pos : Nat), .int b.left, .int b.seed, .int b.count]
theorem emod_bd (x : Int) {n : Int} (h : 0 < n) : 0 ≤ x % n ∧ x % n < n := ⟨Int.emod_nonneg _ (by omega), Int.emod_lt_of_pos _ h⟩
/-- where nothing is left of a great cell, and no cell -/
theorem mix_bd (x y : Int) : 0 ≤ (x % 2147483563 / 97 + y) ∨ True := .inr trivial
theorem draw_c (cells : List Int) (pos : Nat) (seed count : Int) (sides : Int) (hs : 0 < sides) (h1 : 0 ≤ seed) (h2 : seed < 2147483563) (hp : ¬ pos < cells.length) :
    ∃ (r : Int) (b : Bg), 0 ≤ r ∧ r < sides ∧ ∀ (d : Nat) (t : Hh), (cfs pg (d + 1)).f i__law_draw [.ref 0, .int sides] (O.lst [.lst (cells.map .int), .int (pos : Nat), .int 0, .int seed, .int count] :: t) = .ok (.int r) (b.o :: t) := by
  have hp' : ¬ ((pos : Int) < (cells.length : Int)) := by omega
  have m1 : okMul seed seed = true := okMul_r _ _ (by omega)
  have m2 : ∀ x : Int, okMul x 13 = true := fun x => okMul_r _ _ (by omega)
  have m3 : ∀ x : Int, okMul x 42013 = true := fun x => okMul_r _ _ (by omega)
  have m4 : ∀ x : Int, okMul x 1299743 = true := fun x => okMul_r _ _ (by omega)
  have m5 : ∀ x : Int, okMul x 59 = true := fun x => okMul_r _ _ (by omega)
  refine ⟨_, ⟨cells, pos, 0, (seed * seed * 13 + seed * 42013 + (count + 1) * 1299743 + 50021) % 2147483563, count + 1, Int.le_refl _, (emod_bd _ (by omega)).1, (emod_bd _ (by omega)).2⟩, (emod_bd (((seed * seed * 13 + seed * 42013 + (count + 1) * 1299743 + 50021) % 2147483563 / 97 + (seed * seed * 13 + seed * 42013 + (count + 1) * 1299743 + 50021) % 2147483563 % 7927 * 59)) hs).1, (emod_bd _ hs).2, fun d t => ?_⟩
  rw [fn__law_draw]
  simp -implicitDefEqProofs only [bd__law_draw, R.ok_bind, R.ok_toS, is_, ie, ic, ss_nil, ss_cons, s_set, s_own, s_frz, s_unp, s_unps, s_asg, s_par, s_setI, s_app, s_exp, s_ret, s_retN, s_iff, s_for, s_pass, s_brk, s_cnt, x_v, x_k, x_op, x_chain, x_mt, x_sl3, x_and, x_or, x_not, x_ite, x_tup, x_lst, x_cell, x_call, x_comp, x_lmul, x_fld, x_comp2, x_opd1, x_opd2, a_v, a_k, a_op, a_chain, a_mt, a_sl3, a_and, a_or, a_not, a_ite, a_tup, a_lst, a_cell, a_fld, a_call, a_new, a_meth, a_comp, a_lmul, a_opd1, a_opd2, a_comp2, as_nil, as_cons, its_nil, its_one, its_star, ks_nil, ks_cons, t_and, t_or, t_not, t_v, t_op, t_chain, t_call, t_meth, t_k, t_fld, t_mt, t_opd1, t_opd2, i_seq, i_range, i_enum, i_zip, i_enumz, truth_bl, start, setNs, setN, fresh, oOf, O.d, cleanI, clean, bt_n, bt_t, bts_nil, bts_cons, tgS, tgsS, wipeR, seqOf, vw, List.map_cons, List.map_nil, List.length_cons, List.length_nil, List.replicate, List.cons_append, List.nil_append, List.append_nil, List.getElem?_cons_zero, List.getElem?_cons_succ, List.set_cons_zero, List.set_cons_succ, Option.bind_some, Option.map_some, if_true, if_false, ite_true, ite_false, reduceIte, Bool.not_true, Bool.not_false, Bool.and_true, Bool.true_and, Bool.and_false, Bool.false_and, Bool.or_true, Bool.true_or, Bool.or_false, Bool.false_or, Nat.reduceAdd, Nat.reduceSub, Int.reduceAdd, Int.reduceSub, Int.reduceLE, Int.reduceLT, Int.reduceToNat, Int.cast_ofNat_Int, decide_true, decide_false, Bool.true_eq_false, Bool.false_eq_true, evOp, dun, clsOf, vw, opf, op2, op1, oAdd, oIdx, oLen, oLt, oGt, oGe, oMul, oMod, oDiv, oPow, oInt, at?, ixOf, eqD, scalD, flat, deq, truthD, truthV, putI, hp', m1, m2, m3, m4, m5, hs, List.length_map, beq_self_eq_true, gt_iff_lt, ge_iff_le, Int.lt_irrefl, Bg.o]
theorem draw_l (cells : List Int) (pos : Nat) (left seed count : Int) (sides : Int) (hs : 0 < sides) (hb : sides < 1000000000000000000000000000000) (hl : 0 < left) (h1 : 0 ≤ seed) (h2 : seed < 2147483563) :
    ∃ (r : Int) (b : Bg), 0 ≤ r ∧ r < sides ∧ ∀ (d : Nat) (t : Hh), (cfs pg (d + 1)).f i__law_draw [.ref 0, .int sides] (O.lst [.lst (cells.map .int), .int (pos : Nat), .int left, .int seed, .int count] :: t) = .ok (.int r) (b.o :: t) := by
  have hl0 : (left == 0) = false := by simp; omega
  refine ⟨left % sides, ⟨cells, pos, left / sides, seed, count + 1, Int.ediv_nonneg (by omega) (by omega), h1, h2⟩, (emod_bd _ hs).1, (emod_bd _ hs).2, fun d t => ?_⟩
  rw [fn__law_draw]
  simp -implicitDefEqProofs only [bd__law_draw, R.ok_bind, R.ok_toS, is_, ie, ic, ss_nil, ss_cons, s_set, s_own, s_frz, s_unp, s_unps, s_asg, s_par, s_setI, s_app, s_exp, s_ret, s_retN, s_iff, s_for, s_pass, s_brk, s_cnt, x_v, x_k, x_op, x_chain, x_mt, x_sl3, x_and, x_or, x_not, x_ite, x_tup, x_lst, x_cell, x_call, x_comp, x_lmul, x_fld, x_comp2, x_opd1, x_opd2, a_v, a_k, a_op, a_chain, a_mt, a_sl3, a_and, a_or, a_not, a_ite, a_tup, a_lst, a_cell, a_fld, a_call, a_new, a_meth, a_comp, a_lmul, a_opd1, a_opd2, a_comp2, as_nil, as_cons, its_nil, its_one, its_star, ks_nil, ks_cons, t_and, t_or, t_not, t_v, t_op, t_chain, t_call, t_meth, t_k, t_fld, t_mt, t_opd1, t_opd2, i_seq, i_range, i_enum, i_zip, i_enumz, truth_bl, start, setNs, setN, fresh, oOf, O.d, cleanI, clean, bt_n, bt_t, bts_nil, bts_cons, tgS, tgsS, wipeR, seqOf, vw, List.map_cons, List.map_nil, List.length_cons, List.length_nil, List.replicate, List.cons_append, List.nil_append, List.append_nil, List.getElem?_cons_zero, List.getElem?_cons_succ, List.set_cons_zero, List.set_cons_succ, Option.bind_some, Option.map_some, if_true, if_false, ite_true, ite_false, reduceIte, Bool.not_true, Bool.not_false, Bool.and_true, Bool.true_and, Bool.and_false, Bool.false_and, Bool.or_true, Bool.true_or, Bool.or_false, Bool.false_or, Nat.reduceAdd, Nat.reduceSub, Int.reduceAdd, Int.reduceSub, Int.reduceLE, Int.reduceLT, Int.reduceToNat, Int.cast_ofNat_Int, decide_true, decide_false, Bool.true_eq_false, Bool.false_eq_true, evOp, dun, clsOf, vw, opf, op2, op1, oAdd, oIdx, oLen, oLt, oGt, oGe, oMul, oMod, oDiv, oPow, oInt, at?, ixOf, eqD, scalD, flat, deq, truthD, truthV, putI, hl, hl0, hs, hb, List.length_map, beq_self_eq_true, gt_iff_lt, ge_iff_le, Int.lt_irrefl, Bg.o]
theorem draw_n (cells : List Int) (pos : Nat) (seed count : Int) (sides : Int) (hs : 0 < sides) (hb : sides < 1000000000000000000000000000000) (h1 : 0 ≤ seed) (h2 : seed < 2147483563) (hp : pos < cells.length) :
    ∃ (r : Int) (b : Bg), 0 ≤ r ∧ r < sides ∧ ∀ (d : Nat) (t : Hh), (cfs pg (d + 1)).f i__law_draw [.ref 0, .int sides] (O.lst [.lst (cells.map .int), .int (pos : Nat), .int 0, .int seed, .int count] :: t) = .ok (.int r) (b.o :: t) := by
  have hp' : ((pos : Int) < (cells.length : Int)) := by omega
  have h0p : (0 : Int) ≤ (pos : Int) := by omega
  have e1 : (cells.map D.int)[((pos : Nat) : Int).toNat]? = some (.int cells[pos]) := by simp [hp]
  by_cases hc : 1000000000000000000 ≤ cells[pos]
  · have hc0 : 0 < cells[pos] := by omega
    refine ⟨cells[pos] % sides, ⟨cells, pos + 1, cells[pos] / sides, seed, count + 1, Int.ediv_nonneg (by omega) (by omega), h1, h2⟩, (emod_bd _ hs).1, (emod_bd _ hs).2, fun d t => ?_⟩
    rw [fn__law_draw]
    simp -implicitDefEqProofs only [bd__law_draw, R.ok_bind, R.ok_toS, is_, ie, ic, ss_nil, ss_cons, s_set, s_own, s_frz, s_unp, s_unps, s_asg, s_par, s_setI, s_app, s_exp, s_ret, s_retN, s_iff, s_for, s_pass, s_brk, s_cnt, x_v, x_k, x_op, x_chain, x_mt, x_sl3, x_and, x_or, x_not, x_ite, x_tup, x_lst, x_cell, x_call, x_comp, x_lmul, x_fld, x_comp2, x_opd1, x_opd2, a_v, a_k, a_op, a_chain, a_mt, a_sl3, a_and, a_or, a_not, a_ite, a_tup, a_lst, a_cell, a_fld, a_call, a_new, a_meth, a_comp, a_lmul, a_opd1, a_opd2, a_comp2, as_nil, as_cons, its_nil, its_one, its_star, ks_nil, ks_cons, t_and, t_or, t_not, t_v, t_op, t_chain, t_call, t_meth, t_k, t_fld, t_mt, t_opd1, t_opd2, i_seq, i_range, i_enum, i_zip, i_enumz, truth_bl, start, setNs, setN, fresh, oOf, O.d, cleanI, clean, bt_n, bt_t, bts_nil, bts_cons, tgS, tgsS, wipeR, seqOf, vw, List.map_cons, List.map_nil, List.length_cons, List.length_nil, List.replicate, List.cons_append, List.nil_append, List.append_nil, List.getElem?_cons_zero, List.getElem?_cons_succ, List.set_cons_zero, List.set_cons_succ, Option.bind_some, Option.map_some, if_true, if_false, ite_true, ite_false, reduceIte, Bool.not_true, Bool.not_false, Bool.and_true, Bool.true_and, Bool.and_false, Bool.false_and, Bool.or_true, Bool.true_or, Bool.or_false, Bool.false_or, Nat.reduceAdd, Nat.reduceSub, Int.reduceAdd, Int.reduceSub, Int.reduceLE, Int.reduceLT, Int.reduceToNat, Int.cast_ofNat_Int, decide_true, decide_false, Bool.true_eq_false, Bool.false_eq_true, evOp, dun, clsOf, vw, opf, op2, op1, oAdd, oIdx, oLen, oLt, oGt, oGe, oMul, oMod, oDiv, oPow, oInt, at?, ixOf, eqD, scalD, flat, deq, truthD, truthV, putI, hp', h0p, e1, hc, hc0, hs, hb, List.length_map, beq_self_eq_true, gt_iff_lt, ge_iff_le, Int.lt_irrefl, Bg.o, Int.reducePow, natAbs10, Nat.reduceLT, Int.natCast_add]
  · have m0 : ∀ x : Int, okMul x 39989 = true := fun x => okMul_r _ _ (by omega)
    have m6 : ∀ x : Int, okMul x 30011 = true := fun x => okMul_r _ _ (by omega)
    have m3 : ∀ x : Int, okMul x 42013 = true := fun x => okMul_r _ _ (by omega)
    have m2 : ∀ x : Int, okMul x 13 = true := fun x => okMul_r _ _ (by omega)
    have m4 : ∀ x : Int, okMul x 1299743 = true := fun x => okMul_r _ _ (by omega)
    have m5 : ∀ x : Int, okMul x 59 = true := fun x => okMul_r _ _ (by omega)
    have ms : ∀ y : Int, okMul (y % 2147483563) (y % 2147483563) = true := fun y => okMul_r _ _ (by have := emod_bd y (show (0 : Int) < 2147483563 by omega); omega)
    refine ⟨?r, ⟨cells, pos + 1, 0, ?s, count + 1, Int.le_refl _, ?a, ?b⟩, ?c, ?e, fun d t => ?f⟩
    case f =>
      rw [fn__law_draw]
      simp -implicitDefEqProofs only [bd__law_draw, R.ok_bind, R.ok_toS, is_, ie, ic, ss_nil, ss_cons, s_set, s_own, s_frz, s_unp, s_unps, s_asg, s_par, s_setI, s_app, s_exp, s_ret, s_retN, s_iff, s_for, s_pass, s_brk, s_cnt, x_v, x_k, x_op, x_chain, x_mt, x_sl3, x_and, x_or, x_not, x_ite, x_tup, x_lst, x_cell, x_call, x_comp, x_lmul, x_fld, x_comp2, x_opd1, x_opd2, a_v, a_k, a_op, a_chain, a_mt, a_sl3, a_and, a_or, a_not, a_ite, a_tup, a_lst, a_cell, a_fld, a_call, a_new, a_meth, a_comp, a_lmul, a_opd1, a_opd2, a_comp2, as_nil, as_cons, its_nil, its_one, its_star, ks_nil, ks_cons, t_and, t_or, t_not, t_v, t_op, t_chain, t_call, t_meth, t_k, t_fld, t_mt, t_opd1, t_opd2, i_seq, i_range, i_enum, i_zip, i_enumz, truth_bl, start, setNs, setN, fresh, oOf, O.d, cleanI, clean, bt_n, bt_t, bts_nil, bts_cons, tgS, tgsS, wipeR, seqOf, vw, List.map_cons, List.map_nil, List.length_cons, List.length_nil, List.replicate, List.cons_append, List.nil_append, List.append_nil, List.getElem?_cons_zero, List.getElem?_cons_succ, List.set_cons_zero, List.set_cons_succ, Option.bind_some, Option.map_some, if_true, if_false, ite_true, ite_false, reduceIte, Bool.not_true, Bool.not_false, Bool.and_true, Bool.true_and, Bool.and_false, Bool.false_and, Bool.or_true, Bool.true_or, Bool.or_false, Bool.false_or, Nat.reduceAdd, Nat.reduceSub, Int.reduceAdd, Int.reduceSub, Int.reduceLE, Int.reduceLT, Int.reduceToNat, Int.cast_ofNat_Int, decide_true, decide_false, Bool.true_eq_false, Bool.false_eq_true, evOp, dun, clsOf, vw, opf, op2, op1, oAdd, oIdx, oLen, oLt, oGt, oGe, oMul, oMod, oDiv, oPow, oInt, at?, ixOf, eqD, scalD, flat, deq, truthD, truthV, putI, hp', h0p, e1, hc, hs, hb, List.length_map, beq_self_eq_true, gt_iff_lt, ge_iff_le, Int.lt_irrefl, Bg.o, Int.reducePow, natAbs10, Nat.reduceLT, Int.natCast_add, m0, m2, m3, m4, m5, m6, ms]
      rfl
    · exact (emod_bd _ (by omega)).1
    · exact (emod_bd _ (by omega)).2
    · exact (emod_bd _ hs).1
    · exact (emod_bd _ hs).2
theorem draw_ex (b : Bg) (sides : Int) (hs : 0 < sides) (hb : sides < 1000000000000000000000000000000) :
    ∃ (r : Int) (b' : Bg), 0 ≤ r ∧ r < sides ∧ ∀ (d : Nat) (t : Hh), (cfs pg (d + 1)).f i__law_draw [.ref 0, .int sides] (b.o :: t) = .ok (.int r) (b'.o :: t) := by
  obtain ⟨cells, pos, left, seed, count, hl, h1, h2⟩ := b
  by_cases q : 0 < left
  · exact draw_l cells pos left seed count sides hs hb q h1 h2
  · have : left = 0 := by omega
    subst this
    by_cases hp : pos < cells.length
    · exact draw_n cells pos seed count sides hs hb h1 h2 hp
    · exact draw_c cells pos seed count sides hs h1 h2 hp
end K04
end
section
set_option linter.all false
set_option maxRecDepth 100000
set_option maxHeartbeats 4000000
namespace K04
open PI
/-- _law_bag -/
theorem sliceL (xs : List D) (h : Hh) : evOp pg (.slc false true) [.lst xs, .int 63] h = .ok (.lst (xs.take 63)) h := by
  show (match oCut (.lst xs) none (some 63) with | some d => R.ok d h | none => .bad) = _
  have e1 : cut xs none (some 63) = xs.take 63 := by
    show List.take (min 63 xs.length - 0) (List.drop 0 xs) = _
    rw [Nat.sub_zero, List.drop_zero]
    by_cases q : 63 ≤ xs.length
    · rw [Nat.min_eq_left q]
    · rw [Nat.min_eq_right (by omega), List.take_of_length_le (Nat.le_refl _), List.take_of_length_le (by omega)]
  simp -implicitDefEqProofs only [oCut, e1]
theorem bag_ex (d : Nat) (ns : List Int) (hn : ns.length ≤ 63) : ∃ b : Bg, (cfs pg (d + 1)).f i__law_bag [.lst (ns.map .int)] [] = .ok (.ref 0) [b.o] := by
  have tk : (ns.map D.int).take 63 = ns.map D.int := List.take_of_length_le (by simpa using hn)
  have loop : ∀ (l : List Int) (seed : Int) (x : Option Sl), 0 ≤ seed → seed < 2147483563 → ∃ seed' x', 0 ≤ seed' ∧ seed' < 2147483563 ∧
      evFor (inner pg turns (cfs pg d) 39) (.n 2) lp__law_bag_1
        (l.map .int) [some (.val (.lst (ns.map .int))), some (.val (.int seed)), x] [] = .nx [some (.val (.lst (ns.map .int))), some (.val (.int seed')), x'] [] := by
    intro l
    induction l with
    | nil => intro seed x h1 h2; exact ⟨seed, x, h1, h2, rfl⟩
    | cons a l ih =>
      intro seed x h1 h2
      have m : ∀ x : Int, okMul x 50021 = true := fun x => okMul_r _ _ (by omega)
      obtain ⟨s', x', g1, g2, g3⟩ := ih ((seed * 50021 + a % 2147483423 + 71) % 2147483563) (some (.val (.int a))) (emod_bd _ (by omega)).1 (emod_bd _ (by omega)).2
      refine ⟨s', x', g1, g2, ?_⟩
      rw [List.map_cons, for_cons]
      simp -implicitDefEqProofs only [qlp__law_bag_1, R.ok_bind, R.ok_toS, is_, ie, ic, ss_nil, ss_cons, s_set, s_own, s_frz, s_unp, s_unps, s_asg, s_par, s_setI, s_app, s_exp, s_ret, s_retN, s_iff, s_for, s_pass, s_brk, s_cnt, x_v, x_k, x_op, x_chain, x_mt, x_sl3, x_and, x_or, x_not, x_ite, x_tup, x_lst, x_cell, x_call, x_comp, x_lmul, x_fld, x_comp2, x_opd1, x_opd2, a_v, a_k, a_op, a_chain, a_mt, a_sl3, a_and, a_or, a_not, a_ite, a_tup, a_lst, a_cell, a_fld, a_call, a_new, a_meth, a_comp, a_lmul, a_opd1, a_opd2, a_comp2, as_nil, as_cons, its_nil, its_one, its_star, ks_nil, ks_cons, t_and, t_or, t_not, t_v, t_op, t_chain, t_call, t_meth, t_k, t_fld, t_mt, t_opd1, t_opd2, i_seq, i_range, i_enum, i_zip, i_enumz, truth_bl, start, setNs, setN, fresh, oOf, O.d, cleanI, clean, bt_n, bt_t, bts_nil, bts_cons, tgS, tgsS, wipeR, seqOf, vw, List.map_cons, List.map_nil, List.length_cons, List.length_nil, List.replicate, List.cons_append, List.nil_append, List.append_nil, List.getElem?_cons_zero, List.getElem?_cons_succ, List.set_cons_zero, List.set_cons_succ, Option.bind_some, Option.map_some, if_true, if_false, ite_true, ite_false, reduceIte, Bool.not_true, Bool.not_false, Bool.and_true, Bool.true_and, Bool.and_false, Bool.false_and, Bool.or_true, Bool.true_or, Bool.or_false, Bool.false_or, Nat.reduceAdd, Nat.reduceSub, Int.reduceAdd, Int.reduceSub, Int.reduceLE, Int.reduceLT, Int.reduceToNat, Int.cast_ofNat_Int, decide_true, decide_false, Bool.true_eq_false, Bool.false_eq_true, o_add, o_addS, o_addL, o_sub, o_neg, o_mul, o_mod, o_eqI, o_neI, o_eqS, o_neS, o_eqB, o_neB, o_lt, o_ltS, o_le, o_gt, o_ge, o_isT, o_notT, o_inS, o_lenL, o_lenT, o_lenS, o_idxL, o_idxT, o_idxS, o_split, o_join, o_tupL, o_tupT, o_listL, o_listT, o_int, o_max2, o_count, m]
      exact g3
  obtain ⟨s', x', g1, g2, g3⟩ := loop ns 5764 none (by omega) (by omega)
  refine ⟨⟨ns, 0, 0, s', 0, by omega, g1, g2⟩, ?_⟩
  rw [fn__law_bag]
  have sz : sizeOk 5 = true := rfl
  simp -implicitDefEqProofs only [bd__law_bag, R.ok_bind, R.ok_toS, is_, ie, ic, ss_nil, ss_cons, s_set, s_own, s_frz, s_unp, s_unps, s_asg, s_par, s_setI, s_app, s_exp, s_ret, s_retN, s_iff, s_for, s_pass, s_brk, s_cnt, x_v, x_k, x_op, x_chain, x_mt, x_sl3, x_and, x_or, x_not, x_ite, x_tup, x_lst, x_cell, x_call, x_comp, x_lmul, x_fld, x_comp2, x_opd1, x_opd2, a_v, a_k, a_op, a_chain, a_mt, a_sl3, a_and, a_or, a_not, a_ite, a_tup, a_lst, a_cell, a_fld, a_call, a_new, a_meth, a_comp, a_lmul, a_opd1, a_opd2, a_comp2, as_nil, as_cons, its_nil, its_one, its_star, ks_nil, ks_cons, t_and, t_or, t_not, t_v, t_op, t_chain, t_call, t_meth, t_k, t_fld, t_mt, t_opd1, t_opd2, i_seq, i_range, i_enum, i_zip, i_enumz, truth_bl, start, setNs, setN, fresh, oOf, O.d, cleanI, clean, bt_n, bt_t, bts_nil, bts_cons, tgS, tgsS, wipeR, seqOf, vw, List.map_cons, List.map_nil, List.length_cons, List.length_nil, List.replicate, List.cons_append, List.nil_append, List.append_nil, List.getElem?_cons_zero, List.getElem?_cons_succ, List.set_cons_zero, List.set_cons_succ, Option.bind_some, Option.map_some, if_true, if_false, ite_true, ite_false, reduceIte, Bool.not_true, Bool.not_false, Bool.and_true, Bool.true_and, Bool.and_false, Bool.false_and, Bool.or_true, Bool.true_or, Bool.or_false, Bool.false_or, Nat.reduceAdd, Nat.reduceSub, Int.reduceAdd, Int.reduceSub, Int.reduceLE, Int.reduceLT, Int.reduceToNat, Int.cast_ofNat_Int, decide_true, decide_false, Bool.true_eq_false, Bool.false_eq_true, o_add, o_addS, o_addL, o_sub, o_neg, o_mul, o_mod, o_eqI, o_neI, o_eqS, o_neS, o_eqB, o_neB, o_lt, o_ltS, o_le, o_gt, o_ge, o_isT, o_notT, o_inS, o_lenL, o_lenT, o_lenS, o_idxL, o_idxT, o_idxS, o_split, o_join, o_tupL, o_tupT, o_listL, o_listT, o_int, o_max2, o_count, sliceL, tk, g3, sz]
  rfl
theorem draw_k (b : Bg) (sides : Int) (hs : 0 < sides) (hb : sides < 1000000000000000000000000000000) :
    ∃ (r : Nat) (b' : Bg), (r : Int) < sides ∧ ∀ (d : Nat) (t : Hh), (cfs pg (d + 1)).f i__law_draw [.ref 0, .int sides] (b.o :: t) = .ok (.int r) (b'.o :: t) := by
  obtain ⟨r, b', h0, h1, e⟩ := draw_ex b sides hs hb
  refine ⟨r.toNat, b', by omega, ?_⟩
  have : ((r.toNat : Nat) : Int) = r := by omega
  rw [this]
  exact e
/-- _law_pick -/
theorem pick_ex (b : Bg) (xs : List D) (hx : 0 < xs.length) (hl : xs.length < 1000000) : ∃ (x : D) (b' : Bg), x ∈ xs ∧ ∀ (d : Nat) (t : Hh), (cfs pg (d + 2)).f i__law_pick [.ref 0, .lst xs] (b.o :: t) = .ok x (b'.o :: t) := by
  obtain ⟨r, b', h1, e⟩ := draw_k b xs.length (by omega) (by omega)
  have hr : r < xs.length := by omega
  refine ⟨xs[r], b', List.getElem_mem hr, fun d t => ?_⟩
  rw [fn__law_pick]
  simp -implicitDefEqProofs only [bd__law_pick, R.ok_bind, R.ok_toS, is_, ie, ic, ss_nil, ss_cons, s_set, s_own, s_frz, s_unp, s_unps, s_asg, s_par, s_setI, s_app, s_exp, s_ret, s_retN, s_iff, s_for, s_pass, s_brk, s_cnt, x_v, x_k, x_op, x_chain, x_mt, x_sl3, x_and, x_or, x_not, x_ite, x_tup, x_lst, x_cell, x_call, x_comp, x_lmul, x_fld, x_comp2, x_opd1, x_opd2, a_v, a_k, a_op, a_chain, a_mt, a_sl3, a_and, a_or, a_not, a_ite, a_tup, a_lst, a_cell, a_fld, a_call, a_new, a_meth, a_comp, a_lmul, a_opd1, a_opd2, a_comp2, as_nil, as_cons, its_nil, its_one, its_star, ks_nil, ks_cons, t_and, t_or, t_not, t_v, t_op, t_chain, t_call, t_meth, t_k, t_fld, t_mt, t_opd1, t_opd2, i_seq, i_range, i_enum, i_zip, i_enumz, truth_bl, start, setNs, setN, fresh, oOf, O.d, cleanI, clean, bt_n, bt_t, bts_nil, bts_cons, tgS, tgsS, wipeR, seqOf, vw, List.map_cons, List.map_nil, List.length_cons, List.length_nil, List.replicate, List.cons_append, List.nil_append, List.append_nil, List.getElem?_cons_zero, List.getElem?_cons_succ, List.set_cons_zero, List.set_cons_succ, Option.bind_some, Option.map_some, if_true, if_false, ite_true, ite_false, reduceIte, Bool.not_true, Bool.not_false, Bool.and_true, Bool.true_and, Bool.and_false, Bool.false_and, Bool.or_true, Bool.true_or, Bool.or_false, Bool.false_or, Nat.reduceAdd, Nat.reduceSub, Int.reduceAdd, Int.reduceSub, Int.reduceLE, Int.reduceLT, Int.reduceToNat, Int.cast_ofNat_Int, decide_true, decide_false, Bool.true_eq_false, Bool.false_eq_true, o_add, o_addS, o_addL, o_sub, o_neg, o_mul, o_mod, o_eqI, o_neI, o_eqS, o_neS, o_eqB, o_neB, o_lt, o_ltS, o_le, o_gt, o_ge, o_isT, o_notT, o_inS, o_lenL, o_lenT, o_lenS, o_idxL, o_idxT, o_idxS, o_split, o_join, o_tupL, o_tupT, o_listL, o_listT, o_int, o_max2, o_count, cl__law_draw, e, at_nat xs r hr]
theorem pickS_ex (b : Bg) (xs : Tx) (hx : 0 < xs.length) (hl : xs.length < 1000000) : ∃ (x : Nat) (b' : Bg), x ∈ xs ∧ ∀ (d : Nat) (t : Hh), (cfs pg (d + 2)).f i__law_pick [.ref 0, .str xs] (b.o :: t) = .ok (.str [x]) (b'.o :: t) := by
  obtain ⟨r, b', h1, e⟩ := draw_k b xs.length (by omega) (by omega)
  have hr : r < xs.length := by omega
  refine ⟨xs[r], b', List.getElem_mem hr, fun d t => ?_⟩
  rw [fn__law_pick]
  simp -implicitDefEqProofs only [bd__law_pick, R.ok_bind, R.ok_toS, is_, ie, ic, ss_nil, ss_cons, s_set, s_own, s_frz, s_unp, s_unps, s_asg, s_par, s_setI, s_app, s_exp, s_ret, s_retN, s_iff, s_for, s_pass, s_brk, s_cnt, x_v, x_k, x_op, x_chain, x_mt, x_sl3, x_and, x_or, x_not, x_ite, x_tup, x_lst, x_cell, x_call, x_comp, x_lmul, x_fld, x_comp2, x_opd1, x_opd2, a_v, a_k, a_op, a_chain, a_mt, a_sl3, a_and, a_or, a_not, a_ite, a_tup, a_lst, a_cell, a_fld, a_call, a_new, a_meth, a_comp, a_lmul, a_opd1, a_opd2, a_comp2, as_nil, as_cons, its_nil, its_one, its_star, ks_nil, ks_cons, t_and, t_or, t_not, t_v, t_op, t_chain, t_call, t_meth, t_k, t_fld, t_mt, t_opd1, t_opd2, i_seq, i_range, i_enum, i_zip, i_enumz, truth_bl, start, setNs, setN, fresh, oOf, O.d, cleanI, clean, bt_n, bt_t, bts_nil, bts_cons, tgS, tgsS, wipeR, seqOf, vw, List.map_cons, List.map_nil, List.length_cons, List.length_nil, List.replicate, List.cons_append, List.nil_append, List.append_nil, List.getElem?_cons_zero, List.getElem?_cons_succ, List.set_cons_zero, List.set_cons_succ, Option.bind_some, Option.map_some, if_true, if_false, ite_true, ite_false, reduceIte, Bool.not_true, Bool.not_false, Bool.and_true, Bool.true_and, Bool.and_false, Bool.false_and, Bool.or_true, Bool.true_or, Bool.or_false, Bool.false_or, Nat.reduceAdd, Nat.reduceSub, Int.reduceAdd, Int.reduceSub, Int.reduceLE, Int.reduceLT, Int.reduceToNat, Int.cast_ofNat_Int, decide_true, decide_false, Bool.true_eq_false, Bool.false_eq_true, o_add, o_addS, o_addL, o_sub, o_neg, o_mul, o_mod, o_eqI, o_neI, o_eqS, o_neS, o_eqB, o_neB, o_lt, o_ltS, o_le, o_gt, o_ge, o_isT, o_notT, o_inS, o_lenL, o_lenT, o_lenS, o_idxL, o_idxT, o_idxS, o_split, o_join, o_tupL, o_tupT, o_listL, o_listT, o_int, o_max2, o_count, cl__law_draw, e, at_nat xs r hr, sizeOk_of (show xs.length ≤ 16777216 by omega)]
/-- strictly ascending small letters, from m on -/
def Asc (m : Nat) : Tx → Prop
  | [] => True
  | x :: r => m ≤ x ∧ x ≤ 122 ∧ Asc (x + 1) r
theorem Asc.mono {m k : Nat} (h : k ≤ m) : ∀ {x : Tx}, Asc m x → Asc k x
  | [], _ => trivial
  | _ :: _, a => ⟨Nat.le_trans h a.1, a.2⟩
theorem Asc.snoc {c : Nat} : ∀ {x : Tx} {m : Nat}, Asc m x → (∀ y ∈ x, y < c) → m ≤ c → c ≤ 122 → Asc m (x ++ [c])
  | [], _, _, _, h1, h2 => ⟨h1, h2, trivial⟩
  | y :: r, m, a, hy, h1, h2 => ⟨a.1, a.2.1, Asc.snoc a.2.2 (fun z hz => hy z (List.mem_cons_of_mem _ hz)) (hy y (List.mem_cons_self ..)) h2⟩
theorem Asc.filter (p : Nat → Bool) : ∀ {x : Tx} {m : Nat}, Asc m x → Asc m (x.filter p)
  | [], _, _ => trivial
  | y :: r, m, a => by
    rw [List.filter_cons]
    split
    · exact ⟨a.1, a.2.1, Asc.filter p a.2.2⟩
    · exact (Asc.filter p a.2.2).mono (by have := a.1; omega)
theorem Asc.bd : ∀ {x : Tx} {m : Nat}, Asc m x → ∀ c ∈ x, m ≤ c ∧ c ≤ 122
  | [], _, _, c, h => by cases h
  | y :: r, m, a, c, h => by
    cases h with
    | head => exact ⟨a.1, a.2.1⟩
    | tail _ h =>
      have := Asc.bd a.2.2 c h
      exact ⟨by have := a.1; omega, this.2⟩
theorem Asc.get : ∀ {x : Tx} {m : Nat}, Asc m x → ∀ (i : Nat) (hi : i + 1 < x.length), x[i] < x[i + 1]
  | [], _, _, i, hi => by simp at hi
  | [_], _, _, i, hi => by simp at hi
  | y :: z :: r, m, a, 0, hi => a.2.2.1
  | y :: z :: r, m, a, i + 1, hi => Asc.get (x := z :: r) a.2.2 i (by simpa using hi)
def abc : Tx := [97, 98, 99, 100, 101, 102, 103, 104, 105, 106, 107, 108, 109, 110, 111, 112, 113, 114, 115, 116, 117, 118, 119, 120, 121, 122]
theorem abc_at (k : Nat) (h : k < 26) : at? abc (k : Int) = some (97 + k) := by
  rw [at_nat abc k (by show k < 26; exact h)]
  congr 1
  have : ∀ k : Fin 26, abc[k.val]'(by show k.val < 26; exact k.isLt) = 97 + k.val := by decide
  exact this ⟨k, h⟩
theorem abc_has (c : Nat) (h1 : 97 ≤ c) (h2 : c ≤ 122) : abc.contains c = true := by
  have : ∀ k : Fin 26, abc.contains (97 + k.val) = true := by decide
  have := this ⟨c - 97, by omega⟩
  have e : 97 + (c - 97) = c := by omega
  simp -implicitDefEqProofs only [e] at this
  exact this
/-- _law_shifts -/
theorem shifts_ex (b : Bg) (n : Nat) (hn : n ≤ 4) : ∃ (x : Tx) (b' : Bg), x.length = n ∧ Asc 97 x ∧ ∀ (d : Nat) (t : Hh), (cfs pg (d + 2)).f i__law_shifts [.ref 0, .int n] (b.o :: t) = .ok (.str x) (b'.o :: t) := by
  have loop : ∀ (k : Nat) (i : Int) (at_ : Nat) (x : Tx) (s5 : Option Sl) (b : Bg), at_ + 5 * k ≤ 27 → x.length + k ≤ 10 → Asc 97 x → (∀ y ∈ x, y < 97 + at_) → ∃ (x' : Tx) (b' : Bg), x'.length = x.length + k ∧ Asc 97 x' ∧ ∀ (d : Nat) (t : Hh), ∃ (s3 s5' : Option Sl),
      evFor (inner pg turns (cfs pg (d + 1)) 39) (.n 5) lp__law_shifts_1 (countUp k i) [some (.val (.ref 0)), some (.val (.int n)), some (.val (.str abc)), some (.val (.int at_)), some (.val (.str x)), s5] (b.o :: t)
        = .nx [some (.val (.ref 0)), some (.val (.int n)), some (.val (.str abc)), s3, some (.val (.str x')), s5'] (b'.o :: t) := by
    intro k
    induction k with
    | zero => intro i at_ x s5 b _ _ ha _; exact ⟨x, b, rfl, ha, fun d t => ⟨_, _, rfl⟩⟩
    | succ k ih =>
      intro i at_ x s5 b h1 h2 ha hy
      obtain ⟨r, b1, hr, e⟩ := draw_k b 5 (by omega) (by omega)
      obtain ⟨x', b', g1, g2, g3⟩ := ih (i + 1) (at_ + 1 + r) (x ++ [97 + at_]) (some (.val (.int i))) b1 (by omega) (by rw [List.length_append]; simp -implicitDefEqProofs only [List.length_cons, List.length_nil]; omega)
        (ha.snoc hy (by omega) (by omega)) (fun y hy' => by
          rcases List.mem_append.mp hy' with q | q
          · have := hy y q; omega
          · simp at q; omega)
      refine ⟨x', b', by rw [g1, List.length_append]; simp -implicitDefEqProofs only [List.length_cons, List.length_nil]; omega, g2, fun d t => ?_⟩
      obtain ⟨s3, s5', g4⟩ := g3 d t
      refine ⟨s3, s5', ?_⟩
      show evFor _ _ _ (.int i :: countUp k (i + 1)) _ _ = _
      rw [for_cons]
      have sz : sizeOk abc.length = true := sizeOk_of (by show 26 ≤ 16777216; omega)
      simp -implicitDefEqProofs only [qlp__law_shifts_1, R.ok_bind, R.ok_toS, is_, ie, ic, ss_nil, ss_cons, s_set, s_own, s_frz, s_unp, s_unps, s_asg, s_par, s_setI, s_app, s_exp, s_ret, s_retN, s_iff, s_for, s_pass, s_brk, s_cnt, x_v, x_k, x_op, x_chain, x_mt, x_sl3, x_and, x_or, x_not, x_ite, x_tup, x_lst, x_cell, x_call, x_comp, x_lmul, x_fld, x_comp2, x_opd1, x_opd2, a_v, a_k, a_op, a_chain, a_mt, a_sl3, a_and, a_or, a_not, a_ite, a_tup, a_lst, a_cell, a_fld, a_call, a_new, a_meth, a_comp, a_lmul, a_opd1, a_opd2, a_comp2, as_nil, as_cons, its_nil, its_one, its_star, ks_nil, ks_cons, t_and, t_or, t_not, t_v, t_op, t_chain, t_call, t_meth, t_k, t_fld, t_mt, t_opd1, t_opd2, i_seq, i_range, i_enum, i_zip, i_enumz, truth_bl, start, setNs, setN, fresh, oOf, O.d, cleanI, clean, bt_n, bt_t, bts_nil, bts_cons, tgS, tgsS, wipeR, seqOf, vw, List.map_cons, List.map_nil, List.length_cons, List.length_nil, List.replicate, List.cons_append, List.nil_append, List.append_nil, List.getElem?_cons_zero, List.getElem?_cons_succ, List.set_cons_zero, List.set_cons_succ, Option.bind_some, Option.map_some, if_true, if_false, ite_true, ite_false, reduceIte, Bool.not_true, Bool.not_false, Bool.and_true, Bool.true_and, Bool.and_false, Bool.false_and, Bool.or_true, Bool.true_or, Bool.or_false, Bool.false_or, Nat.reduceAdd, Nat.reduceSub, Int.reduceAdd, Int.reduceSub, Int.reduceLE, Int.reduceLT, Int.reduceToNat, Int.cast_ofNat_Int, decide_true, decide_false, Bool.true_eq_false, Bool.false_eq_true, o_add, o_addS, o_addL, o_sub, o_neg, o_mul, o_mod, o_eqI, o_neI, o_eqS, o_neS, o_eqB, o_neB, o_lt, o_ltS, o_le, o_gt, o_ge, o_isT, o_notT, o_inS, o_lenL, o_lenT, o_lenS, o_idxL, o_idxT, o_idxS, o_split, o_join, o_tupL, o_tupT, o_listL, o_listT, o_int, o_max2, o_count, cl__law_draw, e, abc_at at_ (by omega), sz, sizeOk_of (show x.length + 1 ≤ 16777216 by omega)]
      rw [← g4]
      simp -implicitDefEqProofs only [Int.natCast_add, Int.cast_ofNat_Int]
  obtain ⟨r, b1, hr, e⟩ := draw_k b 8 (by omega) (by omega)
  obtain ⟨x', b', g1, g2, g3⟩ := loop n 0 r [] none b1 (by omega) (by simp; omega) trivial (fun y hy => by cases hy)
  refine ⟨x', b', by simpa using g1, g2, fun d t => ?_⟩
  obtain ⟨s3, s5', g4⟩ := g3 d t
  rw [fn__law_shifts]
  have ha : abc = [97, 98, 99, 100, 101, 102, 103, 104, 105, 106, 107, 108, 109, 110, 111, 112, 113, 114, 115, 116, 117, 118, 119, 120, 121, 122] := rfl
  simp -implicitDefEqProofs only [bd__law_shifts, R.ok_bind, R.ok_toS, is_, ie, ic, ss_nil, ss_cons, s_set, s_own, s_frz, s_unp, s_unps, s_asg, s_par, s_setI, s_app, s_exp, s_ret, s_retN, s_iff, s_for, s_pass, s_brk, s_cnt, x_v, x_k, x_op, x_chain, x_mt, x_sl3, x_and, x_or, x_not, x_ite, x_tup, x_lst, x_cell, x_call, x_comp, x_lmul, x_fld, x_comp2, x_opd1, x_opd2, a_v, a_k, a_op, a_chain, a_mt, a_sl3, a_and, a_or, a_not, a_ite, a_tup, a_lst, a_cell, a_fld, a_call, a_new, a_meth, a_comp, a_lmul, a_opd1, a_opd2, a_comp2, as_nil, as_cons, its_nil, its_one, its_star, ks_nil, ks_cons, t_and, t_or, t_not, t_v, t_op, t_chain, t_call, t_meth, t_k, t_fld, t_mt, t_opd1, t_opd2, i_seq, i_range, i_enum, i_zip, i_enumz, truth_bl, start, setNs, setN, fresh, oOf, O.d, cleanI, clean, bt_n, bt_t, bts_nil, bts_cons, tgS, tgsS, wipeR, seqOf, vw, List.map_cons, List.map_nil, List.length_cons, List.length_nil, List.replicate, List.cons_append, List.nil_append, List.append_nil, List.getElem?_cons_zero, List.getElem?_cons_succ, List.set_cons_zero, List.set_cons_succ, Option.bind_some, Option.map_some, if_true, if_false, ite_true, ite_false, reduceIte, Bool.not_true, Bool.not_false, Bool.and_true, Bool.true_and, Bool.and_false, Bool.false_and, Bool.or_true, Bool.true_or, Bool.or_false, Bool.false_or, Nat.reduceAdd, Nat.reduceSub, Int.reduceAdd, Int.reduceSub, Int.reduceLE, Int.reduceLT, Int.reduceToNat, Int.cast_ofNat_Int, decide_true, decide_false, Bool.true_eq_false, Bool.false_eq_true, o_add, o_addS, o_addL, o_sub, o_neg, o_mul, o_mod, o_eqI, o_neI, o_eqS, o_neS, o_eqB, o_neB, o_lt, o_ltS, o_le, o_gt, o_ge, o_isT, o_notT, o_inS, o_lenL, o_lenT, o_lenS, o_idxL, o_idxT, o_idxS, o_split, o_join, o_tupL, o_tupT, o_listL, o_listT, o_int, o_max2, o_count, cl__law_draw, e, ← ha, rangeOk_i (show -4611686018427387904 ≤ (n : Int) ∧ (n : Int) < 4611686018427387904 by omega), Int.toNat_natCast, g4]
end K04
end
section
set_option linter.all false
set_option maxRecDepth 100000
set_option maxHeartbeats 4000000
namespace K04
open PI
theorem like_scal {a : D} {d : Nat} {h : Hh} (ha : ∀ k, Lk k a) : (cfs pg (d + 1)).f i__law_like [a, a] h = .ok (.bl true) h := by
  have := ha 0
  cases this <;> rw [fn__law_like] <;>
    simp -implicitDefEqProofs only [bd__law_like, R.ok_bind, R.ok_toS, is_, ie, ic, ss_nil, ss_cons, s_set, s_own, s_frz, s_unp, s_unps, s_asg, s_par, s_setI, s_app, s_exp, s_ret, s_retN, s_iff, s_for, s_pass, s_brk, s_cnt, x_v, x_k, x_op, x_chain, x_mt, x_sl3, x_and, x_or, x_not, x_ite, x_tup, x_lst, x_cell, x_call, x_comp, x_lmul, x_fld, x_comp2, x_opd1, x_opd2, a_v, a_k, a_op, a_chain, a_mt, a_sl3, a_and, a_or, a_not, a_ite, a_tup, a_lst, a_cell, a_fld, a_call, a_new, a_meth, a_comp, a_lmul, a_opd1, a_opd2, a_comp2, as_nil, as_cons, its_nil, its_one, its_star, ks_nil, ks_cons, t_and, t_or, t_not, t_v, t_op, t_chain, t_call, t_meth, t_k, t_fld, t_mt, t_opd1, t_opd2, i_seq, i_range, i_enum, i_zip, i_enumz, truth_bl, start, setNs, setN, fresh, oOf, O.d, cleanI, clean, bt_n, bt_t, bts_nil, bts_cons, tgS, tgsS, wipeR, seqOf, vw, List.map_cons, List.map_nil, List.length_cons, List.length_nil, List.replicate, List.cons_append, List.nil_append, List.append_nil, List.getElem?_cons_zero, List.getElem?_cons_succ, List.set_cons_zero, List.set_cons_succ, Option.bind_some, Option.map_some, if_true, if_false, ite_true, ite_false, reduceIte, Bool.not_true, Bool.not_false, Bool.and_true, Bool.true_and, Bool.and_false, Bool.false_and, Bool.or_true, Bool.true_or, Bool.or_false, Bool.false_or, Nat.reduceAdd, Nat.reduceSub, Int.reduceAdd, Int.reduceSub, Int.reduceLE, Int.reduceLT, Int.reduceToNat, Int.cast_ofNat_Int, decide_true, decide_false, Bool.true_eq_false, Bool.false_eq_true, o_add, o_addS, o_addL, o_sub, o_neg, o_mul, o_mod, o_eqI, o_neI, o_eqS, o_neS, o_eqB, o_neB, o_lt, o_ltS, o_le, o_gt, o_ge, o_isT, o_notT, o_inS, o_lenL, o_lenT, o_lenS, o_idxL, o_idxT, o_idxS, o_split, o_join, o_tupL, o_tupT, o_listL, o_listT, o_int, o_max2, o_count, o_isiN, o_isiI, o_isiB, o_isiS, o_eqN, o_eqB, isC, tyIs, List.any_cons, List.any_nil, beq_self_eq_true, Bool.not_true]
theorem like_refl : ∀ (k : Nat) (a : D) (d : Nat) (h : Hh), Lk k a → (cfs pg (d + k + 1)).f i__law_like [a, a] h = .ok (.bl true) h
  | k, .non, d, h, _ => like_scal fun k => .non k
  | k, .bl b, d, h, _ => like_scal fun k => .bl k b
  | k, .int b, d, h, _ => like_scal fun k => .int k b
  | k, .str b, d, h, _ => like_scal fun k => .str k b
  | k + 1, .lst xs, d, h, .lst hl hx => by
    have loop : ∀ (n m : Nat) (s0 s1 s2 s3 : Option Sl), evC (inner pg turns (cfs pg (d + (k + 1))) (n + 2)) m ce__law_like_1 (.t [.n 2, .n 3]) none [s0, s1, s2, s3] (xs.map fun x => .tup [x, x]) h = .ok (xs.map fun _ => .bl true) h := fun n m s0 s1 s2 s3 =>
      c_map _ _ xs fun a ha => ⟨_, rfl, by
        have e := like_refl k a d h (hx a ha)
        simp -implicitDefEqProofs only [qce__law_like_1, R.ok_bind, R.ok_toS, is_, ie, ic, ss_nil, ss_cons, s_set, s_own, s_frz, s_unp, s_unps, s_asg, s_par, s_setI, s_app, s_exp, s_ret, s_retN, s_iff, s_for, s_pass, s_brk, s_cnt, x_v, x_k, x_op, x_chain, x_mt, x_sl3, x_and, x_or, x_not, x_ite, x_tup, x_lst, x_cell, x_call, x_comp, x_lmul, x_fld, x_comp2, x_opd1, x_opd2, a_v, a_k, a_op, a_chain, a_mt, a_sl3, a_and, a_or, a_not, a_ite, a_tup, a_lst, a_cell, a_fld, a_call, a_new, a_meth, a_comp, a_lmul, a_opd1, a_opd2, a_comp2, as_nil, as_cons, its_nil, its_one, its_star, ks_nil, ks_cons, t_and, t_or, t_not, t_v, t_op, t_chain, t_call, t_meth, t_k, t_fld, t_mt, t_opd1, t_opd2, i_seq, i_range, i_enum, i_zip, i_enumz, truth_bl, start, setNs, setN, fresh, oOf, O.d, cleanI, clean, bt_n, bt_t, bts_nil, bts_cons, tgS, tgsS, wipeR, seqOf, vw, List.map_cons, List.map_nil, List.length_cons, List.length_nil, List.replicate, List.cons_append, List.nil_append, List.append_nil, List.getElem?_cons_zero, List.getElem?_cons_succ, List.set_cons_zero, List.set_cons_succ, Option.bind_some, Option.map_some, if_true, if_false, ite_true, ite_false, reduceIte, Bool.not_true, Bool.not_false, Bool.and_true, Bool.true_and, Bool.and_false, Bool.false_and, Bool.or_true, Bool.true_or, Bool.or_false, Bool.false_or, Nat.reduceAdd, Nat.reduceSub, Int.reduceAdd, Int.reduceSub, Int.reduceLE, Int.reduceLT, Int.reduceToNat, Int.cast_ofNat_Int, decide_true, decide_false, Bool.true_eq_false, Bool.false_eq_true, o_add, o_addS, o_addL, o_sub, o_neg, o_mul, o_mod, o_eqI, o_neI, o_eqS, o_neS, o_eqB, o_neB, o_lt, o_ltS, o_le, o_gt, o_ge, o_isT, o_notT, o_inS, o_lenL, o_lenT, o_lenS, o_idxL, o_idxT, o_idxS, o_split, o_join, o_tupL, o_tupT, o_listL, o_listT, o_int, o_max2, o_count, cl__law_like]
        exact e⟩
    rw [fn__law_like]
    simp -implicitDefEqProofs only [bd__law_like, R.ok_bind, R.ok_toS, is_, ie, ic, ss_nil, ss_cons, s_set, s_own, s_frz, s_unp, s_unps, s_asg, s_par, s_setI, s_app, s_exp, s_ret, s_retN, s_iff, s_for, s_pass, s_brk, s_cnt, x_v, x_k, x_op, x_chain, x_mt, x_sl3, x_and, x_or, x_not, x_ite, x_tup, x_lst, x_cell, x_call, x_comp, x_lmul, x_fld, x_comp2, x_opd1, x_opd2, a_v, a_k, a_op, a_chain, a_mt, a_sl3, a_and, a_or, a_not, a_ite, a_tup, a_lst, a_cell, a_fld, a_call, a_new, a_meth, a_comp, a_lmul, a_opd1, a_opd2, a_comp2, as_nil, as_cons, its_nil, its_one, its_star, ks_nil, ks_cons, t_and, t_or, t_not, t_v, t_op, t_chain, t_call, t_meth, t_k, t_fld, t_mt, t_opd1, t_opd2, i_seq, i_range, i_enum, i_zip, i_enumz, truth_bl, start, setNs, setN, fresh, oOf, O.d, cleanI, clean, bt_n, bt_t, bts_nil, bts_cons, tgS, tgsS, wipeR, seqOf, vw, List.map_cons, List.map_nil, List.length_cons, List.length_nil, List.replicate, List.cons_append, List.nil_append, List.append_nil, List.getElem?_cons_zero, List.getElem?_cons_succ, List.set_cons_zero, List.set_cons_succ, Option.bind_some, Option.map_some, if_true, if_false, ite_true, ite_false, reduceIte, Bool.not_true, Bool.not_false, Bool.and_true, Bool.true_and, Bool.and_false, Bool.false_and, Bool.or_true, Bool.true_or, Bool.or_false, Bool.false_or, Nat.reduceAdd, Nat.reduceSub, Int.reduceAdd, Int.reduceSub, Int.reduceLE, Int.reduceLT, Int.reduceToNat, Int.cast_ofNat_Int, decide_true, decide_false, Bool.true_eq_false, Bool.false_eq_true, o_add, o_addS, o_addL, o_sub, o_neg, o_mul, o_mod, o_eqI, o_neI, o_eqS, o_neS, o_eqB, o_neB, o_lt, o_ltS, o_le, o_gt, o_ge, o_isT, o_notT, o_inS, o_lenL, o_lenT, o_lenS, o_idxL, o_idxT, o_idxS, o_split, o_join, o_tupL, o_tupT, o_listL, o_listT, o_int, o_max2, o_count, o_isiL, isC, tyIs, List.any_cons, List.any_nil, beq_self_eq_true, zipOf, zipD_self, loop, List.length_map, sizeOk_of hl, o_all (fun _ => true) xs, show (xs.all fun _ => true) = true by simp]
  | k + 1, .tup xs, d, h, .tup hl hx => by
    have loop : ∀ (n m : Nat) (s0 s1 s2 s3 : Option Sl), evC (inner pg turns (cfs pg (d + (k + 1))) (n + 2)) m ce__law_like_1 (.t [.n 2, .n 3]) none [s0, s1, s2, s3] (xs.map fun x => .tup [x, x]) h = .ok (xs.map fun _ => .bl true) h := fun n m s0 s1 s2 s3 =>
      c_map _ _ xs fun a ha => ⟨_, rfl, by
        have e := like_refl k a d h (hx a ha)
        simp -implicitDefEqProofs only [qce__law_like_1, R.ok_bind, R.ok_toS, is_, ie, ic, ss_nil, ss_cons, s_set, s_own, s_frz, s_unp, s_unps, s_asg, s_par, s_setI, s_app, s_exp, s_ret, s_retN, s_iff, s_for, s_pass, s_brk, s_cnt, x_v, x_k, x_op, x_chain, x_mt, x_sl3, x_and, x_or, x_not, x_ite, x_tup, x_lst, x_cell, x_call, x_comp, x_lmul, x_fld, x_comp2, x_opd1, x_opd2, a_v, a_k, a_op, a_chain, a_mt, a_sl3, a_and, a_or, a_not, a_ite, a_tup, a_lst, a_cell, a_fld, a_call, a_new, a_meth, a_comp, a_lmul, a_opd1, a_opd2, a_comp2, as_nil, as_cons, its_nil, its_one, its_star, ks_nil, ks_cons, t_and, t_or, t_not, t_v, t_op, t_chain, t_call, t_meth, t_k, t_fld, t_mt, t_opd1, t_opd2, i_seq, i_range, i_enum, i_zip, i_enumz, truth_bl, start, setNs, setN, fresh, oOf, O.d, cleanI, clean, bt_n, bt_t, bts_nil, bts_cons, tgS, tgsS, wipeR, seqOf, vw, List.map_cons, List.map_nil, List.length_cons, List.length_nil, List.replicate, List.cons_append, List.nil_append, List.append_nil, List.getElem?_cons_zero, List.getElem?_cons_succ, List.set_cons_zero, List.set_cons_succ, Option.bind_some, Option.map_some, if_true, if_false, ite_true, ite_false, reduceIte, Bool.not_true, Bool.not_false, Bool.and_true, Bool.true_and, Bool.and_false, Bool.false_and, Bool.or_true, Bool.true_or, Bool.or_false, Bool.false_or, Nat.reduceAdd, Nat.reduceSub, Int.reduceAdd, Int.reduceSub, Int.reduceLE, Int.reduceLT, Int.reduceToNat, Int.cast_ofNat_Int, decide_true, decide_false, Bool.true_eq_false, Bool.false_eq_true, o_add, o_addS, o_addL, o_sub, o_neg, o_mul, o_mod, o_eqI, o_neI, o_eqS, o_neS, o_eqB, o_neB, o_lt, o_ltS, o_le, o_gt, o_ge, o_isT, o_notT, o_inS, o_lenL, o_lenT, o_lenS, o_idxL, o_idxT, o_idxS, o_split, o_join, o_tupL, o_tupT, o_listL, o_listT, o_int, o_max2, o_count, cl__law_like]
        exact e⟩
    rw [fn__law_like]
    simp -implicitDefEqProofs only [bd__law_like, R.ok_bind, R.ok_toS, is_, ie, ic, ss_nil, ss_cons, s_set, s_own, s_frz, s_unp, s_unps, s_asg, s_par, s_setI, s_app, s_exp, s_ret, s_retN, s_iff, s_for, s_pass, s_brk, s_cnt, x_v, x_k, x_op, x_chain, x_mt, x_sl3, x_and, x_or, x_not, x_ite, x_tup, x_lst, x_cell, x_call, x_comp, x_lmul, x_fld, x_comp2, x_opd1, x_opd2, a_v, a_k, a_op, a_chain, a_mt, a_sl3, a_and, a_or, a_not, a_ite, a_tup, a_lst, a_cell, a_fld, a_call, a_new, a_meth, a_comp, a_lmul, a_opd1, a_opd2, a_comp2, as_nil, as_cons, its_nil, its_one, its_star, ks_nil, ks_cons, t_and, t_or, t_not, t_v, t_op, t_chain, t_call, t_meth, t_k, t_fld, t_mt, t_opd1, t_opd2, i_seq, i_range, i_enum, i_zip, i_enumz, truth_bl, start, setNs, setN, fresh, oOf, O.d, cleanI, clean, bt_n, bt_t, bts_nil, bts_cons, tgS, tgsS, wipeR, seqOf, vw, List.map_cons, List.map_nil, List.length_cons, List.length_nil, List.replicate, List.cons_append, List.nil_append, List.append_nil, List.getElem?_cons_zero, List.getElem?_cons_succ, List.set_cons_zero, List.set_cons_succ, Option.bind_some, Option.map_some, if_true, if_false, ite_true, ite_false, reduceIte, Bool.not_true, Bool.not_false, Bool.and_true, Bool.true_and, Bool.and_false, Bool.false_and, Bool.or_true, Bool.true_or, Bool.or_false, Bool.false_or, Nat.reduceAdd, Nat.reduceSub, Int.reduceAdd, Int.reduceSub, Int.reduceLE, Int.reduceLT, Int.reduceToNat, Int.cast_ofNat_Int, decide_true, decide_false, Bool.true_eq_false, Bool.false_eq_true, o_add, o_addS, o_addL, o_sub, o_neg, o_mul, o_mod, o_eqI, o_neI, o_eqS, o_neS, o_eqB, o_neB, o_lt, o_ltS, o_le, o_gt, o_ge, o_isT, o_notT, o_inS, o_lenL, o_lenT, o_lenS, o_idxL, o_idxT, o_idxS, o_split, o_join, o_tupL, o_tupT, o_listL, o_listT, o_int, o_max2, o_count, o_isiT, isC, tyIs, List.any_cons, List.any_nil, beq_self_eq_true, zipOf, zipD_self, loop, List.length_map, sizeOk_of hl, o_all (fun _ => true) xs, show (xs.all fun _ => true) = true by simp]
end K04
end
section
set_option linter.all false
set_option maxRecDepth 100000
set_option maxHeartbeats 4000000
namespace K04
open PI
/-- what a crew may need, of w hands -/
inductive Need (w : Nat) : D → Prop
  | cnt (a : Tx) (c : Nat) (k : Int) : a = [108, 101, 97, 115, 116] ∨ a = [109, 111, 115, 116] → Need w (.tup [.str a, .str [c], .int k])
  | never (k c : Nat) : k < w → Need w (.tup [.str [110, 101, 118, 101, 114], .int k, .str [c]])
  | apart (k j c : Nat) : k < w → j < w → Need w (.tup [.str [97, 112, 97, 114, 116], .int k, .int j, .str [c]])
theorem need_ex (b : Bg) (x : Tx) (h0 : 0 < x.length) (h4 : x.length ≤ 4) (w : Nat) (w0 : 0 < w) (w3 : w ≤ 3) : ∃ (nd : D) (b' : Bg), Need w nd ∧ ∀ (d : Nat) (t : Hh), (cfs pg (d + 3)).f i__law_need [.ref 0, .str x, .int w] (b.o :: t) = .ok nd (b'.o :: t) := by
  have s3 : sizeOk 3 = true := rfl
  have s4 : sizeOk 4 = true := rfl
  have s2 : sizeOk 2 = true := rfl
  have low : ∀ (b1 : Bg) (r : Nat) (s : Int), r < 2 → (∀ (d : Nat) (t : Hh), (cfs pg (d + 1)).f i__law_draw [.ref 0, .int s] (b.o :: t) = .ok (.int r) (b1.o :: t)) → (if 1 < (w : Int) then (4 : Int) else 3) = s →
      ∃ (nd : D) (b' : Bg), Need w nd ∧ ∀ (d : Nat) (t : Hh), (cfs pg (d + 3)).f i__law_need [.ref 0, .str x, .int w] (b.o :: t) = .ok nd (b'.o :: t) := fun b1 r s hr e1 hs => by
    obtain ⟨c, b2, hc, e2⟩ := pickS_ex b1 x h0 (by omega)
    obtain ⟨k, b3, hk, e3⟩ := draw_k b2 (w + 1) (by omega) (by omega)
    have hl : decide ((r : Int) < 2) = true := decide_eq_true (by omega)
    refine ⟨.tup [.str (if r = 0 then [108, 101, 97, 115, 116] else [109, 111, 115, 116]), .str [c], .int k], b3, .cnt _ _ _ (by split <;> simp), fun d t => ?_⟩
    have i0 : at? [D.str [108, 101, 97, 115, 116], D.str [109, 111, 115, 116]] (r : Int) = some (.str (if r = 0 then [108, 101, 97, 115, 116] else [109, 111, 115, 116])) := by
      rcases (show r = 0 ∨ r = 1 by omega) with rfl | rfl <;> rfl
    rw [fn__law_need]
    by_cases q : 1 < (w : Int)
    · rw [if_pos q] at hs
      subst hs
      simp -implicitDefEqProofs only [bd__law_need, R.ok_bind, R.ok_toS, is_, ie, ic, ss_nil, ss_cons, s_set, s_own, s_frz, s_unp, s_unps, s_asg, s_par, s_setI, s_app, s_exp, s_ret, s_retN, s_iff, s_for, s_pass, s_brk, s_cnt, x_v, x_k, x_op, x_chain, x_mt, x_sl3, x_and, x_or, x_not, x_ite, x_tup, x_lst, x_cell, x_call, x_comp, x_lmul, x_fld, x_comp2, x_opd1, x_opd2, a_v, a_k, a_op, a_chain, a_mt, a_sl3, a_and, a_or, a_not, a_ite, a_tup, a_lst, a_cell, a_fld, a_call, a_new, a_meth, a_comp, a_lmul, a_opd1, a_opd2, a_comp2, as_nil, as_cons, its_nil, its_one, its_star, ks_nil, ks_cons, t_and, t_or, t_not, t_v, t_op, t_chain, t_call, t_meth, t_k, t_fld, t_mt, t_opd1, t_opd2, i_seq, i_range, i_enum, i_zip, i_enumz, truth_bl, start, setNs, setN, fresh, oOf, O.d, cleanI, clean, bt_n, bt_t, bts_nil, bts_cons, tgS, tgsS, wipeR, seqOf, vw, List.map_cons, List.map_nil, List.length_cons, List.length_nil, List.replicate, List.cons_append, List.nil_append, List.append_nil, List.getElem?_cons_zero, List.getElem?_cons_succ, List.set_cons_zero, List.set_cons_succ, Option.bind_some, Option.map_some, if_true, if_false, ite_true, ite_false, reduceIte, Bool.not_true, Bool.not_false, Bool.and_true, Bool.true_and, Bool.and_false, Bool.false_and, Bool.or_true, Bool.true_or, Bool.or_false, Bool.false_or, Nat.reduceAdd, Nat.reduceSub, Int.reduceAdd, Int.reduceSub, Int.reduceLE, Int.reduceLT, Int.reduceToNat, Int.cast_ofNat_Int, decide_true, decide_false, Bool.true_eq_false, Bool.false_eq_true, o_add, o_addS, o_addL, o_sub, o_neg, o_mul, o_mod, o_eqI, o_neI, o_eqS, o_neS, o_eqB, o_neB, o_lt, o_ltS, o_le, o_gt, o_ge, o_isT, o_notT, o_inS, o_lenL, o_lenT, o_lenS, o_idxL, o_idxT, o_idxS, o_split, o_join, o_tupL, o_tupT, o_listL, o_listT, o_int, o_max2, o_count, q, cl__law_draw, cl__law_pick, e1, e2, e3, hl, i0, s3, s2]
    · rw [if_neg q] at hs
      subst hs
      simp -implicitDefEqProofs only [bd__law_need, R.ok_bind, R.ok_toS, is_, ie, ic, ss_nil, ss_cons, s_set, s_own, s_frz, s_unp, s_unps, s_asg, s_par, s_setI, s_app, s_exp, s_ret, s_retN, s_iff, s_for, s_pass, s_brk, s_cnt, x_v, x_k, x_op, x_chain, x_mt, x_sl3, x_and, x_or, x_not, x_ite, x_tup, x_lst, x_cell, x_call, x_comp, x_lmul, x_fld, x_comp2, x_opd1, x_opd2, a_v, a_k, a_op, a_chain, a_mt, a_sl3, a_and, a_or, a_not, a_ite, a_tup, a_lst, a_cell, a_fld, a_call, a_new, a_meth, a_comp, a_lmul, a_opd1, a_opd2, a_comp2, as_nil, as_cons, its_nil, its_one, its_star, ks_nil, ks_cons, t_and, t_or, t_not, t_v, t_op, t_chain, t_call, t_meth, t_k, t_fld, t_mt, t_opd1, t_opd2, i_seq, i_range, i_enum, i_zip, i_enumz, truth_bl, start, setNs, setN, fresh, oOf, O.d, cleanI, clean, bt_n, bt_t, bts_nil, bts_cons, tgS, tgsS, wipeR, seqOf, vw, List.map_cons, List.map_nil, List.length_cons, List.length_nil, List.replicate, List.cons_append, List.nil_append, List.append_nil, List.getElem?_cons_zero, List.getElem?_cons_succ, List.set_cons_zero, List.set_cons_succ, Option.bind_some, Option.map_some, if_true, if_false, ite_true, ite_false, reduceIte, Bool.not_true, Bool.not_false, Bool.and_true, Bool.true_and, Bool.and_false, Bool.false_and, Bool.or_true, Bool.true_or, Bool.or_false, Bool.false_or, Nat.reduceAdd, Nat.reduceSub, Int.reduceAdd, Int.reduceSub, Int.reduceLE, Int.reduceLT, Int.reduceToNat, Int.cast_ofNat_Int, decide_true, decide_false, Bool.true_eq_false, Bool.false_eq_true, o_add, o_addS, o_addL, o_sub, o_neg, o_mul, o_mod, o_eqI, o_neI, o_eqS, o_neS, o_eqB, o_neB, o_lt, o_ltS, o_le, o_gt, o_ge, o_isT, o_notT, o_inS, o_lenL, o_lenT, o_lenS, o_idxL, o_idxT, o_idxS, o_split, o_join, o_tupL, o_tupT, o_listL, o_listT, o_int, o_max2, o_count, q, cl__law_draw, cl__law_pick, e1, e2, e3, hl, i0, s3, s2]
  have two : ∀ (b1 : Bg) (s : Int), (∀ (d : Nat) (t : Hh), (cfs pg (d + 1)).f i__law_draw [.ref 0, .int s] (b.o :: t) = .ok (.int 2) (b1.o :: t)) → (if 1 < (w : Int) then (4 : Int) else 3) = s →
      ∃ (nd : D) (b' : Bg), Need w nd ∧ ∀ (d : Nat) (t : Hh), (cfs pg (d + 3)).f i__law_need [.ref 0, .str x, .int w] (b.o :: t) = .ok nd (b'.o :: t) := fun b1 s e1 hs => by
    obtain ⟨c, b2, hc, e2⟩ := pickS_ex b1 x h0 (by omega)
    obtain ⟨k, b3, hk, e3⟩ := draw_k b2 w (by omega) (by omega)
    refine ⟨.tup [.str [110, 101, 118, 101, 114], .int k, .str [c]], b3, .never _ _ (by omega), fun d t => ?_⟩
    rw [fn__law_need]
    by_cases q : 1 < (w : Int)
    · rw [if_pos q] at hs
      subst hs
      simp -implicitDefEqProofs only [bd__law_need, R.ok_bind, R.ok_toS, is_, ie, ic, ss_nil, ss_cons, s_set, s_own, s_frz, s_unp, s_unps, s_asg, s_par, s_setI, s_app, s_exp, s_ret, s_retN, s_iff, s_for, s_pass, s_brk, s_cnt, x_v, x_k, x_op, x_chain, x_mt, x_sl3, x_and, x_or, x_not, x_ite, x_tup, x_lst, x_cell, x_call, x_comp, x_lmul, x_fld, x_comp2, x_opd1, x_opd2, a_v, a_k, a_op, a_chain, a_mt, a_sl3, a_and, a_or, a_not, a_ite, a_tup, a_lst, a_cell, a_fld, a_call, a_new, a_meth, a_comp, a_lmul, a_opd1, a_opd2, a_comp2, as_nil, as_cons, its_nil, its_one, its_star, ks_nil, ks_cons, t_and, t_or, t_not, t_v, t_op, t_chain, t_call, t_meth, t_k, t_fld, t_mt, t_opd1, t_opd2, i_seq, i_range, i_enum, i_zip, i_enumz, truth_bl, start, setNs, setN, fresh, oOf, O.d, cleanI, clean, bt_n, bt_t, bts_nil, bts_cons, tgS, tgsS, wipeR, seqOf, vw, List.map_cons, List.map_nil, List.length_cons, List.length_nil, List.replicate, List.cons_append, List.nil_append, List.append_nil, List.getElem?_cons_zero, List.getElem?_cons_succ, List.set_cons_zero, List.set_cons_succ, Option.bind_some, Option.map_some, if_true, if_false, ite_true, ite_false, reduceIte, Bool.not_true, Bool.not_false, Bool.and_true, Bool.true_and, Bool.and_false, Bool.false_and, Bool.or_true, Bool.true_or, Bool.or_false, Bool.false_or, Nat.reduceAdd, Nat.reduceSub, Int.reduceAdd, Int.reduceSub, Int.reduceLE, Int.reduceLT, Int.reduceToNat, Int.cast_ofNat_Int, decide_true, decide_false, Bool.true_eq_false, Bool.false_eq_true, o_add, o_addS, o_addL, o_sub, o_neg, o_mul, o_mod, o_eqI, o_neI, o_eqS, o_neS, o_eqB, o_neB, o_lt, o_ltS, o_le, o_gt, o_ge, o_isT, o_notT, o_inS, o_lenL, o_lenT, o_lenS, o_idxL, o_idxT, o_idxS, o_split, o_join, o_tupL, o_tupT, o_listL, o_listT, o_int, o_max2, o_count, q, cl__law_draw, cl__law_pick, e1, e2, e3, s3, s2, beq_self_eq_true]
    · rw [if_neg q] at hs
      subst hs
      simp -implicitDefEqProofs only [bd__law_need, R.ok_bind, R.ok_toS, is_, ie, ic, ss_nil, ss_cons, s_set, s_own, s_frz, s_unp, s_unps, s_asg, s_par, s_setI, s_app, s_exp, s_ret, s_retN, s_iff, s_for, s_pass, s_brk, s_cnt, x_v, x_k, x_op, x_chain, x_mt, x_sl3, x_and, x_or, x_not, x_ite, x_tup, x_lst, x_cell, x_call, x_comp, x_lmul, x_fld, x_comp2, x_opd1, x_opd2, a_v, a_k, a_op, a_chain, a_mt, a_sl3, a_and, a_or, a_not, a_ite, a_tup, a_lst, a_cell, a_fld, a_call, a_new, a_meth, a_comp, a_lmul, a_opd1, a_opd2, a_comp2, as_nil, as_cons, its_nil, its_one, its_star, ks_nil, ks_cons, t_and, t_or, t_not, t_v, t_op, t_chain, t_call, t_meth, t_k, t_fld, t_mt, t_opd1, t_opd2, i_seq, i_range, i_enum, i_zip, i_enumz, truth_bl, start, setNs, setN, fresh, oOf, O.d, cleanI, clean, bt_n, bt_t, bts_nil, bts_cons, tgS, tgsS, wipeR, seqOf, vw, List.map_cons, List.map_nil, List.length_cons, List.length_nil, List.replicate, List.cons_append, List.nil_append, List.append_nil, List.getElem?_cons_zero, List.getElem?_cons_succ, List.set_cons_zero, List.set_cons_succ, Option.bind_some, Option.map_some, if_true, if_false, ite_true, ite_false, reduceIte, Bool.not_true, Bool.not_false, Bool.and_true, Bool.true_and, Bool.and_false, Bool.false_and, Bool.or_true, Bool.true_or, Bool.or_false, Bool.false_or, Nat.reduceAdd, Nat.reduceSub, Int.reduceAdd, Int.reduceSub, Int.reduceLE, Int.reduceLT, Int.reduceToNat, Int.cast_ofNat_Int, decide_true, decide_false, Bool.true_eq_false, Bool.false_eq_true, o_add, o_addS, o_addL, o_sub, o_neg, o_mul, o_mod, o_eqI, o_neI, o_eqS, o_neS, o_eqB, o_neB, o_lt, o_ltS, o_le, o_gt, o_ge, o_isT, o_notT, o_inS, o_lenL, o_lenT, o_lenS, o_idxL, o_idxT, o_idxS, o_split, o_join, o_tupL, o_tupT, o_listL, o_listT, o_int, o_max2, o_count, q, cl__law_draw, cl__law_pick, e1, e2, e3, s3, s2, beq_self_eq_true]
  by_cases q : 1 < w
  · obtain ⟨r, b1, hr, e1⟩ := draw_k b 4 (by omega) (by omega)
    have q' : 1 < (w : Int) := by omega
    rcases (show r < 2 ∨ r = 2 ∨ r = 3 by omega) with h | rfl | rfl
    · exact low b1 r 4 h e1 (if_pos q')
    · exact two b1 4 e1 (if_pos q')
    · have e1 : ∀ (d : Nat) (t : Hh), (cfs pg (d + 1)).f i__law_draw [.ref 0, .int 4] (b.o :: t) = .ok (.int 3) (b1.o :: t) := e1
      obtain ⟨c, b2, hc, e2⟩ := pickS_ex b1 x h0 (by omega)
      obtain ⟨k, b3, hk, e3⟩ := draw_k b2 w (by omega) (by omega)
      obtain ⟨j, b4, hj, e4⟩ := draw_k b3 (w - 1) (by omega) (by omega)
      have hm : (0 : Int) < (w : Int) := by omega
      obtain ⟨m, hm2⟩ : ∃ m : Nat, ((k : Int) + 1 + (j : Int)) % (w : Int) = m ∧ m < w := by
        have := emod_bd ((k : Int) + 1 + (j : Int)) hm
        exact ⟨(((k : Int) + 1 + (j : Int)) % (w : Int)).toNat, by omega, by omega⟩
      refine ⟨.tup [.str [97, 112, 97, 114, 116], .int k, .int m, .str [c]], b4, .apart _ _ _ (by omega) hm2.2, fun d t => ?_⟩
      rw [fn__law_need]
      have z1 : ((3 : Int) == 2) = false := rfl
      simp -implicitDefEqProofs only [bd__law_need, R.ok_bind, R.ok_toS, is_, ie, ic, ss_nil, ss_cons, s_set, s_own, s_frz, s_unp, s_unps, s_asg, s_par, s_setI, s_app, s_exp, s_ret, s_retN, s_iff, s_for, s_pass, s_brk, s_cnt, x_v, x_k, x_op, x_chain, x_mt, x_sl3, x_and, x_or, x_not, x_ite, x_tup, x_lst, x_cell, x_call, x_comp, x_lmul, x_fld, x_comp2, x_opd1, x_opd2, a_v, a_k, a_op, a_chain, a_mt, a_sl3, a_and, a_or, a_not, a_ite, a_tup, a_lst, a_cell, a_fld, a_call, a_new, a_meth, a_comp, a_lmul, a_opd1, a_opd2, a_comp2, as_nil, as_cons, its_nil, its_one, its_star, ks_nil, ks_cons, t_and, t_or, t_not, t_v, t_op, t_chain, t_call, t_meth, t_k, t_fld, t_mt, t_opd1, t_opd2, i_seq, i_range, i_enum, i_zip, i_enumz, truth_bl, start, setNs, setN, fresh, oOf, O.d, cleanI, clean, bt_n, bt_t, bts_nil, bts_cons, tgS, tgsS, wipeR, seqOf, vw, List.map_cons, List.map_nil, List.length_cons, List.length_nil, List.replicate, List.cons_append, List.nil_append, List.append_nil, List.getElem?_cons_zero, List.getElem?_cons_succ, List.set_cons_zero, List.set_cons_succ, Option.bind_some, Option.map_some, if_true, if_false, ite_true, ite_false, reduceIte, Bool.not_true, Bool.not_false, Bool.and_true, Bool.true_and, Bool.and_false, Bool.false_and, Bool.or_true, Bool.true_or, Bool.or_false, Bool.false_or, Nat.reduceAdd, Nat.reduceSub, Int.reduceAdd, Int.reduceSub, Int.reduceLE, Int.reduceLT, Int.reduceToNat, Int.cast_ofNat_Int, decide_true, decide_false, Bool.true_eq_false, Bool.false_eq_true, o_add, o_addS, o_addL, o_sub, o_neg, o_mul, o_mod, o_eqI, o_neI, o_eqS, o_neS, o_eqB, o_neB, o_lt, o_ltS, o_le, o_gt, o_ge, o_isT, o_notT, o_inS, o_lenL, o_lenT, o_lenS, o_idxL, o_idxT, o_idxS, o_split, o_join, o_tupL, o_tupT, o_listL, o_listT, o_int, o_max2, o_count, q', cl__law_draw, cl__law_pick, e1, e2, e3, e4, s4, hm, hm2.1, z1]
  · obtain ⟨r, b1, hr, e1⟩ := draw_k b 3 (by omega) (by omega)
    have q' : ¬ 1 < (w : Int) := by omega
    rcases (show r < 2 ∨ r = 2 by omega) with h | rfl
    · exact low b1 r 3 h e1 (if_neg q')
    · exact two b1 3 e1 (if_neg q')
theorem meets_ex {w : Nat} (w3 : w ≤ 3) {nd : D} (hn : Need w nd) {t : Tx} (ht : t.length = w) : ∃ v : Bool, ∀ (d : Nat) (h : Hh), (cfs pg (d + 1)).f i__law_meets [.str t, nd] h = .ok (.bl v) h := by
  have n1 : (([109, 111, 115, 116] : Tx) == [108, 101, 97, 115, 116]) = false := rfl
  have n2 : (([110, 101, 118, 101, 114] : Tx) == [108, 101, 97, 115, 116]) = false := rfl
  have n3 : (([110, 101, 118, 101, 114] : Tx) == [109, 111, 115, 116]) = false := rfl
  have n4 : (([97, 112, 97, 114, 116] : Tx) == [108, 101, 97, 115, 116]) = false := rfl
  have n5 : (([97, 112, 97, 114, 116] : Tx) == [109, 111, 115, 116]) = false := rfl
  have n6 : (([97, 112, 97, 114, 116] : Tx) == [110, 101, 118, 101, 114]) = false := rfl
  have i1 : ∀ (x y : D) (l : List D), at? (x :: y :: l) 1 = some y := fun x y l => at_nat (x :: y :: l) 1 (by simp)
  have i2 : ∀ (x y z : D) (l : List D), at? (x :: y :: z :: l) 2 = some z := fun x y z l => at_nat (x :: y :: z :: l) 2 (by simp)
  have i3 : ∀ (x y z u : D) (l : List D), at? (x :: y :: z :: u :: l) 3 = some u := fun x y z u l => at_nat (x :: y :: z :: u :: l) 3 (by simp)
  have sz : sizeOk t.length = true := sizeOk_of (by omega)
  cases hn with
  | cnt a c k ha =>
    rcases ha with rfl | rfl
    · refine ⟨decide (k ≤ (t.count c : Int)), fun d h => ?_⟩
      rw [fn__law_meets]
      simp -implicitDefEqProofs only [bd__law_meets, R.ok_bind, R.ok_toS, is_, ie, ic, ss_nil, ss_cons, s_set, s_own, s_frz, s_unp, s_unps, s_asg, s_par, s_setI, s_app, s_exp, s_ret, s_retN, s_iff, s_for, s_pass, s_brk, s_cnt, x_v, x_k, x_op, x_chain, x_mt, x_sl3, x_and, x_or, x_not, x_ite, x_tup, x_lst, x_cell, x_call, x_comp, x_lmul, x_fld, x_comp2, x_opd1, x_opd2, a_v, a_k, a_op, a_chain, a_mt, a_sl3, a_and, a_or, a_not, a_ite, a_tup, a_lst, a_cell, a_fld, a_call, a_new, a_meth, a_comp, a_lmul, a_opd1, a_opd2, a_comp2, as_nil, as_cons, its_nil, its_one, its_star, ks_nil, ks_cons, t_and, t_or, t_not, t_v, t_op, t_chain, t_call, t_meth, t_k, t_fld, t_mt, t_opd1, t_opd2, i_seq, i_range, i_enum, i_zip, i_enumz, truth_bl, start, setNs, setN, fresh, oOf, O.d, cleanI, clean, bt_n, bt_t, bts_nil, bts_cons, tgS, tgsS, wipeR, seqOf, vw, List.map_cons, List.map_nil, List.length_cons, List.length_nil, List.replicate, List.cons_append, List.nil_append, List.append_nil, List.getElem?_cons_zero, List.getElem?_cons_succ, List.set_cons_zero, List.set_cons_succ, Option.bind_some, Option.map_some, if_true, if_false, ite_true, ite_false, reduceIte, Bool.not_true, Bool.not_false, Bool.and_true, Bool.true_and, Bool.and_false, Bool.false_and, Bool.or_true, Bool.true_or, Bool.or_false, Bool.false_or, Nat.reduceAdd, Nat.reduceSub, Int.reduceAdd, Int.reduceSub, Int.reduceLE, Int.reduceLT, Int.reduceToNat, Int.cast_ofNat_Int, decide_true, decide_false, Bool.true_eq_false, Bool.false_eq_true, o_add, o_addS, o_addL, o_sub, o_neg, o_mul, o_mod, o_eqI, o_neI, o_eqS, o_neS, o_eqB, o_neB, o_lt, o_ltS, o_le, o_gt, o_ge, o_isT, o_notT, o_inS, o_lenL, o_lenT, o_lenS, o_idxL, o_idxT, o_idxS, o_split, o_join, o_tupL, o_tupT, o_listL, o_listT, o_int, o_max2, o_count, at_z, i1, i2, i3, beq_self_eq_true]
    · refine ⟨decide ((t.count c : Int) ≤ k), fun d h => ?_⟩
      rw [fn__law_meets]
      simp -implicitDefEqProofs only [bd__law_meets, R.ok_bind, R.ok_toS, is_, ie, ic, ss_nil, ss_cons, s_set, s_own, s_frz, s_unp, s_unps, s_asg, s_par, s_setI, s_app, s_exp, s_ret, s_retN, s_iff, s_for, s_pass, s_brk, s_cnt, x_v, x_k, x_op, x_chain, x_mt, x_sl3, x_and, x_or, x_not, x_ite, x_tup, x_lst, x_cell, x_call, x_comp, x_lmul, x_fld, x_comp2, x_opd1, x_opd2, a_v, a_k, a_op, a_chain, a_mt, a_sl3, a_and, a_or, a_not, a_ite, a_tup, a_lst, a_cell, a_fld, a_call, a_new, a_meth, a_comp, a_lmul, a_opd1, a_opd2, a_comp2, as_nil, as_cons, its_nil, its_one, its_star, ks_nil, ks_cons, t_and, t_or, t_not, t_v, t_op, t_chain, t_call, t_meth, t_k, t_fld, t_mt, t_opd1, t_opd2, i_seq, i_range, i_enum, i_zip, i_enumz, truth_bl, start, setNs, setN, fresh, oOf, O.d, cleanI, clean, bt_n, bt_t, bts_nil, bts_cons, tgS, tgsS, wipeR, seqOf, vw, List.map_cons, List.map_nil, List.length_cons, List.length_nil, List.replicate, List.cons_append, List.nil_append, List.append_nil, List.getElem?_cons_zero, List.getElem?_cons_succ, List.set_cons_zero, List.set_cons_succ, Option.bind_some, Option.map_some, if_true, if_false, ite_true, ite_false, reduceIte, Bool.not_true, Bool.not_false, Bool.and_true, Bool.true_and, Bool.and_false, Bool.false_and, Bool.or_true, Bool.true_or, Bool.or_false, Bool.false_or, Nat.reduceAdd, Nat.reduceSub, Int.reduceAdd, Int.reduceSub, Int.reduceLE, Int.reduceLT, Int.reduceToNat, Int.cast_ofNat_Int, decide_true, decide_false, Bool.true_eq_false, Bool.false_eq_true, o_add, o_addS, o_addL, o_sub, o_neg, o_mul, o_mod, o_eqI, o_neI, o_eqS, o_neS, o_eqB, o_neB, o_lt, o_ltS, o_le, o_gt, o_ge, o_isT, o_notT, o_inS, o_lenL, o_lenT, o_lenS, o_idxL, o_idxT, o_idxS, o_split, o_join, o_tupL, o_tupT, o_listL, o_listT, o_int, o_max2, o_count, at_z, i1, i2, i3, beq_self_eq_true, n1]
  | never k c hk =>
    refine ⟨!([t[k]] == [c]), fun d h => ?_⟩
    rw [fn__law_meets]
    simp -implicitDefEqProofs only [bd__law_meets, R.ok_bind, R.ok_toS, is_, ie, ic, ss_nil, ss_cons, s_set, s_own, s_frz, s_unp, s_unps, s_asg, s_par, s_setI, s_app, s_exp, s_ret, s_retN, s_iff, s_for, s_pass, s_brk, s_cnt, x_v, x_k, x_op, x_chain, x_mt, x_sl3, x_and, x_or, x_not, x_ite, x_tup, x_lst, x_cell, x_call, x_comp, x_lmul, x_fld, x_comp2, x_opd1, x_opd2, a_v, a_k, a_op, a_chain, a_mt, a_sl3, a_and, a_or, a_not, a_ite, a_tup, a_lst, a_cell, a_fld, a_call, a_new, a_meth, a_comp, a_lmul, a_opd1, a_opd2, a_comp2, as_nil, as_cons, its_nil, its_one, its_star, ks_nil, ks_cons, t_and, t_or, t_not, t_v, t_op, t_chain, t_call, t_meth, t_k, t_fld, t_mt, t_opd1, t_opd2, i_seq, i_range, i_enum, i_zip, i_enumz, truth_bl, start, setNs, setN, fresh, oOf, O.d, cleanI, clean, bt_n, bt_t, bts_nil, bts_cons, tgS, tgsS, wipeR, seqOf, vw, List.map_cons, List.map_nil, List.length_cons, List.length_nil, List.replicate, List.cons_append, List.nil_append, List.append_nil, List.getElem?_cons_zero, List.getElem?_cons_succ, List.set_cons_zero, List.set_cons_succ, Option.bind_some, Option.map_some, if_true, if_false, ite_true, ite_false, reduceIte, Bool.not_true, Bool.not_false, Bool.and_true, Bool.true_and, Bool.and_false, Bool.false_and, Bool.or_true, Bool.true_or, Bool.or_false, Bool.false_or, Nat.reduceAdd, Nat.reduceSub, Int.reduceAdd, Int.reduceSub, Int.reduceLE, Int.reduceLT, Int.reduceToNat, Int.cast_ofNat_Int, decide_true, decide_false, Bool.true_eq_false, Bool.false_eq_true, o_add, o_addS, o_addL, o_sub, o_neg, o_mul, o_mod, o_eqI, o_neI, o_eqS, o_neS, o_eqB, o_neB, o_lt, o_ltS, o_le, o_gt, o_ge, o_isT, o_notT, o_inS, o_lenL, o_lenT, o_lenS, o_idxL, o_idxT, o_idxS, o_split, o_join, o_tupL, o_tupT, o_listL, o_listT, o_int, o_max2, o_count, at_z, i1, i2, i3, beq_self_eq_true, n2, n3, sz, at_nat t k (by omega)]
  | apart k j c hk hj =>
    refine ⟨!([t[k]] == [c]) || !([t[j]] == [c]), fun d h => ?_⟩
    rw [fn__law_meets]
    cases q : ([t[k]] == [c]) <;> simp -implicitDefEqProofs only [bd__law_meets, R.ok_bind, R.ok_toS, is_, ie, ic, ss_nil, ss_cons, s_set, s_own, s_frz, s_unp, s_unps, s_asg, s_par, s_setI, s_app, s_exp, s_ret, s_retN, s_iff, s_for, s_pass, s_brk, s_cnt, x_v, x_k, x_op, x_chain, x_mt, x_sl3, x_and, x_or, x_not, x_ite, x_tup, x_lst, x_cell, x_call, x_comp, x_lmul, x_fld, x_comp2, x_opd1, x_opd2, a_v, a_k, a_op, a_chain, a_mt, a_sl3, a_and, a_or, a_not, a_ite, a_tup, a_lst, a_cell, a_fld, a_call, a_new, a_meth, a_comp, a_lmul, a_opd1, a_opd2, a_comp2, as_nil, as_cons, its_nil, its_one, its_star, ks_nil, ks_cons, t_and, t_or, t_not, t_v, t_op, t_chain, t_call, t_meth, t_k, t_fld, t_mt, t_opd1, t_opd2, i_seq, i_range, i_enum, i_zip, i_enumz, truth_bl, start, setNs, setN, fresh, oOf, O.d, cleanI, clean, bt_n, bt_t, bts_nil, bts_cons, tgS, tgsS, wipeR, seqOf, vw, List.map_cons, List.map_nil, List.length_cons, List.length_nil, List.replicate, List.cons_append, List.nil_append, List.append_nil, List.getElem?_cons_zero, List.getElem?_cons_succ, List.set_cons_zero, List.set_cons_succ, Option.bind_some, Option.map_some, if_true, if_false, ite_true, ite_false, reduceIte, Bool.not_true, Bool.not_false, Bool.and_true, Bool.true_and, Bool.and_false, Bool.false_and, Bool.or_true, Bool.true_or, Bool.or_false, Bool.false_or, Nat.reduceAdd, Nat.reduceSub, Int.reduceAdd, Int.reduceSub, Int.reduceLE, Int.reduceLT, Int.reduceToNat, Int.cast_ofNat_Int, decide_true, decide_false, Bool.true_eq_false, Bool.false_eq_true, o_add, o_addS, o_addL, o_sub, o_neg, o_mul, o_mod, o_eqI, o_neI, o_eqS, o_neS, o_eqB, o_neB, o_lt, o_ltS, o_le, o_gt, o_ge, o_isT, o_notT, o_inS, o_lenL, o_lenT, o_lenS, o_idxL, o_idxT, o_idxS, o_split, o_join, o_tupL, o_tupT, o_listL, o_listT, o_int, o_max2, o_count, at_z, i1, i2, i3, beq_self_eq_true, n4, n5, n6, sz, at_nat t k (by omega), at_nat t j (by omega), q]
end K04
end
section
set_option linter.all false
set_option maxRecDepth 100000
set_option maxHeartbeats 4000000
namespace K04
open PI
/-- all texts of w signs of x -/
def allTx (x : Tx) : Nat → List Tx
  | 0 => [[]]
  | w + 1 => (allTx x w).flatMap fun t => x.map fun c => t ++ [c]
theorem allTx_len {x : Tx} : ∀ {w : Nat} {t : Tx}, t ∈ allTx x w → t.length = w ∧ ∀ c ∈ t, c ∈ x
  | 0, t, h => by
    have : t = [] := by simpa [allTx] using h
    subst this
    exact ⟨rfl, fun c hc => by cases hc⟩
  | w + 1, t, h => by
    simp only [allTx, List.mem_flatMap, List.mem_map] at h
    obtain ⟨u, hu, c, hc, rfl⟩ := h
    obtain ⟨h1, h2⟩ := allTx_len hu
    refine ⟨by simp [h1], fun y hy => ?_⟩
    rcases List.mem_append.mp hy with q | q
    · exact h2 y q
    · simp at q
      subst q
      exact hc
theorem flat_len {α β : Type} {m : Nat} (f : α → List β) (hf : ∀ a, (f a).length = m) : ∀ l : List α, (l.flatMap f).length = l.length * m
  | [] => by simp
  | a :: l => by
    rw [List.flatMap_cons, List.length_append, hf, flat_len f hf l, List.length_cons, Nat.add_mul, Nat.one_mul, Nat.add_comm]
theorem allTx_size (x : Tx) : ∀ w, (allTx x w).length = x.length ^ w
  | 0 => rfl
  | w + 1 => by
    show ((allTx x w).flatMap _).length = _
    rw [flat_len (m := x.length) _ (fun t => by simp), allTx_size x w, Nat.pow_succ]
theorem pow_le3 {m w : Nat} (hm : m ≤ 4) (hw : w ≤ 3) : m ^ w ≤ 64 := by
  have : ∀ a : Fin 5, ∀ b : Fin 4, a.val ^ b.val ≤ 64 := by decide
  exact this ⟨m, by omega⟩ ⟨w, by omega⟩
theorem strings_ok (x : Tx) (h4 : x.length ≤ 4) (w : Nat) (w3 : w ≤ 3) {d : Nat} {h : Hh} : (cfs pg (d + 1)).f i__law_strings [.str x, .int w] h = .ok (.lst ((allTx x w).map .str)) h := by
  have inner_ : ∀ (c : Cf) (n : Nat) (s1 s2 s3 : Option Sl) (l : List Tx) (acc : List Tx) (s5 s6 : Option Sl), acc.length + l.length * x.length ≤ 10000 → (∀ t ∈ l, t.length ≤ 10) → ∃ s5' s6' : Option Sl,
      evFor (inner pg turns c (n + 5)) (.n 5) lp__law_strings_2 (l.map .str) [some (.val (.str x)), s1, s2, s3, some (.val (.lst (acc.map .str))), s5, s6] h
        = .nx [some (.val (.str x)), s1, s2, s3, some (.val (.lst ((acc ++ l.flatMap fun t => x.map fun c => t ++ [c]).map .str))), s5', s6'] h := by
    intro c n s1 s2 s3 l
    induction l with
    | nil => intro acc s5 s6 _ _; exact ⟨s5, s6, by simp [for_nil]⟩
    | cons t l ih =>
      intro acc s5 s6 hl ht
      rw [List.length_cons, Nat.add_mul, Nat.one_mul] at hl
      obtain ⟨s5', s6', g⟩ := ih (acc ++ x.map fun c => t ++ [c]) (some (.val (.str t))) s6 (by simp only [List.length_append, List.length_map]; omega) fun u hu => ht u (List.mem_cons_of_mem _ hu)
      have ht' := ht t (List.mem_cons_self ..)
      have cm : ∀ (n m : Nat) (s1 s2 s3 s4 s6 : Option Sl), evC (inner pg turns c (n + 2)) m ce__law_strings_1 (.n 6) none [some (.val (.str x)), s1, s2, s3, s4, some (.val (.str t)), s6] (x.map fun c => .str [c]) h = .ok (x.map fun c => .str (t ++ [c])) h := fun n m s1 s2 s3 s4 s6 =>
        c_map _ _ x fun a ha => ⟨_, rfl, by
          simp -implicitDefEqProofs only [qce__law_strings_1, R.ok_bind, R.ok_toS, is_, ie, ic, ss_nil, ss_cons, s_set, s_own, s_frz, s_unp, s_unps, s_asg, s_par, s_setI, s_app, s_exp, s_ret, s_retN, s_iff, s_for, s_pass, s_brk, s_cnt, x_v, x_k, x_op, x_chain, x_mt, x_sl3, x_and, x_or, x_not, x_ite, x_tup, x_lst, x_cell, x_call, x_comp, x_lmul, x_fld, x_comp2, x_opd1, x_opd2, a_v, a_k, a_op, a_chain, a_mt, a_sl3, a_and, a_or, a_not, a_ite, a_tup, a_lst, a_cell, a_fld, a_call, a_new, a_meth, a_comp, a_lmul, a_opd1, a_opd2, a_comp2, as_nil, as_cons, its_nil, its_one, its_star, ks_nil, ks_cons, t_and, t_or, t_not, t_v, t_op, t_chain, t_call, t_meth, t_k, t_fld, t_mt, t_opd1, t_opd2, i_seq, i_range, i_enum, i_zip, i_enumz, truth_bl, start, setNs, setN, fresh, oOf, O.d, cleanI, clean, bt_n, bt_t, bts_nil, bts_cons, tgS, tgsS, wipeR, seqOf, vw, List.map_cons, List.map_nil, List.length_cons, List.length_nil, List.replicate, List.cons_append, List.nil_append, List.append_nil, List.getElem?_cons_zero, List.getElem?_cons_succ, List.set_cons_zero, List.set_cons_succ, Option.bind_some, Option.map_some, if_true, if_false, ite_true, ite_false, reduceIte, Bool.not_true, Bool.not_false, Bool.and_true, Bool.true_and, Bool.and_false, Bool.false_and, Bool.or_true, Bool.true_or, Bool.or_false, Bool.false_or, Nat.reduceAdd, Nat.reduceSub, Int.reduceAdd, Int.reduceSub, Int.reduceLE, Int.reduceLT, Int.reduceToNat, Int.cast_ofNat_Int, decide_true, decide_false, Bool.true_eq_false, Bool.false_eq_true, o_add, o_addS, o_addL, o_sub, o_neg, o_mul, o_mod, o_eqI, o_neI, o_eqS, o_neS, o_eqB, o_neB, o_lt, o_ltS, o_le, o_gt, o_ge, o_isT, o_notT, o_inS, o_lenL, o_lenT, o_lenS, o_idxL, o_idxT, o_idxS, o_split, o_join, o_tupL, o_tupT, o_listL, o_listT, o_int, o_max2, o_count, sizeOk_of (show t.length + 1 ≤ 16777216 by omega)]⟩
      refine ⟨s5', s6', ?_⟩
      rw [List.map_cons, for_cons]
      have zz := sizeOk_of (show x.length ≤ 16777216 by omega)
      have zq := sizeOk_of (show acc.length + x.length ≤ 16777216 by omega)
      simp -implicitDefEqProofs only [qlp__law_strings_2, R.ok_bind, R.ok_toS, is_, ie, ic, ss_nil, ss_cons, s_set, s_own, s_frz, s_unp, s_unps, s_asg, s_par, s_setI, s_app, s_exp, s_ret, s_retN, s_iff, s_for, s_pass, s_brk, s_cnt, x_v, x_k, x_op, x_chain, x_mt, x_sl3, x_and, x_or, x_not, x_ite, x_tup, x_lst, x_cell, x_call, x_comp, x_lmul, x_fld, x_comp2, x_opd1, x_opd2, a_v, a_k, a_op, a_chain, a_mt, a_sl3, a_and, a_or, a_not, a_ite, a_tup, a_lst, a_cell, a_fld, a_call, a_new, a_meth, a_comp, a_lmul, a_opd1, a_opd2, a_comp2, as_nil, as_cons, its_nil, its_one, its_star, ks_nil, ks_cons, t_and, t_or, t_not, t_v, t_op, t_chain, t_call, t_meth, t_k, t_fld, t_mt, t_opd1, t_opd2, i_seq, i_range, i_enum, i_zip, i_enumz, truth_bl, start, setNs, setN, fresh, oOf, O.d, cleanI, clean, bt_n, bt_t, bts_nil, bts_cons, tgS, tgsS, wipeR, seqOf, vw, List.map_cons, List.map_nil, List.length_cons, List.length_nil, List.replicate, List.cons_append, List.nil_append, List.append_nil, List.getElem?_cons_zero, List.getElem?_cons_succ, List.set_cons_zero, List.set_cons_succ, Option.bind_some, Option.map_some, if_true, if_false, ite_true, ite_false, reduceIte, Bool.not_true, Bool.not_false, Bool.and_true, Bool.true_and, Bool.and_false, Bool.false_and, Bool.or_true, Bool.true_or, Bool.or_false, Bool.false_or, Nat.reduceAdd, Nat.reduceSub, Int.reduceAdd, Int.reduceSub, Int.reduceLE, Int.reduceLT, Int.reduceToNat, Int.cast_ofNat_Int, decide_true, decide_false, Bool.true_eq_false, Bool.false_eq_true, o_add, o_addS, o_addL, o_sub, o_neg, o_mul, o_mod, o_eqI, o_neI, o_eqS, o_neS, o_eqB, o_neB, o_lt, o_ltS, o_le, o_gt, o_ge, o_isT, o_notT, o_inS, o_lenL, o_lenT, o_lenS, o_idxL, o_idxT, o_idxS, o_split, o_join, o_tupL, o_tupT, o_listL, o_listT, o_int, o_max2, o_count, cm, List.length_map, zz, zq]
      rw [List.flatMap_cons, ← List.append_assoc, ← g, List.map_append, List.map_map]
      rfl
  have outer : ∀ (c : Cf) (n : Nat) (s1 : Option Sl) (k : Nat) (i : Int) (j : Nat) (s3 s4 s5 s6 : Option Sl), j + k ≤ 3 → ∃ s3' s4' s5' s6' : Option Sl,
      evFor (inner pg turns c (n + 9)) (.n 3) lp__law_strings_1 (countUp k i) [some (.val (.str x)), s1, some (.val (.lst ((allTx x j).map .str))), s3, s4, s5, s6] h
        = .nx [some (.val (.str x)), s1, some (.val (.lst ((allTx x (j + k)).map .str))), s3', s4', s5', s6'] h := by
    intro c n s1 k
    induction k with
    | zero => intro i j s3 s4 s5 s6 _; exact ⟨s3, s4, s5, s6, rfl⟩
    | succ k ih =>
      intro i j s3 s4 s5 s6 hj
      have b1 : x.length ^ j ≤ 64 := pow_le3 h4 (by omega)
      obtain ⟨s5', s6', g⟩ := inner_ c (n + 3) s1 (some (.val (.lst ((allTx x j).map .str)))) (some (.val (.int i))) (allTx x j) [] s5 s6 (by
        rw [allTx_size]
        have : x.length ^ j * x.length ≤ 64 * 4 := Nat.mul_le_mul b1 h4
        simp only [List.length_nil]
        omega) fun t ht => by rw [(allTx_len ht).1]; omega
      obtain ⟨s3', s4', s5'', s6'', g'⟩ := ih (i + 1) (j + 1) (some (.val (.int i))) (some (.val (.lst ((allTx x (j + 1)).map .str)))) s5' s6' (by omega)
      refine ⟨s3', s4', s5'', s6'', ?_⟩
      show evFor _ _ _ (.int i :: countUp k (i + 1)) _ _ = _
      have sz : sizeOk 0 = true := rfl
      rw [for_cons, show j + (k + 1) = j + 1 + k by omega, ← g']
      simp only [List.map_nil, List.nil_append] at g
      simp -implicitDefEqProofs only [qlp__law_strings_1, R.ok_bind, R.ok_toS, is_, ie, ic, ss_nil, ss_cons, s_set, s_own, s_frz, s_unp, s_unps, s_asg, s_par, s_setI, s_app, s_exp, s_ret, s_retN, s_iff, s_for, s_pass, s_brk, s_cnt, x_v, x_k, x_op, x_chain, x_mt, x_sl3, x_and, x_or, x_not, x_ite, x_tup, x_lst, x_cell, x_call, x_comp, x_lmul, x_fld, x_comp2, x_opd1, x_opd2, a_v, a_k, a_op, a_chain, a_mt, a_sl3, a_and, a_or, a_not, a_ite, a_tup, a_lst, a_cell, a_fld, a_call, a_new, a_meth, a_comp, a_lmul, a_opd1, a_opd2, a_comp2, as_nil, as_cons, its_nil, its_one, its_star, ks_nil, ks_cons, t_and, t_or, t_not, t_v, t_op, t_chain, t_call, t_meth, t_k, t_fld, t_mt, t_opd1, t_opd2, i_seq, i_range, i_enum, i_zip, i_enumz, truth_bl, start, setNs, setN, fresh, oOf, O.d, cleanI, clean, bt_n, bt_t, bts_nil, bts_cons, tgS, tgsS, wipeR, seqOf, vw, List.map_cons, List.map_nil, List.length_cons, List.length_nil, List.replicate, List.cons_append, List.nil_append, List.append_nil, List.getElem?_cons_zero, List.getElem?_cons_succ, List.set_cons_zero, List.set_cons_succ, Option.bind_some, Option.map_some, if_true, if_false, ite_true, ite_false, reduceIte, Bool.not_true, Bool.not_false, Bool.and_true, Bool.true_and, Bool.and_false, Bool.false_and, Bool.or_true, Bool.true_or, Bool.or_false, Bool.false_or, Nat.reduceAdd, Nat.reduceSub, Int.reduceAdd, Int.reduceSub, Int.reduceLE, Int.reduceLT, Int.reduceToNat, Int.cast_ofNat_Int, decide_true, decide_false, Bool.true_eq_false, Bool.false_eq_true, o_add, o_addS, o_addL, o_sub, o_neg, o_mul, o_mod, o_eqI, o_neI, o_eqS, o_neS, o_eqB, o_neB, o_lt, o_ltS, o_le, o_gt, o_ge, o_isT, o_notT, o_inS, o_lenL, o_lenT, o_lenS, o_idxL, o_idxT, o_idxS, o_split, o_join, o_tupL, o_tupT, o_listL, o_listT, o_int, o_max2, o_count, sz, g]
      rfl
  obtain ⟨s3, s4, s5, s6, g⟩ := outer (cfs pg d) 30 (some (.val (.int w))) w 0 0 none none none none (by omega)
  rw [Nat.zero_add] at g
  rw [fn__law_strings]
  have sz : sizeOk 1 = true := rfl
  have e0 : (allTx x 0).map D.str = [.str []] := rfl
  rw [e0] at g
  simp -implicitDefEqProofs only [bd__law_strings, R.ok_bind, R.ok_toS, is_, ie, ic, ss_nil, ss_cons, s_set, s_own, s_frz, s_unp, s_unps, s_asg, s_par, s_setI, s_app, s_exp, s_ret, s_retN, s_iff, s_for, s_pass, s_brk, s_cnt, x_v, x_k, x_op, x_chain, x_mt, x_sl3, x_and, x_or, x_not, x_ite, x_tup, x_lst, x_cell, x_call, x_comp, x_lmul, x_fld, x_comp2, x_opd1, x_opd2, a_v, a_k, a_op, a_chain, a_mt, a_sl3, a_and, a_or, a_not, a_ite, a_tup, a_lst, a_cell, a_fld, a_call, a_new, a_meth, a_comp, a_lmul, a_opd1, a_opd2, a_comp2, as_nil, as_cons, its_nil, its_one, its_star, ks_nil, ks_cons, t_and, t_or, t_not, t_v, t_op, t_chain, t_call, t_meth, t_k, t_fld, t_mt, t_opd1, t_opd2, i_seq, i_range, i_enum, i_zip, i_enumz, truth_bl, start, setNs, setN, fresh, oOf, O.d, cleanI, clean, bt_n, bt_t, bts_nil, bts_cons, tgS, tgsS, wipeR, seqOf, vw, List.map_cons, List.map_nil, List.length_cons, List.length_nil, List.replicate, List.cons_append, List.nil_append, List.append_nil, List.getElem?_cons_zero, List.getElem?_cons_succ, List.set_cons_zero, List.set_cons_succ, Option.bind_some, Option.map_some, if_true, if_false, ite_true, ite_false, reduceIte, Bool.not_true, Bool.not_false, Bool.and_true, Bool.true_and, Bool.and_false, Bool.false_and, Bool.or_true, Bool.true_or, Bool.or_false, Bool.false_or, Nat.reduceAdd, Nat.reduceSub, Int.reduceAdd, Int.reduceSub, Int.reduceLE, Int.reduceLT, Int.reduceToNat, Int.cast_ofNat_Int, decide_true, decide_false, Bool.true_eq_false, Bool.false_eq_true, o_add, o_addS, o_addL, o_sub, o_neg, o_mul, o_mod, o_eqI, o_neI, o_eqS, o_neS, o_eqB, o_neB, o_lt, o_ltS, o_le, o_gt, o_ge, o_isT, o_notT, o_inS, o_lenL, o_lenT, o_lenS, o_idxL, o_idxT, o_idxS, o_split, o_join, o_tupL, o_tupT, o_listL, o_listT, o_int, o_max2, o_count, sz, rangeOk_i (show -4611686018427387904 ≤ (w : Int) ∧ (w : Int) < 4611686018427387904 by omega), Int.toNat_natCast, g]
/-- a crew, as the law keeps it -/
structure Crew (x : Tx) (w : Nat) (nds : List D) (days : List Tx) : Prop where
  asc : Asc 97 x
  x0 : 0 < x.length
  x4 : x.length ≤ 4
  w0 : 0 < w
  w3 : w ≤ 3
  nds : (∀ nd ∈ nds, Need w nd) ∧ nds.length ≤ 2
  d0 : days ≠ []
  dl : days.length ≤ 64
  dm : ∀ t ∈ days, t ∈ allTx x w
def crewD (x : Tx) (w : Nat) (nds : List D) (days : List Tx) : D := .lst [.str x, .int w, .lst nds, .lst [], .lst (days.map .str)]
theorem Crew.wid {x : Tx} {w : Nat} {nds : List D} {days : List Tx} (c : Crew x w nds days) {t : Tx} (h : t ∈ days) : t.length = w := (allTx_len (c.dm t h)).1
theorem needs_ex (x : Tx) (h0 : 0 < x.length) (h4 : x.length ≤ 4) (w : Nat) (w0 : 0 < w) (w3 : w ≤ 3) : ∀ (k : Nat) (i : Int) (b : Bg), ∃ (nds : List D) (b' : Bg), nds.length = k ∧ (∀ nd ∈ nds, Need w nd) ∧ ∀ (d n m : Nat) (t : Hh) (s1 s2 s5 s6 s7 s8 s9 s10 : Option Sl),
    evC (inner pg turns (cfs pg (d + 3)) (n + 4)) m ce__law_crew_1 (.n 6) none [some (.val (.ref 0)), s1, s2, some (.val (.int w)), some (.val (.str x)), s5, s6, s7, s8, s9, s10] (countUp k i) (b.o :: t) = .ok nds (b'.o :: t)
  | 0, i, b => ⟨[], b, rfl, fun nd h => (by cases h), fun d n m t s1 s2 s5 s6 s7 s8 s9 s10 => rfl⟩
  | k + 1, i, b => by
    obtain ⟨nd, b1, hc, e⟩ := need_ex b x h0 h4 w w0 w3
    obtain ⟨nds, b', g1, g2, g3⟩ := needs_ex x h0 h4 w w0 w3 k (i + 1) b1
    refine ⟨nd :: nds, b', by simp [g1], fun y hy => ?_, fun d n m t s1 s2 s5 s6 s7 s8 s9 s10 => ?_⟩
    · cases hy with
      | head => exact hc
      | tail _ h => exact g2 y h
    · show evC _ _ _ _ _ _ (.int i :: countUp k (i + 1)) _ = _
      rw [c_cons]
      simp -implicitDefEqProofs only [qce__law_crew_1, R.ok_bind, R.ok_toS, is_, ie, ic, ss_nil, ss_cons, s_set, s_own, s_frz, s_unp, s_unps, s_asg, s_par, s_setI, s_app, s_exp, s_ret, s_retN, s_iff, s_for, s_pass, s_brk, s_cnt, x_v, x_k, x_op, x_chain, x_mt, x_sl3, x_and, x_or, x_not, x_ite, x_tup, x_lst, x_cell, x_call, x_comp, x_lmul, x_fld, x_comp2, x_opd1, x_opd2, a_v, a_k, a_op, a_chain, a_mt, a_sl3, a_and, a_or, a_not, a_ite, a_tup, a_lst, a_cell, a_fld, a_call, a_new, a_meth, a_comp, a_lmul, a_opd1, a_opd2, a_comp2, as_nil, as_cons, its_nil, its_one, its_star, ks_nil, ks_cons, t_and, t_or, t_not, t_v, t_op, t_chain, t_call, t_meth, t_k, t_fld, t_mt, t_opd1, t_opd2, i_seq, i_range, i_enum, i_zip, i_enumz, truth_bl, start, setNs, setN, fresh, oOf, O.d, cleanI, clean, bt_n, bt_t, bts_nil, bts_cons, tgS, tgsS, wipeR, seqOf, vw, List.map_cons, List.map_nil, List.length_cons, List.length_nil, List.replicate, List.cons_append, List.nil_append, List.append_nil, List.getElem?_cons_zero, List.getElem?_cons_succ, List.set_cons_zero, List.set_cons_succ, Option.bind_some, Option.map_some, if_true, if_false, ite_true, ite_false, reduceIte, Bool.not_true, Bool.not_false, Bool.and_true, Bool.true_and, Bool.and_false, Bool.false_and, Bool.or_true, Bool.true_or, Bool.or_false, Bool.false_or, Nat.reduceAdd, Nat.reduceSub, Int.reduceAdd, Int.reduceSub, Int.reduceLE, Int.reduceLT, Int.reduceToNat, Int.cast_ofNat_Int, decide_true, decide_false, Bool.true_eq_false, Bool.false_eq_true, o_add, o_addS, o_addL, o_sub, o_neg, o_mul, o_mod, o_eqI, o_neI, o_eqS, o_neS, o_eqB, o_neB, o_lt, o_ltS, o_le, o_gt, o_ge, o_isT, o_notT, o_inS, o_lenL, o_lenT, o_lenS, o_idxL, o_idxT, o_idxS, o_split, o_join, o_tupL, o_tupT, o_listL, o_listT, o_int, o_max2, o_count, cl__law_need, e, g3]
open Classical in
noncomputable def mV (t : Tx) (nd : D) : Bool := if q : ∃ v : Bool, ∀ (d : Nat) (h : Hh), (cfs pg (d + 1)).f i__law_meets [.str t, nd] h = .ok (.bl v) h then q.choose else false
theorem mV_ok {w : Nat} (w3 : w ≤ 3) {nd : D} (hn : Need w nd) {t : Tx} (ht : t.length = w) (d : Nat) (h : Hh) : (cfs pg (d + 1)).f i__law_meets [.str t, nd] h = .ok (.bl (mV t nd)) h := by
  have q := meets_ex w3 hn ht
  unfold mV
  rw [dif_pos q]
  exact q.choose_spec d h
theorem days_ok (x : Tx) (w : Nat) (w3 : w ≤ 3) (nds : List D) (hn : ∀ nd ∈ nds, Need w nd) (hl : nds.length ≤ 2) (ts : List Tx) (ht : ∀ t ∈ ts, t.length = w) (d n m : Nat) (h : Hh) (s0 s1 s2 s3 s4 s6 s7 s8 s9 s10 : Option Sl) :
    evC (inner pg turns (cfs pg (d + 1)) (n + 8)) (m + 4) ce__law_crew_2 (.n 9) (some cc__law_crew_3) [s0, s1, s2, s3, s4, some (.val (.lst nds)), s6, s7, s8, s9, s10] (ts.map .str) h = .ok ((ts.filter fun t => nds.all fun nd => mV t nd).map .str) h :=
  c_mapI _ _ _ ts fun t h1 => ⟨_, rfl, by
    have cm : ∀ (n m : Nat) (s9 s10 : Option Sl), evC (inner pg turns (cfs pg (d + 1)) (n + 3)) m ce__law_crew_4 (.n 10) none [s0, s1, s2, s3, s4, some (.val (.lst nds)), s6, s7, s8, some (.val (.str t)), s10] nds h = .ok (nds.map fun nd => .bl (mV t nd)) h := fun n m s9 s10 => by
      have := c_map (r := inner pg turns (cfs pg (d + 1)) (n + 3)) (n := m) (elt := ce__law_crew_4) (tg := .n 10) (ρ := [s0, s1, s2, s3, s4, some (.val (.lst nds)), s6, s7, s8, some (.val (.str t)), s10]) (h := h) id (fun nd => .bl (mV t nd)) nds fun nd hnd => ⟨_, rfl, by
        simp -implicitDefEqProofs only [qce__law_crew_4, R.ok_bind, R.ok_toS, is_, ie, ic, ss_nil, ss_cons, s_set, s_own, s_frz, s_unp, s_unps, s_asg, s_par, s_setI, s_app, s_exp, s_ret, s_retN, s_iff, s_for, s_pass, s_brk, s_cnt, x_v, x_k, x_op, x_chain, x_mt, x_sl3, x_and, x_or, x_not, x_ite, x_tup, x_lst, x_cell, x_call, x_comp, x_lmul, x_fld, x_comp2, x_opd1, x_opd2, a_v, a_k, a_op, a_chain, a_mt, a_sl3, a_and, a_or, a_not, a_ite, a_tup, a_lst, a_cell, a_fld, a_call, a_new, a_meth, a_comp, a_lmul, a_opd1, a_opd2, a_comp2, as_nil, as_cons, its_nil, its_one, its_star, ks_nil, ks_cons, t_and, t_or, t_not, t_v, t_op, t_chain, t_call, t_meth, t_k, t_fld, t_mt, t_opd1, t_opd2, i_seq, i_range, i_enum, i_zip, i_enumz, truth_bl, start, setNs, setN, fresh, oOf, O.d, cleanI, clean, bt_n, bt_t, bts_nil, bts_cons, tgS, tgsS, wipeR, seqOf, vw, List.map_cons, List.map_nil, List.length_cons, List.length_nil, List.replicate, List.cons_append, List.nil_append, List.append_nil, List.getElem?_cons_zero, List.getElem?_cons_succ, List.set_cons_zero, List.set_cons_succ, Option.bind_some, Option.map_some, if_true, if_false, ite_true, ite_false, reduceIte, Bool.not_true, Bool.not_false, Bool.and_true, Bool.true_and, Bool.and_false, Bool.false_and, Bool.or_true, Bool.true_or, Bool.or_false, Bool.false_or, Nat.reduceAdd, Nat.reduceSub, Int.reduceAdd, Int.reduceSub, Int.reduceLE, Int.reduceLT, Int.reduceToNat, Int.cast_ofNat_Int, decide_true, decide_false, Bool.true_eq_false, Bool.false_eq_true, o_add, o_addS, o_addL, o_sub, o_neg, o_mul, o_mod, o_eqI, o_neI, o_eqS, o_neS, o_eqB, o_neB, o_lt, o_ltS, o_le, o_gt, o_ge, o_isT, o_notT, o_inS, o_lenL, o_lenT, o_lenS, o_idxL, o_idxT, o_idxS, o_split, o_join, o_tupL, o_tupT, o_listL, o_listT, o_int, o_max2, o_count, cl__law_meets, mV_ok w3 (hn nd hnd) (ht t h1), id]⟩
      rw [List.map_id] at this
      exact this
    simp -implicitDefEqProofs only [tcc__law_crew_3, R.ok_bind, R.ok_toS, is_, ie, ic, ss_nil, ss_cons, s_set, s_own, s_frz, s_unp, s_unps, s_asg, s_par, s_setI, s_app, s_exp, s_ret, s_retN, s_iff, s_for, s_pass, s_brk, s_cnt, x_v, x_k, x_op, x_chain, x_mt, x_sl3, x_and, x_or, x_not, x_ite, x_tup, x_lst, x_cell, x_call, x_comp, x_lmul, x_fld, x_comp2, x_opd1, x_opd2, a_v, a_k, a_op, a_chain, a_mt, a_sl3, a_and, a_or, a_not, a_ite, a_tup, a_lst, a_cell, a_fld, a_call, a_new, a_meth, a_comp, a_lmul, a_opd1, a_opd2, a_comp2, as_nil, as_cons, its_nil, its_one, its_star, ks_nil, ks_cons, t_and, t_or, t_not, t_v, t_op, t_chain, t_call, t_meth, t_k, t_fld, t_mt, t_opd1, t_opd2, i_seq, i_range, i_enum, i_zip, i_enumz, truth_bl, start, setNs, setN, fresh, oOf, O.d, cleanI, clean, bt_n, bt_t, bts_nil, bts_cons, tgS, tgsS, wipeR, seqOf, vw, List.map_cons, List.map_nil, List.length_cons, List.length_nil, List.replicate, List.cons_append, List.nil_append, List.append_nil, List.getElem?_cons_zero, List.getElem?_cons_succ, List.set_cons_zero, List.set_cons_succ, Option.bind_some, Option.map_some, if_true, if_false, ite_true, ite_false, reduceIte, Bool.not_true, Bool.not_false, Bool.and_true, Bool.true_and, Bool.and_false, Bool.false_and, Bool.or_true, Bool.true_or, Bool.or_false, Bool.false_or, Nat.reduceAdd, Nat.reduceSub, Int.reduceAdd, Int.reduceSub, Int.reduceLE, Int.reduceLT, Int.reduceToNat, Int.cast_ofNat_Int, decide_true, decide_false, Bool.true_eq_false, Bool.false_eq_true, o_add, o_addS, o_addL, o_sub, o_neg, o_mul, o_mod, o_eqI, o_neI, o_eqS, o_neS, o_eqB, o_neB, o_lt, o_ltS, o_le, o_gt, o_ge, o_isT, o_notT, o_inS, o_lenL, o_lenT, o_lenS, o_idxL, o_idxT, o_idxS, o_split, o_join, o_tupL, o_tupT, o_listL, o_listT, o_int, o_max2, o_count, cm _ _ s9, List.length_map, sizeOk_of (show nds.length ≤ 16777216 by omega), o_all (fun nd => mV t nd)], fun _ => by
    simp -implicitDefEqProofs only [qce__law_crew_2, R.ok_bind, R.ok_toS, is_, ie, ic, ss_nil, ss_cons, s_set, s_own, s_frz, s_unp, s_unps, s_asg, s_par, s_setI, s_app, s_exp, s_ret, s_retN, s_iff, s_for, s_pass, s_brk, s_cnt, x_v, x_k, x_op, x_chain, x_mt, x_sl3, x_and, x_or, x_not, x_ite, x_tup, x_lst, x_cell, x_call, x_comp, x_lmul, x_fld, x_comp2, x_opd1, x_opd2, a_v, a_k, a_op, a_chain, a_mt, a_sl3, a_and, a_or, a_not, a_ite, a_tup, a_lst, a_cell, a_fld, a_call, a_new, a_meth, a_comp, a_lmul, a_opd1, a_opd2, a_comp2, as_nil, as_cons, its_nil, its_one, its_star, ks_nil, ks_cons, t_and, t_or, t_not, t_v, t_op, t_chain, t_call, t_meth, t_k, t_fld, t_mt, t_opd1, t_opd2, i_seq, i_range, i_enum, i_zip, i_enumz, truth_bl, start, setNs, setN, fresh, oOf, O.d, cleanI, clean, bt_n, bt_t, bts_nil, bts_cons, tgS, tgsS, wipeR, seqOf, vw, List.map_cons, List.map_nil, List.length_cons, List.length_nil, List.replicate, List.cons_append, List.nil_append, List.append_nil, List.getElem?_cons_zero, List.getElem?_cons_succ, List.set_cons_zero, List.set_cons_succ, Option.bind_some, Option.map_some, if_true, if_false, ite_true, ite_false, reduceIte, Bool.not_true, Bool.not_false, Bool.and_true, Bool.true_and, Bool.and_false, Bool.false_and, Bool.or_true, Bool.true_or, Bool.or_false, Bool.false_or, Nat.reduceAdd, Nat.reduceSub, Int.reduceAdd, Int.reduceSub, Int.reduceLE, Int.reduceLT, Int.reduceToNat, Int.cast_ofNat_Int, decide_true, decide_false, Bool.true_eq_false, Bool.false_eq_true, o_add, o_addS, o_addL, o_sub, o_neg, o_mul, o_mod, o_eqI, o_neI, o_eqS, o_neS, o_eqB, o_neB, o_lt, o_ltS, o_le, o_gt, o_ge, o_isT, o_notT, o_inS, o_lenL, o_lenT, o_lenS, o_idxL, o_idxT, o_idxS, o_split, o_join, o_tupL, o_tupT, o_listL, o_listT, o_int, o_max2, o_count]⟩
end K04
end
section
set_option linter.all false
set_option maxRecDepth 100000
set_option maxHeartbeats 4000000
namespace K04
open PI
def kindOk (k : D) : Prop := ∃ m w : Nat, k = .tup [.int m, .int w] ∧ 0 < m ∧ m ≤ 4 ∧ 0 < w ∧ w ≤ 3
theorem asc_small {x : Tx} (a : Asc 97 x) {w : Nat} {ts : List Tx} (h : ∀ t ∈ ts, t ∈ allTx x w) : okD (.lst (ts.map .str)) = true :=
  okD_strs ts fun t ht c hc => by
    have := (a.bd c ((allTx_len (h t ht)).2 c hc)).2
    omega
theorem crew_ex (kinds : List D) (hk0 : 0 < kinds.length) (hkl : kinds.length < 100) (hk : ∀ k ∈ kinds, kindOk k) (b : Bg) : ∃ (x : Tx) (w : Nat) (nds : List D) (days : List Tx) (b' : Bg), Crew x w nds days ∧ ∀ (d : Nat) (t : Hh), (cfs pg (d + 4)).f i__law_crew [.ref 0, .lst kinds] (b.o :: t) = .ok (crewD x w nds days) (b'.o :: t) := by
  obtain ⟨k, b1, hk1, e1⟩ := pick_ex b kinds hk0 (by omega)
  obtain ⟨m, w, rfl, m0, m4, w0, w3⟩ := hk k hk1
  obtain ⟨x, b2, hx, xa, e2⟩ := shifts_ex b1 m m4
  obtain ⟨r, b3, hr, e3⟩ := draw_k b2 3 (by omega) (by omega)
  have x0 : 0 < x.length := by omega
  have x4 : x.length ≤ 4 := by omega
  have s5 : sizeOk 5 = true := rfl
  have s2 : sizeOk 2 = true := rfl
  have s0 : sizeOk 0 = true := rfl
  have sl : (allTx x w).length ≤ 64 := by rw [allTx_size]; exact pow_le3 x4 w3
  have sne : allTx x w ≠ [] := by
    intro z
    have := allTx_size x w
    rw [z] at this
    have : x.length ^ w = 0 := this.symm
    exact absurd this (Nat.ne_of_gt (Nat.pow_pos x0))
  have fin : ∀ (nds : List D), (∀ nd ∈ nds, Need w nd) → nds.length ≤ 2 → ∃ (nds' : List D) (days : List Tx), Crew x w nds' days ∧ (if ((allTx x w).filter fun t => nds.all fun nd => mV t nd).isEmpty then D.lst [.str x, .int w, .lst [], .lst [], .lst ((allTx x w).map .str)] else D.lst [.str x, .int w, .lst nds, .lst [], .lst (((allTx x w).filter fun t => nds.all fun nd => mV t nd).map .str)]) = crewD x w nds' days := fun nds hn hl => by
    by_cases q : ((allTx x w).filter fun t => nds.all fun nd => mV t nd).isEmpty = true
    · rw [if_pos q]
      exact ⟨[], allTx x w, ⟨xa, x0, x4, w0, w3, ⟨fun nd h => (by cases h), Nat.zero_le _⟩, sne, sl, fun t h => h⟩, rfl⟩
    · rw [if_neg q]
      exact ⟨nds, _, ⟨xa, x0, x4, w0, w3, ⟨hn, hl⟩, fun z => q (by rw [z]; rfl), Nat.le_trans (List.length_filter_le _ _) sl, fun t h => (List.mem_filter.mp h).1⟩, rfl⟩
  have okn : ∀ (nds : List D), okD (.lst (((allTx x w).filter fun t => nds.all fun nd => mV t nd).map .str)) = true := fun nds => asc_small xa fun t h => (List.mem_filter.mp h).1
  have lenf : ∀ (nds : List D), ((allTx x w).filter fun t => nds.all fun nd => mV t nd).length ≤ 16777216 := fun nds => Nat.le_trans (List.length_filter_le _ _) (by omega)
  by_cases q : r = 0
  · subst q
    have e3 : ∀ (d : Nat) (t : Hh), (cfs pg (d + 1)).f i__law_draw [.ref 0, .int 3] (b2.o :: t) = .ok (.int 0) (b3.o :: t) := e3
    obtain ⟨j, b4, hj, e4⟩ := draw_k b3 3 (by omega) (by omega)
    obtain ⟨nds, b5, l5, n5, e5⟩ := needs_ex x x0 x4 w w0 w3 j 0 b4
    obtain ⟨nds', days, C, ec⟩ := fin nds n5 (by omega)
    refine ⟨x, w, nds', days, b5, C, fun d t => ?_⟩
    rw [← ec, fn__law_crew]
    simp -implicitDefEqProofs only [bd__law_crew, R.ok_bind, R.ok_toS, is_, ie, ic, ss_nil, ss_cons, s_set, s_own, s_frz, s_unp, s_unps, s_asg, s_par, s_setI, s_app, s_exp, s_ret, s_retN, s_iff, s_for, s_pass, s_brk, s_cnt, x_v, x_k, x_op, x_chain, x_mt, x_sl3, x_and, x_or, x_not, x_ite, x_tup, x_lst, x_cell, x_call, x_comp, x_lmul, x_fld, x_comp2, x_opd1, x_opd2, a_v, a_k, a_op, a_chain, a_mt, a_sl3, a_and, a_or, a_not, a_ite, a_tup, a_lst, a_cell, a_fld, a_call, a_new, a_meth, a_comp, a_lmul, a_opd1, a_opd2, a_comp2, as_nil, as_cons, its_nil, its_one, its_star, ks_nil, ks_cons, t_and, t_or, t_not, t_v, t_op, t_chain, t_call, t_meth, t_k, t_fld, t_mt, t_opd1, t_opd2, i_seq, i_range, i_enum, i_zip, i_enumz, truth_bl, start, setNs, setN, fresh, oOf, O.d, cleanI, clean, bt_n, bt_t, bts_nil, bts_cons, tgS, tgsS, wipeR, seqOf, vw, List.map_cons, List.map_nil, List.length_cons, List.length_nil, List.replicate, List.cons_append, List.nil_append, List.append_nil, List.getElem?_cons_zero, List.getElem?_cons_succ, List.set_cons_zero, List.set_cons_succ, Option.bind_some, Option.map_some, if_true, if_false, ite_true, ite_false, reduceIte, Bool.not_true, Bool.not_false, Bool.and_true, Bool.true_and, Bool.and_false, Bool.false_and, Bool.or_true, Bool.true_or, Bool.or_false, Bool.false_or, Nat.reduceAdd, Nat.reduceSub, Int.reduceAdd, Int.reduceSub, Int.reduceLE, Int.reduceLT, Int.reduceToNat, Int.cast_ofNat_Int, decide_true, decide_false, Bool.true_eq_false, Bool.false_eq_true, o_add, o_addS, o_addL, o_sub, o_neg, o_mul, o_mod, o_eqI, o_neI, o_eqS, o_neS, o_eqB, o_neB, o_lt, o_ltS, o_le, o_gt, o_ge, o_isT, o_notT, o_inS, o_lenL, o_lenT, o_lenS, o_idxL, o_idxT, o_idxS, o_split, o_join, o_tupL, o_tupT, o_listL, o_listT, o_int, o_max2, o_count, cl__law_pick, e1, cl__law_shifts, e2, cl__law_draw, e3, e4, e5, s5, s2, s0, beq_self_eq_true, rangeOk_i (show -4611686018427387904 ≤ (j : Int) ∧ (j : Int) < 4611686018427387904 by omega), Int.toNat_natCast, sizeOk_of (show nds.length ≤ 16777216 by omega), cl__law_strings, strings_ok x x4 w w3,
      days_ok x w w3 nds n5 (by omega) (allTx x w) (fun t h => (allTx_len h).1), List.length_map, sizeOk_of (lenf nds), o_neNil _ (okn nds), List.isEmpty_map]
    cases ((allTx x w).filter fun t => nds.all fun nd => mV t nd).isEmpty <;> simp -implicitDefEqProofs only [R.ok_bind, R.ok_toS, is_, ie, ic, ss_nil, ss_cons, s_set, s_own, s_frz, s_unp, s_unps, s_asg, s_par, s_setI, s_app, s_exp, s_ret, s_retN, s_iff, s_for, s_pass, s_brk, s_cnt, x_v, x_k, x_op, x_chain, x_mt, x_sl3, x_and, x_or, x_not, x_ite, x_tup, x_lst, x_cell, x_call, x_comp, x_lmul, x_fld, x_comp2, x_opd1, x_opd2, a_v, a_k, a_op, a_chain, a_mt, a_sl3, a_and, a_or, a_not, a_ite, a_tup, a_lst, a_cell, a_fld, a_call, a_new, a_meth, a_comp, a_lmul, a_opd1, a_opd2, a_comp2, as_nil, as_cons, its_nil, its_one, its_star, ks_nil, ks_cons, t_and, t_or, t_not, t_v, t_op, t_chain, t_call, t_meth, t_k, t_fld, t_mt, t_opd1, t_opd2, i_seq, i_range, i_enum, i_zip, i_enumz, truth_bl, start, setNs, setN, fresh, oOf, O.d, cleanI, clean, bt_n, bt_t, bts_nil, bts_cons, tgS, tgsS, wipeR, seqOf, vw, List.map_cons, List.map_nil, List.length_cons, List.length_nil, List.replicate, List.cons_append, List.nil_append, List.append_nil, List.getElem?_cons_zero, List.getElem?_cons_succ, List.set_cons_zero, List.set_cons_succ, Option.bind_some, Option.map_some, if_true, if_false, ite_true, ite_false, reduceIte, Bool.not_true, Bool.not_false, Bool.and_true, Bool.true_and, Bool.and_false, Bool.false_and, Bool.or_true, Bool.true_or, Bool.or_false, Bool.false_or, Nat.reduceAdd, Nat.reduceSub, Int.reduceAdd, Int.reduceSub, Int.reduceLE, Int.reduceLT, Int.reduceToNat, Int.cast_ofNat_Int, decide_true, decide_false, Bool.true_eq_false, Bool.false_eq_true, s5, s0]
  · have q1 : ((r : Int) == 0) = false := by rw [beq_eq_false_iff_ne]; omega
    obtain ⟨nds', days, C, ec⟩ := fin [] (fun nd h => (by cases h)) (Nat.zero_le _)
    refine ⟨x, w, nds', days, b3, C, fun d t => ?_⟩
    rw [← ec, fn__law_crew]
    simp -implicitDefEqProofs only [bd__law_crew, R.ok_bind, R.ok_toS, is_, ie, ic, ss_nil, ss_cons, s_set, s_own, s_frz, s_unp, s_unps, s_asg, s_par, s_setI, s_app, s_exp, s_ret, s_retN, s_iff, s_for, s_pass, s_brk, s_cnt, x_v, x_k, x_op, x_chain, x_mt, x_sl3, x_and, x_or, x_not, x_ite, x_tup, x_lst, x_cell, x_call, x_comp, x_lmul, x_fld, x_comp2, x_opd1, x_opd2, a_v, a_k, a_op, a_chain, a_mt, a_sl3, a_and, a_or, a_not, a_ite, a_tup, a_lst, a_cell, a_fld, a_call, a_new, a_meth, a_comp, a_lmul, a_opd1, a_opd2, a_comp2, as_nil, as_cons, its_nil, its_one, its_star, ks_nil, ks_cons, t_and, t_or, t_not, t_v, t_op, t_chain, t_call, t_meth, t_k, t_fld, t_mt, t_opd1, t_opd2, i_seq, i_range, i_enum, i_zip, i_enumz, truth_bl, start, setNs, setN, fresh, oOf, O.d, cleanI, clean, bt_n, bt_t, bts_nil, bts_cons, tgS, tgsS, wipeR, seqOf, vw, List.map_cons, List.map_nil, List.length_cons, List.length_nil, List.replicate, List.cons_append, List.nil_append, List.append_nil, List.getElem?_cons_zero, List.getElem?_cons_succ, List.set_cons_zero, List.set_cons_succ, Option.bind_some, Option.map_some, if_true, if_false, ite_true, ite_false, reduceIte, Bool.not_true, Bool.not_false, Bool.and_true, Bool.true_and, Bool.and_false, Bool.false_and, Bool.or_true, Bool.true_or, Bool.or_false, Bool.false_or, Nat.reduceAdd, Nat.reduceSub, Int.reduceAdd, Int.reduceSub, Int.reduceLE, Int.reduceLT, Int.reduceToNat, Int.cast_ofNat_Int, decide_true, decide_false, Bool.true_eq_false, Bool.false_eq_true, o_add, o_addS, o_addL, o_sub, o_neg, o_mul, o_mod, o_eqI, o_neI, o_eqS, o_neS, o_eqB, o_neB, o_lt, o_ltS, o_le, o_gt, o_ge, o_isT, o_notT, o_inS, o_lenL, o_lenT, o_lenS, o_idxL, o_idxT, o_idxS, o_split, o_join, o_tupL, o_tupT, o_listL, o_listT, o_int, o_max2, o_count, cl__law_pick, e1, cl__law_shifts, e2, cl__law_draw, e3, q1, s5, s2, s0, cl__law_strings, strings_ok x x4 w w3,
      days_ok x w w3 [] (fun nd h => (by cases h)) (Nat.zero_le _) (allTx x w) (fun t h => (allTx_len h).1), List.length_map, sizeOk_of (lenf []), o_neNil _ (okn []), List.isEmpty_map]
    cases ((allTx x w).filter fun t => ([] : List D).all fun nd => mV t nd).isEmpty <;> simp -implicitDefEqProofs only [R.ok_bind, R.ok_toS, is_, ie, ic, ss_nil, ss_cons, s_set, s_own, s_frz, s_unp, s_unps, s_asg, s_par, s_setI, s_app, s_exp, s_ret, s_retN, s_iff, s_for, s_pass, s_brk, s_cnt, x_v, x_k, x_op, x_chain, x_mt, x_sl3, x_and, x_or, x_not, x_ite, x_tup, x_lst, x_cell, x_call, x_comp, x_lmul, x_fld, x_comp2, x_opd1, x_opd2, a_v, a_k, a_op, a_chain, a_mt, a_sl3, a_and, a_or, a_not, a_ite, a_tup, a_lst, a_cell, a_fld, a_call, a_new, a_meth, a_comp, a_lmul, a_opd1, a_opd2, a_comp2, as_nil, as_cons, its_nil, its_one, its_star, ks_nil, ks_cons, t_and, t_or, t_not, t_v, t_op, t_chain, t_call, t_meth, t_k, t_fld, t_mt, t_opd1, t_opd2, i_seq, i_range, i_enum, i_zip, i_enumz, truth_bl, start, setNs, setN, fresh, oOf, O.d, cleanI, clean, bt_n, bt_t, bts_nil, bts_cons, tgS, tgsS, wipeR, seqOf, vw, List.map_cons, List.map_nil, List.length_cons, List.length_nil, List.replicate, List.cons_append, List.nil_append, List.append_nil, List.getElem?_cons_zero, List.getElem?_cons_succ, List.set_cons_zero, List.set_cons_succ, Option.bind_some, Option.map_some, if_true, if_false, ite_true, ite_false, reduceIte, Bool.not_true, Bool.not_false, Bool.and_true, Bool.true_and, Bool.and_false, Bool.false_and, Bool.or_true, Bool.true_or, Bool.or_false, Bool.false_or, Nat.reduceAdd, Nat.reduceSub, Int.reduceAdd, Int.reduceSub, Int.reduceLE, Int.reduceLT, Int.reduceToNat, Int.cast_ofNat_Int, decide_true, decide_false, Bool.true_eq_false, Bool.false_eq_true, s5, s0]
/-- a line of a crew's days -/
theorem line_ex {x : Tx} {w : Nat} {nds : List D} {days : List Tx} (C : Crew x w nds days) (b : Bg) : ∃ (y : Tx) (b' : Bg), y ∈ days ∧ ∀ (d : Nat) (t : Hh), (cfs pg (d + 2)).f i__law_pick [.ref 0, .lst (days.map .str)] (b.o :: t) = .ok (.str y) (b'.o :: t) := by
  have l0 : 0 < days.length := by
    cases h : days with
    | nil => exact absurd h C.d0
    | cons a l => simp
  have := C.dl
  obtain ⟨y, b', hy, e⟩ := pick_ex b (days.map .str) (by rw [List.length_map]; exact l0) (by rw [List.length_map]; omega)
  obtain ⟨t, ht, rfl⟩ := List.mem_map.mp hy
  exact ⟨t, b', ht, e⟩
end K04
end
section
set_option linter.all false
set_option maxRecDepth 100000
set_option maxHeartbeats 4000000
namespace K04
open PI
theorem at_crew (x : Tx) (w : Nat) (nds : List D) (days : List Tx) (h : Hh) : evOp pg .idx [crewD x w nds days, .int 4] h = .ok (.lst (days.map .str)) h := rfl
theorem at_crew1 (x : Tx) (w : Nat) (nds : List D) (days : List Tx) (h : Hh) : evOp pg .idx [crewD x w nds days, .int 1] h = .ok (.int w) h := rfl
theorem lines_ex {x : Tx} {w : Nat} {nds : List D} {days : List Tx} (C : Crew x w nds days) : ∀ (k : Nat) (i : Int) (b : Bg), ∃ (ys : List Tx) (b' : Bg), ys.length = k ∧ (∀ y ∈ ys, y ∈ days) ∧ ∀ (d n m : Nat) (t : Hh) (s0 s2 s4 s5 s6 s7 : Option Sl),
    evC (inner pg turns (cfs pg (d + 2)) (n + 6)) m ce_law_1 (.n 5) none [s0, some (.val (.ref 0)), s2, some (.val (crewD x w nds days)), s4, s5, s6, s7] (countUp k i) (b.o :: t) = .ok (ys.map .str) (b'.o :: t)
  | 0, i, b => ⟨[], b, rfl, fun y h => (by cases h), fun d n m t s0 s2 s4 s5 s6 s7 => rfl⟩
  | k + 1, i, b => by
    obtain ⟨y, b1, hy, e⟩ := line_ex C b
    obtain ⟨ys, b', g1, g2, g3⟩ := lines_ex C k (i + 1) b1
    refine ⟨y :: ys, b', by simp [g1], fun z hz => ?_, fun d n m t s0 s2 s4 s5 s6 s7 => ?_⟩
    · cases hz with
      | head => exact hy
      | tail _ h => exact g2 z h
    · show evC _ _ _ _ _ _ (.int i :: countUp k (i + 1)) _ = _
      rw [c_cons]
      simp -implicitDefEqProofs only [qce_law_1, R.ok_bind, R.ok_toS, is_, ie, ic, ss_nil, ss_cons, s_set, s_own, s_frz, s_unp, s_unps, s_asg, s_par, s_setI, s_app, s_exp, s_ret, s_retN, s_iff, s_for, s_pass, s_brk, s_cnt, x_v, x_k, x_op, x_chain, x_mt, x_sl3, x_and, x_or, x_not, x_ite, x_tup, x_lst, x_cell, x_call, x_comp, x_lmul, x_fld, x_comp2, x_opd1, x_opd2, a_v, a_k, a_op, a_chain, a_mt, a_sl3, a_and, a_or, a_not, a_ite, a_tup, a_lst, a_cell, a_fld, a_call, a_new, a_meth, a_comp, a_lmul, a_opd1, a_opd2, a_comp2, as_nil, as_cons, its_nil, its_one, its_star, ks_nil, ks_cons, t_and, t_or, t_not, t_v, t_op, t_chain, t_call, t_meth, t_k, t_fld, t_mt, t_opd1, t_opd2, i_seq, i_range, i_enum, i_zip, i_enumz, truth_bl, start, setNs, setN, fresh, oOf, O.d, cleanI, clean, bt_n, bt_t, bts_nil, bts_cons, tgS, tgsS, wipeR, seqOf, vw, List.map_cons, List.map_nil, List.length_cons, List.length_nil, List.replicate, List.cons_append, List.nil_append, List.append_nil, List.getElem?_cons_zero, List.getElem?_cons_succ, List.set_cons_zero, List.set_cons_succ, Option.bind_some, Option.map_some, if_true, if_false, ite_true, ite_false, reduceIte, Bool.not_true, Bool.not_false, Bool.and_true, Bool.true_and, Bool.and_false, Bool.false_and, Bool.or_true, Bool.true_or, Bool.or_false, Bool.false_or, Nat.reduceAdd, Nat.reduceSub, Int.reduceAdd, Int.reduceSub, Int.reduceLE, Int.reduceLT, Int.reduceToNat, Int.cast_ofNat_Int, decide_true, decide_false, Bool.true_eq_false, Bool.false_eq_true, at_crew, cl__law_pick, e, g3]
/-- a worker's shifts -/
def ck_ (t : Tx) (i : Nat) : Nat := (t[i]?).getD 0
theorem at_ck {t : Tx} {k : Nat} (h : k < t.length) : at? t (k : Int) = some (ck_ t k) := by
  rw [at_nat _ k h]
  unfold ck_
  rw [List.getElem?_eq_getElem h]
  rfl
def lane (l : List Tx) (i : Nat) : Tx := l.map fun t => ck_ t i
theorem o_join1 (y : Tx) (hy : y.length ≤ 16777216) (h : Hh) : evOp pg .join [.str [], .lst (y.map fun c => .str [c])] h = .ok (.str y) h := by
  have join1 : ∀ (y : Tx), joinT [] (y.map fun c => [c]) = y := by
    intro y
    induction y with
    | nil => rfl
    | cons c r ih =>
      cases r with
      | nil => rfl
      | cons c' r =>
        show [c] ++ [] ++ joinT [] ((c' :: r).map fun c => [c]) = _
        rw [ih]
        rfl
  have := o_join (pg := pg) (h := h) [] (y.map fun c => [c])
  rw [List.map_map] at this
  rw [show (y.map fun c => D.str [c]) = y.map (D.str ∘ fun c => [c]) from rfl, this]
  have e : ((y.map fun c => [c]).map List.length).sum = y.length := by
    rw [List.map_map]
    clear this hy
    induction y with
    | nil => rfl
    | cons a y ih => simp only [List.map_cons, List.sum_cons, ih, Function.comp, List.length_cons, List.length_nil]; omega
  rw [e, join1, if_pos (sizeOk_of (by simpa using hy))]
theorem lane_ok {l : List Tx} {w i : Nat} (hl : l.length ≤ 100) (hw : w ≤ 100) (hi : i < w) (ht : ∀ t ∈ l, t.length = w) {d : Nat} {h : Hh} : (cfs pg (d + 1)).f i__law_lane [.lst (l.map .str), .int i] h = .ok (.str (lane l i)) h := by
  have cm : ∀ (n j : Nat) (s2 : Option Sl), evC (inner pg turns (cfs pg d) (n + 3)) j ce__law_lane_1 (.n 2) none [some (.val (.lst (l.map .str))), some (.val (.int (i : Nat))), s2] (l.map .str) h = .ok ((lane l i).map fun c => .str [c]) h := fun n j s2 => by
    have := c_map (r := inner pg turns (cfs pg d) (n + 3)) (n := j) (elt := ce__law_lane_1) (tg := .n 2) (ρ := [some (.val (.lst (l.map .str))), some (.val (.int (i : Nat))), s2]) (h := h) D.str (fun t => .str [ck_ t i]) l fun t h1 => ⟨_, rfl, by
      have e := ht t h1
      simp -implicitDefEqProofs only [qce__law_lane_1, R.ok_bind, R.ok_toS, is_, ie, ic, ss_nil, ss_cons, s_set, s_own, s_frz, s_unp, s_unps, s_asg, s_par, s_setI, s_app, s_exp, s_ret, s_retN, s_iff, s_for, s_pass, s_brk, s_cnt, x_v, x_k, x_op, x_chain, x_mt, x_sl3, x_and, x_or, x_not, x_ite, x_tup, x_lst, x_cell, x_call, x_comp, x_lmul, x_fld, x_comp2, x_opd1, x_opd2, a_v, a_k, a_op, a_chain, a_mt, a_sl3, a_and, a_or, a_not, a_ite, a_tup, a_lst, a_cell, a_fld, a_call, a_new, a_meth, a_comp, a_lmul, a_opd1, a_opd2, a_comp2, as_nil, as_cons, its_nil, its_one, its_star, ks_nil, ks_cons, t_and, t_or, t_not, t_v, t_op, t_chain, t_call, t_meth, t_k, t_fld, t_mt, t_opd1, t_opd2, i_seq, i_range, i_enum, i_zip, i_enumz, truth_bl, start, setNs, setN, fresh, oOf, O.d, cleanI, clean, bt_n, bt_t, bts_nil, bts_cons, tgS, tgsS, wipeR, seqOf, vw, List.map_cons, List.map_nil, List.length_cons, List.length_nil, List.replicate, List.cons_append, List.nil_append, List.append_nil, List.getElem?_cons_zero, List.getElem?_cons_succ, List.set_cons_zero, List.set_cons_succ, Option.bind_some, Option.map_some, if_true, if_false, ite_true, ite_false, reduceIte, Bool.not_true, Bool.not_false, Bool.and_true, Bool.true_and, Bool.and_false, Bool.false_and, Bool.or_true, Bool.true_or, Bool.or_false, Bool.false_or, Nat.reduceAdd, Nat.reduceSub, Int.reduceAdd, Int.reduceSub, Int.reduceLE, Int.reduceLT, Int.reduceToNat, Int.cast_ofNat_Int, decide_true, decide_false, Bool.true_eq_false, Bool.false_eq_true, o_add, o_addS, o_addL, o_sub, o_neg, o_mul, o_mod, o_eqI, o_neI, o_eqS, o_neS, o_eqB, o_neB, o_lt, o_ltS, o_le, o_gt, o_ge, o_isT, o_notT, o_inS, o_lenL, o_lenT, o_lenS, o_idxL, o_idxT, o_idxS, o_split, o_join, o_tupL, o_tupT, o_listL, o_listT, o_int, o_max2, o_count, sizeOk_of (show t.length ≤ 16777216 by omega), at_ck (show i < t.length by omega)]⟩
    rw [this]
    unfold lane
    rw [List.map_map]
    rfl
  have ll : (lane l i).length ≤ 16777216 := by unfold lane; rw [List.length_map]; omega
  rw [fn__law_lane]
  simp -implicitDefEqProofs only [bd__law_lane, R.ok_bind, R.ok_toS, is_, ie, ic, ss_nil, ss_cons, s_set, s_own, s_frz, s_unp, s_unps, s_asg, s_par, s_setI, s_app, s_exp, s_ret, s_retN, s_iff, s_for, s_pass, s_brk, s_cnt, x_v, x_k, x_op, x_chain, x_mt, x_sl3, x_and, x_or, x_not, x_ite, x_tup, x_lst, x_cell, x_call, x_comp, x_lmul, x_fld, x_comp2, x_opd1, x_opd2, a_v, a_k, a_op, a_chain, a_mt, a_sl3, a_and, a_or, a_not, a_ite, a_tup, a_lst, a_cell, a_fld, a_call, a_new, a_meth, a_comp, a_lmul, a_opd1, a_opd2, a_comp2, as_nil, as_cons, its_nil, its_one, its_star, ks_nil, ks_cons, t_and, t_or, t_not, t_v, t_op, t_chain, t_call, t_meth, t_k, t_fld, t_mt, t_opd1, t_opd2, i_seq, i_range, i_enum, i_zip, i_enumz, truth_bl, start, setNs, setN, fresh, oOf, O.d, cleanI, clean, bt_n, bt_t, bts_nil, bts_cons, tgS, tgsS, wipeR, seqOf, vw, List.map_cons, List.map_nil, List.length_cons, List.length_nil, List.replicate, List.cons_append, List.nil_append, List.append_nil, List.getElem?_cons_zero, List.getElem?_cons_succ, List.set_cons_zero, List.set_cons_succ, Option.bind_some, Option.map_some, if_true, if_false, ite_true, ite_false, reduceIte, Bool.not_true, Bool.not_false, Bool.and_true, Bool.true_and, Bool.and_false, Bool.false_and, Bool.or_true, Bool.true_or, Bool.or_false, Bool.false_or, Nat.reduceAdd, Nat.reduceSub, Int.reduceAdd, Int.reduceSub, Int.reduceLE, Int.reduceLT, Int.reduceToNat, Int.cast_ofNat_Int, decide_true, decide_false, Bool.true_eq_false, Bool.false_eq_true, o_add, o_addS, o_addL, o_sub, o_neg, o_mul, o_mod, o_eqI, o_neI, o_eqS, o_neS, o_eqB, o_neB, o_lt, o_ltS, o_le, o_gt, o_ge, o_isT, o_notT, o_inS, o_lenL, o_lenT, o_lenS, o_idxL, o_idxT, o_idxS, o_split, o_join, o_tupL, o_tupT, o_listL, o_listT, o_int, o_max2, o_count, cm, List.length_map, sizeOk_of ll, o_join1 _ ll]
theorem shifts_ok {l : List Tx} {w i : Nat} (hl : l.length ≤ 100) (hw : w ≤ 100) (hi : i < w) (ht : ∀ t ∈ l, t.length = w) (f : List D → D) (hf : f = .lst ∨ f = .tup) {d : Nat} {h : Hh} : (cfs pg (d + 1)).f i_shifts_of [f (l.map .str), .int i] h = .ok (.str (lane l i)) h := by
  have cm : ∀ (n j : Nat) (a : D) (s2 : Option Sl), evC (inner pg turns (cfs pg d) (n + 3)) j ce_shifts_of_1 (.n 2) none [some (.val a), some (.val (.int (i : Nat))), s2] (l.map .str) h = .ok ((lane l i).map fun c => .str [c]) h := fun n j a s2 => by
    have := c_map (r := inner pg turns (cfs pg d) (n + 3)) (n := j) (elt := ce_shifts_of_1) (tg := .n 2) (ρ := [some (.val a), some (.val (.int (i : Nat))), s2]) (h := h) D.str (fun t => .str [ck_ t i]) l fun t h1 => ⟨_, rfl, by
      have e := ht t h1
      simp -implicitDefEqProofs only [qce_shifts_of_1, R.ok_bind, R.ok_toS, is_, ie, ic, ss_nil, ss_cons, s_set, s_own, s_frz, s_unp, s_unps, s_asg, s_par, s_setI, s_app, s_exp, s_ret, s_retN, s_iff, s_for, s_pass, s_brk, s_cnt, x_v, x_k, x_op, x_chain, x_mt, x_sl3, x_and, x_or, x_not, x_ite, x_tup, x_lst, x_cell, x_call, x_comp, x_lmul, x_fld, x_comp2, x_opd1, x_opd2, a_v, a_k, a_op, a_chain, a_mt, a_sl3, a_and, a_or, a_not, a_ite, a_tup, a_lst, a_cell, a_fld, a_call, a_new, a_meth, a_comp, a_lmul, a_opd1, a_opd2, a_comp2, as_nil, as_cons, its_nil, its_one, its_star, ks_nil, ks_cons, t_and, t_or, t_not, t_v, t_op, t_chain, t_call, t_meth, t_k, t_fld, t_mt, t_opd1, t_opd2, i_seq, i_range, i_enum, i_zip, i_enumz, truth_bl, start, setNs, setN, fresh, oOf, O.d, cleanI, clean, bt_n, bt_t, bts_nil, bts_cons, tgS, tgsS, wipeR, seqOf, vw, List.map_cons, List.map_nil, List.length_cons, List.length_nil, List.replicate, List.cons_append, List.nil_append, List.append_nil, List.getElem?_cons_zero, List.getElem?_cons_succ, List.set_cons_zero, List.set_cons_succ, Option.bind_some, Option.map_some, if_true, if_false, ite_true, ite_false, reduceIte, Bool.not_true, Bool.not_false, Bool.and_true, Bool.true_and, Bool.and_false, Bool.false_and, Bool.or_true, Bool.true_or, Bool.or_false, Bool.false_or, Nat.reduceAdd, Nat.reduceSub, Int.reduceAdd, Int.reduceSub, Int.reduceLE, Int.reduceLT, Int.reduceToNat, Int.cast_ofNat_Int, decide_true, decide_false, Bool.true_eq_false, Bool.false_eq_true, o_add, o_addS, o_addL, o_sub, o_neg, o_mul, o_mod, o_eqI, o_neI, o_eqS, o_neS, o_eqB, o_neB, o_lt, o_ltS, o_le, o_gt, o_ge, o_isT, o_notT, o_inS, o_lenL, o_lenT, o_lenS, o_idxL, o_idxT, o_idxS, o_split, o_join, o_tupL, o_tupT, o_listL, o_listT, o_int, o_max2, o_count, sizeOk_of (show t.length ≤ 16777216 by omega), at_ck (show i < t.length by omega)]⟩
    rw [this]
    unfold lane
    rw [List.map_map]
    rfl
  have ll : (lane l i).length ≤ 16777216 := by unfold lane; rw [List.length_map]; omega
  rw [fn_shifts_of]
  rcases hf with rfl | rfl <;> simp -implicitDefEqProofs only [bd_shifts_of, R.ok_bind, R.ok_toS, is_, ie, ic, ss_nil, ss_cons, s_set, s_own, s_frz, s_unp, s_unps, s_asg, s_par, s_setI, s_app, s_exp, s_ret, s_retN, s_iff, s_for, s_pass, s_brk, s_cnt, x_v, x_k, x_op, x_chain, x_mt, x_sl3, x_and, x_or, x_not, x_ite, x_tup, x_lst, x_cell, x_call, x_comp, x_lmul, x_fld, x_comp2, x_opd1, x_opd2, a_v, a_k, a_op, a_chain, a_mt, a_sl3, a_and, a_or, a_not, a_ite, a_tup, a_lst, a_cell, a_fld, a_call, a_new, a_meth, a_comp, a_lmul, a_opd1, a_opd2, a_comp2, as_nil, as_cons, its_nil, its_one, its_star, ks_nil, ks_cons, t_and, t_or, t_not, t_v, t_op, t_chain, t_call, t_meth, t_k, t_fld, t_mt, t_opd1, t_opd2, i_seq, i_range, i_enum, i_zip, i_enumz, truth_bl, start, setNs, setN, fresh, oOf, O.d, cleanI, clean, bt_n, bt_t, bts_nil, bts_cons, tgS, tgsS, wipeR, seqOf, vw, List.map_cons, List.map_nil, List.length_cons, List.length_nil, List.replicate, List.cons_append, List.nil_append, List.append_nil, List.getElem?_cons_zero, List.getElem?_cons_succ, List.set_cons_zero, List.set_cons_succ, Option.bind_some, Option.map_some, if_true, if_false, ite_true, ite_false, reduceIte, Bool.not_true, Bool.not_false, Bool.and_true, Bool.true_and, Bool.and_false, Bool.false_and, Bool.or_true, Bool.true_or, Bool.or_false, Bool.false_or, Nat.reduceAdd, Nat.reduceSub, Int.reduceAdd, Int.reduceSub, Int.reduceLE, Int.reduceLT, Int.reduceToNat, Int.cast_ofNat_Int, decide_true, decide_false, Bool.true_eq_false, Bool.false_eq_true, o_add, o_addS, o_addL, o_sub, o_neg, o_mul, o_mod, o_eqI, o_neI, o_eqS, o_neS, o_eqB, o_neB, o_lt, o_ltS, o_le, o_gt, o_ge, o_isT, o_notT, o_inS, o_lenL, o_lenT, o_lenS, o_idxL, o_idxT, o_idxS, o_split, o_join, o_tupL, o_tupT, o_listL, o_listT, o_int, o_max2, o_count, cm, List.length_map, sizeOk_of ll, o_join1 _ ll]
theorem kw_shifts {r : Ev} {h : Hh} (a b : D) : evCall pg r 16 [] [(26, b), (25, a)] h = r.c.f 16 [a, b] h := rfl
/-- a turn of the inner loop -/
theorem turn2 {x : Tx} {w : Nat} {nds : List D} {days : List Tx} (l : List Tx) (hl : l.length ≤ 100) (hw : w ≤ 3) (ht : ∀ t ∈ l, t.length = w) (i : Nat) (hi : i < w) (s0 s1 s2 s5 s7 : Option Sl) (d n : Nat) (h : Hh) :
    (inner pg turns (cfs pg (d + 6)) (n + 9)).s lp_law_2 [s0, s1, s2, some (.val (crewD x w nds days)), some (.val (.lst (l.map .str))), s5, some (.val (.int (i : Nat))), s7] h
      = .nx [s0, s1, s2, some (.val (crewD x w nds days)), some (.val (.lst (l.map .str))), s5, some (.val (.int (i : Nat))), some (.val (.str (lane l i)))] h := by
  have L : Lk 1 (.lst [.str (lane l i), .str (lane l i), .str (lane l i)]) := .lst (by simp) fun z hz => by
    simp only [List.mem_cons, List.mem_nil_iff, or_false] at hz
    rcases hz with rfl | rfl | rfl <;> exact .str _ _
  have s3 : sizeOk 3 = true := rfl
  have a1 : ∀ (d : Nat) (h : Hh), (cfs pg (d + 1)).f i_shifts_of [.lst (l.map .str), .int i] h = .ok (.str (lane l i)) h := fun d h => shifts_ok hl (by omega) hi ht .lst (.inl rfl)
  have a2 : ∀ (d : Nat) (h : Hh), (cfs pg (d + 1)).f i_shifts_of [.tup (l.map .str), .int i] h = .ok (.str (lane l i)) h := fun d h => shifts_ok hl (by omega) hi ht .tup (.inr rfl)
  have a3 : ∀ (d : Nat) (h : Hh), (cfs pg (d + 1)).f i__law_lane [.lst (l.map .str), .int i] h = .ok (.str (lane l i)) h := fun d h => lane_ok hl (by omega) hi ht
  simp -implicitDefEqProofs only [qlp_law_2, R.ok_bind, R.ok_toS, is_, ie, ic, ss_nil, ss_cons, s_set, s_own, s_frz, s_unp, s_unps, s_asg, s_par, s_setI, s_app, s_exp, s_ret, s_retN, s_iff, s_for, s_pass, s_brk, s_cnt, x_v, x_k, x_op, x_chain, x_mt, x_sl3, x_and, x_or, x_not, x_ite, x_tup, x_lst, x_cell, x_call, x_comp, x_lmul, x_fld, x_comp2, x_opd1, x_opd2, a_v, a_k, a_op, a_chain, a_mt, a_sl3, a_and, a_or, a_not, a_ite, a_tup, a_lst, a_cell, a_fld, a_call, a_new, a_meth, a_comp, a_lmul, a_opd1, a_opd2, a_comp2, as_nil, as_cons, its_nil, its_one, its_star, ks_nil, ks_cons, t_and, t_or, t_not, t_v, t_op, t_chain, t_call, t_meth, t_k, t_fld, t_mt, t_opd1, t_opd2, i_seq, i_range, i_enum, i_zip, i_enumz, truth_bl, start, setNs, setN, fresh, oOf, O.d, cleanI, clean, bt_n, bt_t, bts_nil, bts_cons, tgS, tgsS, wipeR, seqOf, vw, List.map_cons, List.map_nil, List.length_cons, List.length_nil, List.replicate, List.cons_append, List.nil_append, List.append_nil, List.getElem?_cons_zero, List.getElem?_cons_succ, List.set_cons_zero, List.set_cons_succ, Option.bind_some, Option.map_some, if_true, if_false, ite_true, ite_false, reduceIte, Bool.not_true, Bool.not_false, Bool.and_true, Bool.true_and, Bool.and_false, Bool.false_and, Bool.or_true, Bool.true_or, Bool.or_false, Bool.false_or, Nat.reduceAdd, Nat.reduceSub, Int.reduceAdd, Int.reduceSub, Int.reduceLE, Int.reduceLT, Int.reduceToNat, Int.cast_ofNat_Int, decide_true, decide_false, Bool.true_eq_false, Bool.false_eq_true, o_add, o_addS, o_addL, o_sub, o_neg, o_mul, o_mod, o_eqI, o_neI, o_eqS, o_neS, o_eqB, o_neB, o_lt, o_ltS, o_le, o_gt, o_ge, o_isT, o_notT, o_inS, o_lenL, o_lenT, o_lenS, o_idxL, o_idxT, o_idxS, o_split, o_join, o_tupL, o_tupT, o_listL, o_listT, o_int, o_max2, o_count, s3, cl__law_lane, a1, a2, a3, cl_shifts_of, kw_shifts, cl__law_like, like_refl 1 _ (d + 4) _ L]
theorem turn1 (b : Bg) (s0 s2 s3 s4 s5 s6 s7 : Option Sl) : ∃ (b' : Bg) (s3' s4' s5' : Option Sl), ∀ (d n : Nat) (t : Hh), ∃ s6' s7' : Option Sl,
    (inner pg turns (cfs pg (d + 6)) (n + 14)).s lp_law_1 [s0, some (.val (.ref 0)), s2, s3, s4, s5, s6, s7] (b.o :: t) = .nx [s0, some (.val (.ref 0)), s2, s3', s4', s5', s6', s7'] (b'.o :: t) := by
  have kk : ∀ k ∈ [D.tup [.int 4, .int 1], .tup [.int 2, .int 3], .tup [.int 3, .int 2], .tup [.int 1, .int 2]], kindOk k := fun k hk => by
    simp only [List.mem_cons, List.mem_nil_iff, or_false] at hk
    rcases hk with rfl | rfl | rfl | rfl
    · exact ⟨4, 1, rfl, by omega, by omega, by omega, by omega⟩
    · exact ⟨2, 3, rfl, by omega, by omega, by omega, by omega⟩
    · exact ⟨3, 2, rfl, by omega, by omega, by omega, by omega⟩
    · exact ⟨1, 2, rfl, by omega, by omega, by omega, by omega⟩
  obtain ⟨x, w, nds, days, b1, C, e1⟩ := crew_ex _ (by simp) (by simp) kk b
  obtain ⟨k, b2, hk, e2⟩ := draw_k b1 9 (by omega) (by omega)
  obtain ⟨l, b3, l1, l2, e3⟩ := lines_ex C k 0 b2
  have w3 := C.w3
  have s4' : sizeOk 4 = true := rfl
  have s2' : sizeOk 2 = true := rfl
  have loop : ∀ (j : Nat) (i : Nat) (s6 s7 : Option Sl), i + j ≤ w → ∀ (d n : Nat) (h : Hh), ∃ s6' s7' : Option Sl,
      evFor (inner pg turns (cfs pg (d + 6)) (n + 9)) (.n 6) lp_law_2 (countUp j (i : Nat)) [s0, some (.val (.ref 0)), s2, some (.val (crewD x w nds days)), some (.val (.lst (l.map .str))), s5, s6, s7] h
        = .nx [s0, some (.val (.ref 0)), s2, some (.val (crewD x w nds days)), some (.val (.lst (l.map .str))), s5, s6', s7'] h := by
    intro j
    induction j with
    | zero => intro i s6 s7 _ d n h; exact ⟨s6, s7, rfl⟩
    | succ j ih =>
      intro i s6 s7 hj d n h
      obtain ⟨s6', s7', g⟩ := ih (i + 1) (some (.val (.int i))) (some (.val (.str (lane l i)))) (by omega) d n h
      refine ⟨s6', s7', ?_⟩
      show evFor _ _ _ (.int i :: countUp j ((i : Int) + 1)) _ _ = _
      rw [for_cons]
      simp only [bindTg, setN, List.set_cons_succ, List.set_cons_zero]
      rw [turn2 l (by omega) w3 (fun t ht => C.wid (l2 t ht)) i (by omega)]
      rw [show ((i : Int) + 1) = ((i + 1 : Nat) : Int) by omega]
      exact g
  refine ⟨b3, ?s3, ?s4, ?s5, fun d n t => ?f⟩
  case f =>
    obtain ⟨s6', s7', g⟩ := loop w 0 s6 s7 (by omega) d (n + 4) (b3.o :: t)
    refine ⟨s6', s7', ?_⟩
    have g : evFor (inner pg turns (cfs pg (d + 6)) (n + 13)) (.n 6) lp_law_2 (countUp w 0) _ _ = _ := g
    simp -implicitDefEqProofs only [qlp_law_1, R.ok_bind, R.ok_toS, is_, ie, ic, ss_nil, ss_cons, s_set, s_own, s_frz, s_unp, s_unps, s_asg, s_par, s_setI, s_app, s_exp, s_ret, s_retN, s_iff, s_for, s_pass, s_brk, s_cnt, x_v, x_k, x_op, x_chain, x_mt, x_sl3, x_and, x_or, x_not, x_ite, x_tup, x_lst, x_cell, x_call, x_comp, x_lmul, x_fld, x_comp2, x_opd1, x_opd2, a_v, a_k, a_op, a_chain, a_mt, a_sl3, a_and, a_or, a_not, a_ite, a_tup, a_lst, a_cell, a_fld, a_call, a_new, a_meth, a_comp, a_lmul, a_opd1, a_opd2, a_comp2, as_nil, as_cons, its_nil, its_one, its_star, ks_nil, ks_cons, t_and, t_or, t_not, t_v, t_op, t_chain, t_call, t_meth, t_k, t_fld, t_mt, t_opd1, t_opd2, i_seq, i_range, i_enum, i_zip, i_enumz, truth_bl, start, setNs, setN, fresh, oOf, O.d, cleanI, clean, bt_n, bt_t, bts_nil, bts_cons, tgS, tgsS, wipeR, seqOf, vw, List.map_cons, List.map_nil, List.length_cons, List.length_nil, List.replicate, List.cons_append, List.nil_append, List.append_nil, List.getElem?_cons_zero, List.getElem?_cons_succ, List.set_cons_zero, List.set_cons_succ, Option.bind_some, Option.map_some, if_true, if_false, ite_true, ite_false, reduceIte, Bool.not_true, Bool.not_false, Bool.and_true, Bool.true_and, Bool.and_false, Bool.false_and, Bool.or_true, Bool.true_or, Bool.or_false, Bool.false_or, Nat.reduceAdd, Nat.reduceSub, Int.reduceAdd, Int.reduceSub, Int.reduceLE, Int.reduceLT, Int.reduceToNat, Int.cast_ofNat_Int, decide_true, decide_false, Bool.true_eq_false, Bool.false_eq_true, o_add, o_addS, o_addL, o_sub, o_neg, o_mul, o_mod, o_eqI, o_neI, o_eqS, o_neS, o_eqB, o_neB, o_lt, o_ltS, o_le, o_gt, o_ge, o_isT, o_notT, o_inS, o_lenL, o_lenT, o_lenS, o_idxL, o_idxT, o_idxS, o_split, o_join, o_tupL, o_tupT, o_listL, o_listT, o_int, o_max2, o_count, s4', s2', cl__law_crew, e1, cl__law_draw, e2, rangeOk_i (show -4611686018427387904 ≤ (k : Int) ∧ (k : Int) < 4611686018427387904 by omega), Int.toNat_natCast, e3, List.length_map, sizeOk_of (show l.length ≤ 16777216 by omega), at_crew1, rangeOk_i (show -4611686018427387904 ≤ (w : Int) ∧ (w : Int) < 4611686018427387904 by omega), g]
    rfl
theorem plain_ok (h : Hh) : (cfs pg 39).f i_Crew_plain [.cls 5, .str [97, 98, 99, 100]] h = .ok (.ins 5 [(19, .str [97, 98, 99, 100]), (20, .int 1), (21, .lst []), (22, .lst [.str [97], .str [98], .str [99], .str [100]])]) h := by kernel_rfl
theorem len_ok (h : Hh) : evDun pg (inner pg turns (cfs pg 39) 36) .len [.ins 5 [(19, .str [97, 98, 99, 100]), (20, .int 1), (21, .lst []), (22, .lst [.str [97], .str [98], .str [99], .str [100]])]] h = .ok (.int 4) h := by kernel_rfl
theorem law_run (ns : List Int) (hn : ns.length ≤ 63) : ∃ h, (cfs pg 40).f 27 [.lst (ns.map .int)] [] = .ok (.bl true) h := by
  obtain ⟨b, e⟩ := bag_ex 38 ns hn
  have loop : ∀ (k : Nat) (i : Int) (b : Bg) (s0 s2 s3 s4 s5 s6 s7 : Option Sl), ∃ (b' : Bg) (s2' s3' s4' s5' s6' s7' : Option Sl),
      evFor (inner pg turns (cfs pg 39) 39) (.n 2) lp_law_1 (countUp k i) [s0, some (.val (.ref 0)), s2, s3, s4, s5, s6, s7] [b.o] = .nx [s0, some (.val (.ref 0)), s2', s3', s4', s5', s6', s7'] [b'.o] := by
    intro k
    induction k with
    | zero => intro i b s0 s2 s3 s4 s5 s6 s7; exact ⟨b, s2, s3, s4, s5, s6, s7, rfl⟩
    | succ k ih =>
      intro i b s0 s2 s3 s4 s5 s6 s7
      obtain ⟨b1, s3', s4', s5', g0⟩ := turn1 b s0 (some (.val (.int i))) s3 s4 s5 s6 s7
      obtain ⟨s6', s7', g⟩ := g0 33 25 []
      obtain ⟨b', s2'', s3'', s4'', s5'', s6'', s7'', g'⟩ := ih (i + 1) b1 s0 (some (.val (.int i))) s3' s4' s5' s6' s7'
      refine ⟨b', s2'', s3'', s4'', s5'', s6'', s7'', ?_⟩
      show evFor _ _ _ (.int i :: countUp k (i + 1)) _ _ = _
      rw [for_cons]
      simp only [bindTg, setN, List.set_cons_succ, List.set_cons_zero]
      rw [g]
      exact g'
  obtain ⟨b', s2', s3', s4', s5', s6', s7', g⟩ := loop 4 0 b (some (.val (.lst (ns.map .int)))) none none none none none none
  have x1 : ∀ (d : Nat) (h : Hh), (cfs pg (d + 1)).f i_shifts_of [.lst [], .int 0] h = .ok (.str []) h := fun d h => shifts_ok (l := []) (w := 1) (i := 0) (by simp) (by simp) (by simp) (fun t ht => (by cases ht)) .lst (.inl rfl)
  have s0 : sizeOk 0 = true := rfl
  have q1 : (([] : Tx) == []) = true := rfl
  refine ⟨[b'.o], ?_⟩
  have fin : (inner pg turns (cfs pg 39) 40).s f_law.body (start 8 [.lst (ns.map .int)]) [] = .rt (.bl true) [b'.o] := by
    simp -implicitDefEqProofs only [bd_law, R.ok_bind, R.ok_toS, is_, ie, ic, ss_nil, ss_cons, s_set, s_own, s_frz, s_unp, s_unps, s_asg, s_par, s_setI, s_app, s_exp, s_ret, s_retN, s_iff, s_for, s_pass, s_brk, s_cnt, x_v, x_k, x_op, x_chain, x_mt, x_sl3, x_and, x_or, x_not, x_ite, x_tup, x_lst, x_cell, x_call, x_comp, x_lmul, x_fld, x_comp2, x_opd1, x_opd2, a_v, a_k, a_op, a_chain, a_mt, a_sl3, a_and, a_or, a_not, a_ite, a_tup, a_lst, a_cell, a_fld, a_call, a_new, a_meth, a_comp, a_lmul, a_opd1, a_opd2, a_comp2, as_nil, as_cons, its_nil, its_one, its_star, ks_nil, ks_cons, t_and, t_or, t_not, t_v, t_op, t_chain, t_call, t_meth, t_k, t_fld, t_mt, t_opd1, t_opd2, i_seq, i_range, i_enum, i_zip, i_enumz, truth_bl, start, setNs, setN, fresh, oOf, O.d, cleanI, clean, bt_n, bt_t, bts_nil, bts_cons, tgS, tgsS, wipeR, seqOf, vw, List.map_cons, List.map_nil, List.length_cons, List.length_nil, List.replicate, List.cons_append, List.nil_append, List.append_nil, List.getElem?_cons_zero, List.getElem?_cons_succ, List.set_cons_zero, List.set_cons_succ, Option.bind_some, Option.map_some, if_true, if_false, ite_true, ite_false, reduceIte, Bool.not_true, Bool.not_false, Bool.and_true, Bool.true_and, Bool.and_false, Bool.false_and, Bool.or_true, Bool.true_or, Bool.or_false, Bool.false_or, Nat.reduceAdd, Nat.reduceSub, Int.reduceAdd, Int.reduceSub, Int.reduceLE, Int.reduceLT, Int.reduceToNat, Int.cast_ofNat_Int, decide_true, decide_false, Bool.true_eq_false, Bool.false_eq_true, o_add, o_addS, o_addL, o_sub, o_neg, o_mul, o_mod, o_eqI, o_neI, o_eqS, o_neS, o_eqB, o_neB, o_lt, o_ltS, o_le, o_gt, o_ge, o_isT, o_notT, o_inS, o_lenL, o_lenT, o_lenS, o_idxL, o_idxT, o_idxS, o_split, o_join, o_tupL, o_tupT, o_listL, o_listT, o_int, o_max2, o_count, cl__law_bag, e, rangeOk_i (show -4611686018427387904 ≤ (4 : Int) ∧ (4 : Int) < 4611686018427387904 by omega), g, cl_shifts_of, s0, x1, q1, cl_Crew_plain, plain_ok, len_ok, beq_self_eq_true]
  rw [fn_law, fin]
end K04
end
set_option maxRecDepth 100000 in
set_option maxHeartbeats 0 in
theorem PySem.Challenge.cw_fewdays_k04_shifts_of_workers_holds : PySem.Challenge.rw_fewdays_k04_shifts_of_workers.Holds := by
  exact K04_row K04.law_run
