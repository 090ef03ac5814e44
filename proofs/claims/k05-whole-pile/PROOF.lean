import PyProof.Rows.All
import PySem.Syntax
import Wide.All
import OpenK.AllK
import Wide.FinOn
import KE.KStateDown
import Lean
import HandS.ForMost
import HandS.Exc
import HandS.ExcOwn
import HandS.WordsExc
import HandS.Defaults
import HandS.Flow
import HandS.CallSlots
import HandS.TryMany
import HandS.IsInst
import HandS.StrMore
import HandS.TupAny
import HandS.TupMul
import HandS.Wide
import HandS.Deep
import HandS.Replace
import HandS.ReplaceList
import HandS.Style
import HandS.Small
import HandS.Walk
import HandS.Text
import KE.DataFind
import PyProof.Rows.StrPadFill
import HandS.Iter
import HandS.Comp
import HandS.Head0
import HandS.Head1
import HandS.Head2
import HandS.HeadEnd
import HandS.HeadHook1
import HandS.HeadHook2
import HandS.HeadHook3
import HandS.HeadHook4
import PyProof.ExcBaseAll.ValueError
import HandS.Words
import HandS.Ends
import HandS.More
import PySem.Challenge.RW_keyreckon_k05_whole_pile
set_option Elab.async false
set_option linter.all false
set_option maxRecDepth 100000
set_option maxHeartbeats 0
/-! KrD: values, IR, evaluator. -/
namespace Kr

inductive D where
  | non | bl (b : Bool) | int (i : Int) | str (x : List Nat) | tup (xs : List D) | lst (xs : List D) | ins (c : Nat) (xs : List D) | scr (ns : List Int)
  deriving Inhabited

inductive W where
  | d (x : D) | r (n : Nat) | f (g : Nat) (cs : List D)
  deriving Inhabited

/-- what stands in the store -/
inductive O where
  | lst (xs : List W) | dct (kvs : List (List Nat × W)) | dtp (kvs : List (D × W)) | ins (c : Nat) (xs : List W)
  deriving Inhabited

abbrev Sl := List (Option W)
abbrev Sto := List O

/-- the end of an expression: a value, an exception's class, or no word -/
inductive RE (α : Type) where
  | ok (a : α) (S : Sto) | ex (c : Nat) (S : Sto) | bad
  deriving Inhabited
/-- the end of a statement -/
inductive RS where
  | nx (l : Sl) (S : Sto) | ret (w : W) (S : Sto) | brk (l : Sl) (S : Sto) | cnt (l : Sl) (S : Sto) | ex (c : Nat) (l : Sl) (S : Sto) | bad
  deriving Inhabited

@[reducible] def RE.bind {α β : Type} (x : RE α) (f : α → Sto → RE β) : RE β := match x with
  | .ok a S => f a S
  | .ex c S => .ex c S
  | .bad => .bad
@[reducible] def RE.st {α : Type} (x : RE α) (l : Sl) (f : α → Sto → RS) : RS := match x with
  | .ok a S => f a S
  | .ex c S => .ex c l S
  | .bad => .bad
@[reducible] def RS.sq (x : RS) (f : Sl → Sto → RS) : RS := match x with
  | .nx l S => f l S
  | r => r
def RE.of {α : Type} (S : Sto) : Option α → RE α
  | some a => .ok a S
  | none => .bad

/-! ### plain functions on texts -/
abbrev Tx := List Nat
def sz : Nat := 16777216
def cutAt (n d : Nat) : Option Int → Nat
  | none => d
  | some v => if v < 0 then (v + (n : Int)).toNat else min v.toNat n
def cut {α : Type} (xs : List α) (lo hi : Option Int) : List α := (xs.drop (cutAt xs.length 0 lo)).take (cutAt xs.length xs.length hi - cutAt xs.length 0 lo)
def ixAt {α : Type} (xs : List α) (i : Int) : Option α :=
  if 0 ≤ i then (if i < xs.length then xs[i.toNat]? else none) else if -(xs.length : Int) ≤ i then xs[(i + xs.length).toNat]? else none
def ixN (n : Nat) (i : Int) : Option Nat :=
  if 0 ≤ i then (if i < n then some i.toNat else none) else if -(n : Int) ≤ i then some (i + n).toNat else none
def rstripT (cs x : Tx) : Tx := (x.reverse.dropWhile cs.contains).reverse
def lstripT (cs x : Tx) : Tx := x.dropWhile cs.contains
def stripT (cs x : Tx) : Tx := rstripT cs (lstripT cs x)
/-- the parts between signs c -/
def splitT (c : Nat) : Tx → List Tx
  | [] => [[]]
  | a :: r => if a = c then [] :: splitT c r else match splitT c r with
    | p :: ps => (a :: p) :: ps
    | [] => [[a]]
def replT (c : Nat) (z x : Tx) : Tx := x.flatMap fun a => if a = c then z else [a]
def repT (n : Int) (x : Tx) : Tx := (List.replicate n.toNat x).flatten
def rjustT (n : Int) (c : Nat) (x : Tx) : Tx := List.replicate (n.toNat - x.length) c ++ x
def joinT (s : Tx) : List Tx → Tx
  | [] => []
  | [x] => x
  | x :: y :: r => x ++ s ++ joinT s (y :: r)
def indexT (c : Nat) : Tx → Nat → Option Nat
  | [], _ => none
  | a :: r, k => if a = c then some k else indexT c r (k + 1)
def infixT (y : Tx) : Tx → Bool
  | [] => y.isEmpty
  | a :: r => y.isPrefixOf (a :: r) || infixT y r
/-- the figures of a number -/
def natF : Nat → Nat → Tx
  | 0, n => [48 + n % 10]
  | k + 1, n => if n < 10 then [48 + n] else natF k (n / 10) ++ [48 + n % 10]
def natT (n : Nat) : Tx := natF n n
def intT : Int → Tx
  | .ofNat n => natT n
  | .negSucc n => 45 :: natT (n + 1)
/-- a number read: figures alone -/
def readN : Tx → Nat → Option Nat
  | [], a => some a
  | c :: r, a => if 48 ≤ c ∧ c ≤ 57 then readN r (10 * a + (c - 48)) else none
def readI : Tx → Option Int
  | [] => none
  | c :: r => if c = 45 then (match r with
      | [] => none
      | _ :: _ => (readN r 0).map fun (n : Nat) => -(n : Int))
    else (readN (c :: r) 0).map fun (n : Nat) => (n : Int)

/-! ### == -/
mutual
def D.eq : D → D → Bool
  | .non, .non => true
  | .bl a, .bl b => a == b
  | .bl a, .int j => (if a then 1 else 0) == j
  | .int i, .bl b => i == (if b then 1 else 0)
  | .int i, .int j => i == j
  | .str x, .str y => x == y
  | .lst xs, .lst ys => D.eqs xs ys
  | .tup xs, .tup ys => D.eqs xs ys
  | _, _ => false
def D.eqs : List D → List D → Bool
  | [], [] => true
  | x :: xs, y :: ys => D.eq x y && D.eqs xs ys
  | _, _ => false
end
mutual
/-- data without instances, so deep at most -/
def D.flat : Nat → D → Bool
  | _, .non => true
  | _, .bl _ => true
  | _, .int _ => true
  | _, .str _ => true
  | n, .tup xs => (match n with
    | 0 => false
    | n + 1 => D.flats n xs)
  | n, .lst xs => (match n with
    | 0 => false
    | n + 1 => D.flats n xs)
  | _, .ins _ _ => false
  | _, .scr _ => false
def D.flats : Nat → List D → Bool
  | _, [] => true
  | n, x :: xs => D.flat n x && D.flats n xs
end

/-! ### the IR -/
inductive Bop where | add | sub | mul | fdiv | mod | pow
  deriving DecidableEq
inductive Cop where | eq | ne | lt | le | gt | ge | is | isn | isin | nin
  deriving DecidableEq
inductive Bi where | len | abs | int | str | bool | list | tuple | max | min | sorted | sum | dict | srtset | lenset | srtvals | minD
  deriving DecidableEq
inductive Me where | strip | rstrip | split | replace | rjust | join | count | index | append | pop | extend | get | update
  deriving DecidableEq
inductive Ty where | int | str | bool | tuple | list
  deriving DecidableEq

mutual
inductive E where
  | cst (d : D) | var (i : Nat) | glb (g : Nat)
  | bin (o : Bop) (a b : E) | neg (a : E)
  | cmp (o : Cop) (a b : E) | chn (o p : Cop) (a b c : E)
  | and (es : Es) | or (es : Es) | not (a : E)
  | ite (t : T) (a b : E)
  | call (keep : Bool) (f : Nat) (as : Es) | lcall (i : Nat) (as : Es)
  | mk (keep : Bool) (c : Nat) (as : Es) | mth (keep : Bool) (c f : Nat) (o : E) (as : Es)
  | blt (b : Bi) (as : Es) | isi (a : E) (t : Ty) | ise (a : E) (c : Nat)
  | bm (m : Me) (o : E) (as : Es) | repl (o : E) (c : Nat) (z : Tx)
  | fld (c k : Nat) (o : E)
  | ix (a b : E) | sl (a : E) (lo hi : Oe) | rev (a : E)
  | tup (as : Es) | lst (keep : Bool) (as : Es) | dct (ks : List Tx) (as : Es)
  | lc (keep : Bool) (own : List Nat) (g : Tg) (i : It) (t : Ot) (e : E)
inductive Es where | nil | cons (e : E) (es : Es)
inductive Oe where | none | some (e : E)
inductive Ot where | none | some (t : T)
inductive T where
  | val (e : E) | cmp (o : Cop) (a b : E) | chn (o p : Cop) (a b c : E) | and (ts : Ts) | or (ts : Ts) | not (a : T)
inductive Ts where | nil | cons (t : T) (ts : Ts)
inductive It where | seq (e : E) | rng1 (a : E) | rng2 (a b : E) | rng3 (a b c : E) | enum (e : E) | zip (a b : E) | enzip (a b : E)
inductive Tg where | nam (i : Nat) | tup (gs : Tgs) | sub (o i : E)
inductive Tgs where | nil | cons (g : Tg) (gs : Tgs)
end
mutual
inductive St where
  | doc | expr (e : E) | asg (g : Tg) (e : E) | setf (c k : Nat) (o e : E) | aug (i : Nat) (o : Bop) (e : E) | augf (c k : Nat) (o : E) (b : Bop) (e : E)
  | ret (e : E) | retN | ite (t : T) (a b : Ss) | whl (t : T) (b : Ss) | loop (g : Tg) (i : It) (b : Ss) | brk | cnt | pass
  | raise (c : Nat) | tri (b : Ss) (hs : List (Nat × Nat × D)) | triAs (b : Ss) (c i : Nat) (s : Ss) | ndef (i g : Nat) (cs : List Nat)
inductive Ss where | nil | cons (s : St) (ss : Ss)
end

/-! ### the evaluator -/
/-- a def: how many parameters, how many names, the body -/
structure Fn where
  np : Nat
  ns : Nat
  body : Ss
/-- the tables: constants of the top, classes' makers (the number of __init__) -/
structure Tab where
  glb : Nat → Option D
  fn : Nat → Option Fn
  ini : Nat → Option Nat
  /-- is the class c one of d -/
  sub : Nat → Nat → Option Bool

def W.dat : W → Option D
  | .d x => some x
  | _ => none
def W.dats : List W → Option (List D)
  | [] => some []
  | .d x :: t => (W.dats t).map (x :: ·)
  | _ :: _ => none

/-- what is walked: a list's, a tuple's, a text's items -/
def D.items : D → Option (List W)
  | .str x => some (x.map fun c => .d (.str [c]))
  | .tup xs => some (xs.map .d)
  | .lst xs => some (xs.map .d)
  | _ => none
def big (i : Int) : Bool := decide (i.natAbs.log2 < 2000)
def mulOk (i j : Int) : Bool := (decide (-(2 ^ 64) < i) && decide (i < 2 ^ 64)) || ((decide (-(2 ^ 64) < j) && decide (j < 2 ^ 64)) || (big i && big j))
def evBin (o : Bop) : D → D → Option D
  | .int i, .int j => (match o with
    | .add => some (.int (i + j))
    | .sub => some (.int (i - j))
    | .mul => if mulOk i j then some (.int (i * j)) else none
    | .fdiv => if 0 < j ∧ big j = true then some (.int (i / j)) else none
    | .mod => if 0 < j then some (.int (i % j)) else none
    | .pow => if 0 ≤ j ∧ j ≤ 1000 ∧ i.natAbs < 18446744073709551616 then some (.int (i ^ j.toNat)) else none)
  | .str x, .str y => (match o with
    | .add => if x.length + y.length ≤ sz then some (.str (x ++ y)) else none
    | _ => none)
  | .str x, .int n => (match o with
    | .mul => if -1000000 ≤ n ∧ n ≤ 1000000 ∧ x.length ≤ 10 then some (.str (repT n x)) else none
    | _ => none)
  | .tup x, .tup y => (match o with
    | .add => if x.length + y.length ≤ sz then some (.tup (x ++ y)) else none
    | _ => none)
  | .lst x, .lst y => (match o with
    | .add => if x.length + y.length ≤ sz then some (.lst (x ++ y)) else none
    | _ => none)
  | .tup x, .int n => (match o with
    | .mul => if 2 ≤ n ∧ n ≤ 1000 ∧ x.length ≤ 1000 ∧ 0 < x.length then some (.tup (List.replicate n.toNat x).flatten) else none
    | _ => none)
  | .lst x, .int n => (match o with
    | .mul => if 0 ≤ n ∧ n ≤ 1000 ∧ x.length ≤ 1000 then some (.lst (List.replicate n.toNat x).flatten) else none
    | _ => none)
  | _, _ => none
def isNon : D → Bool
  | .non => true
  | _ => false
/-- a == b, where the layer has a rule for it -/
def eqOk (x y : D) : Bool := D.flat 20 x && D.flat 20 y
def evIn (x y : D) : Option Bool := match y with
  | .str t => (match x with
    | .str s => some (infixT s t)
    | _ => none)
  | .tup ys => if D.flat 20 x && D.flats 20 ys then some (ys.any fun z => D.eq z x) else none
  | .lst ys => if D.flat 20 x && D.flats 20 ys then some (ys.any fun z => D.eq z x) else none
  | _ => none
def evCmp (o : Cop) (x y : D) : Option Bool := match o with
  | .eq => if eqOk x y then some (D.eq x y) else none
  | .ne => if eqOk x y then some (!D.eq x y) else none
  | .lt => (match x, y with
    | .int i, .int j => some (decide (i < j))
    | _, _ => none)
  | .le => (match x, y with
    | .int i, .int j => some (decide (i ≤ j))
    | _, _ => none)
  | .gt => (match x, y with
    | .int i, .int j => some (decide (j < i))
    | _, _ => none)
  | .ge => (match x, y with
    | .int i, .int j => some (decide (j ≤ i))
    | _, _ => none)
  | .is => (match y with
    | .non => some (isNon x)
    | .bl b => (match x with
      | .bl a => some (a == b)
      | _ => none)
    | _ => none)
  | .isn => (match y with
    | .non => some (!isNon x)
    | .bl b => (match x with
      | .bl a => some (a != b)
      | _ => none)
    | _ => none)
  | .isin => evIn x y
  | .nin => (evIn x y).map (!·)
def truD : D → Option Bool
  | .non => some false
  | .bl b => some b
  | .int i => some (i != 0)
  | .str x => if x.length ≤ sz then some (!x.isEmpty) else none
  | .tup xs => some (!xs.isEmpty)
  | .lst xs => some (!xs.isEmpty)
  | .ins _ _ => none
  | .scr _ => none
def isiD (t : Ty) : D → Option Bool
  | .non => some false
  | .bl _ => some (t == .int || t == .bool)
  | .int _ => some (t == .int)
  | .str _ => some (t == .str)
  | .tup _ => some (t == .tuple)
  | .lst _ => some (t == .list)
  | .ins _ _ => none
  | .scr _ => none
def ixD (x i : D) : Option D := match i with
  | .int i => (match x with
    | .tup xs => ixAt xs i
    | .lst xs => ixAt xs i
    | .scr ns => (ixAt ns i).map .int
    | .str t => if t.length ≤ sz then (ixAt t i).map fun c => .str [c] else none
    | _ => none)
  | _ => none
def slD (x : D) (lo hi : Option Int) : Option D := match x with
  | .tup xs => some (.tup (cut xs lo hi))
  | .lst xs => some (.lst (cut xs lo hi))
  | .str t => if t.length ≤ sz then some (.str (cut t lo hi)) else none
  | _ => none
def strsOf : List D → Option (List Tx)
  | [] => some []
  | .str x :: r => (strsOf r).map (x :: ·)
  | _ :: _ => none
def intsOf : List D → Option (List Int)
  | [] => some []
  | .int x :: r => (intsOf r).map (x :: ·)
  | _ :: _ => none
/-- lists of texts in order -/
def ltT : Tx → Tx → Bool
  | [], [] => false
  | [], _ :: _ => true
  | _ :: _, [] => false
  | a :: x, b :: y => if a = b then ltT x y else decide (a < b)
def insT (x : Tx) : List Tx → List Tx
  | [] => [x]
  | y :: r => if ltT y x then y :: insT x r else x :: y :: r
def sortT : List Tx → List Tx
  | [] => []
  | x :: r => insT x (sortT r)
def dedup : List Tx → List Tx
  | [] => []
  | x :: r => if r.contains x then dedup r else x :: dedup r
def evBi (b : Bi) (xs : List D) : Option D := match b, xs with
  | .len, [.str x] => if x.length ≤ sz then some (.int x.length) else none
  | .len, [.tup x] => some (.int x.length)
  | .len, [.lst x] => some (.int x.length)
  | .len, [.scr x] => some (.int x.length)
  | .abs, [.int i] => some (.int (if i < 0 then -i else i))
  | .int, [.int i] => some (.int i)
  | .int, [.bl k] => some (.int (if k then 1 else 0))
  | .int, [.str x] => if x.length ≤ 600 then (readI x).map .int else none
  | .str, [.int i] => if i.natAbs.log2 < 1900 then some (.str (intT i)) else none
  | .bool, [x] => (match x with
    | .int i => some (.bl (i != 0))
    | .bl k => some (.bl k)
    | .tup xs => some (.bl (!xs.isEmpty))
    | _ => none)
  | .tuple, [.lst x] => some (.tup x)
  | .tuple, [.tup x] => some (.tup x)
  | .max, [.int i, .int j] => some (.int (if j > i then j else i))
  | .min, [.int i, .int j] => some (.int (if j < i then j else i))
  | .list, [.lst x] => some (.lst x)
  | .list, [.tup x] => some (.lst x)
  | _, _ => none
def evMe (m : Me) (o : D) (xs : List D) : Option D := match m, o, xs with
  | .strip, .str x, [.str y] => if x.length ≤ sz then some (.str (stripT y x)) else none
  | .rstrip, .str x, [.str y] => if x.length ≤ sz then some (.str (rstripT y x)) else none
  | .split, .str x, [.str [c]] => if x.length + 2 ≤ sz then some (.lst ((splitT c x).map .str)) else none
  | .rjust, .str x, [.int n, .str [c]] => if x.length ≤ sz ∧ -1000000 ≤ n ∧ n ≤ 1000000 then some (.str (rjustT n c x)) else none
  | .join, .str x, [.lst ys] => (strsOf ys).bind fun zs => if (zs.map (·.length)).sum + zs.length * x.length ≤ sz then some (.str (joinT x zs)) else none
  | .count, .tup ys, [x] => if D.flat 20 x && D.flats 20 ys then some (.int (ys.countP fun z => D.eq z x)) else none
  | _, _, _ => none
/-- a call that was handed data alone has run over an empty store: what it hands back, over the caller's -/
def leave (keep : Bool) (S : Sto) : RE W → RE W
  | .ok (.d x) _ => .ok (.d x) S
  | .ok (.r k) S' => (match S'[k]? with
    | some (.lst ws) => (match W.dats ws with
      | some xs => if keep then .ok (.r S.length) (S ++ [.lst ws]) else .ok (.d (.lst xs)) S
      | none => .bad)
    | _ => .bad)
  | .ok (.f _ _) _ => .bad
  | .ex c _ => .ex c S
  | .bad => .bad
def callW (C : Nat → List W → Sto → RE W) (keep : Bool) (f : Nat) (ws : List W) (S : Sto) : RE W := match W.dats ws with
  | some _ => leave keep S (C f ws [])
  | none => C f ws S
def mkW (C : Nat → List W → Sto → RE W) (keep : Bool) (c : Nat) (f : Nat) (ws : List W) (S : Sto) : RE W :=
  if keep then (match C f (.r S.length :: ws) (S ++ [.ins c []]) with
    | .ok (.d .non) S' => .ok (.r S.length) S'
    | .ex c S' => .ex c S'
    | _ => .bad)
  else match W.dats ws with
    | some _ => (match C f (.r 0 :: ws) [.ins c []] with
      | .ok (.d .non) S' => (match (S'[0]? : Option O) with
        | some (.ins c' xs) => if c' = c then (match W.dats xs with
          | some ds => .ok (.d (.ins c ds)) S
          | none => .bad) else .bad
        | _ => .bad)
      | .ex c _ => .ex c S
      | _ => .bad)
    | none => .bad
/-- the class of an instance -/
def clsOf (S : Sto) : W → Option Nat
  | .d (.ins c _) => some c
  | .r n => (match S[n]? with
    | some (.ins c _) => some c
    | _ => none)
  | _ => none
def putW (k : Nat) (w : W) (xs : List W) : Option (List W) := if k < xs.length then some (xs.set k w) else if k = xs.length then some (xs ++ [w]) else none
/-- an object of the caller's: read as data where it is a list -/
def look1 (S : Sto) (w : W) : Option D := match w with
  | .d x => some x
  | .r n => (match S[n]? with
    | some (.lst ws) => (W.dats ws).map .lst
    | _ => none)
  | _ => none

def looks (S : Sto) : List W → Option (List D)
  | [] => some []
  | w :: ws => (look1 S w).bind fun x => (looks S ws).map (x :: ·)
def opt2 {α : Type} (f : D → D → Option α) (S : Sto) (v w : W) : Option α := match look1 S v, look1 S w with
  | some x, some y => f x y
  | _, _ => none

abbrev Cl := Nat → List W → Sto → RE W
def evWhile (t : Sl → Sto → RE Bool) (b : Sl → Sto → RS) : Nat → Sl → Sto → RS
  | 0, _, _ => .bad
  | k + 1, l, S => (t l S).st l fun c S => if c then (match b l S with
      | .nx l S => evWhile t b k l S
      | .cnt l S => evWhile t b k l S
      | .brk l S => .nx l S
      | r => r) else .nx l S
/-- what is walked: values, or a list of the store as it stands at each turn -/
inductive Iv where | vs (xs : List W) | ref (n : Nat)
  deriving Inhabited
def ivAt (S : Sto) (i : Nat) : Iv → Option (Option W)
  | .vs xs => some xs[i]?
  | .ref n => (match S[n]? with
    | some (.lst ws) => some ws[i]?
    | _ => none)
def evFor (g : W → Sl → Sto → RS) (b : Sl → Sto → RS) : List W → Sl → Sto → RS
  | [], l, S => .nx l S
  | x :: r, l, S => (g x l S).sq fun l S => match b l S with
      | .nx l S => evFor g b r l S
      | .cnt l S => evFor g b r l S
      | .brk l S => .nx l S
      | q => q
/-- .. by turns -/
def evForX (g : W → Sl → Sto → RS) (b : Sl → Sto → RS) (v : Iv) : Nat → Nat → Sl → Sto → RS
  | 0, _, _, _ => .bad
  | k + 1, i, l, S => match ivAt S i v with
    | none => .bad
    | some none => .nx l S
    | some (some x) => (g x l S).sq fun l S => match b l S with
      | .nx l S => evForX g b v k (i + 1) l S
      | .cnt l S => evForX g b v k (i + 1) l S
      | .brk l S => .nx l S
      | q => q
def evForI (g : W → Sl → Sto → RS) (b : Sl → Sto → RS) (v : Iv) (l : Sl) (S : Sto) : RS := match v with
  | .vs xs => evFor g b xs l S
  | .ref n => evForX g b (.ref n) 100000 0 l S
/-- one turn of a comprehension: what is gathered; nothing is raised there -/
def lcTurn (g : W → Sl → Sto → RS) (t : Sl → Sto → RE Bool) (e : Sl → Sto → RE W) (l : Sl) (x : W) (acc : List D) (S : Sto) : RE (List D) := match g x l S with
  | .nx l' S => (match t l' S with
    | .ok true S => (match e l' S with
      | .ok (.d y) S => if acc.length < sz then .ok (acc ++ [y]) S else .bad
      | _ => .bad)
    | .ok false S => .ok acc S
    | _ => .bad)
  | _ => .bad
def evLc (u : W → List D → Sto → RE (List D)) : List W → List D → Sto → RE (List D)
  | [], acc, S => .ok acc S
  | x :: r, acc, S => (u x acc S).bind fun acc S => evLc u r acc S
def evLcX (u : W → List D → Sto → RE (List D)) (v : Iv) : Nat → Nat → List D → Sto → RE (List D)
  | 0, _, _, _ => .bad
  | k + 1, i, acc, S => match ivAt S i v with
    | none => .bad
    | some none => .ok acc S
    | some (some x) => (u x acc S).bind fun acc S => evLcX u v k (i + 1) acc S
def evLcI (u : W → List D → Sto → RE (List D)) (v : Iv) (S : Sto) : RE (List D) := match v with
  | .vs xs => evLc u xs [] S
  | .ref n => evLcX u (.ref n) 100000 0 [] S
def wipeS (l : Sl) : List Nat → Sl
  | [] => l
  | v :: vs => (wipeS l vs).set v none
def range1 (n : Nat) (a : Int) : List W := (List.range n).map fun (i : Nat) => .d (.int (a + i))
def rngN (a b : Int) : Nat := (b - a).toNat
def rngOk (a : Int) : Bool := decide (-1000000000 ≤ a) && decide (a ≤ 1000000000)

/-- what a method is called of -/
def rcv (m : Me) (S : Sto) (v : W) : Bool := match m with
  | .append => (match v with
    | .r n => (match S[n]? with
      | some (.lst _) => true
      | _ => false)
    | _ => false)
  | .count => (match v with
    | .d (.tup _) => true
    | _ => false)
  | _ => (match v with
    | .d (.str _) => true
    | _ => false)
def evRepl (c : Nat) (z : Tx) : D → Option D
  | .str x => if x.length ≤ 100000 ∧ z.length ≤ 10 then some (.str (replT c z x)) else none
  | _ => none
/-- a method of a built-in type -/
def evBm (m : Me) (S : Sto) (v : W) (ws : List W) : RE W := match m with
  | .append => (match v, ws with
    | .r n, [w] => (match S[n]? with
      | some (.lst xs) => if xs.length < sz then .ok (.d .non) (S.set n (.lst (xs ++ [w]))) else .bad
      | _ => .bad)
    | _, _ => .bad)
  | m => .of S (((look1 S v).bind fun x => (looks S ws).bind fun ys => evMe m x ys).map .d)
def rdVar (i : Nat) (l : Sl) (S : Sto) : RE W := match l[i]? with
  | some (some w) => .ok w S
  | _ => .bad
def evIx (S : Sto) (v : W) (i : D) : RE W := match v with
    | .d x => .of S ((ixD x i).map .d)
    | .r n => (match S[n]?, i with
      | some (.lst xs), .int i => .of S (ixAt xs i)
      | _, _ => .bad)
    | _ => .bad
def evFld (c k : Nat) (S : Sto) (v : W) : RE W := match v with
    | .d (.ins c' xs) => if c' = c then (match xs[k]? with
      | some x => .ok (.d x) S
      | none => .bad) else .bad
    | .r n => (match S[n]? with
      | some (.ins c' xs) => if c' = c then (match xs[k]? with
        | some x => .ok x S
        | none => .bad) else .bad
      | _ => .bad)
    | _ => .bad
def seqIv (S : Sto) (w : W) : RE Iv := match w with
  | .d x => .of S (x.items.map .vs)
  | .r n => (match S[n]? with
    | some (.lst _) => .ok (.ref n) S
    | _ => .bad)
  | _ => .bad
/-- a value that is data (a list of the store is read) -/
@[reducible] def asD (r : RE W) : RE D := r.bind fun w S => .of S (look1 S w)
mutual
def evE (G : Tab) (C : Cl) : E → Sl → Sto → RE W
  | .cst d, _, S => .ok (.d d) S
  | .var i, l, S => rdVar i l S
  | .glb g, _, S => (match G.glb g with
    | some d => .ok (.d d) S
    | none => .bad)
  | .bin o a b, l, S => (evE G C a l S).bind fun v S => (evE G C b l S).bind fun w S => .of S ((opt2 (evBin o) S v w).map .d)
  | .neg a, l, S => (asD (evE G C a l S)).bind fun x S => (match x with
    | .int i => .ok (.d (.int (-i))) S
    | _ => .bad)
  | .cmp o a b, l, S => (evE G C a l S).bind fun v S => (evE G C b l S).bind fun w S => .of S ((opt2 (evCmp o) S v w).map fun k => .d (.bl k))
  | .chn o p a b c, l, S => (evE G C a l S).bind fun v S => (evE G C b l S).bind fun w S => (match opt2 (evCmp o) S v w with
    | some true => (evE G C c l S).bind fun u S => .of S ((opt2 (evCmp p) S w u).map fun k => .d (.bl k))
    | some false => .ok (.d (.bl false)) S
    | none => .bad)
  | .and es, l, S => evAnd G C es l S
  | .or es, l, S => evOr G C es l S
  | .not a, l, S => (asD (evE G C a l S)).bind fun x S => .of S ((truD x).map fun k => .d (.bl (!k)))
  | .ite t a b, l, S => (evT G C t l S).bind fun k S => if k then evE G C a l S else evE G C b l S
  | .call keep f as, l, S => (evA G C as l S).bind fun ws S => callW C keep f ws S
  | .lcall _ _, _, _ => .bad
  | .mk keep c as, l, S => (evA G C as l S).bind fun ws S => (match G.ini c with
    | some f => mkW C keep c f ws S
    | none => .bad)
  | .mth keep c f o as, l, S => (evE G C o l S).bind fun v S => if clsOf S v = some c then (evA G C as l S).bind fun ws S => callW C keep f (v :: ws) S else .bad
  | .blt b as, l, S => (evA G C as l S).bind fun ws S => .of S (((looks S ws).bind (evBi b)).map .d)
  | .isi a t, l, S => (asD (evE G C a l S)).bind fun x S => .of S ((isiD t x).map fun k => .d (.bl k))
  | .ise _ _, _, _ => .bad
  | .bm m o as, l, S => (evE G C o l S).bind fun v S => if rcv m S v then (evA G C as l S).bind fun ws S => evBm m S v ws else .bad
  | .repl o c z, l, S => (evE G C o l S).bind fun v S => .of S (((look1 S v).bind (evRepl c z)).map .d)
  | .fld c k o, l, S => (evE G C o l S).bind fun v S => evFld c k S v
  | .ix a b, l, S => (evE G C a l S).bind fun v S => (asD (evE G C b l S)).bind fun i S => evIx S v i
  | .sl a lo hi, l, S => (evE G C a l S).bind fun v S => (evO G C lo l S).bind fun i S => (evO G C hi l S).bind fun j S => .of S (((look1 S v).bind fun x => slD x i j).map .d)
  | .rev _, _, _ => .bad
  | .tup as, l, S => (evA G C as l S).bind fun ws S => (match W.dats ws with
    | some ds => if ds.length ≤ sz then .ok (.d (.tup ds)) S else .bad
    | none => .bad)
  | .lst keep as, l, S => (evA G C as l S).bind fun ws S => if ws.length ≤ sz then (if keep then .ok (.r S.length) (S ++ [.lst ws]) else match W.dats ws with
    | some ds => .ok (.d (.lst ds)) S
    | none => .bad) else .bad
  | .dct _ _, _, _ => .bad
  | .lc keep own g i t e, l, S => (evI G C i l S).bind fun v S => (evLcI (lcTurn (fun x => evG G C g x) (evOt G C t) (evE G C e) (wipeS l own)) v S).bind fun ys S =>
      if keep then .ok (.r S.length) (S ++ [.lst (ys.map .d)]) else .ok (.d (.lst ys)) S
def evAnd (G : Tab) (C : Cl) : Es → Sl → Sto → RE W
  | .nil, _, _ => .bad
  | .cons a es, l, S => (match es with
    | .nil => evE G C a l S
    | .cons _ _ => (asD (evE G C a l S)).bind fun x S => (match x with
      | .bl true => evAnd G C es l S
      | .bl false => .ok (.d (.bl false)) S
      | _ => .bad))
def evOr (G : Tab) (C : Cl) : Es → Sl → Sto → RE W
  | .nil, _, _ => .bad
  | .cons a es, l, S => (match es with
    | .nil => evE G C a l S
    | .cons _ _ => (asD (evE G C a l S)).bind fun x S => (match x with
      | .bl false => evOr G C es l S
      | .bl true => .ok (.d (.bl true)) S
      | _ => .bad))
def evA (G : Tab) (C : Cl) : Es → Sl → Sto → RE (List W)
  | .nil, _, S => .ok [] S
  | .cons e es, l, S => (evE G C e l S).bind fun w S => (evA G C es l S).bind fun ws S => .ok (w :: ws) S
def evO (G : Tab) (C : Cl) : Oe → Sl → Sto → RE (Option Int)
  | .none, _, S => .ok none S
  | .some e, l, S => (asD (evE G C e l S)).bind fun x S => (match x with
    | .int i => .ok (some i) S
    | _ => .bad)
def evOt (G : Tab) (C : Cl) : Ot → Sl → Sto → RE Bool
  | .none, _, S => .ok true S
  | .some t, l, S => evT G C t l S
def evT (G : Tab) (C : Cl) : T → Sl → Sto → RE Bool
  | .val e, l, S => (asD (evE G C e l S)).bind fun x S => .of S (truD x)
  | .cmp o a b, l, S => (evE G C a l S).bind fun v S => (evE G C b l S).bind fun w S => .of S (opt2 (evCmp o) S v w)
  | .chn o p a b c, l, S => (evE G C a l S).bind fun v S => (evE G C b l S).bind fun w S => (match opt2 (evCmp o) S v w with
    | some true => (evE G C c l S).bind fun u S => .of S (opt2 (evCmp p) S w u)
    | some false => .ok false S
    | none => .bad)
  | .and ts, l, S => evTand G C ts l S
  | .or ts, l, S => evTor G C ts l S
  | .not a, l, S => (evT G C a l S).bind fun k S => .ok (!k) S
def evTand (G : Tab) (C : Cl) : Ts → Sl → Sto → RE Bool
  | .nil, _, S => .ok true S
  | .cons a ts, l, S => (evT G C a l S).bind fun k S => if k then evTand G C ts l S else .ok false S
def evTor (G : Tab) (C : Cl) : Ts → Sl → Sto → RE Bool
  | .nil, _, S => .ok false S
  | .cons a ts, l, S => (evT G C a l S).bind fun k S => if k then .ok true S else evTor G C ts l S
def evI (G : Tab) (C : Cl) : It → Sl → Sto → RE Iv
  | .seq e, l, S => (evE G C e l S).bind fun w S => seqIv S w
  | .rng1 a, l, S => (asD (evE G C a l S)).bind fun x S => (match x with
    | .int i => if rngOk i then .ok (.vs (range1 (rngN 0 i) 0)) S else .bad
    | _ => .bad)
  | .rng2 a b, l, S => (asD (evE G C a l S)).bind fun x S => (asD (evE G C b l S)).bind fun y S => (match x, y with
    | .int i, .int j => if rngOk i && rngOk j then .ok (.vs (range1 (rngN i j) i)) S else .bad
    | _, _ => .bad)
  | .rng3 _ _ _, _, _ => .bad
  | .enum _, _, _ => .bad
  | .zip _ _, _, _ => .bad
  | .enzip _ _, _, _ => .bad
/-- a target takes a value -/
def evG (G : Tab) (C : Cl) : Tg → W → Sl → Sto → RS
  | .nam i, w, l, S => if i < l.length then .nx (l.set i (some w)) S else .bad
  | .tup gs, w, l, S => (match w with
    | .d (.tup xs) => evGs G C gs xs l S
    | _ => .bad)
  | .sub _ _, _, _, _ => .bad
def evGs (G : Tab) (C : Cl) : Tgs → List D → Sl → Sto → RS
  | .nil, xs, l, S => (match xs with
    | [] => .nx l S
    | _ :: _ => .bad)
  | .cons g gs, xs, l, S => (match xs with
    | [] => .bad
    | x :: xs => (evG G C g (.d x) l S).sq fun l S => evGs G C gs xs l S)
end
def intOp (o : Bop) (x y : D) : Option D := match x, y, o with
  | .int i, .int j, .add => some (.int (i + j))
  | .int i, .int j, .sub => some (.int (i - j))
  | _, _, _ => none
def handle (G : Tab) (hs : List (Nat × Nat × D)) (c : Nat) (l : Sl) (S : Sto) : RS := match hs with
  | [] => .ex c l S
  | (k, i, d) :: r => (match G.sub c k with
    | some true => if i < l.length then .nx (l.set i (some (.d d))) S else .bad
    | some false => handle G r c l S
    | none => .bad)
mutual
def evS (G : Tab) (C : Cl) : St → Sl → Sto → RS
  | .doc, l, S => .nx l S
  | .pass, l, S => .nx l S
  | .expr e, l, S => (evE G C e l S).st l fun _ S => .nx l S
  | .asg g e, l, S => (evE G C e l S).st l fun w S => evG G C g w l S
  | .setf c k o e, l, S => (evE G C e l S).st l fun w S => (evE G C o l S).st l fun v S => (match v with
    | .r n => (match S[n]? with
      | some (.ins c' xs) => if c' = c then (match putW k w xs with
        | some ys => .nx l (S.set n (.ins c ys))
        | none => .bad) else .bad
      | _ => .bad)
    | _ => .bad)
  | .aug i o e, l, S => (match l[i]? with
    | some (some (.d x)) => (asD (evE G C e l S)).st l fun y S => (match intOp o x y with
      | some z => .nx (l.set i (some (.d z))) S
      | none => .bad)
    | _ => .bad)
  | .augf c k o b e, l, S => (evE G C o l S).st l fun v S => (match v with
    | .r n => (match S[n]? with
      | some (.ins c' xs) => if c' = c then (match xs[k]? with
        | some (.d x) => (asD (evE G C e l S)).st l fun y S => (match intOp b x y with
          | some z => (match S[n]? with
            | some (.ins c' ys) => if c' = c then (match putW k (.d z) ys with
              | some ys => .nx l (S.set n (.ins c ys))
              | none => .bad) else .bad
            | _ => .bad)
          | none => .bad)
        | _ => .bad) else .bad
      | _ => .bad)
    | _ => .bad)
  | .ret e, l, S => (evE G C e l S).st l fun w S => .ret w S
  | .retN, _, S => .ret (.d .non) S
  | .ite t a b, l, S => (evT G C t l S).st l fun k S => if k then evB G C a l S else evB G C b l S
  | .whl t b, l, S => evWhile (evT G C t) (evB G C b) 100000 l S
  | .loop g i b, l, S => (evI G C i l S).st l fun v S => evForI (evG G C g) (evB G C b) v l S
  | .brk, l, S => .brk l S
  | .cnt, l, S => .cnt l S
  | .raise c, l, S => .ex c l S
  | .tri b hs, l, S => (match evB G C b l S with
    | .ex c l S => handle G hs c l S
    | r => r)
  | .triAs _ _ _ _, _, _ => .bad
  | .ndef _ _ _, _, _ => .bad
def evB (G : Tab) (C : Cl) : Ss → Sl → Sto → RS
  | .nil, l, S => .nx l S
  | .cons s ss, l, S => (evS G C s l S).sq fun l S => evB G C ss l S
end
/-- a def called: at most so many calls one in another -/
def run (G : Tab) : Nat → Cl
  | 0, _, _, _ => .bad
  | k + 1, f, ws, S => match G.fn f with
    | some F => if ws.length = F.np ∧ F.np ≤ F.ns then (match evB G (run G k) F.body (ws.map some ++ List.replicate (F.ns - F.np) none) S with
      | .nx _ S => .ok (.d .non) S
      | .ret w S => .ok w S
      | .ex c _ S => .ex c S
      | _ => .bad) else .bad
    | none => .bad
end Kr
/-! KrR: how the evaluator's values lie in the abstract heap. -/
namespace Kr
open PySem PySem.Spec PyProof.Rows L2

/-- what of a row the relation leans on -/
structure Cfg where
  K : PySem.W.Frag
  cA : Nat → Addr
  xA : Nat → Addr
  fs : Nat → List Str
/-- a tuple of the written part -/
def KTup (K : PySem.W.Frag) (a : Addr) (xs : List V) : Prop :=
  ∃ (o : Obj) (its : Array Value) (n : Nat), K.lookup a = some o ∧ o.cls = .type "tuple" ∧ o.dict = none ∧ o.data = .seq its n ∧ its.size ≤ sizeLine ∧ Vals xs its.toList
def KLst (K : PySem.W.Frag) (a : Addr) (xs : List V) : Prop :=
  ∃ (o : Obj) (its : Array Value) (n : Nat), K.lookup a = some o ∧ o.cls = .type "list" ∧ o.dict = none ∧ o.data = .seq its n ∧ its.size ≤ sizeLine ∧ Vals xs its.toList
theorem KTup.sq {K : PySem.W.Frag} {H : Hp} {a : Addr} {xs : List V} (h : KTup K a xs) : SqT K H a xs := by
  obtain ⟨o, its, n, h1, h2, _, h3, h4, h5⟩ := h
  exact .inr ⟨o, its, n, h1, h2, h3, h4, h5⟩
/-- a tuple whose object is known -/
def TupAt (H : Hp) (p : Addr) (vs : List V) : Prop := ∃ o, H p = some (.frz o (.tup vs)) ∧ o.dict = none
theorem TupAt.sq {K : PySem.W.Frag} {H : Hp} {a : Addr} {xs : List V} (h : TupAt H a xs) : SqT K H a xs := by
  obtain ⟨o, h, _⟩ := h
  exact .inl (.inr ⟨o, h⟩)
theorem TupAt.keep {H H' : Hp} {p : Addr} {vs : List V} {z z' : List Addr} (h : TupAt H p vs) (n : p ∉ z) (hk : ∀ p o, H p = some o → p ∉ z → H' p = some o ∧ p ∉ z') : TupAt H' p vs ∧ p ∉ z' := by
  obtain ⟨o, h, d⟩ := h
  exact ⟨⟨o, (hk _ _ h n).1, d⟩, (hk _ _ h n).2⟩

mutual
inductive RD (Y : Cfg) (z : List Addr) (H : Hp) : D → V → Prop
  | non : RD Y z H .non .non
  | bl (b : Bool) : RD Y z H (.bl b) (.bl b)
  | int (i : Int) : RD Y z H (.int i) (.int i)
  | str (x : List Nat) (h : ∀ c ∈ x, c < 128) : RD Y z H (.str x) (.str ⟨x.toArray⟩)
  | tup {p : Addr} {ds : List D} {vs : List V} (h : TupAt H p vs) (n : p ∉ z) (r : RDs Y z H ds vs) : RD Y z H (.tup ds) (.ref p)
  | tupK {p : Addr} {ds : List D} {vs : List V} (h : KTup Y.K p vs) (r : RDs Y z H ds vs) : RD Y z H (.tup ds) (.ref p)
  | lst {p : Addr} {ds : List D} {vs : List V} (h : H p = some (.lst vs)) (n : p ∉ z) (r : RDs Y z H ds vs) : RD Y z H (.lst ds) (.ref p)
  | ins {p dx : Addr} {c : Nat} {ds : List D} {vs : List V} (h : H p = some (.ins (Y.cA c) dx ((Y.fs c).zip vs))) (n : p ∉ z) (l : vs.length ≤ (Y.fs c).length) (r : RDs Y z H ds vs) : RD Y z H (.ins c ds) (.ref p)
  | scr {p : Addr} {o : Obj} {ns : List Int} (h : H p = some (.frz o (.lst (ns.map V.int)))) (n : p ∉ z) : RD Y z H (.scr ns) (.ref p)
  | scrK {p : Addr} {ns : List Int} (h : KLst Y.K p (ns.map V.int)) : RD Y z H (.scr ns) (.ref p)
inductive RDs (Y : Cfg) (z : List Addr) (H : Hp) : List D → List V → Prop
  | nil : RDs Y z H [] []
  | cons {d : D} {v : V} {ds : List D} {vs : List V} (h : RD Y z H d v) (r : RDs Y z H ds vs) : RDs Y z H (d :: ds) (v :: vs)
end
section
variable {Y : Cfg} {z z' : List Addr} {H H' : Hp}
mutual
theorem RD.keep (hk : ∀ p o, H p = some o → p ∉ z → H' p = some o ∧ p ∉ z') : ∀ {d : D} {v : V}, RD Y z H d v → RD Y z' H' d v
  | _, _, .non => .non
  | _, _, .bl b => .bl b
  | _, _, .int i => .int i
  | _, _, .str x h => .str x h
  | _, _, .tup h n r => .tup (h.keep n hk).1 (h.keep n hk).2 (RDs.keep hk r)
  | _, _, .tupK h r => .tupK h (RDs.keep hk r)
  | _, _, .lst h n r => .lst (hk _ _ h n).1 (hk _ _ h n).2 (RDs.keep hk r)
  | _, _, .ins h n l r => .ins (hk _ _ h n).1 (hk _ _ h n).2 l (RDs.keep hk r)
  | _, _, .scr h n => .scr (hk _ _ h n).1 (hk _ _ h n).2
  | _, _, .scrK h => .scrK h
theorem RDs.keep (hk : ∀ p o, H p = some o → p ∉ z → H' p = some o ∧ p ∉ z') : ∀ {ds : List D} {vs : List V}, RDs Y z H ds vs → RDs Y z' H' ds vs
  | _, _, .nil => .nil
  | _, _, .cons h r => .cons (RD.keep hk h) (RDs.keep hk r)
end
theorem RDs.length : ∀ {ds : List D} {vs : List V}, RDs Y z H ds vs → ds.length = vs.length
  | _, _, .nil => rfl
  | _, _, .cons _ r => by rw [List.length_cons, List.length_cons, r.length]
theorem RDs.get : ∀ {ds : List D} {vs : List V} {i : Nat} {d : D}, RDs Y z H ds vs → ds[i]? = some d → ∃ v, vs[i]? = some v ∧ RD Y z H d v
  | _, _, _, _, .nil, e => by simp at e
  | _, _, 0, _, .cons h r, e => by simp at e; subst e; exact ⟨_, rfl, h⟩
  | _, _, i + 1, _, .cons h r, e => by
    obtain ⟨v, e1, e2⟩ := RDs.get (i := i) r (by simpa using e)
    exact ⟨v, by simpa using e1, e2⟩
theorem RDs.app : ∀ {ds es : List D} {vs us : List V}, RDs Y z H ds vs → RDs Y z H es us → RDs Y z H (ds ++ es) (vs ++ us)
  | _, _, _, _, .nil, s => s
  | _, _, _, _, .cons h r, s => .cons h (RDs.app r s)
theorem RDs.drop : ∀ {ds : List D} {vs : List V} (n : Nat), RDs Y z H ds vs → RDs Y z H (ds.drop n) (vs.drop n)
  | _, _, 0, r => r
  | _, _, _ + 1, .nil => .nil
  | _, _, n + 1, .cons _ r => RDs.drop n r
theorem RDs.take : ∀ {ds : List D} {vs : List V} (n : Nat), RDs Y z H ds vs → RDs Y z H (ds.take n) (vs.take n)
  | _, _, 0, _ => .nil
  | _, _, _ + 1, .nil => .nil
  | _, _, n + 1, .cons h r => .cons h (RDs.take n r)
theorem RDs.rep {ds : List D} {vs : List V} (r : RDs Y z H ds vs) : ∀ k : Nat, RDs Y z H (List.replicate k ds).flatten (List.replicate k vs).flatten
  | 0 => .nil
  | k + 1 => by
    rw [List.replicate_succ, List.replicate_succ, List.flatten_cons, List.flatten_cons]
    exact r.app (RDs.rep r k)
theorem RDs.ints : ∀ (ns : List Int), RDs Y z H (ns.map D.int) (ns.map V.int)
  | [] => .nil
  | n :: r => .cons (.int n) (RDs.ints r)
end

/-! ### values, the store, the slots -/
def RW (Y : Cfg) (av m : List Addr) (H : Hp) : W → V → Prop
  | .d x, v => RD Y (av ++ m) H x v
  | .r n, v => ∃ a, m[n]? = some a ∧ v = .ref a
  | .f _ _, _ => False
inductive RWs (Y : Cfg) (av m : List Addr) (H : Hp) : List W → List V → Prop
  | nil : RWs Y av m H [] []
  | cons {w : W} {v : V} {ws : List W} {vs : List V} (h : RW Y av m H w v) (r : RWs Y av m H ws vs) : RWs Y av m H (w :: ws) (v :: vs)
def RO (Y : Cfg) (av m : List Addr) (H : Hp) (a : Addr) : O → Prop
  | .lst ws => ∃ vs, H a = some (.lst vs) ∧ RWs Y av m H ws vs
  | .ins c ws => ∃ dx vs, H a = some (.ins (Y.cA c) dx ((Y.fs c).zip vs)) ∧ vs.length ≤ (Y.fs c).length ∧ RWs Y av m H ws vs
  | .dct _ => False
  | .dtp _ => False
structure RSt (Y : Cfg) (av m : List Addr) (S : Sto) (H : Hp) : Prop where
  len : m.length = S.length
  nd : (av ++ m).Nodup
  at_ : ∀ (n : Nat) (o : O), S[n]? = some o → ∃ a, m[n]? = some a ∧ RO Y av m H a o
  av_ : ∀ a ∈ av, ∃ o, H a = some o
def RSl (Y : Cfg) (av m : List Addr) (H : Hp) (l : Sl) (σ : L2.St) : Prop :=
  l.length = σ.length ∧ ∀ (i : Nat) (w : W), l[i]? = some (some w) → ∃ v, σ[i]? = some (some v) ∧ RW Y av m H w v
structure Rel (Y : Cfg) (av m : List Addr) (S : Sto) (l : Sl) (σ : L2.St) (H : Hp) : Prop where
  st : RSt Y av m S H
  sl : RSl Y av m H l σ
/-- what a run leaves: only what stands at m may have changed, m has grown by new places -/
structure Fra (m : List Addr) (H : Hp) (m' : List Addr) (H' : Hp) : Prop where
  keep : ∀ p o, H p = some o → p ∉ m → H' p = some o
  new : ∀ p o, H p = some o → p ∉ m → p ∉ m'
  pre : ∀ (n : Nat) (a : Addr), m[n]? = some a → m'[n]? = some a

section
variable {Y : Cfg} {av m m1 m2 : List Addr} {H H1 H2 : Hp} {S S1 : Sto} {l : Sl} {σ : L2.St}
theorem Fra.refl : Fra m H m H := ⟨fun _ _ h _ => h, fun _ _ _ n => n, fun _ _ h => h⟩
theorem Fra.trans (a : Fra m H m1 H1) (b : Fra m1 H1 m2 H2) : Fra m H m2 H2 :=
  ⟨fun p o h n => b.keep p o (a.keep p o h n) (a.new p o h n), fun p o h n => b.new p o (a.keep p o h n) (a.new p o h n), fun n q h => b.pre n q (a.pre n q h)⟩
theorem Fra.rd (f : Fra m H m1 H1) {d : D} {v : V} (r : RD Y (av ++ m) H d v) : RD Y (av ++ m1) H1 d v := by
  refine r.keep fun p o h n => ?_
  have n1 : p ∉ av := fun q => n (List.mem_append_left _ q)
  have n2 : p ∉ m := fun q => n (List.mem_append_right _ q)
  refine ⟨f.keep p o h n2, fun q => ?_⟩
  rcases List.mem_append.mp q with q | q
  · exact n1 q
  · exact f.new p o h n2 q
theorem Fra.rds (f : Fra m H m1 H1) {d : List D} {v : List V} (r : RDs Y (av ++ m) H d v) : RDs Y (av ++ m1) H1 d v := by
  refine r.keep fun p o h n => ?_
  have n1 : p ∉ av := fun q => n (List.mem_append_left _ q)
  have n2 : p ∉ m := fun q => n (List.mem_append_right _ q)
  refine ⟨f.keep p o h n2, fun q => ?_⟩
  rcases List.mem_append.mp q with q | q
  · exact n1 q
  · exact f.new p o h n2 q
theorem Fra.rw (f : Fra m H m1 H1) {w : W} {v : V} (r : RW Y av m H w v) : RW Y av m1 H1 w v := by
  cases w with
  | d x => exact f.rd r
  | r n => obtain ⟨a, e, q⟩ := r; exact ⟨a, f.pre n a e, q⟩
  | f g cs => exact r
theorem Fra.rws (f : Fra m H m1 H1) : ∀ {ws : List W} {vs : List V}, RWs Y av m H ws vs → RWs Y av m1 H1 ws vs
  | _, _, .nil => .nil
  | _, _, .cons h r => .cons (f.rw h) (f.rws r)
theorem Fra.rsl (f : Fra m H m1 H1) (r : RSl Y av m H l σ) : RSl Y av m1 H1 l σ :=
  ⟨r.1, fun i w e => let ⟨v, e1, q⟩ := r.2 i w e; ⟨v, e1, f.rw q⟩⟩
theorem Rel.fra (r : Rel Y av m S l σ H) (f : Fra m H m1 H1) (s : RSt Y av m1 S1 H1) : Rel Y av m1 S1 l σ H1 := ⟨s, f.rsl r.sl⟩

theorem RWs.length : ∀ {ws : List W} {vs : List V}, RWs Y av m H ws vs → ws.length = vs.length
  | _, _, .nil => rfl
  | _, _, .cons _ r => by rw [List.length_cons, List.length_cons, r.length]
theorem RWs.get : ∀ {ws : List W} {vs : List V} {i : Nat} {w : W}, RWs Y av m H ws vs → ws[i]? = some w → ∃ v, vs[i]? = some v ∧ RW Y av m H w v
  | _, _, _, _, .nil, e => by simp at e
  | _, _, 0, _, .cons h r, e => by simp at e; subst e; exact ⟨_, rfl, h⟩
  | _, _, i + 1, _, .cons h r, e => by
    obtain ⟨v, e1, e2⟩ := RWs.get (i := i) r (by simpa using e)
    exact ⟨v, by simpa using e1, e2⟩
theorem RWs.app : ∀ {ds es : List W} {vs us : List V}, RWs Y av m H ds vs → RWs Y av m H es us → RWs Y av m H (ds ++ es) (vs ++ us)
  | _, _, _, _, .nil, s => s
  | _, _, _, _, .cons h r, s => .cons h (RWs.app r s)
theorem RWs.set {w : W} {v : V} (q : RW Y av m H w v) : ∀ {ws : List W} {vs : List V} (i : Nat), RWs Y av m H ws vs → RWs Y av m H (ws.set i w) (vs.set i v)
  | _, _, _, .nil => .nil
  | _, _, 0, .cons _ r => .cons q r
  | _, _, i + 1, .cons h r => .cons h (RWs.set q i r)
theorem RWs.dats : ∀ {ws : List W} {vs : List V} {ds : List D}, RWs Y av m H ws vs → W.dats ws = some ds → RDs Y (av ++ m) H ds vs
  | _, _, _, .nil, e => by cases e; exact .nil
  | .d x :: t, _, _, .cons h r, e => by
    have e : (W.dats t).map (x :: ·) = some _ := e
    cases q : W.dats t with
    | none => rw [q] at e; cases e
    | some ds =>
      rw [q] at e
      cases e
      exact .cons h (r.dats q)
  | .r _ :: _, _, _, .cons _ _, e => by cases e
  | .f _ _ :: _, _, _, .cons _ _, e => by cases e
theorem RWs.of : ∀ {ds : List D} {vs : List V}, RDs Y (av ++ m) H ds vs → RWs Y av m H (ds.map .d) vs
  | _, _, .nil => .nil
  | _, _, .cons h r => .cons h (RWs.of r)
theorem W.dats_map : ∀ {ws : List W} {ds : List D}, W.dats ws = some ds → ws = ds.map .d
  | [], _, e => by cases e; rfl
  | .d x :: t, _, e => by
    have e : (W.dats t).map (x :: ·) = some _ := e
    cases q : W.dats t with
    | none => rw [q] at e; cases e
    | some ds =>
      rw [q] at e
      cases e
      rw [W.dats_map q]
      rfl
  | .r _ :: _, _, e => by cases e
  | .f _ _ :: _, _, e => by cases e

theorem RO.there {a : Addr} {o : O} (r : RO Y av m H a o) : ∃ u, H a = some u ∧ Mut (some u) := by
  cases o with
  | lst ws => obtain ⟨vs, h, _⟩ := r; exact ⟨_, h, trivial⟩
  | ins c ws => obtain ⟨dx, vs, h, _⟩ := r; exact ⟨_, h, trivial⟩
  | dct _ => exact False.elim r
  | dtp _ => exact False.elim r
theorem RSt.tracked (s : RSt Y av m S H) {a : Addr} (h : a ∈ av ++ m) : ∃ o, H a = some o := by
  rcases List.mem_append.mp h with h | h
  · exact s.av_ a h
  · obtain ⟨n, hn, e⟩ := List.mem_iff_getElem.mp h
    have hS : n < S.length := by rw [← s.len]; exact hn
    obtain ⟨b, e1, r⟩ := s.at_ n S[n] (by simp [hS])
    obtain ⟨u, q, _⟩ := r.there
    have : b = a := by
      rw [List.getElem?_eq_getElem hn, e] at e1
      exact (Option.some.inj e1).symm
    exact ⟨u, this ▸ q⟩
theorem RSt.fresh (s : RSt Y av m S H) {p : Addr} (h : H p = none) : p ∉ av ++ m := fun q => by
  obtain ⟨o, e⟩ := s.tracked q
  rw [h] at e
  cases e
/-- a new object that is not of the store -/
theorem Fra.laid {p : Addr} {o : HO} (h : H p = none) : Fra m H m (upd H p o) :=
  ⟨fun q u e _ => by rw [upd_ne (ne_of_none e h)]; exact e, fun _ _ _ n => n, fun _ _ e => e⟩
theorem RO.fra {a : Addr} {o : O} (f : Fra m H m1 H1) (ha : H a = H1 a) (r : RO Y av m H a o) : RO Y av m1 H1 a o := by
  cases o with
  | lst ws => obtain ⟨vs, h, q⟩ := r; exact ⟨vs, ha ▸ h, f.rws q⟩
  | ins c ws => obtain ⟨dx, vs, h, z, q⟩ := r; exact ⟨dx, vs, ha ▸ h, z, f.rws q⟩
  | dct _ => exact False.elim r
  | dtp _ => exact False.elim r
theorem RSt.laid (s : RSt Y av m S H) {p : Addr} {o : HO} (h : H p = none) : RSt Y av m S (upd H p o) := by
  refine ⟨s.len, s.nd, fun n u e => ?_, fun a ha => ?_⟩
  · obtain ⟨a, e1, r⟩ := s.at_ n u e
    obtain ⟨x, q, _⟩ := r.there
    exact ⟨a, e1, r.fra (Fra.laid h) (by rw [upd_ne (ne_of_none q h)])⟩
  · obtain ⟨u, e⟩ := s.av_ a ha
    exact ⟨u, by rw [upd_ne (ne_of_none e h)]; exact e⟩
/-- a new object of the store -/
theorem Fra.push {p : Addr} {o : HO} (h : H p = none) : Fra m H (m ++ [p]) (upd H p o) := by
  refine ⟨fun q u e _ => ?_, fun q u e n z => ?_, fun n a e => ?_⟩
  · rw [upd_ne (ne_of_none e h)]; exact e
  · rcases List.mem_append.mp z with z | z
    · exact n z
    · have : q = p := by simpa using z
      rw [this, h] at e
      cases e
  · rw [List.getElem?_append_left (List.getElem?_eq_some_iff.mp e).1]
    exact e
theorem RSt.push (s : RSt Y av m S H) {p : Addr} {o : HO} {u : O} (h : H p = none) (r : RO Y av (m ++ [p]) (upd H p o) p u) : RSt Y av (m ++ [p]) (S ++ [u]) (upd H p o) := by
  have hp := s.fresh h
  refine ⟨by rw [List.length_append, List.length_append, s.len]; rfl, ?_, fun n x e => ?_, fun a ha => ?_⟩
  · rw [← List.append_assoc]
    refine List.nodup_append.mpr ⟨s.nd, by simp, fun a ha b hb e => ?_⟩
    have : b = p := by simpa using hb
    rw [e, this] at ha
    exact hp ha
  · by_cases hn : n < S.length
    · rw [List.getElem?_append_left hn] at e
      obtain ⟨a, e1, q⟩ := s.at_ n x e
      obtain ⟨y, qy, _⟩ := q.there
      refine ⟨a, (Fra.push (o := o) h).pre n a e1, q.fra (Fra.push h) (by rw [upd_ne (ne_of_none qy h)])⟩
    · have hn2 : n = S.length := by
        have := (List.getElem?_eq_some_iff.mp e).1
        rw [List.length_append, List.length_singleton] at this
        omega
      subst hn2
      rw [List.getElem?_append_right (Nat.le_refl _), Nat.sub_self] at e
      cases e
      refine ⟨p, ?_, r⟩
      rw [← s.len, List.getElem?_append_right (Nat.le_refl _), Nat.sub_self]
      rfl
  · obtain ⟨y, e⟩ := s.av_ a ha
    exact ⟨y, by rw [upd_ne (ne_of_none e h)]; exact e⟩
theorem nodup_get {m : List Addr} (nd : m.Nodup) {i j : Nat} {a : Addr} (h1 : m[i]? = some a) (h2 : m[j]? = some a) : i = j := by
  obtain ⟨p, e1⟩ := List.getElem?_eq_some_iff.mp h1
  obtain ⟨q, e2⟩ := List.getElem?_eq_some_iff.mp h2
  exact (List.getElem_inj nd).mp (e1.trans e2.symm)
/-- an object of the store is written -/
theorem Fra.write {a : Addr} {o : HO} (ha : a ∈ m) : Fra m H m (upd H a o) :=
  ⟨fun q u e n => by
    have hq : q ≠ a := fun z => n (by rw [z]; exact ha)
    rw [upd_ne hq]
    exact e, fun _ _ _ n => n, fun _ _ e => e⟩
theorem RSt.write (s : RSt Y av m S H) {n : Nat} {a : Addr} {o : HO} {u : O} (ha : m[n]? = some a) (r : RO Y av m (upd H a o) a u) : RSt Y av m (S.set n u) (upd H a o) := by
  have hm : a ∈ m := List.mem_of_getElem? ha
  refine ⟨by rw [List.length_set]; exact s.len, s.nd, fun k x e => ?_, fun b hb => ?_⟩
  · by_cases hk : k = n
    · subst hk
      have hl : k < S.length := by rw [← s.len]; exact (List.getElem?_eq_some_iff.mp ha).1
      rw [List.getElem?_set_self hl] at e
      cases e
      exact ⟨a, ha, r⟩
    · rw [List.getElem?_set_ne (Ne.symm hk)] at e
      obtain ⟨b, e1, q⟩ := s.at_ k x e
      have hne : b ≠ a := fun z => hk (nodup_get (List.nodup_append.mp s.nd).2.1 (z ▸ e1) ha)
      exact ⟨b, e1, q.fra (Fra.write hm) (by rw [upd_ne hne])⟩
  · obtain ⟨y, e⟩ := s.av_ b hb
    have hne : b ≠ a := fun z => (List.nodup_append.mp s.nd).2.2 b hb a hm z
    exact ⟨y, by rw [upd_ne hne]; exact e⟩
theorem Rel.set (r : Rel Y av m S l σ H) {i : Nat} {w : W} {v : V} (q : RW Y av m H w v) : Rel Y av m S (l.set i (some w)) (σ.set i (some v)) H := by
  refine ⟨r.st, by rw [List.length_set, List.length_set]; exact r.sl.1, fun j x e => ?_⟩
  by_cases hj : i = j
  · subst hj
    have hi : i < l.length := by
      have := (List.getElem?_eq_some_iff.mp e).1
      rwa [List.length_set] at this
    rw [List.getElem?_set_self hi] at e
    cases e
    exact ⟨v, by rw [List.getElem?_set_self (by rw [← r.sl.1]; exact hi)], q⟩
  · rw [List.getElem?_set_ne hj] at e
    obtain ⟨u, e1, q1⟩ := r.sl.2 j x e
    exact ⟨u, by rw [List.getElem?_set_ne hj]; exact e1, q1⟩
end

/-! ### readings by the evaluator -/
variable (Y : Cfg) (av : List Addr) (Wx : WX)
/-- where an expression ends -/
def PEnd {α : Type} (m : List Addr) (H : Hp) (σ : L2.St) (P : α → List Addr → Sto → Hp → Prop) : RE α → Prop
  | .ok a S' => ∀ m' H', Fra m H m' H' → RSt Y av m' S' H' → P a m' S' H'
  | .ex c S' => ∀ m' H', Fra m H m' H' → RSt Y av m' S' H' → Wx (.ref (Y.xA c)) none σ H'
  | .bad => False
def tEv (f : Sl → Sto → RE W) : TE := fun σ H Q => ∃ m S l, Rel Y av m S l σ H ∧ PEnd Y av Wx m H σ (fun w m' _ H' => ∀ v, RW Y av m' H' w v → Q v H') (f l S)
def tEvT (f : Sl → Sto → RE Bool) : TT := fun σ H Q => ∃ m S l, Rel Y av m S l σ H ∧ PEnd Y av Wx m H σ (fun b _ _ H' => Q b H') (f l S)
def tEvA (f : Sl → Sto → RE (List W)) : TA := fun σ H Q => ∃ m S l, Rel Y av m S l σ H ∧ PEnd Y av Wx m H σ (fun ws m' _ H' => ∀ vs, RWs Y av m' H' ws vs → Q vs H') (f l S)
def tEvO (f : Sl → Sto → RE (Option Int)) : TO := fun σ H Q => ∃ m S l, Rel Y av m S l σ H ∧ PEnd Y av Wx m H σ (fun i _ _ H' => Q i H') (f l S)
def SEnd (m : List Addr) (H : Hp) (D : Ends) : RS → Prop
  | .nx l' S' => ∀ m' σ' H', Fra m H m' H' → Rel Y av m' S' l' σ' H' → D.nx σ' H'
  | .ret w S' => ∀ m' v H', Fra m H m' H' → RSt Y av m' S' H' → RW Y av m' H' w v → D.rt v H'
  | .brk l' S' => ∀ m' σ' H', Fra m H m' H' → Rel Y av m' S' l' σ' H' → D.bk σ' H'
  | .cnt l' S' => ∀ m' σ' H', Fra m H m' H' → Rel Y av m' S' l' σ' H' → D.ct σ' H'
  | .ex c l' S' => ∀ m' σ' H', Fra m H m' H' → Rel Y av m' S' l' σ' H' → Wx (.ref (Y.xA c)) none σ' H'
  | .bad => False
def tEvS (f : Sl → Sto → RS) : TS := fun D σ H => ∃ m S l, Rel Y av m S l σ H ∧ SEnd Y av Wx m H D (f l S)
variable {Y av Wx}
theorem PEnd.fra {α : Type} {m m1 : List Addr} {H H1 : Hp} {σ : L2.St} {P : α → List Addr → Sto → Hp → Prop} {r : RE α} (f : Fra m H m1 H1) (h : PEnd Y av Wx m H σ P r) : PEnd Y av Wx m1 H1 σ P r := by
  cases r with
  | ok a S => exact fun m' H' g s => h m' H' (f.trans g) s
  | ex c S => exact fun m' H' g s => h m' H' (f.trans g) s
  | bad => exact h
theorem PEnd.bind {α β : Type} {m : List Addr} {H : Hp} {σ : L2.St} {P : β → List Addr → Sto → Hp → Prop} {r : RE α} {g : α → Sto → RE β} (h : PEnd Y av Wx m H σ P (r.bind g)) :
    PEnd Y av Wx m H σ (fun a m' S' H' => PEnd Y av Wx m' H' σ P (g a S')) r := by
  cases r with
  | ok a S => exact fun m' H' f s => PEnd.fra f h
  | ex c S => exact h
  | bad => exact h
theorem PEnd.imp {α : Type} {m : List Addr} {H : Hp} {σ : L2.St} {P P' : α → List Addr → Sto → Hp → Prop} {r : RE α} (h : PEnd Y av Wx m H σ P r) (i : ∀ a m' S' H', Fra m H m' H' → RSt Y av m' S' H' → P a m' S' H' → P' a m' S' H') : PEnd Y av Wx m H σ P' r := by
  cases r with
  | ok a S => exact fun m' H' f s => i a m' S H' f s (h m' H' f s)
  | ex c S => exact h
  | bad => exact h
theorem SEnd.fra {m m1 : List Addr} {H H1 : Hp} {D : Ends} {r : RS} (f : Fra m H m1 H1) (h : SEnd Y av Wx m H D r) : SEnd Y av Wx m1 H1 D r := by
  cases r with
  | nx l S => exact fun m' σ' H' g s => h m' σ' H' (f.trans g) s
  | ret w S => exact fun m' v H' g s => h m' v H' (f.trans g) s
  | brk l S => exact fun m' σ' H' g s => h m' σ' H' (f.trans g) s
  | cnt l S => exact fun m' σ' H' g s => h m' σ' H' (f.trans g) s
  | ex c l S => exact fun m' σ' H' g s => h m' σ' H' (f.trans g) s
  | bad => exact h
/-- a stronger reading -/
theorem PEw {X : Cx} {e : Expr} {t t' : TE} (h : PE X e t) (i : ∀ σ H Q, t' σ H Q → t σ H Q) : PE X e t' := ⟨fun pins s σ H Q I q => h.run pins s σ H Q I (i σ H Q q)⟩
theorem PTw' {X : Cx} {e : Expr} {t t' : TT} (h : PT X e t) (i : ∀ σ H Q, t' σ H Q → t σ H Q) : PT X e t' := ⟨fun pins s σ H Q I q => h.run pins s σ H Q I (i σ H Q q)⟩
theorem PSw {X : Cx} {e : Stmt} {t t' : TS} (h : PS X e t) (i : ∀ D σ H, t' D σ H → t D σ H) : PS X e t' := ⟨fun pins s σ H D I q => h.run pins s σ H D I (i D σ H q)⟩
theorem PSsw {X : Cx} {e : List Stmt} {t t' : TS} (h : PSs X e t) (i : ∀ D σ H, t' D σ H → t D σ H) : PSs X e t' := ⟨fun pins s σ H D I q => h.run pins s σ H D I (i D σ H q)⟩
theorem PAw {X : Cx} {e : List Expr} {t t' : TA} (h : PA X e t) (i : ∀ σ H Q, t' σ H Q → t σ H Q) : PA X e t' := ⟨fun pos pins s σ H Q I q => h.run pos pins s σ H Q I (i σ H Q q)⟩
end Kr
/-! KrO1: texts as lists of signs. -/
namespace Kr
open PySem PySem.Spec PyProof.Rows L2

abbrev mkS (x : List Nat) : Str := ⟨x.toArray⟩
theorem mkS_cps (x : List Nat) : (mkS x).cps.toList = x := rfl
theorem mkS_len (x : List Nat) : (mkS x).length = x.length := by simp [Str.length]
theorem mkS_app (x y : List Nat) : mkS x ++ mkS y = mkS (x ++ y) := by
  show (⟨x.toArray ++ y.toArray⟩ : Str) = _
  simp
theorem str_ext {a : Str} {x : List Nat} (h : a.cps.toList = x) : a = mkS x := by
  obtain ⟨c⟩ := a
  simp only at h
  subst h
  simp [mkS]
theorem sz_line : sz = sizeLine := by rw [sizeLine_eq]; rfl
def Asc (x : List Nat) : Prop := ∀ c ∈ x, c < 128
theorem Asc.app {x y : List Nat} (a : Asc x) (b : Asc y) : Asc (x ++ y) := fun c h => (List.mem_append.mp h).elim (a c) (b c)
theorem Asc.sub {x y : List Nat} (a : Asc x) (h : ∀ c ∈ y, c ∈ x) : Asc y := fun c q => a c (h c q)

theorem cutAt_eq (n d : Nat) (o : Option Int) : cutAt n d o = HT.sIx n d o := by
  cases o with
  | none => rfl
  | some v =>
    have h := HT.clip_eq v n d
    show (if v < 0 then (v + (n : Int)).toNat else min v.toNat n) = _
    split at h
    · rename_i hv
      rw [if_pos hv]
      omega
    · rename_i hv
      rw [if_neg hv]
      omega
theorem cut_V (xs : List V) (lo hi : Option Int) : cutV xs lo hi = cut xs lo hi := by
  unfold cutV cut
  rw [cutAt_eq, cutAt_eq]
theorem cut_mem {α : Type} {xs : List α} {lo hi : Option Int} {a : α} (h : a ∈ cut xs lo hi) : a ∈ xs := List.mem_of_mem_drop (List.mem_of_mem_take h)
theorem ixAt_eq {α : Type} (xs : List α) (i : Int) : L2.atI xs i = ixAt xs i := by
  unfold L2.atI L2.ixN ixAt
  split
  · split
    · rfl
    · rfl
  · split
    · rfl
    · rfl
theorem ixAt_mem {α : Type} {xs : List α} {i : Int} {a : α} (h : ixAt xs i = some a) : a ∈ xs := by
  unfold ixAt at h
  split at h
  · split at h
    · exact List.mem_of_getElem? h
    · cases h
  · split at h
    · exact List.mem_of_getElem? h
    · cases h

/-! ### strip -/
theorem dropWhile_drop (p : Nat → Bool) : ∀ x : List Nat, x.dropWhile p = x.drop (x.takeWhile p).length
  | [] => rfl
  | c :: r => by
    rw [List.dropWhile_cons, List.takeWhile_cons]
    split
    · rw [dropWhile_drop p r]; rfl
    · rfl
theorem takeWhile_le (p : Nat → Bool) : ∀ x : List Nat, (x.takeWhile p).length ≤ x.length
  | [] => Nat.le_refl _
  | c :: r => by
    rw [List.takeWhile_cons]
    split
    · have := takeWhile_le p r
      simp only [List.length_cons]
      omega
    · exact Nat.zero_le _
theorem rdrop (p : Nat → Bool) (x : List Nat) : (x.reverse.dropWhile p).reverse = x.take (x.length - (x.reverse.takeWhile p).length) := by
  rw [dropWhile_drop, List.reverse_drop, List.reverse_reverse, List.length_reverse]
theorem strip_list (y x : List Nat) : Txt.stripChars (mkS x) (mkS y) = mkS (stripT y x) := by
  refine str_ext ?_
  unfold Txt.stripChars
  rw [PyProof.Rows.stripBy_eq]
  refine (TL.tl_strSub _ _ _).trans ?_
  show (((mkS x).cps.toList).drop _).take _ = _
  unfold stripLo stripHi
  simp only [if_true, mkS_cps, mkS_len]
  unfold stripT rstripT lstripT
  rw [rdrop, dropWhile_drop]
  have e : ∀ c, (mkS y).cps.contains c = y.contains c := fun c => by simp [mkS]
  have e2 : (mkS y).cps.contains = y.contains := funext e
  rw [e2, List.length_drop]
  congr 1
  omega
theorem rstrip_list (y x : List Nat) : Txt.rstripChars (mkS x) (mkS y) = mkS (rstripT y x) := by
  refine str_ext ?_
  unfold Txt.rstripChars
  rw [PyProof.Rows.stripBy_eq]
  refine (TL.tl_strSub _ _ _).trans ?_
  show (((mkS x).cps.toList).drop _).take _ = _
  unfold stripLo stripHi
  simp only [if_true, Bool.false_eq_true, if_false, mkS_cps, mkS_len, List.drop_zero, Nat.sub_zero]
  unfold rstripT
  rw [rdrop]
  have e2 : (mkS y).cps.contains = y.contains := funext fun c => by simp [mkS]
  rw [e2]
theorem rstripT_mem {y x : List Nat} {c : Nat} (h : c ∈ rstripT y x) : c ∈ x := by
  unfold rstripT at h
  have := (List.dropWhile_sublist _).subset (List.mem_reverse.mp h)
  exact List.mem_reverse.mp this
theorem stripT_mem {y x : List Nat} {c : Nat} (h : c ∈ stripT y x) : c ∈ x := (List.dropWhile_sublist _).subset (rstripT_mem h)

/-! ### split, replace, rjust, join -/
theorem splitT_miss {c a : Nat} (r : List Nat) (h : ¬ a = c) : ∃ p ps, (splitT c r = p :: ps ∧ splitT c (a :: r) = (a :: p) :: ps) ∨ (splitT c r = [] ∧ splitT c (a :: r) = [[a]]) := by
  have e : splitT c (a :: r) = if a = c then [] :: splitT c r else match splitT c r with
    | p :: ps => (a :: p) :: ps
    | [] => [[a]] := rfl
  rw [e, if_neg h]
  cases q : splitT c r with
  | nil => exact ⟨[], [], .inr ⟨rfl, rfl⟩⟩
  | cons p ps => exact ⟨p, ps, .inl ⟨rfl, rfl⟩⟩
theorem spl_one (c : Nat) : ∀ (x acc : List Nat), TL.spl [c] 0 acc x = (match splitT c x with | p :: ps => (acc ++ p) :: ps | [] => [acc])
  | [], acc => by
    show TL.spl [c] 0 acc [] = _
    rw [TL.spl_nil]
    simp [splitT]
  | a :: r, acc => by
    by_cases h : a = c
    · subst h
      rw [TL.spl_hit (by simp [TL.pre]), show splitT a (a :: r) = [] :: splitT a r by simp [splitT]]
      show acc :: TL.spl [a] ([a].length - 1) [] r = _
      rw [show [a].length - 1 = 0 from rfl, spl_one a r []]
      simp only [List.append_nil]
      congr 1
      cases hs : splitT a r with
      | nil =>
        cases r with
        | nil => simp [splitT] at hs
        | cons b t =>
          unfold splitT at hs
          split at hs
          · cases hs
          · split at hs <;> cases hs
      | cons p ps => rfl
    · rw [TL.spl_miss (by simp [TL.pre, h]), spl_one c r (acc ++ [a])]
      obtain ⟨p, ps, ⟨e1, e2⟩ | ⟨e1, e2⟩⟩ := splitT_miss (c := c) r h
      · rw [e1, e2]; simp
      · rw [e1, e2]
theorem splitT_ne (c : Nat) (x : List Nat) : splitT c x ≠ [] := by
  cases x with
  | nil => simp [splitT]
  | cons a r =>
    unfold splitT
    split
    · simp
    · split <;> simp
theorem split_list {c : Nat} (x : List Nat) (hc : c < 128) : Txt.split (mkS x) (mkS [c]) = (splitT c x).map mkS := by
  have h1 := TL.split_spl (mkS x) (mkS [c]) (by show [c] ≠ []; simp) (TL.kind_ok (by simp [mkS]; omega))
  have h2 : TL.spl (TL.tl (mkS [c])) 0 [] (TL.tl (mkS x)) = splitT c x := by
    show TL.spl [c] 0 [] x = _
    rw [spl_one]
    cases h : splitT c x with
    | nil => exact absurd h (splitT_ne c x)
    | cons p ps => rfl
  rw [h2] at h1
  refine TL.map_tl_inj ?_
  rw [h1, List.map_map]
  have : ∀ l : List (List Nat), l = l.map (TL.tl ∘ mkS) := fun l => by
    induction l with
    | nil => rfl
    | cons a r ih => rw [List.map_cons, ← ih]; rfl
  exact this _
theorem splitT_mem {c : Nat} : ∀ {x p : List Nat} {a : Nat}, p ∈ splitT c x → a ∈ p → a ∈ x
  | [], p, a, h, q => by
    simp [splitT] at h
    subst h
    cases q
  | b :: r, p, a, h, q => by
    unfold splitT at h
    split at h
    · rcases List.mem_cons.mp h with e | h
      · subst e; cases q
      · exact List.mem_cons_of_mem _ (splitT_mem h q)
    · split at h
      · rename_i p0 ps e0
        rcases List.mem_cons.mp h with e | h
        · subst e
          rcases List.mem_cons.mp q with e | q
          · subst e; exact List.mem_cons_self
          · exact List.mem_cons_of_mem _ (splitT_mem (by rw [e0]; exact List.mem_cons_self) q)
        · exact List.mem_cons_of_mem _ (splitT_mem (by rw [e0]; exact List.mem_cons_of_mem _ h) q)
      · have : p = [b] := by simpa using h
        subst this
        have : a = b := by simpa using q
        subst this
        exact List.mem_cons_self
theorem splitT_len (c : Nat) : ∀ x : List Nat, (splitT c x).length ≤ x.length + 1
  | [] => by simp [splitT]
  | b :: r => by
    have ih := splitT_len c r
    unfold splitT
    split
    · simp only [List.length_cons]; omega
    · split
      · rename_i p ps e
        rw [e] at ih
        simp only [List.length_cons] at ih ⊢
        omega
      · simp
theorem repl_list {c : Nat} (x z : List Nat) : Txt.replace (mkS x) (mkS [c]) (mkS z) = mkS (replT c z x) := by
  refine str_ext ?_
  rw [PySem.StrLaws.replace_list (by simp [mkS, Str.length])]
  show PySem.StrLaws.replL [c] z x = replT c z x
  unfold PySem.StrLaws.replL replT
  induction x with
  | nil => simp [PySem.StrLaws.replS]
  | cons a r ih =>
    unfold PySem.StrLaws.replS
    rw [List.flatMap_cons]
    by_cases h : a = c
    · subst h
      simp only [List.length_singleton, List.take_succ_cons, List.take_zero, if_true, Nat.sub_self]
      rw [ih]
    · have h2 : ¬ (List.take [c].length (a :: r) = [c]) := by simp [h]
      rw [if_neg h2, if_neg h, ih]
      rfl
theorem replT_mem {c : Nat} {z x : List Nat} {a : Nat} (h : a ∈ replT c z x) : a ∈ z ∨ a ∈ x := by
  unfold replT at h
  obtain ⟨b, hb, q⟩ := List.mem_flatMap.mp h
  split at q
  · exact .inl q
  · have : a = b := by simpa using q
    exact .inr (this ▸ hb)
theorem rjust_list (x : List Nat) (n : Int) (c : Nat) : Txt.rjustF (mkS x) n c = mkS (rjustT n c x) := by
  refine str_ext ?_
  rw [PyProof.Rows.rjustF_list, mkS_len]
  rfl
theorem join_list' (s : List Nat) : ∀ l : List (List Nat), TL.joinL s l = joinT s l
  | [] => rfl
  | [x] => rfl
  | x :: y :: r => by
    show x ++ (s ++ TL.joinL s (y :: r)) = x ++ s ++ joinT s (y :: r)
    rw [join_list' s (y :: r), List.append_assoc]
theorem joins (s : List Nat) (l : List (List Nat)) : Txt.join (mkS s) (l.map mkS) = mkS (joinT s l) := by
  refine str_ext ?_
  rw [TL.join_eq]
  have h := TL.tl_join (mkS s) (l.map mkS)
  have e : (l.map mkS).map TL.tl = l := by
    rw [List.map_map]
    have : ∀ l : List (List Nat), l.map (TL.tl ∘ mkS) = l := fun l => by
      induction l with
      | nil => rfl
      | cons a r ih => rw [List.map_cons, ih]; rfl
    exact this l
  rw [e, join_list'] at h
  exact h
theorem joinT_mem {s : List Nat} {a : Nat} : ∀ {l : List (List Nat)}, a ∈ joinT s l → a ∈ s ∨ ∃ p ∈ l, a ∈ p
  | [], h => by cases h
  | [x], h => .inr ⟨x, List.mem_cons_self, h⟩
  | x :: y :: r, h => by
    rcases List.mem_append.mp (show a ∈ x ++ s ++ joinT s (y :: r) from h) with h | h
    · rcases List.mem_append.mp h with h | h
      · exact .inr ⟨x, List.mem_cons_self, h⟩
      · exact .inl h
    · rcases joinT_mem h with h | ⟨p, hp, q⟩
      · exact .inl h
      · exact .inr ⟨p, List.mem_cons_of_mem _ hp, q⟩

/-! ### numbers written and read -/
theorem natF_num : ∀ (k n : Nat), n < 10 ^ (k + 1) → natF k n = TL.numL n
  | 0, n, h => by
    have h2 : n < 10 := by simpa using h
    rw [TL.numL_lt h2]
    show [48 + n % 10] = _
    rw [Nat.mod_eq_of_lt h2]
  | k + 1, n, h => by
    show (if n < 10 then [48 + n] else natF k (n / 10) ++ [48 + n % 10]) = _
    split
    · rename_i h2
      rw [TL.numL_lt h2]
    · rename_i h2
      rw [TL.numL_step (by omega), natF_num k (n / 10) (by
        rw [Nat.pow_succ] at h
        exact Nat.div_lt_of_lt_mul (by omega))]
theorem natT_num (n : Nat) : natT n = TL.numL n := natF_num n n (Nat.lt_of_lt_of_le (Nat.lt_pow_self (by decide)) (Nat.pow_le_pow_right (by decide) (Nat.le_succ n)))
theorem intT_str (i : Int) : Str.ofString (toString i) = mkS (intT i) := by
  cases i with
  | ofNat n =>
    refine str_ext ?_
    show (Str.ofString (toString ((n : Nat) : Int))).cps.toList = natT n
    rw [natT_num]
    exact TL.tl_num n
  | negSucc n =>
    refine str_ext ?_
    have h := TL.tl_num (n + 1)
    have e1 : (Str.ofString (toString ((n + 1 : Nat) : Int))).cps.toList = (Nat.repr (n + 1)).toList.map Char.toNat := by
      rw [show (Str.ofString (toString ((n + 1 : Nat) : Int))).cps.toList = (toString ((n + 1 : Nat) : Int)).toList.map Char.toNat from TL.tl_ofString _]
      rfl
    rw [show (Str.ofString (toString (Int.negSucc n))).cps.toList = (toString (Int.negSucc n)).toList.map Char.toNat from TL.tl_ofString _]
    show (toString (Int.negSucc n)).toList.map Char.toNat = 45 :: natT (n + 1)
    have e2 : toString (Int.negSucc n) = "-" ++ Nat.repr (n + 1) := rfl
    rw [e2, String.toList_append, List.map_append, natT_num, ← h]
    show _ = 45 :: (Str.ofString (toString ((n + 1 : Nat) : Int))).cps.toList
    rw [e1]
    rfl
theorem natT_asc (n : Nat) : Asc (natT n) := fun c h => by
  rw [natT_num] at h
  have := TL.numL_digits n c h
  omega
theorem intT_asc (i : Int) : Asc (intT i) := by
  cases i with
  | ofNat n => exact natT_asc n
  | negSucc n =>
    intro c h
    rcases List.mem_cons.mp h with e | h
    · omega
    · exact natT_asc _ c h
theorem readN_val : ∀ (x : List Nat) (a n : Nat), readN x a = some n → NumText.AllDigits x ∧ x.foldl (fun acc c => acc * 10 + (c - 48)) a = n
  | [], a, n, h => ⟨(fun c q => by cases q), Option.some.inj h⟩
  | c :: r, a, n, h => by
    unfold readN at h
    split at h
    · rename_i hc
      obtain ⟨h1, h2⟩ := readN_val r _ n h
      refine ⟨fun d hd => ?_, ?_⟩
      · rcases List.mem_cons.mp hd with e | hd
        · subst e; exact hc
        · exact h1 d hd
      · rw [List.foldl_cons, ← h2, Nat.mul_comm a 10]
    · cases h
theorem readI_cons (c : Nat) (r : List Nat) (hc : ¬ c = 45) : readI (c :: r) = (readN (c :: r) 0).map fun (n : Nat) => (n : Int) := by
  simp only [readI, if_neg hc]
theorem readI_val {x : List Nat} {n : Int} (h : readI x = some n) (hl : x.length ≤ 4300) : intText? (mkS x) = some n := by
  cases x with
  | nil => cases h
  | cons c r =>
    by_cases hc : c = 45
    · subst hc
      cases r with
      | nil => cases h
      | cons d t =>
        have h : (readN (d :: t) 0).map (fun (n : Nat) => -(n : Int)) = some n := h
        cases q : readN (d :: t) 0 with
        | none => rw [q] at h; cases h
        | some k =>
          rw [q] at h
          cases h
          obtain ⟨h1, h2⟩ := readN_val _ _ _ q
          rw [PySem.intText_neg (x := mkS (45 :: d :: t)) (cs := d :: t) rfl h1 (by simp) (by rw [mkS_len]; exact hl)]
          have : NumText.digitsVal (d :: t) = k := h2
          rw [this]
    · have h : (readN (c :: r) 0).map (fun (n : Nat) => (n : Int)) = some n := by
        rw [readI_cons c r hc] at h
        exact h
      cases q : readN (c :: r) 0 with
      | none => rw [q] at h; cases h
      | some k =>
        rw [q] at h
        cases h
        obtain ⟨h1, h2⟩ := readN_val _ _ _ q
        rw [PySem.intText_digits (x := mkS (c :: r)) h1 (by simp) (by rw [mkS_len]; exact hl)]
        have : NumText.digitsVal (c :: r) = k := h2
        rw [this]

/-! ### one text in another -/
theorem infix_iff (y : List Nat) : ∀ x : List Nat, infixT y x = true ↔ ∃ i, i + y.length ≤ x.length ∧ (x.drop i).take y.length = y
  | [] => by
    unfold infixT
    constructor
    · intro h
      refine ⟨0, ?_, ?_⟩
      · have : y = [] := by simpa using h
        subst this; simp
      · have : y = [] := by simpa using h
        subst this; rfl
    · rintro ⟨i, h1, h2⟩
      have : y.length = 0 := by simp only [List.length_nil] at h1; omega
      simpa using List.eq_nil_of_length_eq_zero this
  | a :: r => by
    unfold infixT
    rw [Bool.or_eq_true, infix_iff y r, List.isPrefixOf_iff_prefix]
    constructor
    · rintro (h | ⟨i, h1, h2⟩)
      · refine ⟨0, ?_, ?_⟩
        · have := h.length_le; omega
        · rw [List.drop_zero]; exact (List.prefix_iff_eq_take.mp h).symm
      · exact ⟨i + 1, by simp only [List.length_cons]; omega, h2⟩
    · rintro ⟨i, h1, h2⟩
      cases i with
      | zero =>
        left
        rw [List.drop_zero] at h2
        exact List.prefix_iff_eq_take.mpr h2.symm
      | succ j => exact .inr ⟨j, by simp only [List.length_cons] at h1; omega, h2⟩
theorem in_list (x y : List Nat) : (!(Builtin.Str.occurrences (mkS x) (mkS y) 0 (mkS x).length 1).isEmpty) = infixT y x := by
  rw [Bool.eq_iff_iff, PySem.StrLaws.found_iff, infix_iff]
  have e : ∀ i, Builtin.Str.subAt (mkS x) (mkS y) i = true ↔ (x.drop i).take y.length = y := fun i => by
    unfold Builtin.Str.subAt
    rw [mkS_len]
    show (x.toArray.extract i (i + y.length) == y.toArray) = true ↔ _
    rw [List.extract_toArray, beq_iff_eq]
    constructor
    · intro h
      have h := congrArg Array.toList h
      simpa [List.extract_eq_drop_take] using h
    · intro h
      congr 1
      simpa [List.extract_eq_drop_take] using h
  constructor
  · rintro ⟨i, h1, h2⟩
    exact ⟨i, by rwa [mkS_len, mkS_len] at h1, (e i).mp h2⟩
  · rintro ⟨i, h1, h2⟩
    exact ⟨i, by rwa [mkS_len, mkS_len], (e i).mpr h2⟩
end Kr
/-! KrO2: operators on the evaluator's values. -/
namespace Kr
open PySem PySem.Spec PyProof.Rows L2

/-- a value that is read: its top may be an object of the store -/
def RT (Y : Cfg) (z : List Addr) (H : Hp) (d : D) (v : V) : Prop := RD Y z H d v ∨ ∃ ds p vs, d = .lst ds ∧ v = .ref p ∧ H p = some (.lst vs) ∧ RDs Y z H ds vs
/-- what an operation leaves: at most one new object -/
def Nw (H H' : Hp) : Prop := H' = H ∨ ∃ p o, H p = none ∧ H' = upd H p o
section
variable {Y : Cfg} {z : List Addr} {H H' : Hp} {v : V}
theorem Nw.keep (n : Nw H H') : ∀ p o, H p = some o → H' p = some o := by
  rcases n with rfl | ⟨q, u, hq, rfl⟩
  · exact fun _ _ h => h
  · exact fun p o h => by rw [upd_ne (ne_of_none h hq)]; exact h
theorem RD.nw {d : D} (r : RD Y z H d v) (n : Nw H H') : RD Y z H' d v := r.keep fun p o h q => ⟨n.keep p o h, q⟩
theorem RDs.nw {d : List D} {vs : List V} (r : RDs Y z H d vs) (n : Nw H H') : RDs Y z H' d vs := r.keep fun p o h q => ⟨n.keep p o h, q⟩
theorem RT.int {i : Int} (r : RT Y z H (.int i) v) : v = .int i := by
  rcases r with r | ⟨_, _, _, e, _⟩
  · cases r; rfl
  · cases e
theorem RT.bl {b : Bool} (r : RT Y z H (.bl b) v) : v = .bl b := by
  rcases r with r | ⟨_, _, _, e, _⟩
  · cases r; rfl
  · cases e
theorem RT.non (r : RT Y z H .non v) : v = .non := by
  rcases r with r | ⟨_, _, _, e, _⟩
  · cases r; rfl
  · cases e
theorem RT.str {x : List Nat} (r : RT Y z H (.str x) v) : v = .str (mkS x) ∧ Asc x := by
  rcases r with r | ⟨_, _, _, e, _⟩
  · cases r with | str _ h => exact ⟨rfl, h⟩
  · cases e
theorem RT.tup {ds : List D} (r : RT Y z H (.tup ds) v) : RD Y z H (.tup ds) v ∧ ∃ p vs, v = .ref p ∧ SqT Y.K H p vs ∧ RDs Y z H ds vs := by
  rcases r with r | ⟨_, _, _, e, _⟩
  · refine ⟨r, ?_⟩
    cases r with
    | tup h n q => exact ⟨_, _, rfl, h.sq, q⟩
    | tupK h q => exact ⟨_, _, rfl, h.sq, q⟩
  · cases e
theorem RT.lst {ds : List D} (r : RT Y z H (.lst ds) v) : ∃ p vs, v = .ref p ∧ H p = some (.lst vs) ∧ RDs Y z H ds vs := by
  rcases r with r | ⟨_, p, vs, e, h1, h2, h3⟩
  · cases r with | lst h n q => exact ⟨_, _, rfl, h, q⟩
  · cases e; exact ⟨p, vs, h1, h2, h3⟩
theorem RT.scr {ns : List Int} (r : RT Y z H (.scr ns) v) : ∃ p, v = .ref p ∧ SqL Y.K H p (ns.map V.int) := by
  rcases r with r | ⟨_, _, _, e, _⟩
  · cases r with
    | scr h n => exact ⟨_, rfl, .inl (.inr ⟨_, h⟩)⟩
    | scrK h => exact ⟨_, rfl, .inr h⟩
  · cases e
theorem RD.new_tup {ds : List D} {vs : List V} {p : Addr} (hz : ∀ p, H p = none → p ∉ z) (r : RDs Y z H ds vs) (h : H p = none) {o : Obj} (hd : o.dict = none) : RD Y z (upd H p (.frz o (.tup vs))) (.tup ds) (.ref p) :=
  .tup ⟨o, upd_same, hd⟩ (hz p h) (r.nw (.inr ⟨p, _, h, rfl⟩))
theorem RD.new_lst {ds : List D} {vs : List V} {p : Addr} (hz : ∀ p, H p = none → p ∉ z) (r : RDs Y z H ds vs) (h : H p = none) : RD Y z (upd H p (.lst vs)) (.lst ds) (.ref p) :=
  .lst upd_same (hz p h) (r.nw (.inr ⟨p, _, h, rfl⟩))
theorem RDs.strs : ∀ {l : List (List Nat)}, (∀ x ∈ l, Asc x) → RDs Y z H (l.map D.str) ((l.map mkS).map V.str)
  | [], _ => .nil
  | x :: r, h => .cons (.str x (h x List.mem_cons_self)) (RDs.strs fun y hy => h y (List.mem_cons_of_mem _ hy))
theorem RDs.strsOf : ∀ {ds : List D} {vs : List V} {l : List (List Nat)}, RDs Y z H ds vs → strsOf ds = some l → vs = (l.map mkS).map V.str ∧ ∀ x ∈ l, Asc x
  | _, _, _, .nil, e => by cases e; exact ⟨rfl, fun _ h => nomatch h⟩
  | .str x :: t, _, _, .cons h r, e => by
    have e : (Kr.strsOf t).map (x :: ·) = some _ := e
    cases q : Kr.strsOf t with
    | none => rw [q] at e; cases e
    | some l =>
      rw [q] at e
      cases e
      obtain ⟨e1, e2⟩ := RDs.strsOf r q
      cases h with
      | str _ hx =>
        refine ⟨by rw [e1]; rfl, fun y hy => ?_⟩
        rcases List.mem_cons.mp hy with e | hy
        · subst e; exact hx
        · exact e2 y hy
  | .non :: _, _, _, .cons _ _, e => by cases e
  | .bl _ :: _, _, _, .cons _ _, e => by cases e
  | .int _ :: _, _, _, .cons _ _, e => by cases e
  | .tup _ :: _, _, _, .cons _ _, e => by cases e
  | .lst _ :: _, _, _, .cons _ _, e => by cases e
  | .ins _ _ :: _, _, _, .cons _ _, e => by cases e
  | .scr _ :: _, _, _, .cons _ _, e => by cases e
end

def bopOf : Bop → Operator
  | .add => .Add | .sub => .Sub | .mul => .Mult | .fdiv => .FloorDiv | .mod => .Mod | .pow => .Pow
/-- s * n -/
theorem op_mul_str {X : Cx} : OpR X (binaryOp .Mult) (fun x y H Q => ∃ (a : List Nat) (n : Int), x = .str (mkS a) ∧ y = .int n ∧ -1000000 ≤ n ∧ n ≤ 1000000 ∧ a.length ≤ 10 ∧ Q (.str (mkS (repT n a))) H) := by
  intro pins s σ H x y v u Q I rx ry h
  obtain ⟨a, n, rfl, rfl, h1, h2, h3, q⟩ := h
  obtain ⟨t, rfl⟩ := rx
  obtain ⟨t', rfl⟩ := ry
  have hl := mkS_len a
  have hb : (mkS a).length * n.toNat ≤ 10 * 1000000 := Nat.mul_le_mul (by omega) (by omega)
  refine PySem.P.mul_str ?_ (fun c1 c2 => ?_) (fun c1 c2 => ?_) ?_
  · rw [decide_eq_false (by omega), decide_eq_false (by omega)] <;> rfl
  · have : (10 : Int) ≤ (2 ^ 63 - 1) / n := by
      rw [Int.le_ediv_iff_mul_le (by omega)]
      omega
    omega
  · unfold PySem.Builtin.Str.tooLong
    rw [sizeLine_eq]
    exact decide_eq_false (by omega)
  · split
    · rename_i c
      have e : repT n a = [] := by
        unfold repT
        have : n.toNat = 0 := by omega
        rw [this]; rfl
      rw [e] at q
      exact ⟨by decide, .str (mkS []), H, I.tok _, ⟨_, rfl⟩, q⟩
    · split
      · rename_i c1 c2
        have e : repT n a = a := by
          unfold repT
          rcases Bool.or_eq_true_iff.mp c2 with c2 | c2
          · have : n = 1 := by simpa using c2
            subst this
            simp
          · have : a = [] := by
              have : a.length = 0 := by
                have z : (mkS a).length = 0 := by simpa using c2
                omega
              exact List.eq_nil_of_length_eq_zero this
            subst this
            simp
        rw [e] at q
        exact ⟨.str (mkS a), H, I, ⟨_, rfl⟩, q⟩
      · have e : (⟨(List.replicate n.toNat (mkS a).cps).foldl (· ++ ·) #[]⟩ : Str) = mkS (repT n a) := by
          refine str_ext ?_
          unfold repT
          have gen : ∀ (k : Nat) (acc : Array Nat), ((List.replicate k (mkS a).cps).foldl (· ++ ·) acc).toList = acc.toList ++ (List.replicate k a).flatten := by
            intro k
            induction k with
            | zero => intro acc; simp
            | succ k ih =>
              intro acc
              rw [List.replicate_succ, List.foldl_cons, ih, List.replicate_succ, List.flatten_cons]
              simp
          have := gen n.toNat #[]
          simpa using this
        rw [e]
        refine ⟨?_, .str (mkS (repT n a)), H, I.tok _, ⟨_, rfl⟩, q⟩
        rw [mkS_len]
        unfold repT
        rw [List.length_flatten, List.map_replicate, List.sum_replicate_nat, sizeLine_eq, Nat.mul_comm]
        rw [hl] at hb
        omega
/-- t + u: the object is known -/
def rCatF (K : PySem.W.Frag) : R2 := fun x y H Q => ∃ a b xs ys, x = .ref a ∧ y = .ref b ∧ SqT K H a xs ∧ SqT K H b ys ∧ xs.length + ys.length ≤ sizeLine ∧
  (xs = [] → Q (.ref b) H) ∧ (xs ≠ [] → ys = [] → Q (.ref a) H) ∧ (xs ≠ [] → ys ≠ [] → ∀ p o, H p = none → o.dict = none → Q (.ref p) (upd H p (.frz o (.tup (xs ++ ys)))))
theorem op_catF {X : Cx} : OpR X (binaryOp .Add) (rCatF X.K) := by
  intro pins s σ H x y v u Q I rx ry h
  obtain ⟨a, b, xs, ys, e1, e2, ha, hb, hz, q0, q1, q2⟩ := h
  subst e1 e2
  cases rx
  cases ry
  obtain ⟨is, r1, p1, _⟩ := I.tuple ha
  obtain ⟨js, r2, p2, _⟩ := I.tuple hb
  by_cases hx : xs = []
  · subst hx
    cases r1
    exact cat_tup0 p1 p2 ⟨.ref b, H, I, rfl, q0 rfl⟩
  · refine HT.cat_tup p1 p2 (fun z => hx (r1.nil_iff.mp z)) (fun z => ⟨.ref a, H, I, rfl, q1 hx (r2.nil_iff.mp z)⟩) (fun z => ?_) (by rw [← r1.length, ← r2.length]; exact hz)
    have hp : H s.heap.objs.size = none := I.hok.fresh (Nat.le_refl _)
    have hn : (s.heap.push { cls := .type "tuple", data := .seq (is ++ js).toArray }).get? s.heap.objs.size = some { cls := .type "tuple", data := .seq (is ++ js).toArray } := Heap.get?_push_size _ rfl
    refine ⟨.ref s.heap.objs.size, _, I.laid (t' := s.toks) (o := .frz { cls := .type "tuple", data := .seq (is ++ js).toArray } (.tup (xs ++ ys))) (fun _ _ q => Heap.get?_push_of_some _ q) (Nat.le_refl _) ?_, rfl, q2 hx (fun w => z (r2.nil_iff.mpr w)) _ _ hp rfl⟩
    exact ⟨hn, by rw [List.length_append]; exact hz, _, r1.append r2, IsTup.new _ _⟩
/-- a tuple * a number: the new one is known -/
def rRepF (K : PySem.W.Frag) : R2 := fun x y H Q => ∃ a n xs, x = .ref a ∧ y = .int n ∧ SqT K H a xs ∧ xs ≠ [] ∧ 2 ≤ n ∧ n ≤ 1000 ∧ xs.length ≤ 1000 ∧
  (xs ≠ [] → ∀ p o, H p = none → o.dict = none → Q (.ref p) (upd H p (.frz o (.tup (List.replicate n.toNat xs).flatten))))
theorem op_repF {X : Cx} : OpR X (binaryOp .Mult) (rRepF X.K) := by
  intro pins s σ H x y v u Q I rx ry h
  obtain ⟨a, n, xs, e1, e2, ha, hne, n1, n2, hz, q⟩ := h
  subst e1 e2
  cases rx
  obtain ⟨tk, rfl⟩ := ry
  obtain ⟨is, r, ⟨⟨cls, dd, data, sl⟩, ho, hc, m, hd⟩, hs⟩ := I.tuple ha
  simp only at hc hd
  subst hc hd
  have el : is.length = xs.length := r.length.symm
  have en : is ≠ [] := fun e => hne (by rw [e] at el; exact List.eq_nil_of_length_eq_zero el.symm)
  have ei : is.toArray.isEmpty = false := by
    cases is with
    | nil => exact absurd rfl en
    | cons _ _ => rfl
  have es : is.toArray.size = xs.length := by rw [List.size_toArray, el]
  have em : ((is.toArray.size : Nat) : Int) * n ≤ 1000000 := by
    rw [es]
    have : ((xs.length : Nat) : Int) * n ≤ 1000 * n := Int.mul_le_mul_of_nonneg_right (by omega) (by omega)
    omega
  have ef : (List.replicate n.toNat is).flatten.length ≤ sizeLine := by
    rw [PyProof.Rows.lm_len_rep_flat, el, sizeLine_eq]
    have : n.toNat * xs.length ≤ 1000 * 1000 := Nat.mul_le_mul (by omega) hz
    omega
  have b0 : (decide (n < -(2 ^ 63)) || decide (n ≥ 2 ^ 63)) = false := by
    rw [decide_eq_false (by omega), decide_eq_false (by omega)] <;> rfl
  have b1 : (is.toArray.isEmpty || n == 1) = false := by rw [ei, Bool.false_or]; exact beq_eq_false_iff_ne.mpr (by omega)
  have b2 : (decide (n ≤ 0) || is.toArray.isEmpty) = false := by rw [ei, Bool.or_false]; exact decide_eq_false (by omega)
  have b4 : Builtin.Tuple.tupleTooMany (((is.toArray.size : Nat) : Int) * n) = false := by
    unfold Builtin.Tuple.tupleTooMany
    rw [sizeLine_eq]; exact decide_eq_false (by omega)
  refine wpAny_binaryOp_repeat_ref (T := "tuple") (U := "int") (by decide) ⟨_, ho, rfl⟩ (fun s2 => typeIs_int s2 n tk) noFill_tuple_mul F.fills_int_mul F.slot_int_rmul repeat_tuple F.slot_int_index.lookup
    (call_meets F.slot_int_rmul (typeIs_int s n tk) F.entry_int_rmul (F.args_int_rmul_2 _ _) (int_rmul_tuple n tk a is.toArray m dd sl)
      ⟨ho, rfl, ⟨_, ho, rfl⟩, call_meets F.slot_tuple_mul ⟨_, ho, rfl⟩ F.entry_tuple_mul (F.args_tuple_mul_2 _ _) (tuple_mulW a is.toArray m dd sl n tk b0 b1 b2 (by omega) b4 (by rw [size_rep, List.size_toArray]; exact ef)) ⟨ho, ?_⟩⟩)
  rw [size_rep]
  have hp : H s.heap.objs.size = none := I.hok.fresh (Nat.le_refl _)
  have hn : (s.heap.push { cls := .type "tuple", data := .seq (List.replicate n.toNat is).flatten.toArray }).get? s.heap.objs.size = some { cls := .type "tuple", data := .seq (List.replicate n.toNat is).flatten.toArray } := Heap.get?_push_size _ rfl
  refine ⟨.ref s.heap.objs.size, _, I.laid (t' := s.toks) (o := .frz { cls := .type "tuple", data := .seq (List.replicate n.toNat is).flatten.toArray } (.tup (List.replicate n.toNat xs).flatten)) (fun _ _ z => Heap.get?_push_of_some _ z) (Nat.le_refl _) ?_, rfl, q hne _ _ hp rfl⟩
  refine ⟨hn, ?_, _, r.rep n.toNat, IsTup.new _ _⟩
  rw [PyProof.Rows.lm_len_rep_flat, sizeLine_eq]
  have : n.toNat * xs.length ≤ 1000 * 1000 := Nat.mul_le_mul (by omega) hz
  omega

theorem repT_mem {n : Int} {x : List Nat} {c : Nat} (h : c ∈ repT n x) : c ∈ x := by
  unfold repT at h
  obtain ⟨l, hl, q⟩ := List.mem_flatten.mp h
  rw [(List.mem_replicate.mp hl).2] at q
  exact q

def rBin (Y : Cfg) (o : Bop) : R2 := fun x y H Q => ∃ z dx dy dr, RT Y z H dx x ∧ RT Y z H dy y ∧ evBin o dx dy = some dr ∧ (∀ p, H p = none → p ∉ z) ∧ ∀ v H', Nw H H' → RD Y z H' dr v → Q v H'
theorem op_bin {X : Cx} {Y : Cfg} (hK : X.K = Y.K) (o : Bop) : OpR X (binaryOp (bopOf o)) (rBin Y o) := by
  intro pins s σ H x y v u Q I vx vy h
  obtain ⟨z, dx, dy, dr, rx, ry, e, hz, q⟩ := h
  unfold evBin at e
  split at e
  · rename_i i j
    obtain rfl := rx.int
    obtain rfl := ry.int
    cases o with
    | add => cases e; exact op_add pins s σ H _ _ v u Q I vx vy ⟨_, _, rfl, rfl, q _ _ (.inl rfl) (.int _)⟩
    | sub => cases e; exact op_sub pins s σ H _ _ v u Q I vx vy ⟨_, _, rfl, rfl, q _ _ (.inl rfl) (.int _)⟩
    | mul =>
      have e : (if mulOk i j then some (D.int (i * j)) else none) = some dr := e
      split at e
      · rename_i c
        cases e
        unfold mulOk big at c
        simp only [Bool.or_eq_true, Bool.and_eq_true, decide_eq_true_eq] at c
        rcases c with c | c | c
        · exact op_mul pins s σ H _ _ v u Q I vx vy ⟨_, _, rfl, rfl, .inl c, q _ _ (.inl rfl) (.int _)⟩
        · exact op_mul pins s σ H _ _ v u Q I vx vy ⟨_, _, rfl, rfl, .inr c, q _ _ (.inl rfl) (.int _)⟩
        · exact op_mulW pins s σ H _ _ v u Q I vx vy ⟨_, _, rfl, rfl, by unfold CMulW; omega, q _ _ (.inl rfl) (.int _)⟩
      · cases e
    | fdiv =>
      have e : (if 0 < j ∧ big j = true then some (D.int (i / j)) else none) = some dr := e
      split at e
      · rename_i c
        cases e
        have c2 := c.2
        unfold big at c2
        have c2 := of_decide_eq_true c2
        exact op_fdivW pins s σ H _ _ v u Q I vx vy ⟨_, _, rfl, rfl, ⟨c.1, by omega⟩, q _ _ (.inl rfl) (.int _)⟩
      · cases e
    | mod =>
      have e : (if 0 < j then some (D.int (i % j)) else none) = some dr := e
      split at e
      · rename_i c
        cases e
        exact op_mod pins s σ H _ _ v u Q I vx vy ⟨_, _, rfl, rfl, c, q _ _ (.inl rfl) (.int _)⟩
      · cases e
    | pow =>
      have e : (if 0 ≤ j ∧ j ≤ 1000 ∧ i.natAbs < 18446744073709551616 then some (D.int (i ^ j.toNat)) else none) = some dr := e
      split at e
      · rename_i c
        cases e
        exact op_pow pins s σ H _ _ v u Q I vx vy ⟨_, _, rfl, rfl, ⟨c.1, by omega, c.2.2⟩, q _ _ (.inl rfl) (.int _)⟩
      · cases e
  · rename_i a b
    obtain ⟨rfl, ha⟩ := rx.str
    obtain ⟨rfl, hb⟩ := ry.str
    split at e
    · split at e
      · rename_i c
        cases e
        refine op_add_str pins s σ H _ _ v u Q I vx vy ⟨_, _, rfl, rfl, ?_, ?_⟩
        · rw [mkS_len, mkS_len, ← sz_line]; exact c
        · rw [mkS_app]
          exact q _ _ (.inl rfl) (.str _ (Asc.app ha hb))
      · cases e
    · cases e
  · rename_i a n
    obtain ⟨rfl, ha⟩ := rx.str
    obtain rfl := ry.int
    split at e
    · split at e
      · rename_i c
        cases e
        exact op_mul_str pins s σ H _ _ v u Q I vx vy ⟨_, _, rfl, rfl, c.1, c.2.1, c.2.2, q _ _ (.inl rfl) (.str _ (ha.sub fun c h => repT_mem h))⟩
      · cases e
    · cases e
  · rename_i a b
    obtain ⟨ra, pa, va, rfl, sa, da⟩ := rx.tup
    obtain ⟨rb, pb, vb, rfl, sb, db⟩ := ry.tup
    split at e
    · split at e
      · rename_i c
        cases e
        have la := da.length
        have lb := db.length
        rw [← hK] at sa sb
        refine op_catF pins s σ H _ _ v u Q I vx vy ⟨pa, pb, va, vb, rfl, rfl, sa, sb, ?_, fun h => ?_, fun h1 h2 => ?_, fun h1 h2 p o hp ho => ?_⟩
        · rw [← sz_line, ← la, ← lb]; exact c
        · have : a = [] := List.eq_nil_of_length_eq_zero (by rw [la, h]; rfl)
          subst this
          exact q _ _ (.inl rfl) rb
        · have : b = [] := List.eq_nil_of_length_eq_zero (by rw [lb, h2]; rfl)
          subst this
          rw [List.append_nil] at q
          exact q _ _ (.inl rfl) ra
        · exact q _ _ (.inr ⟨p, _, hp, rfl⟩) (RD.new_tup hz (da.app db) hp ho)
      · cases e
    · cases e
  · rename_i a b
    obtain ⟨pa, va, rfl, sa, da⟩ := rx.lst
    obtain ⟨pb, vb, rfl, sb, db⟩ := ry.lst
    split at e
    · split at e
      · rename_i c
        cases e
        have la := da.length
        have lb := db.length
        refine op_cat pins s σ H _ _ v u Q I vx vy ⟨pa, pb, va, vb, rfl, rfl, sa, sb, by rw [← sz_line, ← la, ← lb]; exact c, fun p hp => ?_⟩
        exact q _ _ (.inr ⟨p, _, hp, rfl⟩) (RD.new_lst hz (da.app db) hp)
      · cases e
    · cases e
  · rename_i a n
    obtain ⟨ra, pa, va, rfl, sa, da⟩ := rx.tup
    obtain rfl := ry.int
    split at e
    · split at e
      · rename_i c
        cases e
        have la := da.length
        rw [← hK] at sa
        refine op_repF pins s σ H _ _ v u Q I vx vy ⟨pa, n, va, rfl, rfl, sa, fun h => ?_, c.1, c.2.1, by rw [← la]; exact c.2.2.1, fun _ p o hp ho => ?_⟩
        · rw [h] at la
          have := c.2.2.2
          rw [la] at this
          exact absurd this (Nat.lt_irrefl 0)
        · exact q _ _ (.inr ⟨p, _, hp, rfl⟩) (RD.new_tup hz (da.rep _) hp ho)
      · cases e
    · cases e
  · rename_i a n
    obtain ⟨pa, va, rfl, sa, da⟩ := rx.lst
    obtain rfl := ry.int
    split at e
    · split at e
      · rename_i c
        cases e
        have la := da.length
        have hb : va.length * n.toNat ≤ 1000 * 1000 := Nat.mul_le_mul (by omega) (by omega)
        refine op_rep pins s σ H _ _ v u Q I vx vy ⟨pa, n, va, rfl, rfl, sa, by omega, by omega, by rw [sizeLine_eq]; omega, fun p hp => ?_⟩
        exact q _ _ (.inr ⟨p, _, hp, rfl⟩) (RD.new_lst hz (da.rep _) hp)
      · cases e
    · cases e
  · cases e
end Kr
/-! KrO3: comparisons, truth, subscripts on the evaluator's values. -/
namespace Kr
open PySem PySem.Spec PyProof.Rows L2

mutual
def toPy : D → PyData
  | .non => .none
  | .bl b => .bool b
  | .int i => .int i
  | .str x => .str (mkS x)
  | .tup xs => .tuple (toPys xs)
  | .lst xs => .list (toPys xs)
  | .ins _ _ => .none
  | .scr _ => .none
def toPys : List D → List PyData
  | [] => []
  | x :: r => toPy x :: toPys r
end
section
variable {Y : Cfg} {z : List Addr} {H : Hp}
mutual
theorem RD.dp {d : D} {v : V} {n : Nat} (r : RD Y z H d v) (f : D.flat n d = true) : Dp Y.K H v (toPy d) := by
  cases r with
  | non => exact .non
  | bl b => exact .bl b
  | int i => exact .int i
  | str x h => exact .str _
  | tup h _ q =>
    cases n with
    | zero => cases f
    | succ n => exact .tup h.sq (RDs.dp q f)
  | tupK h q =>
    cases n with
    | zero => cases f
    | succ n => exact .tup h.sq (RDs.dp q f)
  | lst h _ q =>
    cases n with
    | zero => cases f
    | succ n => exact .lst (.inl (.inl h)) (RDs.dp q f)
  | ins => cases f
  | scr => cases f
  | scrK => cases f
theorem RDs.dp {ds : List D} {vs : List V} {n : Nat} (r : RDs Y z H ds vs) (f : D.flats n ds = true) : DpAll Y.K H vs (toPys ds) := by
  cases r with
  | nil => exact .nil
  | cons h q =>
    obtain ⟨f1, f2⟩ := Bool.and_eq_true_iff.mp (show (D.flat n _ && D.flats n _) = true from f)
    exact .cons (RD.dp h f1) (RDs.dp q f2)
end
theorem RT.dp {d : D} {v : V} {n : Nat} (r : RT Y z H d v) (f : D.flat n d = true) : Dp Y.K H v (toPy d) := by
  rcases r with r | ⟨ds, p, vs, rfl, rfl, h, q⟩
  · exact r.dp f
  · cases n with
    | zero => cases f
    | succ n => exact .lst (.inl (.inl h)) (q.dp f)
mutual
theorem RD.lay {d : D} {v : V} (r : RD Y z H d v) {n : Nat} (f : D.flat n d = true) : (toPy d).canLay0 = true ∧ (toPy d).depth ≤ n + 1 := by
  cases r with
  | non => exact ⟨rfl, by simp [toPy, PyData.depth]⟩
  | bl b => exact ⟨rfl, by simp [toPy, PyData.depth]⟩
  | int i => exact ⟨rfl, by simp [toPy, PyData.depth]⟩
  | str x h =>
    refine ⟨?_, by simp [toPy, PyData.depth]⟩
    show PyData.canLay0 (.str (mkS x)) = true
    simp only [PyData.canLay0, PySem.PyData.strOk, mkS]
    simp only [List.all_toArray, List.all_eq_true, decide_eq_true_eq]
    exact fun c hc => Nat.lt_trans (h c hc) (by decide)
  | tup h _ q =>
    cases n with
    | zero => cases f
    | succ n =>
      obtain ⟨a, b⟩ := RDs.lay q f
      refine ⟨by simpa [toPy, PyData.canLay0] using a, ?_⟩
      simp only [toPy, PyData.depth]; omega
  | tupK h q =>
    cases n with
    | zero => cases f
    | succ n =>
      obtain ⟨a, b⟩ := RDs.lay q f
      refine ⟨by simpa [toPy, PyData.canLay0] using a, ?_⟩
      simp only [toPy, PyData.depth]; omega
  | lst h _ q =>
    cases n with
    | zero => cases f
    | succ n =>
      obtain ⟨a, b⟩ := RDs.lay q f
      refine ⟨by simpa [toPy, PyData.canLay0] using a, ?_⟩
      simp only [toPy, PyData.depth]; omega
  | ins => cases f
  | scr => cases f
  | scrK => cases f
theorem RDs.lay {ds : List D} {vs : List V} (r : RDs Y z H ds vs) {n : Nat} (f : D.flats n ds = true) : PyData.canLayAll0 (toPys ds) = true ∧ PyData.depthAll (toPys ds) ≤ n + 1 := by
  cases r with
  | nil => exact ⟨rfl, by simp [toPys, PyData.depthAll]⟩
  | cons h q =>
    obtain ⟨f1, f2⟩ := Bool.and_eq_true_iff.mp (show (D.flat n _ && D.flats n _) = true from f)
    obtain ⟨a1, b1⟩ := RD.lay h f1
    obtain ⟨a2, b2⟩ := RDs.lay q f2
    refine ⟨by simp [toPys, PyData.canLayAll0, a1, a2], ?_⟩
    simp only [toPys, PyData.depthAll]
    omega
end
theorem RT.lay {d : D} {v : V} (r : RT Y z H d v) {n : Nat} (f : D.flat n d = true) : (toPy d).canLay0 = true ∧ (toPy d).depth ≤ n + 1 := by
  rcases r with r | ⟨ds, p, vs, rfl, rfl, h, q⟩
  · exact r.lay f
  · cases n with
    | zero => cases f
    | succ n =>
      obtain ⟨a, b⟩ := RDs.lay q f
      refine ⟨by simpa [toPy, PyData.canLay0] using a, ?_⟩
      simp only [toPy, PyData.depth]; omega
theorem RT.shaped {d : D} {v : V} (r : RT Y z H d v) (f : D.flat 20 d = true) : SeqAt.shaped (toPy d) = true := by
  obtain ⟨a, b⟩ := r.lay f
  unfold SeqAt.shaped
  rw [a, decide_eq_true (by omega)]
  rfl
end
theorem mkS_beq (x y : List Nat) : (mkS x == mkS y) = (x == y) := by
  rw [Bool.eq_iff_iff, beq_iff_eq, beq_iff_eq]
  constructor
  · intro h
    have := congrArg (fun s : Str => s.cps.toList) h
    exact this
  · intro h; rw [h]
mutual
theorem eqv_eq : ∀ (n m : Nat) (a b : D), D.flat n a = true → D.flat m b = true → PyData.eqv (toPy a) (toPy b) = D.eq a b := by
  intro n m a b fa fb
  cases a with
  | non => cases b <;> first | rfl | cases fb
  | bl x => cases b <;> first | rfl | cases fb
  | int x => cases b <;> first | rfl | cases fb
  | str x => cases b with
    | str y => exact mkS_beq x y
    | ins => cases fb
    | scr => cases fb
    | _ => rfl
  | tup xs => cases b with
    | tup ys =>
      cases n with
      | zero => cases fa
      | succ n =>
        cases m with
        | zero => cases fb
        | succ m => exact eqvs_eq n m xs ys fa fb
    | ins => cases fb
    | scr => cases fb
    | _ => rfl
  | lst xs => cases b with
    | lst ys =>
      cases n with
      | zero => cases fa
      | succ n =>
        cases m with
        | zero => cases fb
        | succ m => exact eqvs_eq n m xs ys fa fb
    | ins => cases fb
    | scr => cases fb
    | _ => rfl
  | ins => cases fa
  | scr => cases fa
theorem eqvs_eq : ∀ (n m : Nat) (a b : List D), D.flats n a = true → D.flats m b = true → PyData.eqvAll (toPys a) (toPys b) = D.eqs a b := by
  intro n m a b fa fb
  cases a with
  | nil => cases b <;> rfl
  | cons x xs =>
    cases b with
    | nil => rfl
    | cons y ys =>
      obtain ⟨a1, a2⟩ := Bool.and_eq_true_iff.mp (show (D.flat n x && D.flats n xs) = true from fa)
      obtain ⟨b1, b2⟩ := Bool.and_eq_true_iff.mp (show (D.flat m y && D.flats m ys) = true from fb)
      show (PyData.eqv (toPy x) (toPy y) && PyData.eqvAll (toPys xs) (toPys ys)) = (D.eq x y && D.eqs xs ys)
      rw [eqv_eq n m x y a1 b1, eqvs_eq n m xs ys a2 b2]
end
theorem any_eq (m : Nat) (x : D) (fx : D.flat m x = true) : ∀ (n : Nat) (ys : List D), D.flats n ys = true → ((toPys ys).any fun w => PyData.eqv w (toPy x)) = ys.any fun w => D.eq w x
  | _, [], _ => rfl
  | n, y :: r, f => by
    obtain ⟨a1, a2⟩ := Bool.and_eq_true_iff.mp (show (D.flat n y && D.flats n r) = true from f)
    show (PyData.eqv (toPy y) (toPy x) || (toPys r).any _) = (D.eq y x || r.any _)
    rw [eqv_eq n m y x a1 fx, any_eq m x fx n r a2]
theorem countP_eq (m : Nat) (x : D) (fx : D.flat m x = true) : ∀ (n : Nat) (ys : List D), D.flats n ys = true → ((toPys ys).countP fun w => PyData.eqv w (toPy x)) = ys.countP fun w => D.eq w x
  | _, [], _ => rfl
  | n, y :: r, f => by
    obtain ⟨a1, a2⟩ := Bool.and_eq_true_iff.mp (show (D.flat n y && D.flats n r) = true from f)
    show (toPy y :: toPys r).countP _ = _
    rw [List.countP_cons, List.countP_cons, countP_eq m x fx n r a2, eqv_eq n m y x a1 fx]

def copOf : Cop → CmpOp
  | .eq => .Eq | .ne => .NotEq | .lt => .Lt | .le => .LtE | .gt => .Gt | .ge => .GtE | .is => .Is | .isn => .IsNot | .isin => .In | .nin => .NotIn
def rCmp (Y : Cfg) (o : Cop) : R2 := fun x y H Q => ∃ z dx dy b, RT Y z H dx x ∧ RT Y z H dy y ∧ evCmp o dx dy = some b ∧ Q (.bl b) H
theorem isNon_eq {Y : Cfg} {z : List Addr} {H : Hp} {d : D} {v : V} (r : RT Y z H d v) : decide (v = .non) = isNon d := by
  rcases r with r | ⟨ds, p, vs, rfl, rfl, h, q⟩
  · cases r <;> simp [isNon]
  · simp [isNon]
theorem op_in {X : Cx} {Y : Cfg} (hK : X.K = Y.K) (hu : X.A.units + 65 < cLine) : OpR X (compareOp .In) (fun x y H Q => ∃ z dx dy b, RT Y z H dx x ∧ RT Y z H dy y ∧ evIn dx dy = some b ∧ Q (.bl b) H) := by
  intro pins s σ H x y v u Q I vx vy h
  obtain ⟨z, dx, dy, b, rx, ry, e, q⟩ := h
  unfold evIn at e
  split at e
  · split at e
    · cases e
      obtain ⟨rfl, _⟩ := rx.str
      obtain ⟨rfl, _⟩ := ry.str
      exact op_in_str pins s σ H _ _ v u Q I vx vy ⟨_, _, rfl, rfl, by rw [in_list]; exact q⟩
    · cases e
  · split at e
    · rename_i ys c
      cases e
      obtain ⟨f1, f2⟩ := Bool.and_eq_true_iff.mp c
      have f3 : D.flat 21 (.tup ys) = true := f2
      have d1 := rx.dp f1
      have d2 := ry.dp f3
      rw [← hK] at d1 d2
      obtain ⟨as, r1⟩ := Dp.reads I _ x v d1 vx
      obtain ⟨bs, r2⟩ := Dp.reads I _ y u d2 vy
      obtain ⟨l1, m1⟩ := rx.lay f1
      obtain ⟨l2, m2⟩ := ry.lay f3
      refine SeqAt.in_tuple_reads r2 r1 (by simpa [toPy, PyData.canLay0] using l2) l1 (by omega) ⟨.bl _, H, I, rfl, ?_⟩
      rw [any_eq 20 _ f1 20 _ f2]
      exact q
    · cases e
  · split at e
    · rename_i ys c
      cases e
      obtain ⟨f1, f2⟩ := Bool.and_eq_true_iff.mp c
      have f3 : D.flat 21 (.lst ys) = true := f2
      have d1 := rx.dp f1
      have d2 := ry.dp f3
      rw [← hK] at d1 d2
      obtain ⟨as, r1⟩ := Dp.reads I _ x v d1 vx
      obtain ⟨bs, r2⟩ := Dp.reads I _ y u d2 vy
      obtain ⟨l1, m1⟩ := rx.lay f1
      obtain ⟨l2, m2⟩ := ry.lay f3
      refine SeqAt.in_list_reads r2 r1 (by simpa [toPy, PyData.canLay0] using l2) l1 (by omega) ⟨.bl _, H, I, rfl, ?_⟩
      rw [any_eq 20 _ f1 20 _ f2]
      exact q
    · cases e
  · cases e
theorem op_nin {X : Cx} {Y : Cfg} (hK : X.K = Y.K) (hu : X.A.units + 65 < cLine) : OpR X (compareOp .NotIn) (fun x y H Q => ∃ z dx dy b, RT Y z H dx x ∧ RT Y z H dy y ∧ evIn dx dy = some b ∧ Q (.bl (!b)) H) := by
  intro pins s σ H x y v u Q I vx vy h
  obtain ⟨z, dx, dy, b, rx, ry, e, q⟩ := h
  unfold evIn at e
  split at e
  · split at e
    · cases e
      obtain ⟨rfl, _⟩ := rx.str
      obtain ⟨rfl, _⟩ := ry.str
      exact op_notin_str pins s σ H _ _ v u Q I vx vy ⟨_, _, rfl, rfl, by rw [in_list]; exact q⟩
    · cases e
  · split at e
    · rename_i ys c
      cases e
      obtain ⟨f1, f2⟩ := Bool.and_eq_true_iff.mp c
      have f3 : D.flat 21 (.tup ys) = true := f2
      have d1 := rx.dp f1
      have d2 := ry.dp f3
      rw [← hK] at d1 d2
      obtain ⟨as, r1⟩ := Dp.reads I _ x v d1 vx
      obtain ⟨bs, r2⟩ := Dp.reads I _ y u d2 vy
      obtain ⟨l1, m1⟩ := rx.lay f1
      obtain ⟨l2, m2⟩ := ry.lay f3
      refine SeqAt.notIn_tuple_reads r2 r1 (by simpa [toPy, PyData.canLay0] using l2) l1 (by omega) ⟨.bl _, H, I, rfl, ?_⟩
      rw [any_eq 20 _ f1 20 _ f2]
      exact q
    · cases e
  · split at e
    · rename_i ys c
      cases e
      obtain ⟨f1, f2⟩ := Bool.and_eq_true_iff.mp c
      have f3 : D.flat 21 (.lst ys) = true := f2
      have d1 := rx.dp f1
      have d2 := ry.dp f3
      rw [← hK] at d1 d2
      obtain ⟨as, r1⟩ := Dp.reads I _ x v d1 vx
      obtain ⟨bs, r2⟩ := Dp.reads I _ y u d2 vy
      obtain ⟨l1, m1⟩ := rx.lay f1
      obtain ⟨l2, m2⟩ := ry.lay f3
      refine SeqAt.notIn_list_reads r2 r1 (by simpa [toPy, PyData.canLay0] using l2) l1 (by omega) ⟨.bl _, H, I, rfl, ?_⟩
      rw [any_eq 20 _ f1 20 _ f2]
      exact q
    · cases e
  · cases e
theorem op_cmp {X : Cx} {Y : Cfg} (hK : X.K = Y.K) (hu : X.A.units + 65 < cLine) (o : Cop) : OpR X (compareOp (copOf o)) (rCmp Y o) := by
  intro pins s σ H x y v u Q I vx vy h
  obtain ⟨z, dx, dy, b, rx, ry, e, q⟩ := h
  cases o with
  | eq =>
    have e : (if eqOk dx dy then some (D.eq dx dy) else none) = some b := e
    split at e
    · rename_i c
      cases e
      obtain ⟨f1, f2⟩ := Bool.and_eq_true_iff.mp c
      have d1 := rx.dp f1
      have d2 := ry.dp f2
      rw [← hK] at d1 d2
      exact op_eqD (by omega) pins s σ H _ _ v u Q I vx vy ⟨_, _, d1, d2, rx.shaped f1, ry.shaped f2, by rw [eqv_eq 20 20 _ _ f1 f2]; exact q⟩
    · cases e
  | ne =>
    have e : (if eqOk dx dy then some (!D.eq dx dy) else none) = some b := e
    split at e
    · rename_i c
      cases e
      obtain ⟨f1, f2⟩ := Bool.and_eq_true_iff.mp c
      have d1 := rx.dp f1
      have d2 := ry.dp f2
      rw [← hK] at d1 d2
      exact op_neD (by omega) pins s σ H _ _ v u Q I vx vy ⟨_, _, d1, d2, rx.shaped f1, ry.shaped f2, by rw [eqv_eq 20 20 _ _ f1 f2]; exact q⟩
    · cases e
  | lt =>
    cases dx <;> cases dy <;> first | cases e | skip
    obtain rfl := rx.int
    obtain rfl := ry.int
    exact op_lt pins s σ H _ _ v u Q I vx vy ⟨_, _, rfl, rfl, q⟩
  | le =>
    cases dx <;> cases dy <;> first | cases e | skip
    obtain rfl := rx.int
    obtain rfl := ry.int
    exact op_le pins s σ H _ _ v u Q I vx vy ⟨_, _, rfl, rfl, q⟩
  | gt =>
    cases dx <;> cases dy <;> first | cases e | skip
    obtain rfl := rx.int
    obtain rfl := ry.int
    exact op_gt pins s σ H _ _ v u Q I vx vy ⟨_, _, rfl, rfl, q⟩
  | ge =>
    cases dx <;> cases dy <;> first | cases e | skip
    obtain rfl := rx.int
    obtain rfl := ry.int
    exact op_ge pins s σ H _ _ v u Q I vx vy ⟨_, _, rfl, rfl, q⟩
  | is =>
    cases dy <;> first | cases e | skip
    · obtain rfl := ry.non
      exact op_isN pins s σ H _ _ v u Q I vx vy ⟨rfl, by rw [isNon_eq rx]; exact q⟩
    · cases dx <;> first | cases e | skip
      obtain rfl := rx.bl
      obtain rfl := ry.bl
      refine op_isBl pins s σ H _ _ v u Q I vx vy ⟨_, _, rfl, rfl, ?_⟩
      rw [← Bool.beq_eq_decide_eq]
      exact q
  | isn =>
    cases dy <;> first | cases e | skip
    · obtain rfl := ry.non
      exact op_notN pins s σ H _ _ v u Q I vx vy ⟨rfl, by rw [isNon_eq rx]; exact q⟩
    · cases dx <;> first | cases e | skip
      obtain rfl := rx.bl
      obtain rfl := ry.bl
      refine op_notBl pins s σ H _ _ v u Q I vx vy ⟨_, _, rfl, rfl, ?_⟩
      rw [← Bool.beq_eq_decide_eq]
      exact q
  | isin => exact op_in hK hu pins s σ H _ _ v u Q I vx vy ⟨z, dx, dy, b, rx, ry, e, q⟩
  | nin =>
    have e : (evIn dx dy).map (!·) = some b := e
    cases q2 : evIn dx dy with
    | none => rw [q2] at e; cases e
    | some c =>
      rw [q2] at e
      cases e
      exact op_nin hK hu pins s σ H _ _ v u Q I vx vy ⟨z, dx, dy, c, rx, ry, q2, q⟩

/-! ### truth -/
theorem tru_D {X : Cx} {Y : Cfg} (hK : X.K = Y.K) {z : List Addr} {H : Hp} {d : D} {v : V} {b : Bool} (r : RT Y z H d v) (e : truD d = some b) : TruV X.K v H b := by
  cases d with
  | non => obtain rfl := r.non; cases e; rfl
  | bl k => obtain rfl := r.bl; cases e; rfl
  | int i => obtain rfl := r.int; cases e; rfl
  | str x =>
    obtain ⟨rfl, _⟩ := r.str
    have e : (if x.length ≤ sz then some (!x.isEmpty) else none) = some b := e
    split at e
    · rename_i c
      cases e
      refine ⟨by rw [mkS_len, ← sz_line]; exact c, ?_⟩
      rw [mkS_len]
      cases x with
      | nil => rfl
      | cons a t => simp; omega
    · cases e
  | tup xs =>
    obtain ⟨_, p, vs, rfl, h, q⟩ := r.tup
    cases e
    rw [← hK] at h
    refine .inr (.inl ⟨vs, h, ?_⟩)
    have := q.length
    cases xs <;> cases vs <;> first | rfl | (simp at this)
  | lst xs =>
    obtain ⟨p, vs, rfl, h, q⟩ := r.lst
    cases e
    refine .inl ⟨vs, .inl (.inl h), ?_⟩
    have := q.length
    cases xs <;> cases vs <;> first | rfl | (simp at this)
  | ins => cases e
  | scr => cases e

/-! ### subscripts -/
def rIxD (Y : Cfg) : R2 := fun x y H Q => ∃ z dx dy dr, RT Y z H dx x ∧ RT Y z H dy y ∧ ixD dx dy = some dr ∧ ∀ v, RD Y z H dr v → Q v H
theorem ixAt_map {α β : Type} (f : α → β) (xs : List α) (i : Int) : ixAt (xs.map f) i = (ixAt xs i).map f := by
  unfold ixAt
  rw [List.length_map]
  split
  · split
    · rw [List.getElem?_map]
    · rfl
  · split
    · rw [List.getElem?_map]
    · rfl
theorem RDs.ix {Y : Cfg} {z : List Addr} {H : Hp} {ds : List D} {vs : List V} (r : RDs Y z H ds vs) {i : Int} {d : D} (e : ixAt ds i = some d) : ∃ v, L2.atI vs i = some v ∧ RD Y z H d v := by
  rw [show (fun v => L2.atI vs i = some v ∧ RD Y z H d v) = fun v => ixAt vs i = some v ∧ RD Y z H d v from funext fun v => by rw [ixAt_eq]]
  unfold ixAt at e ⊢
  rw [← r.length]
  split at e
  · rename_i h
    rw [if_pos h]
    split at e
    · rename_i h2
      rw [if_pos h2]
      exact r.get e
    · cases e
  · rename_i h
    rw [if_neg h]
    split at e
    · rename_i h2
      rw [if_pos h2]
      exact r.get e
    · cases e
theorem ix_D {X : Cx} {Y : Cfg} (hK : X.K = Y.K) : IxR X (rIxD Y) := by
  intro value slice pins s σ H x y v u Q I vx vy h hsub
  obtain ⟨z, dx, dy, dr, rx, ry, e, q⟩ := h
  unfold ixD at e
  split at e
  · rename_i i
    obtain rfl := ry.int
    split at e
    · obtain ⟨_, p, vs, rfl, h, r⟩ := rx.tup
      obtain ⟨w, e1, e2⟩ := r.ix e
      rw [← hK] at h
      exact ix_tup value slice pins s σ H _ _ v u Q I vx vy ⟨p, vs, i, w, rfl, rfl, h, e1, q _ e2⟩ hsub
    · obtain ⟨p, vs, rfl, h, r⟩ := rx.lst
      obtain ⟨w, e1, e2⟩ := r.ix e
      exact ix_list value slice pins s σ H _ _ v u Q I vx vy ⟨p, vs, i, w, rfl, rfl, .inl (.inl h), e1, q _ e2⟩ hsub
    · rename_i ns
      obtain ⟨p, rfl, h⟩ := rx.scr
      rw [← hK] at h
      cases e2 : ixAt ns i with
      | none => rw [e2] at e; cases e
      | some k =>
        rw [e2] at e
        cases e
        refine ix_list value slice pins s σ H _ _ v u Q I vx vy ⟨p, _, i, .int k, rfl, rfl, h, ?_, q _ (.int k)⟩ hsub
        rw [ixAt_eq, ixAt_map, e2]
        rfl
    · rename_i t
      obtain ⟨rfl, ha⟩ := rx.str
      split at e
      · rename_i c
        cases e2 : ixAt t i with
        | none => rw [e2] at e; cases e
        | some k =>
          rw [e2] at e
          cases e
          refine ix_str value slice pins s σ H _ _ v u Q I vx vy ⟨mkS t, i, k, rfl, rfl, by rw [mkS_len, ← sz_line]; exact c, by rw [ixAt_eq]; exact e2, q _ (.str [k] fun c hc => ?_)⟩ hsub
          have : c = k := by simpa using hc
          subst this
          exact ha _ (ixAt_mem e2)
      · cases e
    · cases e
  · cases e
/-- t[lo:hi]: the object is known -/
def rSlF (K : PySem.W.Frag) : V → Option Int → Option Int → Hp → VK → Prop := fun x lo hi H Q => ∃ a xs, x = .ref a ∧ SqT K H a xs ∧
  (HT.sIx xs.length 0 lo = 0 ∧ HT.sIx xs.length xs.length hi = xs.length → Q (.ref a) H) ∧ (∀ p o, H p = none → o.dict = none → Q (.ref p) (upd H p (.frz o (.tup (cutV xs lo hi)))))
theorem sl_tupF {X : Cx} : SlR X (rSlF X.K) := by
  intro pins s σ H x v vl vu lo hi sl Q I rx hs pl pu h
  obtain ⟨a, xs, e, hx, q1, q2⟩ := h
  subst e
  by_cases hw : HT.sIx xs.length 0 lo = 0 ∧ HT.sIx xs.length xs.length hi = xs.length
  · exact sl_tupA pins s σ H _ v vl vu lo hi sl Q I rx hs pl pu ⟨a, xs, rfl, hx, q1, fun n => absurd hw n⟩
  · cases rx
    obtain ⟨is, r, ht, hz⟩ := I.tuple hx
    have hlen : is.toArray.size = xs.length := by rw [List.size_toArray]; exact r.length.symm
    refine ⟨"tuple", _, PyProof.Rows.slot_tuple_getitem.lookup, ht.typeIs, ?_⟩
    refine HT.getItem_tuple_cut ht hs pl pu (by rw [hlen]; exact hw) ?_ (by rw [hlen]; exact hz)
    rw [hlen]
    refine ⟨.ref s.heap.objs.size, _, I.laid (t' := s.toks) (o := .frz { cls := .type "tuple", data := .seq (((is.drop (HT.sIx xs.length 0 lo)).take (HT.sIx xs.length xs.length hi - HT.sIx xs.length 0 lo))).toArray } (.tup (cutV xs lo hi))) (fun _ _ q => Heap.get?_push_of_some _ q) (Nat.le_refl _) ?_, rfl, q2 _ _ (I.hok.fresh (Nat.le_refl _)) rfl⟩
    exact ⟨Heap.get?_push_size _ rfl, Nat.le_trans (cutV_length xs lo hi) hz, _, (r.drop (HT.sIx xs.length 0 lo)).take (HT.sIx xs.length xs.length hi - HT.sIx xs.length 0 lo), IsTup.new _ _⟩
def rSlD (Y : Cfg) : V → Option Int → Option Int → Hp → VK → Prop := fun x lo hi H Q => ∃ z dx dr, RT Y z H dx x ∧ slD dx lo hi = some dr ∧ (∀ p, H p = none → p ∉ z) ∧ ∀ v H', Nw H H' → RD Y z H' dr v → Q v H'
theorem RDs.cut {Y : Cfg} {z : List Addr} {H : Hp} {ds : List D} {vs : List V} (r : RDs Y z H ds vs) (lo hi : Option Int) : RDs Y z H (cut ds lo hi) (cut vs lo hi) := by
  unfold Kr.cut
  rw [r.length]
  exact (r.drop _).take _
theorem sl_D {X : Cx} {Y : Cfg} (hK : X.K = Y.K) : SlR X (rSlD Y) := by
  intro pins s σ H x v vl vu lo hi sl Q I rx0 hs pl pu h
  obtain ⟨z, dx, dr, rx, e, hz, q⟩ := h
  unfold slD at e
  split at e
  · rename_i xs
    cases e
    obtain ⟨r0, p, vs, rfl, h, r⟩ := rx.tup
    rw [← hK] at h
    refine sl_tupF pins s σ H _ v vl vu lo hi sl Q I rx0 hs pl pu ⟨p, vs, rfl, h, fun w => ?_, fun p' o hp' ho => ?_⟩
    · have : Kr.cut xs lo hi = xs := by
        unfold Kr.cut
        rw [cutAt_eq, cutAt_eq, r.length, w.1, w.2, Nat.sub_zero, List.drop_zero, ← r.length, List.take_length]
      rw [this] at q
      exact q _ _ (.inl rfl) r0
    · rw [cut_V]
      exact q _ _ (.inr ⟨p', _, hp', rfl⟩) (RD.new_tup hz (r.cut lo hi) hp' ho)
  · rename_i xs
    cases e
    obtain ⟨p, vs, rfl, h, r⟩ := rx.lst
    refine sl_list pins s σ H _ v vl vu lo hi sl Q I rx0 hs pl pu ⟨p, vs, rfl, .inl (.inl h), fun p' hp' => ?_⟩
    rw [cut_V]
    exact q _ _ (.inr ⟨p', _, hp', rfl⟩) (RD.new_lst hz (r.cut lo hi) hp')
  · rename_i t
    obtain ⟨rfl, ha⟩ := rx.str
    split at e
    · rename_i c
      cases e
      refine sl_str pins s σ H _ v vl vu lo hi sl Q I rx0 hs pl pu ⟨mkS t, rfl, by rw [mkS_len, ← sz_line]; exact c, ?_⟩
      have e2 : cutS (mkS t) lo hi = mkS (Kr.cut t lo hi) := by
        refine str_ext ?_
        unfold Kr.cut
        rw [cutAt_eq, cutAt_eq]
        first
          | rfl
          | (unfold cutS; simp [mkS, Str.length])
      rw [e2]
      exact q _ _ (.inl rfl) (.str _ (ha.sub fun c h => cut_mem h))
    · cases e
  · cases e
end Kr
/-! KrJ1: the judgements (a token is out), expressions. -/
namespace Kr
open PySem PySem.Spec PyProof.Rows L2

def RE.el {α : Type} (K : α → Sto → Prop) (X : Nat → Sto → Prop) : RE α → Prop
  | .ok a S => K a S
  | .ex c S => X c S
  | .bad => False
section
variable {α β : Type} {K K' : α → Sto → Prop} {L : β → Sto → Prop} {X : Nat → Sto → Prop} {r : RE α} {S : Sto}
theorem RE.el_bind {g : α → Sto → RE β} (h : (r.bind g).el L X) : r.el (fun a S => (g a S).el L X) X := by
  cases r with
  | ok a S => exact h
  | ex c S => exact h
  | bad => exact h
theorem RE.el_imp (h : r.el K X) (i : ∀ a S, K a S → K' a S) : r.el K' X := by
  cases r with
  | ok a S => exact i _ _ h
  | ex c S => exact h
  | bad => exact h
theorem RE.el_of {o : Option α} (h : (RE.of S o).el K X) : ∃ a, o = some a ∧ K a S := by
  cases o with
  | none => exact h.elim
  | some a => exact ⟨a, rfl, h⟩
end

/-- where a def's body runs: the context, what its row says, the places that are its callers', the store and the heap at its entry, the wish about exceptions -/
structure Jx where
  X : Cx
  Y : Cfg
  av : List Addr
  m0 : List Addr
  H0 : Hp
  Wx : WX
/-- what holds of it all through -/
structure Jx.Ok (J : Jx) : Prop where
  hK : J.X.K = J.Y.K
  tk : Takes J.X J.Wx
  un : J.X.A.units + 65 < cLine
structure Sta (J : Jx) (pins : List (Addr × Obj)) (σ : L2.St) (m : List Addr) (S : Sto) (l : Sl) (H : Hp) (s : Shared) : Prop where
  tok : 1 ≤ s.toks
  inv : Inv J.X pins σ H s
  fra : Fra J.m0 J.H0 m H
  rel : Rel J.Y J.av m S l σ H
def Jx.Xc (J : Jx) (σ : L2.St) (l : Sl) (c : Nat) (S : Sto) : Prop := ∀ m' H', Fra J.m0 J.H0 m' H' → Rel J.Y J.av m' S l σ H' → J.Wx (.ref (J.Y.xA c)) none σ H'
/-- how an evaluator's end lies behind a piece of code -/
def Post (J : Jx) (pins : List (Addr × Obj)) (σ : L2.St) (l : Sl) (m : List Addr) (H : Hp) {α β : Type} (R : List Addr → Hp → α → β → Prop) (K : α → Sto → Prop) (u : β) (s' : Shared) : Prop :=
  ∃ w S' m' H', K w S' ∧ Sta J pins σ m' S' l H' s' ∧ Fra m H m' H' ∧ R m' H' w u
def Jg (J : Jx) {α β : Type} (R : List Addr → Hp → α → β → Prop) (c : Sem β) (f : Sl → Sto → RE α) : Prop :=
  ∀ (pins : List (Addr × Obj)) (s : Shared) (σ : L2.St) (H : Hp) (m : List Addr) (S : Sto) (l : Sl) (K : α → Sto → Prop), Sta J pins σ m S l H s → (f l S).el K (J.Xc σ l) →
    wpAny (model J.X.prog J.X.w) J.X.A c (Post J pins σ l m H R K) J.X.xe s
def RelW (Y : Cfg) (av m : List Addr) (H : Hp) (w : W) (u : Value) : Prop := ∃ v, RW Y av m H w v ∧ RelV v u
def RelWs (Y : Cfg) (av m : List Addr) (H : Hp) (ws : List W) (us : List Value) : Prop := ∃ vs, RWs Y av m H ws vs ∧ Vals vs us
def RelD (Y : Cfg) (av m : List Addr) (H : Hp) (d : D) (u : Value) : Prop := ∃ v, RT Y (av ++ m) H d v ∧ RelV v u
def JE (J : Jx) (e : Expr) (f : Sl → Sto → RE W) : Prop := Jg J (RelW J.Y J.av) (eval e J.X.env) f
def JD (J : Jx) (e : Expr) (f : Sl → Sto → RE D) : Prop := Jg J (RelD J.Y J.av) (eval e J.X.env) f
def JT (J : Jx) (e : Expr) (f : Sl → Sto → RE Bool) : Prop := Jg J (fun _ _ a b => a = b) (isTrue e J.X.env (eval e J.X.env)) f
/-- a test whatever its whole is -/
def JTw (J : Jx) (e : Expr) (f : Sl → Sto → RE Bool) : Prop := ∀ wh : Sem Value, Jg J (fun _ _ a b => a = b) (isTrue e J.X.env wh) f
def JA (J : Jx) (es : List Expr) (f : Sl → Sto → RE (List W)) : Prop := ∀ pos : Pos, Jg J (RelWs J.Y J.av) (spliced (backTo pos (starEach es J.X.env))) f
def JO (J : Jx) (e : Option Expr) (f : Sl → Sto → RE (Option Int)) : Prop := Jg J (fun _ _ o u => IsPart u o) (evalPart e J.X.env) f

section
variable {J : Jx} {pins : List (Addr × Obj)} {σ : L2.St} {m m1 m2 : List Addr} {S S1 S2 : Sto} {l : Sl} {H H1 H2 : Hp} {s s1 : Shared}
theorem Sta.mv (st : Sta J pins σ m S l H s) (t : 1 ≤ s1.toks) (I : Inv J.X pins σ H1 s1) (f : Fra m H m1 H1) (r : RSt J.Y J.av m1 S1 H1) : Sta J pins σ m1 S1 l H1 s1 :=
  ⟨t, I, st.fra.trans f, st.rel.fra f r⟩
theorem Sta.free (st : Sta J pins σ m S l H s) {p : Addr} (h : H p = none) : p ∉ J.av ++ m := st.rel.st.fresh h
/-- what a rule by values is to show -/
def QV (J : Jx) (m : List Addr) (H : Hp) (K : W → Sto → Prop) : VK := fun v H' => ∃ w S' m', K w S' ∧ Fra m H m' H' ∧ RSt J.Y J.av m' S' H' ∧ RW J.Y J.av m' H' w v
theorem fin {c : Sem Value} {K : W → Sto → Prop} (st : Sta J pins σ m1 S1 l H1 s) (f : Fra m H m1 H1) (h : wpAny (model J.X.prog J.X.w) J.X.A c (EP J.X pins σ (QV J m1 H1 K)) J.X.xe s) :
    wpAny (model J.X.prog J.X.w) J.X.A c (Post J pins σ l m H (RelW J.Y J.av) K) J.X.xe s := by
  refine wpAny_mono (PySem.wpAny_toks_of st.tok h) (fun u s' q => ?_) fun _ _ z => z.2
  obtain ⟨t, v, H', I, r, w, S', m', k, g, rs, rw'⟩ := q
  exact ⟨w, S', m', H', k, st.mv t I g rs, f.trans g, v, rw', r⟩
theorem QV.nw {K : W → Sto → Prop} {d : D} {v : V} (st : Sta J pins σ m S l H s) (k : K (.d d) S) (n : Nw H H1) (r : RD J.Y (J.av ++ m) H1 d v) : QV J m H K v H1 := by
  rcases n with rfl | ⟨p, o, hp, rfl⟩
  · exact ⟨_, S, m, k, .refl, st.rel.st, r⟩
  · exact ⟨_, S, m, k, .laid hp, st.rel.st.laid hp, r⟩
theorem QV.same {K : W → Sto → Prop} {w : W} {v : V} (st : Sta J pins σ m S l H s) (k : K w S) (r : RW J.Y J.av m H w v) : QV J m H K v H := ⟨_, S, m, k, .refl, st.rel.st, r⟩
/-- a value is there at once -/
theorem Post.at {α β : Type} {R : List Addr → Hp → α → β → Prop} {K : α → Sto → Prop} {w : α} {u : β} (st : Sta J pins σ m1 S1 l H1 s) (f : Fra m H m1 H1) (k : K w S1) (r : R m1 H1 w u) : Post J pins σ l m H R K u s := ⟨w, S1, m1, H1, k, st, f, r⟩
theorem Sta.tok' (st : Sta J pins σ m S l H s) {t : Nat} (h : 1 ≤ t) : Sta J pins σ m S l H { s with toks := t } := ⟨h, st.inv.tok t, st.fra, st.rel⟩
theorem Sta.up (st : Sta J pins σ m S l H s) : Sta J pins σ m S l H { s with toks := s.toks + 1 } := st.tok' (Nat.le_add_left _ _)
/-- a value that is looked at -/
theorem look_RT (st : RSt J.Y J.av m S H) {w : W} {d : D} {v : V} (r : RW J.Y J.av m H w v) (e : look1 S w = some d) : RT J.Y (J.av ++ m) H d v := by
  cases w with
  | d x => cases e; exact .inl r
  | r n =>
    obtain ⟨a, ha, rfl⟩ := r
    have e : (match S[n]? with
      | some (.lst ws) => (W.dats ws).map D.lst
      | _ => none) = some d := e
    cases q : S[n]? with
    | none => rw [q] at e; cases e
    | some o =>
      rw [q] at e
      cases o with
      | lst ws =>
        have e : (W.dats ws).map D.lst = some d := e
        cases q2 : W.dats ws with
        | none => rw [q2] at e; cases e
        | some ds =>
          rw [q2] at e
          cases e
          obtain ⟨b, hb, vs, h1, h2⟩ := st.at_ n _ q
          rw [ha] at hb
          cases hb
          exact .inr ⟨ds, a, vs, rfl, rfl, h1, h2.dats q2⟩
      | ins c ws => cases e
      | dct kvs => cases e
      | dtp kvs => cases e
  | f g cs => cases e
theorem JE.dat {e : Expr} {f : Sl → Sto → RE W} (h : JE J e f) : JD J e (fun l S => asD (f l S)) := by
  intro pins s σ H m S l K st k
  refine thn (h pins s σ H m S l _ st (RE.el_bind k)) fun u s1 ⟨w, S1, m1, H1, k1, st1, f1, v, r1, r2⟩ => ?_
  obtain ⟨d, e, k2⟩ := RE.el_of k1
  exact ⟨d, S1, m1, H1, k2, st1, f1, v, look_RT st1.rel.st r1 e, r2⟩
theorem opt2_RT {α : Type} {g : D → D → Option α} {a : α} (st : RSt J.Y J.av m S H) {v w : W} {x y : V} (rx : RW J.Y J.av m H v x) (ry : RW J.Y J.av m H w y) (e : opt2 g S v w = some a) :
    ∃ dx dy, RT J.Y (J.av ++ m) H dx x ∧ RT J.Y (J.av ++ m) H dy y ∧ g dx dy = some a := by
  unfold opt2 at e
  split at e
  · rename_i dx dy e1 e2
    exact ⟨dx, dy, look_RT st rx e1, look_RT st ry e2, e⟩
  · cases e
end

section
variable {J : Jx} {a b c e : Expr} {fa fb fc : Sl → Sto → RE W} {pos : Pos}
/-! ### names, constants -/
theorem je_none {j : Nat} : JE J (.Constant .none j pos) (fun _ S => .ok (.d .non) S) := fun pins s σ H m S l K st k =>
  Constant_none (Post.at st .refl k ⟨.non, .non, rfl⟩)
theorem je_bool {j : Nat} {x : Bool} : JE J (.Constant (.bool x) j pos) (fun _ S => .ok (.d (.bl x)) S) := fun pins s σ H m S l K st k =>
  Constant_bool (Post.at st .refl k ⟨.bl x, .bl x, rfl⟩)
theorem je_int {j : Nat} {i : Int} : JE J (.Constant (.int i) j pos) (fun _ S => .ok (.d (.int i)) S) := fun pins s σ H m S l K st k =>
  wpAny_Constant_int (Post.at st.up .refl k ⟨.int i, .int i, _, rfl⟩)
theorem je_str {j : Nat} {x : List Nat} (h : Asc x) : JE J (.Constant (.str (mkS x)) j pos) (fun _ S => .ok (.d (.str x)) S) := fun pins s σ H m S l K st k =>
  Calls.Constant_str (Post.at st.up .refl k ⟨.str (mkS x), .str x h, _, rfl⟩)
theorem je_var {i : Nat} {x : Str} (hN : J.X.N[i]? = some x) (hv : Vis J.X.env.scope x) (hd : (x == ("__debug__" : Str)) = false) (hcd : (x == ("__classdict__" : Str)) = false) : JE J (.Name x pos) (rdVar i) := by
  intro pins s σ H m S l K st k
  unfold rdVar at k
  split at k
  · rename_i w e
    obtain ⟨v, e1, r⟩ := st.rel.sl.2 i w e
    exact raw_name hN hv st.inv e1 (fun u ru => Post.at st .refl k ⟨v, r, ru⟩) hd hcd
  · exact k.elim
/-- a constant of the top -/
def KD (Y : Cfg) (d : D) (u : Value) : Prop := ∃ v, RelV v u ∧ ∀ z H, RD Y z H d v
theorem je_glob {x : Str} {u : Value} {d : D} (hg : Gl J.X x) (hm : J.X.mg x = some u) (r : KD J.Y d u) (hd : (x == ("__debug__" : Str)) = false) : JE J (.Name x pos) (fun _ S => .ok (.d d) S) := by
  intro pins s σ H m S l K st k
  obtain ⟨v, r1, r2⟩ := r
  exact ld_glob st.inv hg hm (Post.at st .refl k ⟨v, r2 _ _, r1⟩) hd
/-! ### operators -/
theorem je_bin (ok : J.Ok) (o : Bop) (ha : JE J a fa) (hb : JE J b fb) : JE J (.BinOp a (bopOf o) b pos) (fun l S => (fa l S).bind fun v S => (fb l S).bind fun w S => .of S ((opt2 (evBin o) S v w).map .d)) := by
  intro pins s σ H m S l K st k
  refine wpAny_BinOp (thn (ha pins s σ H m S l _ st (RE.el_bind k)) fun u1 s1 ⟨v, S1, m1, H1, k1, st1, f1, x, r1, q1⟩ => thn (hb pins s1 σ H1 m1 S1 l _ st1 (RE.el_bind k1)) fun u2 s2 ⟨w, S2, m2, H2, k2, st2, f2, y, r2, q2⟩ => ?_)
  obtain ⟨z, e, k3⟩ := RE.el_of k2
  obtain ⟨d, e2, rfl⟩ := Option.map_eq_some_iff.mp e
  obtain ⟨dx, dy, t1, t2, e3⟩ := opt2_RT st2.rel.st (f2.rw r1) r2 e2
  exact fin st2 (f1.trans f2) (op_bin ok.hK o pins s2 σ H2 x y u1 u2 _ st2.inv q1 q2 ⟨_, dx, dy, d, t1, t2, e3, fun p hp => st2.free hp, fun v' H' n rd => QV.nw st2 k3 n rd⟩)
theorem je_neg (ha : JE J a fa) : JE J (.UnaryOp .USub a pos) (fun l S => (asD (fa l S)).bind fun x S => (match x with
    | .int i => .ok (.d (.int (-i))) S
    | _ => .bad)) := by
  intro pins s σ H m S l K st k
  refine UnaryOp_ (thn (ha.dat pins s σ H m S l _ st (RE.el_bind k)) fun u1 s1 ⟨d, S1, m1, H1, k1, st1, f1, x, r1, q1⟩ => ?_)
  cases d with
  | int i =>
    obtain rfl := r1.int
    exact fin st1 f1 (un_neg pins s1 σ H1 _ u1 _ st1.inv q1 ⟨i, rfl, QV.same (w := .d (.int (-i))) st1 k1 (.int _)⟩)
  | _ => exact k1.elim
/-- what a comparison is -/
theorem cmp_go (ok : J.Ok) (o : Cop) {pins : List (Addr × Obj)} {σ : L2.St} {m : List Addr} {S : Sto} {l : Sl} {H : Hp} {s : Shared} {v w : W} {x y : V} {u1 u2 : Value} {t : Bool} {Q : Value → Shared → Prop} (st : Sta J pins σ m S l H s)
    (rx : RW J.Y J.av m H v x) (ry : RW J.Y J.av m H w y) (q1 : RelV x u1) (q2 : RelV y u2) (e : opt2 (evCmp o) S v w = some t) (h : ∀ s', Sta J pins σ m S l H s' → Q (.bool t) s') :
    wpAny (model J.X.prog J.X.w) J.X.A (compareOp (copOf o) u1 u2) Q J.X.xe s := by
  obtain ⟨dx, dy, t1, t2, e3⟩ := opt2_RT st.rel.st rx ry e
  refine wpAny_mono (PySem.wpAny_toks_of st.tok (op_cmp ok.hK ok.un o pins s σ H x y u1 u2 (fun v' H' => v' = .bl t ∧ H' = H) st.inv q1 q2 ⟨_, dx, dy, t, t1, t2, e3, rfl, rfl⟩)) (fun u s' q => ?_) fun _ _ z => z.2
  obtain ⟨tk, v', H', I, r, rfl, rfl⟩ := q
  cases r
  exact h s' ⟨tk, I, st.fra, st.rel⟩
theorem je_cmp (ok : J.Ok) (o : Cop) (ha : JE J a fa) (hb : JE J b fb) (hm : behindInMarks (copOf o) b = false) :
    JE J (.Compare a [copOf o] [b] pos) (fun l S => (fa l S).bind fun v S => (fb l S).bind fun w S => .of S ((opt2 (evCmp o) S v w).map fun k => .d (.bl k))) := by
  intro pins s σ H m S l K st k
  refine wpAny_Compare1 (thn (ha pins s σ H m S l _ st (RE.el_bind k)) fun u1 s1 ⟨v, S1, m1, H1, k1, st1, f1, x, r1, q1⟩ => thn (hb pins s1 σ H1 m1 S1 l _ st1 (RE.el_bind k1)) fun u2 s2 ⟨w, S2, m2, H2, k2, st2, f2, y, r2, q2⟩ => ?_) hm
  obtain ⟨z, e, k3⟩ := RE.el_of k2
  obtain ⟨d, e2, rfl⟩ := Option.map_eq_some_iff.mp e
  exact cmp_go ok o st2 (f2.rw r1) r2 q1 q2 e2 fun s' st' => Post.at st' (f1.trans f2) k3 ⟨.bl d, .bl d, rfl⟩
theorem jt_cmp (ok : J.Ok) (o : Cop) (ha : JE J a fa) (hb : JE J b fb) (hm : behindInMarks (copOf o) b = false) :
    JT J (.Compare a [copOf o] [b] pos) (fun l S => (fa l S).bind fun v S => (fb l S).bind fun w S => .of S (opt2 (evCmp o) S v w)) := by
  intro pins s σ H m S l K st k
  refine wpAny_isTrue_Compare1 (thn (ha pins s σ H m S l _ st (RE.el_bind k)) fun u1 s1 ⟨v, S1, m1, H1, k1, st1, f1, x, r1, q1⟩ => thn (hb pins s1 σ H1 m1 S1 l _ st1 (RE.el_bind k1)) fun u2 s2 ⟨w, S2, m2, H2, k2, st2, f2, y, r2, q2⟩ => ?_) hm
  obtain ⟨z, e, k3⟩ := RE.el_of k2
  exact cmp_go ok o st2 (f2.rw r1) r2 q1 q2 e fun s' st' => wpAny_truthy_bool (Post.at st' (f1.trans f2) k3 rfl)
theorem je_chn (ok : J.Ok) (o p : Cop) (ha : JE J a fa) (hb : JE J b fb) (hc : JE J c fc) (hm : lastMarks [copOf o, copOf p] [b, c] = false) :
    JE J (.Compare a [copOf o, copOf p] [b, c] pos) (fun l S => (fa l S).bind fun v S => (fb l S).bind fun w S => (match opt2 (evCmp o) S v w with
    | some true => (fc l S).bind fun u S => .of S ((opt2 (evCmp p) S w u).map fun k => .d (.bl k))
    | some false => .ok (.d (.bl false)) S
    | none => .bad)) := by
  intro pins s σ H m S l K st k
  refine Compare_chain (thn (ha pins s σ H m S l _ st (RE.el_bind k)) fun u1 s1 ⟨v, S1, m1, H1, k1, st1, f1, x, r1, q1⟩ => chain_link (thn (hb pins s1 σ H1 m1 S1 l _ st1 (RE.el_bind k1)) fun u2 s2 ⟨w, S2, m2, H2, k2, st2, f2, y, r2, q2⟩ => ?_)) hm
  dsimp only at k2
  split at k2
  · rename_i e
    refine cmp_go ok o st2 (f2.rw r1) r2 q1 q2 e fun s3 st3 => wpAny_truthy_bool (ite_tt (chain_last ?_))
    refine thn (hc pins s3 σ H2 m2 S2 l _ st3 (RE.el_bind k2)) fun u3 s4 ⟨w3, S4, m4, H4, k4, st4, f4, y3, r4, q4⟩ => ?_
    obtain ⟨z, e4, k5⟩ := RE.el_of k4
    obtain ⟨d, e5, rfl⟩ := Option.map_eq_some_iff.mp e4
    exact cmp_go ok p st4 (f4.rw r2) r4 q2 q4 e5 fun s' st' => Post.at st' ((f1.trans f2).trans f4) k5 ⟨.bl d, .bl d, rfl⟩
  · rename_i e
    exact cmp_go ok o st2 (f2.rw r1) r2 q1 q2 e fun s3 st3 => wpAny_truthy_bool (ite_ff (Post.at st3 (f1.trans f2) k2 ⟨.bl false, .bl false, rfl⟩))
  · exact k2.elim
theorem jt_chn (ok : J.Ok) (o p : Cop) (ha : JE J a fa) (hb : JE J b fb) (hc : JE J c fc) (hm : lastMarks [copOf o, copOf p] [b, c] = false) :
    JT J (.Compare a [copOf o, copOf p] [b, c] pos) (fun l S => (fa l S).bind fun v S => (fb l S).bind fun w S => (match opt2 (evCmp o) S v w with
    | some true => (fc l S).bind fun u S => .of S (opt2 (evCmp p) S w u)
    | some false => .ok false S
    | none => .bad)) := by
  intro pins s σ H m S l K st k
  refine isTrue_chain (thn (ha pins s σ H m S l _ st (RE.el_bind k)) fun u1 s1 ⟨v, S1, m1, H1, k1, st1, f1, x, r1, q1⟩ => test_link (thn (hb pins s1 σ H1 m1 S1 l _ st1 (RE.el_bind k1)) fun u2 s2 ⟨w, S2, m2, H2, k2, st2, f2, y, r2, q2⟩ => ?_)) hm
  dsimp only at k2
  split at k2
  · rename_i e
    refine cmp_go ok o st2 (f2.rw r1) r2 q1 q2 e fun s3 st3 => wpAny_truthy_bool (ite_tt (test_last ?_))
    refine thn (hc pins s3 σ H2 m2 S2 l _ st3 (RE.el_bind k2)) fun u3 s4 ⟨w3, S4, m4, H4, k4, st4, f4, y3, r4, q4⟩ => ?_
    obtain ⟨z, e4, k5⟩ := RE.el_of k4
    exact cmp_go ok p st4 (f4.rw r2) r4 q2 q4 e4 fun s' st' => wpAny_truthy_bool (Post.at st' ((f1.trans f2).trans f4) k5 rfl)
  · rename_i e
    exact cmp_go ok o st2 (f2.rw r1) r2 q1 q2 e fun s3 st3 => wpAny_truthy_bool (ite_ff (Post.at st3 (f1.trans f2) k2 rfl))
  · exact k2.elim
/-! ### truth -/
theorem truth_go (ok : J.Ok) {pins : List (Addr × Obj)} {σ : L2.St} {m : List Addr} {S : Sto} {l : Sl} {H : Hp} {s : Shared} {d : D} {x : V} {u : Value} {t : Bool} {Q : Bool → Shared → Prop} (st : Sta J pins σ m S l H s)
    (r : RT J.Y (J.av ++ m) H d x) (q : RelV x u) (e : truD d = some t) (h : ∀ s', Sta J pins σ m S l H s' → Q t s') : wpAny (model J.X.prog J.X.w) J.X.A (truthy u) Q J.X.xe s := by
  refine wpAny_mono (PySem.wpAny_toks_of st.tok (tru_ok pins s σ H x u (fun b H' => b = t ∧ H' = H) st.inv q ⟨t, tru_D ok.hK r e, rfl, rfl⟩)) (fun b s' z => ?_) fun _ _ z => z.2
  obtain ⟨tk, H', I, rfl, rfl⟩ := z
  exact h s' ⟨tk, I, st.fra, st.rel⟩
theorem jt_val (ok : J.Ok) (ha : JE J a fa) (hp : ∀ whole, isTrue a J.X.env whole = (do let v ← whole; standAt a.pos; holding [v] (truthy v))) : JT J a (fun l S => (asD (fa l S)).bind fun x S => .of S (truD x)) := by
  intro pins s σ H m S l K st k
  refine isTrue_plain (thn (ha.dat pins s σ H m S l _ st (RE.el_bind k)) fun u1 s1 ⟨d, S1, m1, H1, k1, st1, f1, x, r1, q1⟩ => ?_) (hp _)
  obtain ⟨t, e, k2⟩ := RE.el_of k1
  exact truth_go ok st1 r1 q1 e fun s' st' => Post.at st' f1 k2 rfl
theorem je_not (ok : J.Ok) (ha : JE J a fa) : JE J (.UnaryOp .Not a pos) (fun l S => (asD (fa l S)).bind fun x S => .of S ((truD x).map fun k => .d (.bl (!k)))) := by
  intro pins s σ H m S l K st k
  refine UnaryOp_ (thn (ha.dat pins s σ H m S l _ st (RE.el_bind k)) fun u1 s1 ⟨d, S1, m1, H1, k1, st1, f1, x, r1, q1⟩ => ?_)
  obtain ⟨z, e, k2⟩ := RE.el_of k1
  obtain ⟨t, e2, rfl⟩ := Option.map_eq_some_iff.mp e
  exact not_of (truth_go ok st1 r1 q1 e2 fun s' st' => Post.at st' f1 k2 ⟨.bl (!t), .bl _, rfl⟩)
variable {ta tb : Sl → Sto → RE Bool} {rest : List Expr}
theorem jt_not (ha : JT J a ta) : JT J (.UnaryOp .Not a pos) (fun l S => (ta l S).bind fun k S => .ok (!k) S) := by
  intro pins s σ H m S l K st k
  refine isTrue_not (thn (ha pins s σ H m S l _ st (RE.el_bind k)) fun b s1 ⟨t, S1, m1, H1, k1, st1, f1, e⟩ => ?_)
  subst e
  exact Post.at st1 f1 k1 rfl
theorem JTw.pt {f : Sl → Sto → RE Bool} (h : JTw J a f) : JT J a f := h _
theorem jt_and1 (ha : JT J a ta) : JTw J (.BoolOp .And [a] pos) (fun l S => (ta l S).bind fun k S => if k then .ok true S else .ok false S) := by
  intro wh pins s σ H m S l K st k
  refine isTrue_and (thn (ha pins s σ H m S l _ st (RE.el_bind k)) fun b s1 ⟨t, S1, m1, H1, k1, st1, f1, e⟩ => ?_)
  subst e
  cases t with
  | true => exact isTrue_and_nil (Post.at st1 f1 k1 rfl)
  | false => exact Post.at st1 f1 k1 rfl
theorem jt_or1 (ha : JT J a ta) : JTw J (.BoolOp .Or [a] pos) (fun l S => (ta l S).bind fun k S => if k then .ok true S else .ok false S) := by
  intro wh pins s σ H m S l K st k
  refine isTrue_or (thn (ha pins s σ H m S l _ st (RE.el_bind k)) fun b s1 ⟨t, S1, m1, H1, k1, st1, f1, e⟩ => ?_)
  subst e
  cases t with
  | true => exact Post.at st1 f1 k1 rfl
  | false => exact isTrue_or_nil (Post.at st1 f1 k1 rfl)
theorem jt_and (ha : JT J a ta) (hb : JTw J (.BoolOp .And (b :: rest) pos) tb) : JTw J (.BoolOp .And (a :: b :: rest) pos) (fun l S => (ta l S).bind fun k S => if k then tb l S else .ok false S) := by
  intro wh pins s σ H m S l K st k
  refine isTrue_and (thn (ha pins s σ H m S l _ st (RE.el_bind k)) fun b s1 ⟨t, S1, m1, H1, k1, st1, f1, e⟩ => ?_)
  subst e
  cases t with
  | true =>
    refine thn (hb wh pins s1 σ H1 m1 S1 l _ st1 k1) fun b2 s2 ⟨t2, S2, m2, H2, k2, st2, f2, e⟩ => ?_
    exact ⟨t2, S2, m2, H2, k2, st2, f1.trans f2, e⟩
  | false => exact Post.at st1 f1 k1 rfl
theorem jt_or (ha : JT J a ta) (hb : JTw J (.BoolOp .Or (b :: rest) pos) tb) : JTw J (.BoolOp .Or (a :: b :: rest) pos) (fun l S => (ta l S).bind fun k S => if k then .ok true S else tb l S) := by
  intro wh pins s σ H m S l K st k
  refine isTrue_or (thn (ha pins s σ H m S l _ st (RE.el_bind k)) fun b s1 ⟨t, S1, m1, H1, k1, st1, f1, e⟩ => ?_)
  subst e
  cases t with
  | true => exact Post.at st1 f1 k1 rfl
  | false =>
    refine thn (hb wh pins s1 σ H1 m1 S1 l _ st1 k1) fun b2 s2 ⟨t2, S2, m2, H2, k2, st2, f2, e⟩ => ?_
    exact ⟨t2, S2, m2, H2, k2, st2, f1.trans f2, e⟩
theorem je_one {op : BoolOp} (ha : JE J a fa) : JE J (.BoolOp op [a] pos) fa := fun pins s σ H m S l K st k => BoolOp_one (ha pins s σ H m S l K st k)
theorem je_and (ha : JE J a fa) (hb : JE J (.BoolOp .And (b :: rest) pos) fb) : JE J (.BoolOp .And (a :: b :: rest) pos) (fun l S => (asD (fa l S)).bind fun x S => (match x with
      | .bl true => fb l S
      | .bl false => .ok (.d (.bl false)) S
      | _ => .bad)) := by
  intro pins s σ H m S l K st k
  refine BoolOp_and (thn (ha.dat pins s σ H m S l _ st (RE.el_bind k)) fun u1 s1 ⟨d, S1, m1, H1, k1, st1, f1, x, r1, q1⟩ => ?_)
  dsimp only at k1
  split at k1
  · obtain rfl := r1.bl
    cases q1
    refine wpAny_truthy_bool (thn (hb pins s1 σ H1 m1 S1 l _ st1 k1) fun u2 s2 ⟨w2, S2, m2, H2, k2, st2, f2, r2⟩ => ⟨w2, S2, m2, H2, k2, st2, f1.trans f2, r2⟩)
  · obtain rfl := r1.bl
    cases q1
    exact wpAny_truthy_bool (Post.at st1 f1 k1 ⟨.bl false, .bl false, rfl⟩)
  · exact k1.elim
theorem je_or (ha : JE J a fa) (hb : JE J (.BoolOp .Or (b :: rest) pos) fb) : JE J (.BoolOp .Or (a :: b :: rest) pos) (fun l S => (asD (fa l S)).bind fun x S => (match x with
      | .bl false => fb l S
      | .bl true => .ok (.d (.bl true)) S
      | _ => .bad)) := by
  intro pins s σ H m S l K st k
  refine BoolOp_or (thn (ha.dat pins s σ H m S l _ st (RE.el_bind k)) fun u1 s1 ⟨d, S1, m1, H1, k1, st1, f1, x, r1, q1⟩ => ?_)
  dsimp only at k1
  split at k1
  · obtain rfl := r1.bl
    cases q1
    refine wpAny_truthy_bool (thn (hb pins s1 σ H1 m1 S1 l _ st1 k1) fun u2 s2 ⟨w2, S2, m2, H2, k2, st2, f2, r2⟩ => ⟨w2, S2, m2, H2, k2, st2, f1.trans f2, r2⟩)
  · obtain rfl := r1.bl
    cases q1
    exact wpAny_truthy_bool (Post.at st1 f1 k1 ⟨.bl true, .bl true, rfl⟩)
  · exact k1.elim
theorem je_ite (hc : JT J c ta) (ha : JE J a fa) (hb : JE J b fb) : JE J (.IfExp c a b pos) (fun l S => (ta l S).bind fun k S => if k then fa l S else fb l S) := by
  intro pins s σ H m S l K st k
  refine wpAny_IfExp (thn (hc pins s σ H m S l _ st (RE.el_bind k)) fun d s1 ⟨t, S1, m1, H1, k1, st1, f1, e⟩ => ?_)
  subst e
  cases t with
  | true => exact thn (ha pins s1 σ H1 m1 S1 l _ st1 k1) fun u2 s2 ⟨w2, S2, m2, H2, k2, st2, f2, r2⟩ => ⟨w2, S2, m2, H2, k2, st2, f1.trans f2, r2⟩
  | false => exact thn (hb pins s1 σ H1 m1 S1 l _ st1 k1) fun u2 s2 ⟨w2, S2, m2, H2, k2, st2, f2, r2⟩ => ⟨w2, S2, m2, H2, k2, st2, f1.trans f2, r2⟩
/-! ### argument lists -/
theorem ja_nil : JA J [] (fun _ S => .ok [] S) := fun _ pins s σ H m S l K st k => Calls.spliced_nil (Post.at st .refl k ⟨[], .nil, .nil⟩)
theorem ja_cons {es : List Expr} {fs : Sl → Sto → RE (List W)} (ha : JE J e fa) (hr : JA J es fs) (hs : starEach (e :: es) J.X.env = (false, eval e J.X.env) :: starEach es J.X.env) :
    JA J (e :: es) (fun l S => (fa l S).bind fun w S => (fs l S).bind fun ws S => .ok (w :: ws) S) := by
  intro pos pins s σ H m S l K st k
  rw [hs]
  show wpAny _ _ (spliced ((false, eval e J.X.env) :: backTo pos (starEach es J.X.env))) _ _ s
  refine Calls.spliced_cons (thn (ha pins s σ H m S l _ st (RE.el_bind k)) fun u1 s1 ⟨v, S1, m1, H1, k1, st1, f1, x, r1, q1⟩ => ?_)
  refine thn (hr pos pins s1 σ H1 m1 S1 l _ st1 (RE.el_bind k1)) fun us s2 ⟨ws, S2, m2, H2, k2, st2, f2, xs, r2, q2⟩ => ?_
  exact ⟨_, S2, m2, H2, k2, st2, f1.trans f2, _, .cons (f2.rw r1) r2, .cons q1 q2⟩
/-! ### parts of a slice -/
theorem jo_none : JO J none (fun _ S => .ok none S) := fun pins s σ H m S l K st k => by
  rw [evalPart_none]
  exact wpAny_pure (Post.at st .refl k .none)
theorem jo_some (ha : JE J e fa) (hp : evalPart (some e) J.X.env = eval e J.X.env) : JO J (some e) (fun l S => (asD (fa l S)).bind fun x S => (match x with
    | .int i => .ok (some i) S
    | _ => .bad)) := by
  intro pins s σ H m S l K st k
  rw [hp]
  refine thn (ha.dat pins s σ H m S l _ st (RE.el_bind k)) fun u1 s1 ⟨d, S1, m1, H1, k1, st1, f1, x, r1, q1⟩ => ?_
  cases d with
  | int i =>
    obtain rfl := r1.int
    obtain ⟨t, rfl⟩ := q1
    exact Post.at st1 f1 k1 (.int i t)
  | _ => exact k1.elim
/-! ### subscripts -/
theorem je_sl (ok : J.Ok) {lo hi : Option Expr} {fl fh : Sl → Sto → RE (Option Int)} {p2 : Pos} (ha : JE J a fa) (hl : JO J lo fl) (hh : JO J hi fh) : JE J (.Subscript a (.Slice lo hi none p2) pos)
    (fun l S => (fa l S).bind fun v S => (fl l S).bind fun i S => (fh l S).bind fun j S => .of S (((look1 S v).bind fun x => slD x i j).map .d)) := by
  intro pins s σ H m S l K st k
  refine Subscript_ (thn (ha pins s σ H m S l _ st (RE.el_bind k)) fun u1 s1 ⟨v, S1, m1, H1, k1, st1, f1, x, r1, q1⟩ => ?_)
  refine wpAny_Slice (thn (hl pins s1 σ H1 m1 S1 l _ st1 (RE.el_bind k1)) fun vl s2 ⟨i, S2, m2, H2, k2, st2, f2, p2⟩ => thn (hh pins s2 σ H2 m2 S2 l _ st2 (RE.el_bind k2)) fun vh s3 ⟨j, S3, m3, H3, k3, st3, f3, p3⟩ => ?_)
  rw [evalPart_none]
  refine wpAny_pure ?_
  obtain ⟨z, e, k4⟩ := RE.el_of k3
  obtain ⟨d, e2, rfl⟩ := Option.map_eq_some_iff.mp e
  obtain ⟨dx, e3, e4⟩ := Option.bind_eq_some_iff.mp e2
  have st4 : Sta J pins σ m3 S3 l H3 { s3 with heap := s3.heap.push { cls := .type "slice", data := .fields #[vl, vh, .none] } } :=
    ⟨st3.tok, st3.inv.kept (t' := s3.toks) fun _ _ q => Heap.get?_push_of_some _ q, st3.fra, st3.rel⟩
  obtain ⟨T, id, hT, ht, hg⟩ := sl_D ok.hK pins { s3 with heap := s3.heap.push { cls := .type "slice", data := .fields #[vl, vh, .none] } } σ H3 x u1 vl vh i j s3.heap.objs.size (QV J m3 H3 K) st4.inv q1 (Heap.IsSliceOf.new ..) p2 p3
    ⟨_, dx, d, look_RT st4.rel.st (f3.rw (f2.rw r1)) e3, e4, fun p hp => st4.free hp, fun v' H' n rd => QV.nw st4 k4 n rd⟩
  refine fin st4 ((f1.trans f2).trans f3) ?_
  exact tail_any (ops := [.ref s3.heap.objs.size, u1]) ht hT hg (by with_unfolding_all rfl)
theorem RWs.ix {Y : Cfg} {av m : List Addr} {H : Hp} {ws : List W} {vs : List V} (r : RWs Y av m H ws vs) {i : Int} {w : W} (e : ixAt ws i = some w) : ∃ v, L2.atI vs i = some v ∧ RW Y av m H w v := by
  rw [show (fun v => L2.atI vs i = some v ∧ RW Y av m H w v) = fun v => ixAt vs i = some v ∧ RW Y av m H w v from funext fun v => by rw [ixAt_eq]]
  unfold ixAt at e ⊢
  rw [← r.length]
  split at e
  · rename_i h
    rw [if_pos h]
    split at e
    · rename_i h2
      rw [if_pos h2]
      exact r.get e
    · cases e
  · rename_i h
    rw [if_neg h]
    split at e
    · rename_i h2
      rw [if_pos h2]
      exact r.get e
    · cases e
theorem je_ix (ok : J.Ok) (ha : JE J a fa) (hb : JE J b fb) (hs : ∀ o i, subscripted b false o i = operate [o, i] (getItem o i)) :
    JE J (.Subscript a b pos) (fun l S => (fa l S).bind fun v S => (asD (fb l S)).bind fun i S => evIx S v i) := by
  intro pins s σ H m S l K st k
  refine Subscript_ (thn (ha pins s σ H m S l _ st (RE.el_bind k)) fun u1 s1 ⟨v, S1, m1, H1, k1, st1, f1, x, r1, q1⟩ => thn (hb.dat pins s1 σ H1 m1 S1 l _ st1 (RE.el_bind k1)) fun u2 s2 ⟨i, S2, m2, H2, k2, st2, f2, y, r2, q2⟩ => ?_)
  refine fin st2 (f1.trans f2) ?_
  have rx := f2.rw r1
  unfold evIx at k2
  cases v with
  | d x0 =>
    obtain ⟨z, e, k3⟩ := RE.el_of k2
    obtain ⟨d, e2, rfl⟩ := Option.map_eq_some_iff.mp e
    exact ix_D ok.hK a b pins s2 σ H2 x y u1 u2 _ st2.inv q1 q2 ⟨_, x0, i, d, .inl rx, r2, e2, fun v' rd => QV.same (w := .d d) st2 k3 rd⟩ (hs _ _)
  | r n =>
    obtain ⟨p, hp, rfl⟩ := rx
    dsimp only at k2
    split at k2
    · rename_i xs i e
      obtain rfl := r2.int
      obtain ⟨w, e1, k3⟩ := RE.el_of k2
      obtain ⟨p', hp', vs, h1, h2⟩ := st2.rel.st.at_ n _ e
      rw [hp] at hp'
      cases hp'
      obtain ⟨v', e3, r3⟩ := h2.ix e1
      exact ix_list a b pins s2 σ H2 _ _ u1 u2 _ st2.inv q1 q2 ⟨p, vs, i, v', rfl, rfl, .inl (.inl h1), e3, QV.same st2 k3 r3⟩ (hs _ _)
    · exact k2.elim
  | f g cs => exact k2.elim
/-! ### a tuple, a list -/
theorem RSt.lenA {Y : Cfg} {av m : List Addr} {H : Hp} {ws : List W} {vs : List V} (r : RWs Y av m H ws vs) : ws.length = vs.length := r.length
theorem je_tup {es : List Expr} {fs : Sl → Sto → RE (List W)} {x1 : Nat} (h : JA J es fs) : JE J (.Tuple es x1 pos) (fun l S => (fs l S).bind fun ws S => (match W.dats ws with
    | some ds => if ds.length ≤ sz then .ok (.d (.tup ds)) S else .bad
    | none => .bad)) := by
  intro pins s σ H m S l K st k
  refine wpAny_Tuple_spliced (thn (h pos pins s σ H m S l _ st (RE.el_bind k)) fun us s1 ⟨ws, S1, m1, H1, k1, st1, f1, vs, r1, q1⟩ => ?_)
  dsimp only at k1
  split at k1
  · rename_i ds e
    split at k1
    · rename_i hl
      have rd := r1.dats e
      have hz : vs.length ≤ sizeLine := by rw [← sz_line, ← rd.length]; exact hl
      refine ⟨by rw [← q1.length]; exact hz, ?_⟩
      have hf : H1 s1.heap.objs.size = none := st1.inv.hok.fresh (Nat.le_refl _)
      refine ⟨.d (.tup ds), S1, m1, upd H1 s1.heap.objs.size (.frz { cls := .type "tuple", data := .seq us.toArray } (.tup vs)), k1, ?_, f1.trans (.laid hf), .ref s1.heap.objs.size, RD.new_tup (fun p hp => st1.free hp) rd hf rfl, rfl⟩
      exact st1.mv (s1 := { s1 with heap := s1.heap.push _ }) st1.tok (st1.inv.laid (t' := s1.toks) (fun _ _ q => Heap.get?_push_of_some _ q) (Nat.le_refl _) ⟨Heap.get?_push_size _ rfl, hz, us, q1, IsTup.new _ _⟩) (.laid hf) (st1.rel.st.laid hf)
    · exact k1.elim
  · exact k1.elim
theorem RO.new_lst {Y : Cfg} {av m : List Addr} {H : Hp} {S : Sto} {p : Addr} {ws : List W} {vs : List V} (r : RWs Y av m H ws vs) (hp : H p = none) : RO Y av (m ++ [p]) (upd H p (.lst vs)) p (.lst ws) :=
  ⟨vs, upd_same, (Fra.push hp).rws r⟩
theorem je_lst {es : List Expr} {fs : Sl → Sto → RE (List W)} {keep : Bool} (h : JA J es fs) : JE J (.List es pos) (fun l S => (fs l S).bind fun ws S => if ws.length ≤ sz then (if keep then .ok (.r S.length) (S ++ [.lst ws]) else match W.dats ws with
    | some ds => .ok (.d (.lst ds)) S
    | none => .bad) else .bad) := by
  intro pins s σ H m S l K st k
  refine wpAny_List_spliced (thn (h pos pins s σ H m S l _ st (RE.el_bind k)) fun us s1 ⟨ws, S1, m1, H1, k1, st1, f1, vs, r1, q1⟩ => ?_)
  dsimp only at k1
  split at k1
  · rename_i hl
    have hz : vs.length ≤ sizeLine := by rw [← sz_line, ← r1.length]; exact hl
    refine ⟨by rw [← q1.length]; exact hz, ?_⟩
    have hf : H1 s1.heap.objs.size = none := st1.inv.hok.fresh (Nat.le_refl _)
    have hI : Inv J.X pins σ (upd H1 s1.heap.objs.size (.lst vs)) { s1 with heap := s1.heap.push { cls := .type "list", data := .seq us.toArray } } :=
      st1.inv.laid (t' := s1.toks) (fun _ _ q => Heap.get?_push_of_some _ q) (Nat.le_refl _) ⟨hz, us, 0, q1, Heap.get?_push_size _ rfl⟩
    split at k1
    · refine ⟨_, _, m1 ++ [s1.heap.objs.size], _, k1, st1.mv (s1 := { s1 with heap := s1.heap.push _ }) st1.tok hI (.push hf) (st1.rel.st.push hf (RO.new_lst (S := S1) r1 hf)), f1.trans (.push hf), .ref s1.heap.objs.size, ⟨_, ?_, rfl⟩, rfl⟩
      rw [← st1.rel.st.len, List.getElem?_append_right (Nat.le_refl _), Nat.sub_self]
      rfl
    · split at k1
      · rename_i ds e
        exact ⟨_, _, m1, _, k1, st1.mv (s1 := { s1 with heap := s1.heap.push _ }) st1.tok hI (.laid hf) (st1.rel.st.laid hf), f1.trans (.laid hf), .ref s1.heap.objs.size, RD.new_lst (fun p hp => st1.free hp) (r1.dats e) hf, rfl⟩
      · exact k1.elim
  · exact k1.elim
/-! ### e.f -/
theorem zip_look {f : Str} : ∀ {fs : List Str} {vs : List V} {k : Nat} {v : V}, fs.Nodup → fs[k]? = some f → vs[k]? = some v → (fs.zip vs).lookup f = some v
  | [], _, _, _, _, e, _ => by simp at e
  | _ :: _, [], _, _, _, _, e => by simp at e
  | a :: fs, b :: vs, 0, v, _, e1, e2 => by
    simp at e1 e2
    subst e1 e2
    simp [List.lookup]
  | a :: fs, b :: vs, k + 1, v, nd, e1, e2 => by
    simp only [List.getElem?_cons_succ] at e1 e2
    have hne : (f == a) = false := by
      refine beq_eq_false_iff_ne.mpr fun z => ?_
      subst z
      exact (List.nodup_cons.mp nd).1 (List.mem_of_getElem? e1)
    show ((a, b) :: fs.zip vs).lookup f = some v
    simp only [List.lookup, hne]
    exact zip_look (List.nodup_cons.mp nd).2 e1 e2
/-- a field of a class -/
structure FldOk (J : Jx) (c k : Nat) (f : Str) : Prop where
  cls : Cls J.X.K (J.Y.cA c)
  no : NoAttr J.X.K (J.Y.cA c) f
  at_ : (J.Y.fs c)[k]? = some f
  nd : (J.Y.fs c).Nodup
theorem je_fld {c k : Nat} {f : Str} (F : FldOk J c k f) (ha : JE J a fa) (hb : attributeBase a f J.X.env (eval a J.X.env) = eval a J.X.env) : JE J (.Attribute a f pos) (fun l S => (fa l S).bind fun v S => evFld c k S v) := by
  intro pins s σ H m S l K st kk
  refine attr_of hb (thn (ha pins s σ H m S l _ st (RE.el_bind kk)) fun u1 s1 ⟨v, S1, m1, H1, k1, st1, f1, x, r1, q1⟩ => ?_)
  have go : ∀ {p dx : Addr} {vs : List V} {w : W} {y : V}, x = .ref p → H1 p = some (.ins (J.Y.cA c) dx ((J.Y.fs c).zip vs)) → vs[k]? = some y → RW J.Y J.av m1 H1 w y → K w S1 →
      wpAny (model J.X.prog J.X.w) J.X.A (getAttr u1 f true) (Post J pins σ l m H (RelW J.Y J.av) K) J.X.xe s1 := by
    intro p dx vs w y ex hp e rw' kw
    subst ex
    cases q1
    refine fin st1 f1 ?_
    exact getattr_ok st1.inv hp F.cls F.no (zip_look F.nd F.at_ e) fun u' s2 I2 ru => ⟨y, H1, I2, ru, QV.same st1 kw rw'⟩
  unfold evFld at k1
  dsimp only at k1
  split at k1
  · rename_i c' xs
    split at k1
    · rename_i hc
      subst hc
      split at k1
      · rename_i x0 e
        cases r1 with
        | ins hp n hl r =>
          obtain ⟨y, e1, r2⟩ := r.get e
          exact go (w := .d x0) rfl hp e1 r2 k1
      · exact k1.elim
    · exact k1.elim
  · rename_i n
    split at k1
    · rename_i c' xs e0
      split at k1
      · rename_i hc
        subst hc
        split at k1
        · rename_i x0 e
          obtain ⟨p, hp, rfl⟩ := r1
          obtain ⟨p', hp', dx, vs, h1, h2, h3⟩ := st1.rel.st.at_ n _ e0
          rw [hp] at hp'
          cases hp'
          obtain ⟨y, e1, r2⟩ := h3.get e
          exact go rfl h1 e1 r2 k1
        · exact k1.elim
      · exact k1.elim
    · exact k1.elim
  · exact k1.elim
end
end Kr
/-! KrJ2: built-in functions, methods of built-in types. -/
namespace Kr
open PySem PySem.Spec PyProof.Rows L2

inductive RTs (Y : Cfg) (z : List Addr) (H : Hp) : List D → List V → Prop
  | nil : RTs Y z H [] []
  | cons {d : D} {v : V} {ds : List D} {vs : List V} (h : RT Y z H d v) (r : RTs Y z H ds vs) : RTs Y z H (d :: ds) (v :: vs)
theorem looks_RT {J : Jx} {m : List Addr} {S : Sto} {H : Hp} (st : RSt J.Y J.av m S H) : ∀ {ws : List W} {vs : List V} {ds : List D}, RWs J.Y J.av m H ws vs → looks S ws = some ds → RTs J.Y (J.av ++ m) H ds vs
  | _, _, _, .nil, e => by cases e; exact .nil
  | w :: ws, _, _, .cons h r, e => by
    obtain ⟨x, e1, e2⟩ := Option.bind_eq_some_iff.mp (show ((look1 S w).bind fun x => (looks S ws).map (x :: ·)) = some _ from e)
    obtain ⟨ds, e3, rfl⟩ := Option.map_eq_some_iff.mp e2
    exact .cons (look_RT st h e1) (looks_RT st r e3)

/-! ### functions -/
def biN : Bi → Option Str
  | .len => some "len" | .abs => some "abs" | .int => some "int" | .str => some "str" | .bool => some "bool" | .list => some "list" | .tuple => some "tuple" | .max => some "max" | .min => some "min" | _ => none
def biV : Bi → Value
  | .len => .builtin "len" | .abs => .builtin "abs" | .max => .builtin "max" | .min => .builtin "min" | .int => .type "int" | .str => .type "str" | .bool => .type "bool" | .list => .type "list" | .tuple => .type "tuple" | _ => .none
theorem boot_bi {b : Bi} {x : Str} (h : biN b = some x) : bootBuiltins x = some (biV b) ∧ x ≠ "__name__" ∧ (x == ("__debug__" : Str)) = false := by
  cases b <;> cases h <;> exact ⟨by decide +kernel, by decide +kernel, by decide +kernel⟩
def rBi (Y : Cfg) (b : Bi) : List V → Hp → VK → Prop := fun xs H Q => ∃ z ds dr, RTs Y z H ds xs ∧ evBi b ds = some dr ∧ (∀ p, H p = none → p ∉ z) ∧ ∀ v H', Nw H H' → RD Y z H' dr v → Q v H'
section
variable {X : Cx} {Y : Cfg}
open PySem.Sem (wp) in
theorem meets_bool_tup (l : Addr) (items : Array Value) (hfit : (items.size : Int) < 2 ^ 63) :
    Meets (Builtin.«bool.__new__» ⟨[.type "bool", .ref l], []⟩) (fun _ R s => IsTup s.heap l items ∧ R (.ok (.ret (.bool (!items.isEmpty)))) { s with toks := s.toks + 1 + 1 }) :=
  Meets.of_wp fun prog w A R s hs => by
    obtain ⟨ht, hs⟩ := hs
    obtain ⟨hp, g, d, tk, os⟩ := s
    have f1 := F.conv_sub_bool
    repeat (any_goals (first | assumption | (with_reducible refine truthy_tuple ht hfit ?_) | wp_step))
    all_goals first | exact ⟨_, rfl, hs⟩ | exact hs | skip
theorem call_boolT : CallR X (.type "bool") (fun xs H Q => ∃ (a : Addr) (zs : List V), xs = [.ref a] ∧ SqT X.K H a zs ∧ Q (.bl (!zs.isEmpty)) H) := by
  intro pins s σ H xs us Q I r h
  obtain ⟨a, zs, rfl, hq, q⟩ := h
  obtain ⟨u, rfl, ru⟩ := vals1 r
  cases ru
  obtain ⟨is, rv, pl, hz⟩ := I.tuple hq
  have hl := line63
  have hlen := rv.length
  refine call_bool_1 (meets_bool_tup a is.toArray (by simp only [List.size_toArray]; omega)) ⟨pl, rfl, ?_⟩
  exact ⟨.bl (!zs.isEmpty), H, I.tok _, by rw [isEmpty_of rv]; rfl, q⟩
theorem call_tupF : CallR X (.type "tuple") (fun xs H Q => ∃ p ys, xs = [.ref p] ∧ SqL X.K H p ys ∧ ∀ l o, H l = none → o.dict = none → Q (.ref l) (upd H l (.frz o (.tup ys)))) := by
  intro pins s σ H xs us Q I r h
  obtain ⟨p, ys, rfl, hq, q⟩ := h
  obtain ⟨u, rfl, rx⟩ := vals1 r
  cases rx
  obtain ⟨is, r', pl, hz⟩ := I.list hq
  have hlen := r'.length
  refine call_tuple_list pl.isList (fun h' kp => ?_) (by simp only [List.size_toArray] <;> omega)
  have I1 : Inv X pins σ H { s with heap := h' } := I.kept (t' := s.toks) kp
  have I2 : Inv X pins σ (upd H h'.objs.size (.frz { cls := .type "tuple", data := .seq is.toArray } (.tup ys))) { s with heap := h'.push { cls := .type "tuple", data := .seq is.toArray } } :=
    I1.laid (t' := s.toks) (fun b o e => Heap.get?_push_of_some _ e) (Nat.le_refl _) ⟨Heap.get?_push_size _ rfl, hz, is, r', IsTup.new _ _⟩
  exact ⟨.ref h'.objs.size, _, I2, rfl, q _ _ (I1.hok.fresh (Nat.le_refl _)) rfl⟩
theorem RTs.one {z : List Addr} {H : Hp} {d : D} {xs : List V} (r : RTs Y z H [d] xs) : ∃ x, xs = [x] ∧ RT Y z H d x := by
  cases r with | cons h q => cases q; exact ⟨_, rfl, h⟩
theorem RTs.two {z : List Addr} {H : Hp} {d e : D} {xs : List V} (r : RTs Y z H [d, e] xs) : ∃ x y, xs = [x, y] ∧ RT Y z H d x ∧ RT Y z H e y := by
  cases r with | cons h q => cases q with | cons h2 q2 => cases q2; exact ⟨_, _, rfl, h, h2⟩
theorem isEmpty_len {α β : Type} {xs : List α} {ys : List β} (h : xs.length = ys.length) : xs.isEmpty = ys.isEmpty := by
  cases xs <;> cases ys <;> first | rfl | simp at h
theorem call_bi (hK : X.K = Y.K) (hc : X.calm = true) (b : Bi) : CallR X (biV b) (rBi Y b) := by
  intro pins s σ H xs us Q I r h
  obtain ⟨z, ds, dr, rs, e, hz, q⟩ := h
  have q0 : ∀ v, RD Y z H dr v → Q v H := fun v rv => q v H (.inl rfl) rv
  unfold evBi at e
  split at e
  · split at e
    · rename_i x c
      cases e
      obtain ⟨x', rfl, rx⟩ := rs.one
      obtain ⟨rfl, _⟩ := rx.str
      exact call_len_str pins s σ H _ us Q I r ⟨_, rfl, by rw [mkS_len, ← sz_line]; exact c, by rw [mkS_len]; exact q0 _ (.int _)⟩
    · cases e
  · cases e
    obtain ⟨x', rfl, rx⟩ := rs.one
    obtain ⟨_, p, vs, rfl, sq, rd⟩ := rx.tup
    rw [← hK] at sq
    exact call_len_seq pins s σ H _ us Q I r ⟨p, vs, rfl, .inr sq, by rw [← rd.length]; exact q0 _ (.int _)⟩
  · cases e
    obtain ⟨x', rfl, rx⟩ := rs.one
    obtain ⟨p, vs, rfl, sq, rd⟩ := rx.lst
    exact call_len_seq pins s σ H _ us Q I r ⟨p, vs, rfl, .inl (.inl (.inl sq)), by rw [← rd.length]; exact q0 _ (.int _)⟩
  · cases e
    obtain ⟨x', rfl, rx⟩ := rs.one
    obtain ⟨p, rfl, sq⟩ := rx.scr
    rw [← hK] at sq
    exact call_len_seq pins s σ H _ us Q I r ⟨p, _, rfl, .inl sq, by rw [List.length_map]; exact q0 _ (.int _)⟩
  · cases e
    obtain ⟨x', rfl, rx⟩ := rs.one
    obtain rfl := rx.int
    exact call_abs pins s σ H _ us Q I r ⟨_, rfl, q0 _ (.int _)⟩
  · cases e
    obtain ⟨x', rfl, rx⟩ := rs.one
    obtain rfl := rx.int
    exact call_int1 pins s σ H _ us Q I r (.inl ⟨_, rfl, q0 _ (.int _)⟩)
  · cases e
    obtain ⟨x', rfl, rx⟩ := rs.one
    obtain rfl := rx.bl
    exact call_int1 pins s σ H _ us Q I r (.inr ⟨_, rfl, q0 _ (.int _)⟩)
  · split at e
    · rename_i x c
      obtain ⟨n, e1, rfl⟩ := Option.map_eq_some_iff.mp e
      obtain ⟨x', rfl, rx⟩ := rs.one
      obtain ⟨rfl, _⟩ := rx.str
      exact call_int_str pins s σ H _ us Q I r ⟨_, n, rfl, readI_val e1 (by omega), by rw [mkS_len]; omega, q0 _ (.int _)⟩
    · cases e
  · split at e
    · rename_i i c
      cases e
      obtain ⟨x', rfl, rx⟩ := rs.one
      obtain rfl := rx.int
      refine call_str_int pins s σ H _ us Q I r ⟨_, rfl, by omega, ?_⟩
      rw [intT_str]
      exact q0 _ (.str _ (intT_asc _))
    · cases e
  · obtain ⟨x', rfl, rx⟩ := rs.one
    split at e
    · cases e
      obtain rfl := rx.int
      exact call_bool1 pins s σ H _ us Q I r (.inl ⟨_, rfl, q0 _ (.bl _)⟩)
    · cases e
      obtain rfl := rx.bl
      exact call_bool1 pins s σ H _ us Q I r (.inr ⟨_, rfl, q0 _ (.bl _)⟩)
    · cases e
      obtain ⟨_, p, vs, rfl, sq, rd⟩ := rx.tup
      rw [← hK] at sq
      exact call_boolT pins s σ H _ us Q I r ⟨p, vs, rfl, sq, by rw [← isEmpty_len rd.length]; exact q0 _ (.bl _)⟩
    · cases e
  · cases e
    obtain ⟨x', rfl, rx⟩ := rs.one
    obtain ⟨p, vs, rfl, sq, rd⟩ := rx.lst
    exact call_tupF pins s σ H _ us Q I r ⟨p, vs, rfl, .inl (.inl sq), fun l o hl ho => q _ _ (.inr ⟨l, _, hl, rfl⟩) (RD.new_tup hz rd hl ho)⟩
  · cases e
    obtain ⟨x', rfl, rx⟩ := rs.one
    obtain ⟨r0, p, vs, rfl, sq, rd⟩ := rx.tup
    rw [← hK] at sq
    exact call_tupleT pins s σ H _ us Q I r ⟨p, vs, rfl, sq, q0 _ r0⟩
  · cases e
    obtain ⟨x', y', rfl, rx, ry⟩ := rs.two
    obtain rfl := rx.int
    obtain rfl := ry.int
    exact call_max2 hc pins s σ H _ us Q I r ⟨_, _, rfl, q0 _ (.int _)⟩
  · cases e
    obtain ⟨x', y', rfl, rx, ry⟩ := rs.two
    obtain rfl := rx.int
    obtain rfl := ry.int
    exact call_min2 hc pins s σ H _ us Q I r ⟨_, _, rfl, q0 _ (.int _)⟩
  · cases e
    obtain ⟨x', rfl, rx⟩ := rs.one
    obtain ⟨p, vs, rfl, sq, rd⟩ := rx.lst
    exact call_list_of pins s σ H _ us Q I r ⟨p, vs, rfl, .inl (.inl (.inl sq)), fun l hl => q _ _ (.inr ⟨l, _, hl, rfl⟩) (RD.new_lst hz rd hl)⟩
  · cases e
    obtain ⟨x', rfl, rx⟩ := rs.one
    obtain ⟨_, p, vs, rfl, sq, rd⟩ := rx.tup
    rw [← hK] at sq
    exact call_list_of pins s σ H _ us Q I r ⟨p, vs, rfl, .inr sq, fun l hl => q _ _ (.inr ⟨l, _, hl, rfl⟩) (RD.new_lst hz rd hl)⟩
  · cases e
end
section
variable {J : Jx} {e : Expr} {es : List Expr} {fs : Sl → Sto → RE (List W)} {p pos : Pos} {x : Str}
theorem je_blt (ok : J.Ok) (hc : J.X.calm = true) {b : Bi} (hb : biN b = some x) (hg : Gl J.X x) (hm : J.X.mg x = none) (ha : JA J (e :: es) fs) (he : starEach (e :: es) J.X.env = (false, eval e J.X.env) :: starEach es J.X.env)
    (hpl : (backTo pos (starEach es J.X.env)).any (·.1) = false) : JE J (.Call (.Name x p) (e :: es) [] pos) (fun l S => (fs l S).bind fun ws S => .of S (((looks S ws).bind (evBi b)).map .d)) := by
  intro pins s σ H m S l K st k
  obtain ⟨hv, hn, hd⟩ := boot_bi hb
  refine wpAny_Call_Name_kw (ld_blt st.inv hg hm hv ?_ hn hd)
  have hA := ha pos pins s σ H m S l _ st (RE.el_bind k)
  have go : wpAny (model J.X.prog J.X.w) J.X.A (spliced (backTo pos (starEach (e :: es) J.X.env))) (fun us s1 => wpAny (model J.X.prog J.X.w) J.X.A (call (biV b) us) (Post J pins σ l m H (RelW J.Y J.av) K) J.X.xe s1) J.X.xe s := by
    refine thn hA fun us s1 ⟨ws, S1, m1, H1, k1, st1, f1, vs, r1, q1⟩ => ?_
    obtain ⟨w, e1, k2⟩ := RE.el_of k1
    obtain ⟨d, e2, rfl⟩ := Option.map_eq_some_iff.mp e1
    obtain ⟨ds, e3, e4⟩ := Option.bind_eq_some_iff.mp e2
    exact fin st1 f1 (call_bi ok.hK hc b pins s1 σ H1 vs us _ st1.inv q1 ⟨_, ds, d, looks_RT st1.rel.st r1 e3, e4, fun p hp => st1.free hp, fun v' H' n rd => QV.nw st1 k2 n rd⟩)
  cases b <;> cases hb
  · exact PyProof.Rows.callWith_builtin1 go he hpl
  · exact PyProof.Rows.callWith_builtin1 go he hpl
  · exact PyProof.Rows.callWith_type1 go he hpl
  · exact PyProof.Rows.callWith_type1 go he hpl
  · exact PyProof.Rows.callWith_type1 go he hpl
  · exact PyProof.Rows.callWith_type1 go he hpl
  · exact PyProof.Rows.callWith_type1 go he hpl
  · exact PyProof.Rows.callWith_builtin1 go he hpl
  · exact PyProof.Rows.callWith_builtin1 go he hpl
end
end Kr
/-! KrJ3: methods of built-in types. -/
namespace Kr
open PySem PySem.Spec PyProof.Rows L2

def meId : Me → Option (Str × String)
  | .strip => some ("strip", "str.strip") | .rstrip => some ("rstrip", "str.rstrip") | .split => some ("split", "str.split") | .rjust => some ("rjust", "str.rjust") | .join => some ("join", "str.join") | _ => none
theorem me_slot {m : Me} {n : Str} {id : String} (h : meId m = some (n, id)) : Slot "str" n id ∧ typeOf (.builtin id) = pure (.type "method_descriptor") := by
  cases m <;> cases h
  · exact ⟨PySem.F.slot_str_strip, PySem.F.type_str_strip⟩
  · exact ⟨PySem.F.slot_str_rstrip, PySem.F.type_str_rstrip⟩
  · exact ⟨PySem.F.slot_str_split, PySem.F.type_str_split⟩
  · exact ⟨PySem.F.slot_str_rjust, PySem.F.type_str_rjust⟩
  · exact ⟨PySem.F.slot_str_join, PySem.F.type_str_join⟩
def rMe (Y : Cfg) (m : Me) : V → List V → Hp → VK → Prop := fun x xs H Q => ∃ z t ds dr, x = .str (mkS t) ∧ Asc t ∧ RTs Y z H ds xs ∧ evMe m (.str t) ds = some dr ∧ (∀ p, H p = none → p ∉ z) ∧ ∀ v H', Nw H H' → RD Y z H' dr v → Q v H'
section
variable {X : Cx} {Y : Cfg}
theorem replicate_asc {n c : Nat} (h : c < 128) : Asc (List.replicate n c) := fun a ha => by rw [(List.mem_replicate.mp ha).2]; exact h
theorem mt_rjustF : MtR X "str.rjust" (fun x xs H Q => ∃ (a : Str) (i : Int) (c : Nat), x = .str a ∧ xs = [.int i, .str (mkS [c])] ∧ PadOk i = true ∧ Q (.str (Txt.rjustF a i c)) H) := by
  intro pins s σ H x xs v us Q I rx rs h
  obtain ⟨a, i, c, rfl, rfl, hp, q⟩ := h
  obtain ⟨t, rfl⟩ := rx
  obtain ⟨u1, u2, rfl, ⟨t1, rfl⟩, ⟨t2, rfl⟩⟩ := vals2 rs
  exact rjust_fill hp (by rw [mkS_len]; rfl) fun t' k => ⟨.str (Txt.rjustF a i c), H, I.tok k, ⟨t', rfl⟩, q⟩
theorem padOk_of {i : Int} (h1 : -1000000 ≤ i) (h2 : i ≤ 1000000) : PadOk i = true := by
  unfold PadOk fitsSsize PySem.Builtin.Str.tooLong
  rw [sizeLine_eq]
  simp
  omega
theorem mt_me (hK : X.K = Y.K) (m : Me) {n : Str} {id : String} (h : meId m = some (n, id)) : MtR X id (rMe Y m) := by
  intro pins s σ H x xs v us Q I rx rs hr
  obtain ⟨z, t, ds, dr, rfl, ht, rt, e, hz, q⟩ := hr
  have q0 : ∀ v, RD Y z H dr v → Q v H := fun v rv => q v H (.inl rfl) rv
  unfold evMe at e
  split at e
  · cases h
    rename_i a b heq
    cases heq
    obtain ⟨x1, rfl, r1⟩ := rt.one
    obtain ⟨rfl, _⟩ := r1.str
    split at e
    · rename_i c
      cases e
      refine mt_stripChars pins s σ H _ _ v us Q I rx rs ⟨_, _, rfl, rfl, by rw [mkS_len, ← sz_line]; exact c, ?_⟩
      rw [strip_list]
      exact q0 _ (.str _ (ht.sub fun c h => stripT_mem h))
    · cases e
  · cases h
    rename_i a b heq
    cases heq
    obtain ⟨x1, rfl, r1⟩ := rt.one
    obtain ⟨rfl, _⟩ := r1.str
    split at e
    · rename_i c
      cases e
      refine mt_rstripChars pins s σ H _ _ v us Q I rx rs ⟨_, _, rfl, rfl, by rw [mkS_len, ← sz_line]; exact c, ?_⟩
      rw [rstrip_list]
      exact q0 _ (.str _ (ht.sub fun c h => rstripT_mem h))
    · cases e
  · cases h
    rename_i a b heq
    cases heq
    obtain ⟨x1, rfl, r1⟩ := rt.one
    obtain ⟨rfl, hb⟩ := r1.str
    split at e
    · rename_i c
      cases e
      refine mt_split pins s σ H _ _ v us Q I rx rs ⟨_, _, rfl, rfl, by rw [mkS_len]; rfl, by rw [mkS_len, ← sz_line]; exact c, fun p hp => ?_⟩
      rw [split_list _ (hb b (List.mem_singleton.mpr rfl))]
      refine q _ _ (.inr ⟨p, _, hp, rfl⟩) (RD.new_lst hz (RDs.strs fun x hx => ht.sub fun c hc => splitT_mem hx hc) hp)
    · cases e
  · cases h
    rename_i a i b heq
    cases heq
    obtain ⟨x1, x2, rfl, r1, r2⟩ := rt.two
    obtain rfl := r1.int
    obtain ⟨rfl, hb⟩ := r2.str
    split at e
    · rename_i c
      cases e
      refine mt_rjustF pins s σ H _ _ v us Q I rx rs ⟨_, i, b, rfl, rfl, padOk_of c.2.1 c.2.2, ?_⟩
      rw [rjust_list]
      exact q0 _ (.str _ (Asc.app (replicate_asc (hb b (List.mem_singleton.mpr rfl))) ht))
    · cases e
  · cases h
    rename_i a ys heq
    cases heq
    obtain ⟨x1, rfl, r1⟩ := rt.one
    obtain ⟨p, vs, rfl, sq, rd⟩ := r1.lst
    obtain ⟨zs, e1, e2⟩ := Option.bind_eq_some_iff.mp e
    obtain ⟨e3, e4⟩ := rd.strsOf e1
    subst e3
    split at e2
    · rename_i c
      cases e2
      refine mt_join pins s σ H _ _ v us Q I rx rs ⟨_, p, zs.map mkS, rfl, rfl, .inl (.inl (.inl sq)), ?_, ?_⟩
      · rw [List.map_map, List.length_map, mkS_len]
        have : ((fun x => x.length) ∘ mkS) = (fun x : List Nat => x.length) := funext fun x => mkS_len x
        rw [this]
        exact c
      · rw [joins]
        refine q0 _ (.str _ fun c hc => ?_)
        rcases joinT_mem hc with h | ⟨w, h1, h2⟩
        · exact ht c h
        · exact e4 w h1 c h2
    · cases e2
  · cases h
  · cases e
end
section
variable {J : Jx} {o e : Expr} {es : List Expr} {fo : Sl → Sto → RE W} {fs : Sl → Sto → RE (List W)} {apos pos : Pos} {n : Str}
/-- the shape of a method's call -/
structure BmOk (J : Jx) (o : Expr) (n : Str) (apos pos : Pos) (e : Expr) (es : List Expr) : Prop where
  base : attributeBase o n J.X.env (eval o J.X.env) = eval o J.X.env
  few : ((backTo pos (starEach (e :: es) J.X.env)).all (fun x => !x.1) && (backToKw pos (keywordEach [] J.X.env)).all (fun x => x.1.isSome) && decide ((e :: es).length + ([] : List Keyword).length + (if ([] : List Keyword).isEmpty then 0 else 1) < 30)) = true
  line : (apos.endLine == pos.line) = true
  st : starEach (e :: es) J.X.env = (false, eval e J.X.env) :: starEach es J.X.env
  pl : (backTo pos (starEach es J.X.env)).any (·.1) = false
/-- the receiver, the arguments, then the method's own code -/
theorem bm_go {m : Me} (B : BmOk J o n apos pos e es) (ho : JE J o fo) (ha : JA J (e :: es) fs)
    (h : ∀ (pins : List (Addr × Obj)) (σ : L2.St) (m1 : List Addr) (S : Sto) (l : Sl) (H : Hp) (s : Shared) (v : W) (x : V) (u : Value), Sta J pins σ m1 S l H s → RW J.Y J.av m1 H v x → RelV x u → rcv m S v = true →
      ∃ T id, PlainAttrs T ∧ Slot T n id ∧ typeOf (.builtin id) = pure (.type "method_descriptor") ∧ s.TypeIs u T ∧ (∀ a, u = .ref a → ∃ ob, s.heap.get? a = some ob ∧ ob.dict = none) ∧
        ∀ (m2 : List Addr) (S2 : Sto) (H2 : Hp) (s2 : Shared) (ws : List W) (vs : List V) (us : List Value) (K2 : W → Sto → Prop), Sta J pins σ m2 S2 l H2 s2 → Fra m1 H m2 H2 → RWs J.Y J.av m2 H2 ws vs → Vals vs us → (evBm m S2 v ws).el K2 (J.Xc σ l) →
          wpAny (model J.X.prog J.X.w) J.X.A (call (.builtin id) (u :: us)) (EP J.X pins σ (QV J m2 H2 K2)) J.X.xe s2) :
    JE J (.Call (.Attribute o n apos) (e :: es) [] pos) (fun l S => (fo l S).bind fun v S => if rcv m S v then (fs l S).bind fun ws S => evBm m S v ws else .bad) := by
  intro pins s σ H m1 S l K st k
  refine wpAny_Call_method_late B.base B.few B.line rfl (thn (ho pins s σ H m1 S l _ st (RE.el_bind k)) fun u s1 ⟨v, S1, m1', H1, k1, st1, f1, x, r1, q1⟩ => ?_)
  dsimp only at k1
  split at k1
  · rename_i hr
    have k1' := RE.el_bind k1
    obtain ⟨T, id, pa, slot, hty, h1, h2, h3⟩ := h pins σ m1' S1 l H1 s1 v x u st1 r1 q1 hr
    refine ⟨T, id, pa, slot, hty, h1, h2, ?_⟩
    have hA := ha pos pins s1 σ H1 m1' S1 l _ st1 k1'
    rw [B.st] at hA ⊢
    refine Calls.callWith_builtin (by show (false || (backTo pos (starEach es J.X.env)).any (·.1)) = false; rw [B.pl]; rfl) (Calls.evalArgs_plain ?_)
    refine thn hA fun us s2 ⟨ws, S2, m2, H2, k2, st2, f2, vs, r2, q2⟩ => ?_
    exact fin st2 (f1.trans f2) (h3 m2 S2 H2 s2 ws vs us K st2 f2 r2 q2 k2)
  · exact k1.elim
/-- a method of a text -/
theorem je_bmS (ok : J.Ok) {m : Me} {id : String} (hm : meId m = some (n, id)) (B : BmOk J o n apos pos e es) (ho : JE J o fo) (ha : JA J (e :: es) fs) :
    JE J (.Call (.Attribute o n apos) (e :: es) [] pos) (fun l S => (fo l S).bind fun v S => if rcv m S v then (fs l S).bind fun ws S => evBm m S v ws else .bad) := by
  refine bm_go B ho ha fun pins σ m1 S l H s v x u st r q hr => ?_
  obtain ⟨slot, hty⟩ := me_slot hm
  obtain ⟨t, rfl⟩ : ∃ t, v = .d (.str t) := by
    cases m <;> cases hm <;> (cases v with
      | d x => cases x <;> first | exact ⟨_, rfl⟩ | cases hr
      | r n => cases hr
      | f g cs => cases hr)
  cases r with
  | str _ hasc =>
    obtain ⟨tk, rfl⟩ := q
    refine ⟨"str", id, PySem.F.plainAttrs_str, slot, hty, typeIs_str _ _ _, (fun _ e => nomatch e), fun m2 S2 H2 s2 ws vs us K2 st2 f2 rws rvs k2 => ?_⟩
    have k3 : (RE.of S2 ((((some (D.str t)).bind fun x => (looks S2 ws).bind fun ys => evMe m x ys)).map W.d)).el K2 (J.Xc σ l) := by
      cases m <;> cases hm <;> exact k2
    obtain ⟨w, e1, k4⟩ := RE.el_of k3
    obtain ⟨d, e2, rfl⟩ := Option.map_eq_some_iff.mp e1
    obtain ⟨ds, e3, e4⟩ := Option.bind_eq_some_iff.mp (show ((looks S2 ws).bind fun ys => evMe m (.str t) ys) = some d from e2)
    exact mt_me ok.hK m hm pins s2 σ H2 (.str (mkS t)) vs _ us _ st2.inv ⟨_, rfl⟩ rvs ⟨_, t, ds, d, rfl, hasc, looks_RT st2.rel.st rws e3, e4, fun p hp => st2.free hp, fun v' H' n rd => QV.nw st2 k4 n rd⟩
theorem je_app (B : BmOk J o "append" apos pos e es) (ho : JE J o fo) (ha : JA J (e :: es) fs) :
    JE J (.Call (.Attribute o "append" apos) (e :: es) [] pos) (fun l S => (fo l S).bind fun v S => if rcv .append S v then (fs l S).bind fun ws S => evBm .append S v ws else .bad) := by
  refine bm_go B ho ha fun pins σ m1 S l H s v x u st r q hr => ?_
  unfold rcv at hr
  dsimp only at hr
  split at hr
  · rename_i n
    split at hr
    · rename_i xs e0
      obtain ⟨p, hp, rfl⟩ := r
      cases q
      obtain ⟨p', hp', vs0, h1, h2⟩ := st.rel.st.at_ n _ e0
      rw [hp] at hp'
      cases hp'
      obtain ⟨hz0, its, nn, rv, hobj⟩ := (show ObjOk J.X.prog J.X.w H s.heap p (.lst vs0) from st.inv.hok p _ h1)
      refine ⟨"list", "list.append", PySem.F.plainAttrs_list, PySem.F.slot_list_append, PySem.F.type_list_append, ⟨_, hobj, rfl⟩, fun a e => ?_, fun m2 S2 H2 s2 ws vs us K2 st2 f2 rws rvs k2 => ?_⟩
      · cases e
        exact ⟨_, hobj, rfl⟩
      · unfold evBm at k2
        dsimp only at k2
        split at k2
        · rename_i n' w heq
          cases heq
          split at k2
          · rename_i xs2 e2
            split at k2
            · rename_i hl
              obtain ⟨p2, hp2, vs2, h3, h4⟩ := st2.rel.st.at_ n _ e2
              have : p2 = p := by
                have := f2.pre n p hp
                rw [hp2] at this
                exact Option.some.inj this
              subst this
              cases rws with
              | @cons _ y _ _ rw1 rwn =>
                cases rwn
                have hm : p2 ∈ m2 := List.mem_of_getElem? hp2
                refine mt_append pins s2 σ H2 (.ref p2) _ _ us _ st2.inv rfl rvs ⟨p2, vs2, _, rfl, rfl, h3, by rw [← sz_line, ← h4.length]; exact hl, ?_⟩
                have fw : Fra m2 H2 m2 (upd H2 p2 (.lst (vs2 ++ [y]))) := Fra.write hm
                exact ⟨.d .non, _, m2, k2, fw, st2.rel.st.write hp2 ⟨_, upd_same, RWs.app (fw.rws h4) (.cons (fw.rw rw1) .nil)⟩, .non⟩
            · exact k2.elim
          · exact k2.elim
        · exact k2.elim
    · cases hr
  · cases hr
theorem je_cnt (ok : J.Ok) (B : BmOk J o "count" apos pos e es) (ho : JE J o fo) (ha : JA J (e :: es) fs) :
    JE J (.Call (.Attribute o "count" apos) (e :: es) [] pos) (fun l S => (fo l S).bind fun v S => if rcv .count S v then (fs l S).bind fun ws S => evBm .count S v ws else .bad) := by
  refine bm_go B ho ha fun pins σ m1 S l H s v x u st r q hr => ?_
  obtain ⟨ys, rfl⟩ : ∃ ys, v = .d (.tup ys) := by
    unfold rcv at hr
    dsimp only at hr
    split at hr
    · exact ⟨_, rfl⟩
    · cases hr
  have hT : ∃ p, x = .ref p ∧ s.TypeIs u "tuple" ∧ ∃ ob, s.heap.get? p = some ob ∧ ob.dict = none := by
    have hr : RD J.Y (J.av ++ m1) H (.tup ys) x := r
    cases hr with
    | tup h _ _ =>
      obtain ⟨ob, h1, h2⟩ := h
      cases q
      obtain ⟨h3, hz, its, rv, o', h4, h5, _⟩ := st.inv.hok _ _ h1
      rw [h3] at h4
      cases h4
      exact ⟨_, rfl, ⟨ob, h3, h5⟩, ob, h3, h2⟩
    | tupK h _ =>
      obtain ⟨ob, its, nn, h1, h2, h3, _⟩ := h
      cases q
      rw [← ok.hK] at h1
      exact ⟨_, rfl, ⟨ob, st.inv.kIn _ _ h1, h2⟩, ob, st.inv.kIn _ _ h1, h3⟩
  obtain ⟨p, rfl, hT1, ob, hT2, hT3⟩ := hT
  cases q
  refine ⟨"tuple", "tuple.count", PySem.F.plainAttrs_tuple, PySem.F.slot_tuple_count, PySem.F.type_tuple_count, hT1, fun a e => ?_, fun m2 S2 H2 s2 ws vs us K2 st2 f2 rws rvs k2 => ?_⟩
  · cases e
    exact ⟨ob, hT2, hT3⟩
  · obtain ⟨w, e1, k4⟩ := RE.el_of (show (RE.of S2 (((looks S2 ws).bind fun zs => evMe .count (.tup ys) zs).map W.d)).el K2 (J.Xc σ l) from k2)
    obtain ⟨d, e2, rfl⟩ := Option.map_eq_some_iff.mp e1
    obtain ⟨ds, e3, e4⟩ := Option.bind_eq_some_iff.mp e2
    have rt := looks_RT st2.rel.st rws e3
    unfold evMe at e4
    split at e4
    case h_6 ys' x' heq =>
      cases heq
      split at e4
      · rename_i c
        cases e4
        obtain ⟨f1, f3⟩ := Bool.and_eq_true_iff.mp c
        obtain ⟨x1, rfl, r1⟩ := rt.one
        have rr : RT J.Y (J.av ++ m2) H2 (.tup ys) (.ref p) := .inl (f2.rd r)
        obtain ⟨u1, rfl, q1⟩ := vals1 rvs
        obtain ⟨_, p', vs', ep, sq, rds⟩ := rr.tup
        cases ep
        have d1 := r1.dp f1
        have d2 := rds.dp f3
        rw [← ok.hK] at d1 d2 sq
        obtain ⟨as, g1⟩ := Dp.reads st2.inv _ x1 u1 d1 q1
        obtain ⟨its, rv, pl, hz⟩ := st2.inv.tuple sq
        obtain ⟨bs, g2⟩ := Dp.readsAll st2.inv _ vs' its d2 rv
        obtain ⟨l1, m3⟩ := r1.lay f1
        obtain ⟨l2, m4⟩ := rr.lay (show D.flat 21 (.tup ys) = true from f3)
        refine PySem.SeqAt.count_tuple_data (vs := its.toArray) pl g2 g1 (PyData.plainAll_of_canLay0 _ (by simpa [toPy, PyData.canLay0] using l2)) (PyData.plain_of_canLay0 _ l1) ?_ ?_
        · have := ok.un
          omega
        · rw [countP_eq 20 _ f1 20 _ f3]
          exact ⟨.int _, H2, st2.inv.tok _, ⟨_, rfl⟩, QV.same (w := .d (.int _)) st2 k4 (.int _)⟩
      · cases e4
    all_goals first | (rename_i heq _; cases heq; done) | (rename_i heq; cases heq; done) | cases e4
/-- e.replace(c, z), both written -/
theorem je_repl {c : Nat} {z : List Nat} {j k : Nat} {c0 c1 : Pos} (hc : c < 128) (hz : Asc z) (ho : JE J o fo) (hyz : (mkS [c] == mkS z) = false)
    (hst : starEach [.Constant (.str (mkS [c])) j c0, .Constant (.str (mkS z)) k c1] J.X.env = [(false, eval (.Constant (.str (mkS [c])) j c0) J.X.env), (false, eval (.Constant (.str (mkS z)) k c1) J.X.env)])
    (hbase : attributeBase o "replace" J.X.env (eval o J.X.env) = eval o J.X.env) (hline : (apos.endLine == pos.line) = true) :
    JE J (.Call (.Attribute o "replace" apos) [.Constant (.str (mkS [c])) j c0, .Constant (.str (mkS z)) k c1] [] pos) (fun l S => (fo l S).bind fun v S => .of S (((look1 S v).bind (evRepl c z)).map .d)) := by
  intro pins s σ H m S l K st kk
  refine PySem.Call_method2 hbase hst hline (thn (ho pins s σ H m S l _ st (RE.el_bind kk)) fun u s1 ⟨v, S1, m1, H1, k1, st1, f1, x, r1, q1⟩ => ?_)
  obtain ⟨w, e1, k2⟩ := RE.el_of k1
  obtain ⟨d, e2, rfl⟩ := Option.map_eq_some_iff.mp e1
  obtain ⟨dx, e3, e4⟩ := Option.bind_eq_some_iff.mp e2
  have rx := look_RT st1.rel.st r1 e3
  unfold evRepl at e4
  split at e4
  · rename_i t
    obtain ⟨rfl, ht⟩ := rx.str
    obtain ⟨tk, rfl⟩ := q1
    split at e4
    · rename_i hl
      cases e4
      refine ⟨"str", _, PySem.F.plainAttrs_str, PySem.F.slot_str_replace, PySem.F.type_str_replace, typeIs_str _ _ _, (fun _ e => nomatch e), Calls.callWith_builtin rfl (Calls.evalArgs_plain (Calls.spliced_cons ?_))⟩
      refine Calls.Constant_str (Calls.spliced_cons (Calls.Constant_str (Calls.spliced_nil ?_)))
      have h0 := st1.tok
      refine fin (s := { s1 with toks := s1.toks + 1 + 1 }) (st1.tok' (by omega)) f1 ?_
      refine PySem.SC.replace (by show s1.toks ≠ 0; omega) (by show s1.toks + 1 ≠ 0; omega) (by show s1.toks ≠ s1.toks + 1; omega) hyz ?_ fun t' kt => ?_
      · rw [mkS_len, mkS_len]
        have : (t.length + 1) * z.length ≤ 100001 * 10 := Nat.mul_le_mul (by omega) hl.2
        omega
      · rw [repl_list]
        refine ⟨.str _, H1, st1.inv.tok kt, ⟨t', rfl⟩, QV.same (w := .d (.str _)) st1 k2 (.str _ fun a ha => ?_)⟩
        rcases replT_mem ha with h | h
        · exact hz a h
        · exact ht a h
    · cases e4
  · cases e4
end
end Kr
/-! KrJ4: isinstance, calls of defs, of classes, of methods. -/
namespace Kr
open PySem PySem.Spec PyProof.Rows L2

/-! ### isinstance -/
def tyN : Ty → String
  | .int => "int" | .str => "str" | .bool => "bool" | .tuple => "tuple" | .list => "list"
theorem boot_ty (t : Ty) : bootBuiltins (Str.ofString (tyN t)) = some (.type (tyN t)) ∧ Str.ofString (tyN t) ≠ "__name__" ∧ (Str.ofString (tyN t) == ("__debug__" : Str)) = false := by
  cases t <;> exact ⟨by decide +kernel, by decide +kernel, by decide +kernel⟩
theorem isi_D {K : PySem.W.Frag} {Y : Cfg} (hK : K = Y.K) {z : List Addr} {H : Hp} {d : D} {v : V} {t : Ty} {b : Bool} (r : RT Y z H d v) (e : isiD t d = some b) : ∃ u, TyX K H v u ∧ PySem.W.kitOne K u (.type (tyN t)) = some b := by
  cases d with
  | non =>
    obtain rfl := r.non
    cases e
    exact ⟨_, .base .non, kit_ty (by cases t <;> decide +kernel)⟩
  | bl x =>
    obtain rfl := r.bl
    cases e
    exact ⟨_, .base (.bl _), kit_ty (by cases t <;> decide +kernel)⟩
  | int i =>
    obtain rfl := r.int
    cases e
    exact ⟨_, .base (.int _), kit_ty (by cases t <;> decide +kernel)⟩
  | str x =>
    obtain ⟨rfl, _⟩ := r.str
    cases e
    exact ⟨_, .base (.str _), kit_ty (by cases t <;> decide +kernel)⟩
  | tup xs =>
    obtain ⟨r, _⟩ := r.tup
    cases e
    refine ⟨.type "tuple", ?_, kit_ty (by cases t <;> decide +kernel)⟩
    cases r with
    | tup h _ _ => obtain ⟨o, h, _⟩ := h; exact .fTuple h
    | tupK h _ => obtain ⟨o, its, n, h1, h2, _⟩ := h; rw [← hK] at h1; exact .kTuple h1 h2
  | lst xs =>
    obtain ⟨p, vs, rfl, h, _⟩ := r.lst
    cases e
    exact ⟨_, .base (.lst h), kit_ty (by cases t <;> decide +kernel)⟩
  | ins => cases e
  | scr => cases e
section
variable {J : Jx} {a : Expr} {fa : Sl → Sto → RE W} {p p2 pos : Pos}
theorem je_isi (ok : J.Ok) (t : Ty) (hg : Gl J.X "isinstance") (hm : J.X.mg "isinstance" = none) (hg2 : Gl J.X (Str.ofString (tyN t))) (hm2 : J.X.mg (Str.ofString (tyN t)) = none) (ha : JE J a fa)
    (hs1 : starEach [a, .Name (Str.ofString (tyN t)) p2] J.X.env = (false, eval a J.X.env) :: starEach [.Name (Str.ofString (tyN t)) p2] J.X.env)
    (hs2 : starEach [.Name (Str.ofString (tyN t)) p2] J.X.env = (false, eval (.Name (Str.ofString (tyN t)) p2) J.X.env) :: starEach [] J.X.env) (hpl : (backTo pos (starEach [.Name (Str.ofString (tyN t)) p2] J.X.env)).any (·.1) = false) :
    JE J (.Call (.Name "isinstance" p) [a, .Name (Str.ofString (tyN t)) p2] [] pos) (fun l S => (asD (fa l S)).bind fun x S => .of S ((isiD t x).map fun k => .d (.bl k))) := by
  intro pins s σ H m S l K st k
  refine wpAny_Call_Name_kw (ld_blt st.inv hg hm boot_isinstance ?_ (by decide) (by decide))
  refine PyProof.Rows.callWith_builtin1 ?_ hs1 hpl
  rw [hs1]
  show wpAny _ _ (spliced ((false, eval a J.X.env) :: backTo pos (starEach [.Name (Str.ofString (tyN t)) p2] J.X.env))) _ _ s
  refine Calls.spliced_cons (thn (ha.dat pins s σ H m S l _ st (RE.el_bind k)) fun u1 s1 ⟨d, S1, m1, H1, k1, st1, f1, x, r1, q1⟩ => ?_)
  rw [hs2]
  show wpAny _ _ (spliced ((false, eval (.Name (Str.ofString (tyN t)) p2) J.X.env) :: backTo pos (starEach [] J.X.env))) _ _ _
  obtain ⟨h1, h2, h3⟩ := boot_ty t
  refine Calls.spliced_cons (ld_blt st1.inv hg2 hm2 h1 (Calls.spliced_nil ?_) h2 h3)
  obtain ⟨w, e, k2⟩ := RE.el_of k1
  obtain ⟨b, e2, rfl⟩ := Option.map_eq_some_iff.mp e
  obtain ⟨u, ty, ko⟩ := isi_D ok.hK r1 e2
  refine fin st1 f1 (call_isi pins s1 σ H1 [x, .ty (tyN t)] _ _ st1.inv (.cons q1 (.cons rfl .nil)) ⟨x, .ty (tyN t), u, _, b, rfl, .ty _, ty, ko, QV.same (w := .d (.bl b)) st1 k2 (.bl b)⟩)
end

/-! ### promises -/
def spRun (Y : Cfg) (C : Cl) (f : Nat) : Sp := fun vs H Q E => ∃ av m S ws, RSt Y av m S H ∧ RWs Y av m H ws vs ∧
  (C f ws S).el (fun w S' => ∀ m' H' v, Fra m H m' H' → RSt Y av m' S' H' → RW Y av m' H' w v → Q v H') (fun c S' => ∀ m' H', Fra m H m' H' → RSt Y av m' S' H' → E (.ref (Y.xA c)) none H')
/-- a promise that is kept once a token is out -/
structure FnT (P : Program) (w : World) (K : PySem.W.Frag) (mg : Str → Option Value) (base : Heap) (k : Nat) (f : Addr) (fd : FuncData) (ps : List Str) (sp : Sp) : Prop where
  len : ∀ vs H Q E, sp vs H Q E → vs.length = ps.length
  run : ∀ (A : Around) (outer : List Env) (s : Shared) (H : Hp) (args : Args) (us : List Value) (vs : List V) (Q : VK) (E : XK), 1 ≤ s.toks → Room k A → Env0 P w K mg base A outer s H → BindsTo s fd args (ps.zip us) → Vals vs us → sp vs H Q E →
    codeAny (model P w) A (.call (.ref f) args) (CR (CX P w) outer P w H s Q E) s
/-- the def f stands at a, and keeps its promise -/
structure FnAt (P : Program) (w : World) (K : PySem.W.Frag) (mg : Str → Option Value) (base : Heap) (Y : Cfg) (C : Cl) (k f : Nat) (a : Addr) : Prop where
  ok : ∃ fd ps, FnT P w K mg base k a fd ps (spRun Y C f) ∧ Binds K fd ps []
  kp : PySem.W.keepIn K (.ref a) = true
section
variable {J : Jx} {pins : List (Addr × Obj)} {σ : L2.St} {m m1 : List Addr} {S S1 : Sto} {l : Sl} {H H1 : Hp} {s s1 : Shared} {C : Cl} {k f : Nat} {a : Addr}
theorem run_at (tk : Takes J.X J.Wx) (F : FnAt J.X.prog J.X.w J.X.K J.X.mg J.X.base J.Y C k f a) (hr : Room k J.X.A) {us : List Value} {vs : List V} {Q : VK} (t0 : 1 ≤ s.toks) (I : Inv J.X pins σ H s) (r : Vals vs us) (h : spRun J.Y C f vs H Q fun c d H' => J.Wx c d σ H') :
    wpAny (model J.X.prog J.X.w) J.X.A (call (.ref a) us) (EP J.X pins σ Q) J.X.xe s := by
  obtain ⟨fd, ps, F, hb⟩ := F.ok
  have hl : us.length = ps.length := by rw [← r.length]; exact F.len _ _ _ _ h
  have hb2 := hb s us st_kin (by rw [List.append_nil]; exact hl)
  rw [List.append_nil] at hb2
  refine wpAny_call (codeAny_mono (F.run J.X.A J.X.stack s H ⟨us, []⟩ us vs Q _ t0 hr I.env0 hb2 r h) fun r s' hq => ?_)
  cases r with
  | error e => exact tk e s' (XE.of_call I (fun _ _ _ z => z) hq)
  | ok fl =>
    cases fl with
    | ret u => exact I.after hq
    | next => exact hq.elim
    | brk => exact hq.elim
    | cont => exact hq.elim
where st_kin := I.kIn
/-- a callee over an empty store left the caller's as it was -/
theorem back_rst (st : RSt J.Y J.av m S H) {H' : Hp} (f : ∀ p o, H p = some o → H' p = some o) : Fra m H m H' ∧ RSt J.Y J.av m S H' := by
  have fr : Fra m H m H' := ⟨fun p o h _ => f p o h, fun _ _ _ n => n, fun _ _ e => e⟩
  refine ⟨fr, st.len, st.nd, fun n o e => ?_, fun a ha => ?_⟩
  · obtain ⟨a, e1, r⟩ := st.at_ n o e
    obtain ⟨u, hu, _⟩ := r.there
    exact ⟨a, e1, r.fra fr (by rw [hu, f a u hu])⟩
  · obtain ⟨o, e⟩ := st.av_ a ha
    exact ⟨o, f a o e⟩
theorem rst_empty (st : RSt J.Y J.av m S H) : RSt J.Y (J.av ++ m) [] [] H :=
  ⟨rfl, by rw [List.append_nil]; exact st.nd, fun n o e => by simp at e, fun a ha => st.tracked ha⟩
theorem RWs.data {Y : Cfg} {av : List Addr} : ∀ {ws : List W} {vs : List V} {ds : List D}, RWs Y av m H ws vs → W.dats ws = some ds → RWs Y (av ++ m) [] H ws vs := by
  intro ws vs ds r e
  have := r.dats e
  rw [W.dats_map e]
  have h2 : RDs Y (av ++ m ++ []) H ds vs := by rw [List.append_nil]; exact this
  exact RWs.of h2
theorem RD.sub {Y : Cfg} {z z' : List Addr} {d : D} {v : V} (r : RD Y z H d v) (h : ∀ p ∈ z', p ∈ z) : RD Y z' H d v := r.keep fun p o e n => ⟨e, fun q => n (h p q)⟩
theorem RDs.sub {Y : Cfg} {z z' : List Addr} {d : List D} {v : List V} (r : RDs Y z H d v) (h : ∀ p ∈ z', p ∈ z) : RDs Y z' H d v := r.keep fun p o e n => ⟨e, fun q => n (h p q)⟩
/-- what a callee that was handed data alone hands back -/
theorem leave_ok {keep : Bool} {K : W → Sto → Prop} {r : RE W} (st : Sta J pins σ m S l H s) (k : (leave keep S r).el K (J.Xc σ l)) :
    r.el (fun w S' => ∀ m' H' v, Fra [] H m' H' → RSt J.Y (J.av ++ m) m' S' H' → RW J.Y (J.av ++ m) m' H' w v → QV J m H K v H') (fun c S' => ∀ m' H', Fra [] H m' H' → RSt J.Y (J.av ++ m) m' S' H' → J.Wx (.ref (J.Y.xA c)) none σ H') := by
  have old : ∀ {m' : List Addr} {H' : Hp}, Fra [] H m' H' → ∀ p o, H p = some o → H' p = some o := fun f p o h => f.keep p o h (by simp)
  cases r with
  | ok w S' =>
    intro m' H' v f rs rw'
    obtain ⟨fr, rst⟩ := back_rst st.rel.st (old f)
    cases w with
    | d x => exact ⟨.d x, S, m, k, fr, rst, RD.sub rw' fun p hp => List.mem_append_left _ hp⟩
    | r n =>
      obtain ⟨a, ha, rfl⟩ := rw'
      have k : ((match S'[n]? with
        | some (.lst ws) => (match W.dats ws with
          | some xs => if keep then RE.ok (.r S.length) (S ++ [.lst ws]) else .ok (.d (.lst xs)) S
          | none => .bad)
        | _ => .bad) : RE W).el K (J.Xc σ l) := k
      split at k
      · rename_i ws e
        split at k
        · rename_i xs e2
          obtain ⟨b, hb, vs, h1, h2⟩ := rs.at_ n _ e
          rw [ha] at hb
          cases hb
          have am : a ∈ m' := List.mem_of_getElem? ha
          have hna : a ∉ J.av ++ m := fun q => (List.nodup_append.mp rs.nd).2.2 a q a am rfl
          have rds := h2.dats e2
          have fr2 : Fra m H (m ++ [a]) H' := by
            refine ⟨fun p o h _ => old f p o h, fun p o h n q => ?_, fun i b e => ?_⟩
            · rcases List.mem_append.mp q with q | q
              · exact n q
              · have : p = a := by simpa using q
                subst this
                exact f.new p o h (by simp) am
            · rw [List.getElem?_append_left (List.getElem?_eq_some_iff.mp e).1]
              exact e
          split at k
          · refine ⟨.r S.length, S ++ [O.lst ws], m ++ [a], k, fr2, ?_, a, ?_, rfl⟩
            · refine ⟨by rw [List.length_append, List.length_append, rst.len]; rfl, ?_, fun i o e3 => ?_, rst.av_⟩
              · rw [← List.append_assoc]
                refine List.nodup_append.mpr ⟨rst.nd, by simp, fun p hp b hb e => ?_⟩
                have : b = a := by simpa using hb
                rw [e, this] at hp
                exact hna hp
              · by_cases hi : i < S.length
                · rw [List.getElem?_append_left hi] at e3
                  obtain ⟨b, e4, ro⟩ := st.rel.st.at_ i o e3
                  obtain ⟨u, hu, _⟩ := ro.there
                  exact ⟨b, fr2.pre i b e4, ro.fra fr2 (by rw [hu, old f b u hu])⟩
                · have hi2 : i = S.length := by
                    have := (List.getElem?_eq_some_iff.mp e3).1
                    rw [List.length_append, List.length_singleton] at this
                    omega
                  subst hi2
                  rw [List.getElem?_append_right (Nat.le_refl _), Nat.sub_self] at e3
                  cases e3
                  refine ⟨a, ?_, vs, h1, ?_⟩
                  · rw [← rst.len, List.getElem?_append_right (Nat.le_refl _), Nat.sub_self]
                    rfl
                  · rw [W.dats_map e2]
                    refine RWs.of (rds.sub fun p hp => ?_)
                    rw [← List.append_assoc] at hp
                    rcases List.mem_append.mp hp with hp | hp
                    · exact List.mem_append_left _ hp
                    · have : p = a := by simpa using hp
                      subst this
                      exact List.mem_append_right _ am
            · rw [← rst.len, List.getElem?_append_right (Nat.le_refl _), Nat.sub_self]
              rfl
          · exact ⟨.d (.lst xs), S, m, k, fr, rst, .lst h1 hna (rds.sub fun p hp => List.mem_append_left _ hp)⟩
        · exact k.elim
      · exact k.elim
    | f g cs => exact k.elim
  | ex c S' =>
    intro m' H' f rs
    obtain ⟨fr, rst⟩ := back_rst st.rel.st (old f)
    exact k m H' (st.fra.trans fr) (st.rel.fra fr rst)
  | bad => exact k
/-- the call itself: data alone, or with the store -/
theorem call_ok {keep : Bool} {K : W → Sto → Prop} {ws : List W} {vs : List V} (st : Sta J pins σ m S l H s) (r : RWs J.Y J.av m H ws vs) (k : (callW C keep f ws S).el K (J.Xc σ l)) :
    spRun J.Y C f vs H (QV J m H K) fun c d H' => J.Wx c d σ H' := by
  unfold callW at k
  split at k
  · rename_i ds e
    exact ⟨J.av ++ m, [], [], ws, rst_empty st.rel.st, r.data e, leave_ok st k⟩
  · refine ⟨J.av, m, S, ws, st.rel.st, r, ?_⟩
    generalize C f ws S = q at k
    cases q with
    | ok w S' => exact fun m' H' v fr rs rw' => ⟨w, S', m', k, fr, rs, rw'⟩
    | ex c S' => exact fun m' H' fr rs => k m' H' (st.fra.trans fr) (st.rel.fra fr rs)
    | bad => exact k
end
section
variable {J : Jx} {C : Cl} {k f : Nat} {a : Addr} {e o : Expr} {es : List Expr} {fo : Sl → Sto → RE W} {fs : Sl → Sto → RE (List W)} {p pos apos : Pos} {x : Str} {keep : Bool}
theorem je_call (ok : J.Ok) (F : FnAt J.X.prog J.X.w J.X.K J.X.mg J.X.base J.Y C k f a) (hr : Room k J.X.A) (hg : Gl J.X x) (hm : J.X.mg x = some (.ref a)) (hd : (x == ("__debug__" : Str)) = false) (ha : JA J (e :: es) fs)
    (he : starEach (e :: es) J.X.env = (false, eval e J.X.env) :: starEach es J.X.env) (hpl : (backTo pos (starEach es J.X.env)).any (·.1) = false) :
    JE J (.Call (.Name x p) (e :: es) [] pos) (fun l S => (fs l S).bind fun ws S => callW C keep f ws S) := by
  intro pins s σ H m S l K st kk
  refine wpAny_Call_Name_kw (ld_glob st.inv hg hm ?_ hd)
  refine PySem.W.callWith_K (h₀ := J.X.base) st.inv.ok.mod.kin F.kp (thn (ha pos pins s σ H m S l _ st (RE.el_bind kk)) fun us s1 ⟨ws, S1, m1, H1, k1, st1, f1, vs, r1, q1⟩ => ⟨st1.inv.kIn, ?_⟩) he hpl
  exact fin st1 f1 (run_at ok.tk F hr st1.tok st1.inv q1 (call_ok st1 r1 k1))
theorem je_call0 (ok : J.Ok) (F : FnAt J.X.prog J.X.w J.X.K J.X.mg J.X.base J.Y C k f a) (hr : Room k J.X.A) (hg : Gl J.X x) (hm : J.X.mg x = some (.ref a)) (hd : (x == ("__debug__" : Str)) = false) :
    JE J (.Call (.Name x p) [] [] pos) (fun l S => (RE.ok [] S).bind fun ws S => callW C keep f ws S) := by
  intro pins s σ H m S l K st kk
  refine wpAny_Call_Name_kw (ld_glob st.inv hg hm ?_ hd)
  refine PySem.W.callWith_K0 st.inv.kIn F.kp ?_
  exact fin st .refl (run_at (us := []) (vs := []) ok.tk F hr st.tok st.inv .nil (call_ok st .nil kk))
theorem zip_none {m : Str} : ∀ {fs : List Str} {vs : List V}, m ∉ fs → (fs.zip vs).lookup m = none
  | [], _, _ => rfl
  | _ :: _, [], _ => rfl
  | a :: fs, b :: vs, h => by
    have hne : (m == a) = false := beq_eq_false_iff_ne.mpr fun z => h (by rw [z]; exact List.mem_cons_self)
    show ((a, b) :: fs.zip vs).lookup m = none
    simp only [List.lookup, hne]
    exact zip_none fun q => h (List.mem_cons_of_mem _ q)
/-- an instance that is read -/
theorem cls_of {pins : List (Addr × Obj)} {σ : L2.St} {m : List Addr} {S : Sto} {l : Sl} {H : Hp} {s : Shared} {c : Nat} {v : W} {y : V} (st : Sta J pins σ m S l H s) (r : RW J.Y J.av m H v y) (e : clsOf S v = some c) :
    ∃ p dx vs, y = .ref p ∧ H p = some (.ins (J.Y.cA c) dx ((J.Y.fs c).zip vs)) := by
  unfold clsOf at e
  split at e
  · cases e
    have r : RD J.Y (J.av ++ m) H (.ins c _) y := r
    cases r with
    | ins h _ _ _ => exact ⟨_, _, _, rfl, h⟩
  · rename_i n
    split at e
    · rename_i c' xs e1
      cases e
      obtain ⟨q, hq, rfl⟩ := r
      obtain ⟨q', hq', dx, vs, h1, _⟩ := st.rel.st.at_ n _ e1
      rw [hq] at hq'
      cases hq'
      exact ⟨q, dx, vs, rfl, h1⟩
    · cases e
  · cases e
structure MtOk (J : Jx) (c : Nat) (n : Str) (a : Addr) : Prop where
  cls : Cls J.X.K (J.Y.cA c)
  mt : Meth J.X.K (J.Y.cA c) n a
  no : n ∉ J.Y.fs c
theorem je_mth (ok : J.Ok) {c : Nat} {n : Str} {pl : Sem Bool} (M : MtOk J c n a) (F : FnAt J.X.prog J.X.w J.X.K J.X.mg J.X.base J.Y C k f a) (hr : Room k J.X.A) (ho : JE J o fo) (ha : JA J (e :: es) fs)
    (hst : starEach (e :: es) J.X.env = (false, eval e J.X.env) :: starEach es J.X.env) (hpl : (backTo pos (starEach es J.X.env)).any (·.1) = false)
    (ht : eval (.Call (.Attribute o n apos) (e :: es) [] pos) J.X.env = (do
      let ov ← eval o J.X.env
      standAt apos.atName
      let (f, first) ← holding [ov] (getMethod ov n pl)
      callWith pos f first (backTo pos (starEach (e :: es) J.X.env)) (backToKw pos (keywordEach [] J.X.env)))) :
    JE J (.Call (.Attribute o n apos) (e :: es) [] pos) (fun l S => (fo l S).bind fun v S => if clsOf S v = some c then (fs l S).bind fun ws S => callW C keep f (v :: ws) S else .bad) := by
  intro pins s σ H m S l K st kk
  refine PySem.W.methodCall_KW (pl := pl) (thn (ho pins s σ H m S l _ st (RE.el_bind kk)) fun u s1 ⟨v, S1, m1, H1, k1, st1, f1, y, r1, q1⟩ => ?_) ht
  dsimp only at k1
  split at k1
  · rename_i hc
    obtain ⟨q, dx, vs0, rfl, hq⟩ := cls_of st1 r1 hc
    cases q1
    refine getmeth_ok st1.inv hq M.cls M.mt (zip_none M.no) ?_
    refine PySem.W.callWith_K (first := [.ref q]) (h₀ := J.X.base) st.inv.ok.mod.kin M.mt.kp (thn (ha pos pins s1 σ H1 m1 S1 l _ st1 (RE.el_bind k1)) fun us s2 ⟨ws, S2, m2, H2, k2, st2, f2, vs, r2, q2⟩ => ⟨st2.inv.kIn, ?_⟩) hst hpl
    exact fin st2 (f1.trans f2) (run_at (us := .ref q :: us) (vs := .ref q :: vs) ok.tk F hr st2.tok st2.inv (.cons rfl q2) (call_ok st2 (.cons (f2.rw r1) r2) k2))
  · exact k1.elim
theorem je_mth0 (ok : J.Ok) {c : Nat} {n : Str} {pl : Sem Bool} (M : MtOk J c n a) (F : FnAt J.X.prog J.X.w J.X.K J.X.mg J.X.base J.Y C k f a) (hr : Room k J.X.A) (ho : JE J o fo)
    (ht : eval (.Call (.Attribute o n apos) [] [] pos) J.X.env = (do
      let ov ← eval o J.X.env
      standAt apos.atName
      let (f, first) ← holding [ov] (getMethod ov n pl)
      callWith pos f first (backTo pos (starEach [] J.X.env)) (backToKw pos (keywordEach [] J.X.env)))) :
    JE J (.Call (.Attribute o n apos) [] [] pos) (fun l S => (fo l S).bind fun v S => if clsOf S v = some c then (RE.ok [] S).bind fun ws S => callW C keep f (v :: ws) S else .bad) := by
  intro pins s σ H m S l K st kk
  refine PySem.W.methodCall_KW (pl := pl) (thn (ho pins s σ H m S l _ st (RE.el_bind kk)) fun u s1 ⟨v, S1, m1, H1, k1, st1, f1, y, r1, q1⟩ => ?_) ht
  dsimp only at k1
  split at k1
  · rename_i hc
    obtain ⟨q, dx, vs0, rfl, hq⟩ := cls_of st1 r1 hc
    cases q1
    refine getmeth_ok st1.inv hq M.cls M.mt (zip_none M.no) ?_
    exact PySem.W.callWith_K0 (first := [.ref q]) st1.inv.kIn M.mt.kp (fin st1 f1 (run_at (us := [.ref q]) (vs := [.ref q]) ok.tk F hr st1.tok st1.inv (.cons rfl .nil) (call_ok st1 (.cons r1 .nil) k1)))
  · exact k1.elim
end
end Kr
/-! KrJ5: a class called. -/
namespace Kr
open PySem PySem.Spec PyProof.Rows L2
section
variable {J : Jx} {pins : List (Addr × Obj)} {σ : L2.St} {m m1 : List Addr} {S S1 : Sto} {l : Sl} {H H1 : Hp} {s s1 : Shared} {C : Cl} {k f : Nat} {a A : Addr}
theorem make_at (tk : Takes J.X J.Wx) (M : Mk J.X.K A a) (F : FnAt J.X.prog J.X.w J.X.K J.X.mg J.X.base J.Y C k f a) (hr : Room (k + 1) J.X.A) {us : List Value} {vs : List V} {Q : VK} (t0 : 1 ≤ s.toks) (I : Inv J.X pins σ H s) (r : Vals vs us)
    (h : ∀ x dx, H x = none → H dx = none → dx ≠ x → spRun J.Y C f (.ref x :: vs) (upd (upd H dx (.own x)) x (.ins A dx [])) (fun v H2 => v = .non ∧ Q (.ref x) H2) fun c d H' => J.Wx c d σ H') :
    wpAny (model J.X.prog J.X.w) J.X.A (call (.ref A) us) (EP J.X pins σ Q) J.X.xe s := by
  obtain ⟨fd, ps, F, hb⟩ := F.ok
  have hq := h (s.heap.objs.size + 1) s.heap.objs.size (I.hok.fresh (Nat.le_succ _)) (I.hok.fresh (Nat.le_refl _)) (Nat.ne_of_lt (Nat.lt_succ_self _))
  have I2 := Inv.made (C := A) I
  have r2 : Vals (V.ref (s.heap.objs.size + 1) :: vs) (Value.ref (s.heap.objs.size + 1) :: us) := .cons rfl r
  have hl : (Value.ref (s.heap.objs.size + 1) :: us).length = ps.length := by
    rw [← r2.length]
    exact F.len _ _ _ _ hq
  have hb2 := hb _ (Value.ref (s.heap.objs.size + 1) :: us) I2.kIn (by rw [List.append_nil]; exact hl)
  rw [List.append_nil] at hb2
  refine wpAny_call (make_map (f := a) I.kIn M.makes M.init (beq_iff_eq.mp M.fn) (codeAny_mono (F.run _ J.X.stack _ _ ⟨Value.ref (s.heap.objs.size + 1) :: us, []⟩ (Value.ref (s.heap.objs.size + 1) :: us) _ _ _ t0 (hr.make A us [])
    (I2.env0.make A us []) hb2 r2 hq) fun r s' hq' => ?_))
  cases r with
  | error e => exact tk e s' (XE.of_call I2 (fun _ _ _ z => z) hq')
  | ok fl =>
    cases fl with
    | ret u =>
      obtain ⟨v, H', I3, rv, ev, q3⟩ := I2.after hq'
      subst ev
      exact ⟨rv, V.ref (s.heap.objs.size + 1), H', I3, rfl, q3⟩
    | next => exact hq'.elim
    | brk => exact hq'.elim
    | cont => exact hq'.elim
theorem RSt.made {Y : Cfg} {av : List Addr} {c : Nat} {x dx : Addr} (st : RSt Y av m S H) (hx : H x = none) (hd : H dx = none) (ne : dx ≠ x) :
    RSt Y av (m ++ [x]) (S ++ [.ins c []]) (upd (upd H dx (.own x)) x (.ins (Y.cA c) dx [])) ∧ Fra m H (m ++ [x]) (upd (upd H dx (.own x)) x (.ins (Y.cA c) dx [])) := by
  have hx2 : upd H dx (.own x) x = none := by rw [upd_ne (Ne.symm ne)]; exact hx
  refine ⟨(st.laid (o := .own x) hd).push hx2 ⟨dx, [], ?_, Nat.zero_le _, .nil⟩, (Fra.laid hd).trans (Fra.push hx2)⟩
  rw [upd_same, List.zip_nil_right]
theorem mk_ok {keep : Bool} {K : W → Sto → Prop} {c : Nat} {ws : List W} {vs : List V} (st : Sta J pins σ m S l H s) (r : RWs J.Y J.av m H ws vs) (k : (mkW C keep c f ws S).el K (J.Xc σ l)) :
    ∀ x dx, H x = none → H dx = none → dx ≠ x → spRun J.Y C f (.ref x :: vs) (upd (upd H dx (.own x)) x (.ins (J.Y.cA c) dx [])) (fun v H2 => v = .non ∧ QV J m H K (.ref x) H2) fun c d H' => J.Wx c d σ H' := by
  intro x dx hx hd ne
  unfold mkW at k
  split at k
  · obtain ⟨rs, fr⟩ := st.rel.st.made (c := c) hx hd ne
    refine ⟨J.av, m ++ [x], S ++ [.ins c []], .r S.length :: ws, rs, .cons ⟨x, ?_, rfl⟩ (fr.rws r), ?_⟩
    · rw [← st.rel.st.len, List.getElem?_append_right (Nat.le_refl _), Nat.sub_self]
      rfl
    · generalize C f (.r S.length :: ws) (S ++ [.ins c []]) = q at k
      have hmx : (m ++ [x])[S.length]? = some x := by
        rw [← st.rel.st.len, List.getElem?_append_right (Nat.le_refl _), Nat.sub_self]
        rfl
      split at k
      · rename_i S'
        intro m' H' v f2 rs2 rv
        cases rv
        exact ⟨rfl, .r S.length, S', m', k, fr.trans f2, rs2, x, f2.pre _ _ hmx, rfl⟩
      · exact fun m' H' f2 rs2 => k m' H' (st.fra.trans (fr.trans f2)) (st.rel.fra (fr.trans f2) rs2)
      · exact k.elim
  · split at k
    · rename_i ds e
      obtain ⟨rs, fr⟩ := (rst_empty st.rel.st).made (c := c) hx hd ne
      have hold : ∀ {m' : List Addr} {H' : Hp}, Fra [x] (upd (upd H dx (.own x)) x (.ins (J.Y.cA c) dx [])) m' H' → ∀ p o, H p = some o → H' p = some o := fun {m' H'} f2 p o h => by
        have n1 : p ≠ x := ne_of_none h hx
        have n2 : p ≠ dx := ne_of_none h hd
        exact f2.keep p o (by rw [upd_ne n1, upd_ne n2]; exact h) (by simpa using n1)
      refine ⟨J.av ++ m, [x], [.ins c []], .r 0 :: ws, rs, .cons ⟨x, rfl, rfl⟩ (fr.rws (r.data e)), ?_⟩
      generalize C f (.r 0 :: ws) [.ins c []] = q at k
      split at k
      · rename_i S'
        intro m' H' v f2 rs2 rv
        cases rv
        refine ⟨rfl, ?_⟩
        obtain ⟨fr3, rst⟩ := back_rst st.rel.st (hold f2)
        split at k
        · rename_i c' xs e2
          split at k
          · rename_i hc
            subst hc
            split at k
            · rename_i ds2 e3
              obtain ⟨b, hb, dx', vs', h1, h2, h3⟩ := rs2.at_ 0 _ e2
              have hb2 := f2.pre 0 x rfl
              rw [hb] at hb2
              cases hb2
              have hm : x ∈ m' := List.mem_of_getElem? hb
              have hna : x ∉ J.av ++ m := fun q => (List.nodup_append.mp rs2.nd).2.2 x q x hm rfl
              exact ⟨.d (.ins c' ds2), S, m, k, fr3, rst, .ins h1 hna h2 ((h3.dats e3).sub fun p hp => List.mem_append_left _ hp)⟩
            · exact k.elim
          · exact k.elim
        · exact k.elim
      · rename_i c' S'
        exact fun m' H' f2 rs2 => k m H' (st.fra.trans (back_rst st.rel.st (hold f2)).1) (st.rel.fra (back_rst st.rel.st (hold f2)).1 (back_rst st.rel.st (hold f2)).2)
      · exact k.elim
    · exact k.elim
end
section
variable {J : Jx} {C : Cl} {k f c : Nat} {a : Addr} {e : Expr} {es : List Expr} {fs : Sl → Sto → RE (List W)} {p pos : Pos} {x : Str} {keep : Bool}
theorem je_mk (ok : J.Ok) (M : Mk J.X.K (J.Y.cA c) a) (F : FnAt J.X.prog J.X.w J.X.K J.X.mg J.X.base J.Y C k f a) (hr : Room (k + 1) J.X.A) (hg : Gl J.X x) (hm : J.X.mg x = some (.ref (J.Y.cA c))) (hd : (x == ("__debug__" : Str)) = false) (ha : JA J (e :: es) fs)
    (he : starEach (e :: es) J.X.env = (false, eval e J.X.env) :: starEach es J.X.env) (hpl : (backTo pos (starEach es J.X.env)).any (·.1) = false) :
    JE J (.Call (.Name x p) (e :: es) [] pos) (fun l S => (fs l S).bind fun ws S => mkW C keep c f ws S) := by
  intro pins s σ H m S l K st kk
  refine wpAny_Call_Name_kw (ld_glob st.inv hg hm ?_ hd)
  refine PySem.W.callWith_K (h₀ := J.X.base) st.inv.ok.mod.kin M.kp (thn (ha pos pins s σ H m S l _ st (RE.el_bind kk)) fun us s1 ⟨ws, S1, m1, H1, k1, st1, f1, vs, r1, q1⟩ => ⟨st1.inv.kIn, ?_⟩) he hpl
  exact fin st1 f1 (make_at ok.tk M F hr st1.tok st1.inv q1 (mk_ok st1 r1 k1))
end
end Kr
/-! KrJ6: what is walked, targets. -/
namespace Kr
open PySem PySem.Spec PyProof.Rows L2

/-! ### what is walked -/
/-- the evaluator's walk and the iterator's go together -/
def WalkOk (Y : Cfg) (av m : List Addr) (H : Hp) (v : Iv) (I : L2.It) : Prop :=
  ∀ (av' m2 : List Addr) (S2 : Sto) (H2 : Hp) (i : Nat), (∀ p o, H p = some o → p ∉ av ++ m → H2 p = some o ∧ p ∉ av' ++ m2) → (∀ (n : Nat) (a : Addr), m[n]? = some a → m2[n]? = some a) → RSt Y av' m2 S2 H2 →
    (∀ w, ivAt S2 i v = some (some w) → I.go i H2 ∧ ∀ x H3, I.yld i H2 x H3 → Fra m2 H2 m2 H3 ∧ RSt Y av' m2 S2 H3 ∧ RW Y av' m2 H3 w x) ∧ (ivAt S2 i v = some none → I.stop i H2)
def RWalk (J : Jx) (m : List Addr) (H : Hp) (K : Iv → Sto → Prop) : L2.It → Hp → Prop := fun I H' => ∃ v S' m', K v S' ∧ Fra m H m' H' ∧ RSt J.Y J.av m' S' H' ∧ WalkOk J.Y J.av m' H' v I
def JI (J : Jx) (tg iter : Expr) (f : Sl → Sto → RE Iv) : Prop :=
  ∀ (pins : List (Addr × Obj)) (s : Shared) (σ : L2.St) (H : Hp) (m : List Addr) (S : Sto) (l : Sl) (K : Iv → Sto → Prop), Sta J pins σ m S l H s → (f l S).el K (J.Xc σ l) →
    wpAny (model J.X.prog J.X.w) J.X.A (eval iter J.X.env) (fun v s1 => wpAny (model J.X.prog J.X.w) J.X.A (pyIter v) (PIE J.X pins σ tg (RWalk J m H K)) J.X.xe s1) J.X.xe s
section
variable {Y : Cfg} {av av' m m2 : List Addr} {H H2 : Hp} {z z' : List Addr}
/-- a written part's tuple is there in every heap -/
theorem vals_walk {vs : List V} {xs : List W} (r : RWs Y av m H xs vs) (hd : ∀ w ∈ xs, ∃ d, w = .d d) (hk : ∀ p o, H p = some o → p ∉ av ++ m → H2 p = some o ∧ p ∉ av' ++ m2) : RWs Y av' m2 H2 xs vs := by
  induction r with
  | nil => exact .nil
  | cons h r ih =>
    obtain ⟨d, rfl⟩ := hd _ List.mem_cons_self
    have h : RD Y (av ++ m) H d _ := h
    exact .cons (show RW Y av' m2 H2 (.d d) _ from h.keep hk) (ih fun w hw => hd w (List.mem_cons_of_mem _ hw))
theorem walk_tup {K : PySem.W.Frag} {p : Addr} {ds : List D} {vs : List V} (hp : (TupAt H p vs ∧ p ∉ av ++ m) ∨ KTup Y.K p vs) (hK : K = Y.K) (r : RDs Y (av ++ m) H ds vs) : WalkOk Y av m H (.vs (ds.map .d)) (Itt K p) := by
  intro av' m2 S2 H2 i hk _ st
  have sq : SqT K H2 p vs := by
    rcases hp with ⟨h, n⟩ | h
    · exact (h.keep n hk).1.sq
    · rw [hK]; exact h.sq
  have r2 : RDs Y (av' ++ m2) H2 ds vs := r.keep hk
  constructor
  · intro w e
    have e : some (ds.map W.d)[i]? = some (some w) := e
    rw [List.getElem?_map] at e
    obtain ⟨d, e1, rfl⟩ := Option.map_eq_some_iff.mp (Option.some.inj e)
    obtain ⟨x, e2, rx⟩ := r2.get e1
    refine ⟨⟨vs, x, sq, e2⟩, fun y H3 hy => ?_⟩
    obtain ⟨rfl, hy⟩ := hy
    have := hy vs sq
    rw [e2] at this
    cases this
    exact ⟨.refl, st, rx⟩
  · intro e
    have e : some (ds.map W.d)[i]? = some none := e
    refine ⟨vs, sq, ?_⟩
    have := List.getElem?_eq_none_iff.mp (Option.some.inj e)
    rw [List.length_map, r2.length] at this
    exact this
theorem walk_lst {K : PySem.W.Frag} {p : Addr} {ds : List D} {vs : List V} (h : H p = some (.lst vs)) (n : p ∉ av ++ m) (r : RDs Y (av ++ m) H ds vs) : WalkOk Y av m H (.vs (ds.map .d)) (Itl K p) := by
  intro av' m2 S2 H2 i hk _ st
  have sq : SqL K H2 p vs := .inl (.inl (hk _ _ h n).1)
  have r2 : RDs Y (av' ++ m2) H2 ds vs := r.keep hk
  constructor
  · intro w e
    have e : some (ds.map W.d)[i]? = some (some w) := e
    rw [List.getElem?_map] at e
    obtain ⟨d, e1, rfl⟩ := Option.map_eq_some_iff.mp (Option.some.inj e)
    obtain ⟨x, e2, rx⟩ := r2.get e1
    refine ⟨⟨vs, x, sq, e2⟩, fun y H3 hy => ?_⟩
    obtain ⟨rfl, hy⟩ := hy
    have := hy vs sq
    rw [e2] at this
    cases this
    exact ⟨.refl, st, rx⟩
  · intro e
    have e : some (ds.map W.d)[i]? = some none := e
    refine ⟨vs, sq, ?_⟩
    have := List.getElem?_eq_none_iff.mp (Option.some.inj e)
    rw [List.length_map, r2.length] at this
    exact this
theorem walk_ref {K : PySem.W.Frag} {p : Addr} {n : Nat} (hp : m[n]? = some p) : WalkOk Y av m H (.ref n) (Itl K p) := by
  intro av' m2 S2 H2 i _ hm st
  have hp2 := hm n p hp
  have go : ∀ {ws : List W}, S2[n]? = some (.lst ws) → ∃ vs, SqL K H2 p vs ∧ RWs Y av' m2 H2 ws vs := fun {ws} e => by
    obtain ⟨q, hq, vs, h1, h2⟩ := st.at_ n _ e
    rw [hp2] at hq
    cases hq
    exact ⟨vs, .inl (.inl h1), h2⟩
  constructor
  · intro w e
    unfold ivAt at e
    dsimp only at e
    split at e
    · rename_i ws e0
      obtain ⟨vs, sq, rws⟩ := go e0
      obtain ⟨x, e2, rx⟩ := rws.get (Option.some.inj e)
      refine ⟨⟨vs, x, sq, e2⟩, fun y H3 hy => ?_⟩
      obtain ⟨rfl, hy⟩ := hy
      have := hy vs sq
      rw [e2] at this
      cases this
      exact ⟨.refl, st, rx⟩
    · cases e
  · intro e
    unfold ivAt at e
    dsimp only at e
    split at e
    · rename_i ws e0
      obtain ⟨vs, sq, rws⟩ := go e0
      refine ⟨vs, sq, ?_⟩
      rw [← rws.length]
      exact List.getElem?_eq_none_iff.mp (Option.some.inj e)
    · cases e
theorem walk_str {t : List Nat} (ha : Asc t) : WalkOk Y av m H (.vs (t.map fun c => .d (.str [c]))) (Its (mkS t)) := by
  intro av' m2 S2 H2 i _ _ st
  constructor
  · intro w e
    have e : some (t.map fun c => W.d (.str [c]))[i]? = some (some w) := e
    rw [List.getElem?_map] at e
    obtain ⟨c, e1, rfl⟩ := Option.map_eq_some_iff.mp (Option.some.inj e)
    refine ⟨?_, fun y H3 hy => ?_⟩
    · show i < (mkS t).cps.size
      have := (List.getElem?_eq_some_iff.mp e1).1
      simpa [mkS] using this
    · obtain ⟨rfl, c', hc, rfl⟩ := hy
      have : c' = c := by
        have h2 : t[i]? = some c' := by simpa [mkS] using hc
        rw [e1] at h2
        exact (Option.some.inj h2).symm
      subst this
      exact ⟨.refl, st, .str [c'] fun a hh => by
        have : a = c' := by simpa using hh
        subst this
        exact ha _ (List.mem_of_getElem? e1)⟩
  · intro e
    have e : some (t.map fun c => W.d (.str [c]))[i]? = some none := e
    show (mkS t).cps.size ≤ i
    have := List.getElem?_eq_none_iff.mp (Option.some.inj e)
    simpa [mkS] using this
theorem walk_rng {a : Int} {n : Nat} : WalkOk Y av m H (.vs (range1 n a)) (Itr a n) := by
  intro av' m2 S2 H2 i _ _ st
  have hat : (range1 n a)[i]? = if i < n then some (.d (.int (a + i))) else none := by
    unfold range1
    rw [List.getElem?_map]
    by_cases h : i < n
    · rw [List.getElem?_range h, if_pos h]
      rfl
    · rw [List.getElem?_eq_none (by rw [List.length_range]; omega), if_neg h]
      rfl
  constructor
  · intro w e
    have e : (range1 n a)[i]? = some w := Option.some.inj e
    rw [hat] at e
    split at e
    · rename_i h
      cases e
      refine ⟨h, fun y H3 hy => ?_⟩
      obtain ⟨rfl, rfl⟩ := hy
      exact ⟨.refl, st, .int _⟩
    · cases e
  · intro e
    have e : (range1 n a)[i]? = none := Option.some.inj e
    rw [hat] at e
    split at e
    · cases e
    · rename_i h
      exact Nat.le_of_not_lt h
end
section
variable {J : Jx} {tg e a b : Expr} {fe fa fb : Sl → Sto → RE W} {p pos : Pos}
theorem ji_seq (ok : J.Ok) (he : JE J e fe) : JI J tg e (fun l S => (fe l S).bind fun w S => seqIv S w) := by
  intro pins s σ H m S l K st k
  refine thn (he pins s σ H m S l _ st (RE.el_bind k)) fun u s1 ⟨w, S1, m1, H1, k1, st1, f1, x, r1, q1⟩ => ?_
  unfold seqIv at k1
  dsimp only at k1
  have lst : ∀ {p : Addr} {vs : List V} {v : Iv}, x = .ref p → SqL J.X.K H1 p vs → K v S1 → WalkOk J.Y J.av m1 H1 v (Itl J.X.K p) → wpAny (model J.X.prog J.X.w) J.X.A (pyIter u) (PIE J.X pins σ tg (RWalk J m H K)) J.X.xe s1 := by
    intro p vs v ex sq kv wo
    subst ex
    cases q1
    obtain ⟨its, rv, pl, hz⟩ := st1.inv.list sq
    refine wpAny_pyIter_list pl.isList ?_
    exact pi_one (tk := s1.toks) st1.inv _ (turn_list p _) ⟨_, Heap.get?_push_size _ rfl, rfl, rfl⟩ ⟨v, S1, m1, kv, f1, st1.rel.st, wo⟩
  split at k1
  · rename_i d
    obtain ⟨v, e1, k2⟩ := RE.el_of k1
    obtain ⟨xs, e2, rfl⟩ := Option.map_eq_some_iff.mp e1
    have r1 : RD J.Y (J.av ++ m1) H1 d x := r1
    cases r1 with
    | str t ha =>
      cases e2
      obtain ⟨tk, rfl⟩ := q1
      have q : RWalk J m H K (Its (mkS t)) H1 := ⟨_, S1, m1, k2, f1, st1.rel.st, walk_str ha⟩
      cases hx : (mkS t).cps.all (· < 128)
      · exact wpAny_pyIter_wide hx (pi_one (tk := s1.toks) st1.inv _ (turn_str _ (mkS t) tk "str_iterator" (.inr rfl)) ⟨_, Heap.get?_push_size _ rfl, rfl, rfl⟩ q)
      · exact wpAny_pyIter_ascii hx (pi_one (tk := s1.toks) st1.inv _ (turn_str _ (mkS t) tk "str_ascii_iterator" (.inl rfl)) ⟨_, Heap.get?_push_size _ rfl, rfl, rfl⟩ q)
    | @tup p ds vs h n r =>
      cases e2
      cases q1
      obtain ⟨its, rv, pl, hz⟩ := st1.inv.tuple (h.sq (K := J.X.K))
      refine wpAny_pyIter_tuple (show s1.heap.IsTuple p its.toArray from pl) ?_
      exact pi_one (tk := s1.toks) st1.inv _ (turn_tuple p _) ⟨_, Heap.get?_push_size _ rfl, rfl, rfl⟩ ⟨_, S1, m1, k2, f1, st1.rel.st, walk_tup (.inl ⟨h, n⟩) ok.hK r⟩
    | @tupK p ds vs h r =>
      cases e2
      cases q1
      have h2 := h
      rw [← ok.hK] at h2
      obtain ⟨its, rv, pl, hz⟩ := st1.inv.tuple (h2.sq (K := J.X.K))
      refine wpAny_pyIter_tuple (show s1.heap.IsTuple p its.toArray from pl) ?_
      exact pi_one (tk := s1.toks) st1.inv _ (turn_tuple p _) ⟨_, Heap.get?_push_size _ rfl, rfl, rfl⟩ ⟨_, S1, m1, k2, f1, st1.rel.st, walk_tup (.inr h) ok.hK r⟩
    | @lst p ds vs h n r =>
      cases e2
      exact lst rfl (.inl (.inl h)) k2 (walk_lst h n r)
    | non => cases e2
    | bl => cases e2
    | int => cases e2
    | ins => cases e2
    | scr => cases e2
    | scrK => cases e2
  · rename_i n
    split at k1
    · rename_i ws e0
      obtain ⟨p, hp, rfl⟩ := r1
      obtain ⟨q, hq, vs, h1, h2⟩ := st1.rel.st.at_ n _ e0
      rw [hp] at hq
      cases hq
      exact lst rfl (.inl (.inl h1)) k1 (walk_ref hp)
    · exact k1.elim
  · exact k1.elim
theorem rngOk_of {i : Int} (h : rngOk i = true) : -(2 ^ 62) ≤ i ∧ i < 2 ^ 62 := by
  unfold rngOk at h
  simp only [Bool.and_eq_true, decide_eq_true_eq] at h
  omega
theorem ji_rng1 (hg : Gl J.X "range") (hm : J.X.mg "range" = none) (ha : JE J a fa) (hs : starEach [a] J.X.env = [(false, eval a J.X.env)]) :
    JI J tg (.Call (.Name "range" p) [a] [] pos) (fun l S => (asD (fa l S)).bind fun x S => (match x with
    | .int i => if rngOk i then .ok (.vs (range1 (rngN 0 i) 0)) S else .bad
    | _ => .bad)) := by
  intro pins s σ H m S l K st k
  refine Call_ (ld_blt st.inv hg hm boot_range (PyProof.Rows.callWith_type1 ?_ hs rfl))
  rw [hs]
  show wpAny _ _ (spliced ((false, eval a J.X.env) :: backTo pos [])) _ _ s
  refine Calls.spliced_cons (thn (ha.dat pins s σ H m S l _ st (RE.el_bind k)) fun u1 s1 ⟨d, S1, m1, H1, k1, st1, f1, x, r1, q1⟩ => Calls.spliced_nil ?_)
  cases d with
  | int i =>
    obtain rfl := r1.int
    obtain ⟨t, rfl⟩ := q1
    dsimp only at k1
    split at k1
    · rename_i h
      obtain ⟨h1, h2⟩ := rngOk_of h
      refine call_range_1 (range_it st1.inv (by omega) (by omega) h1 h2 ⟨_, S1, m1, k1, f1, st1.rel.st, ?_⟩)
      exact walk_rng
    · exact k1.elim
  | _ => exact k1.elim
theorem ji_rng2 (hg : Gl J.X "range") (hm : J.X.mg "range" = none) (ha : JE J a fa) (hb : JE J b fb) (hs : starEach [a, b] J.X.env = [(false, eval a J.X.env), (false, eval b J.X.env)]) (hs2 : starEach [b] J.X.env = [(false, eval b J.X.env)]) :
    JI J tg (.Call (.Name "range" p) [a, b] [] pos) (fun l S => (asD (fa l S)).bind fun x S => (asD (fb l S)).bind fun y S => (match x, y with
    | .int i, .int j => if rngOk i && rngOk j then .ok (.vs (range1 (rngN i j) i)) S else .bad
    | _, _ => .bad)) := by
  intro pins s σ H m S l K st k
  refine Call_ (ld_blt st.inv hg hm boot_range (PyProof.Rows.callWith_type1 ?_ (by rw [hs, hs2]) (by rw [hs2]; rfl)))
  rw [hs]
  show wpAny _ _ (spliced ((false, eval a J.X.env) :: backTo pos [(false, eval b J.X.env)])) _ _ s
  refine Calls.spliced_cons (thn (ha.dat pins s σ H m S l _ st (RE.el_bind k)) fun u1 s1 ⟨d, S1, m1, H1, k1, st1, f1, x, r1, q1⟩ => ?_)
  show wpAny _ _ (spliced ((false, eval b J.X.env) :: backTo pos [])) _ _ s1
  refine Calls.spliced_cons (thn (hb.dat pins s1 σ H1 m1 S1 l _ st1 (RE.el_bind k1)) fun u2 s2 ⟨d2, S2, m2, H2, k2, st2, f2, y, r2, q2⟩ => Calls.spliced_nil ?_)
  dsimp only at k2
  split at k2
  · obtain rfl := r1.int
    obtain rfl := r2.int
    obtain ⟨t, rfl⟩ := q1
    obtain ⟨t', rfl⟩ := q2
    split at k2
    · rename_i h
      obtain ⟨ha, hb⟩ := Bool.and_eq_true_iff.mp h
      obtain ⟨h1, h2⟩ := rngOk_of ha
      obtain ⟨h3, h4⟩ := rngOk_of hb
      exact call_range_2 (range_it st2.inv h1 h2 h3 h4 ⟨_, S2, m2, k2, f1.trans f2, st2.rel.st, walk_rng⟩)
    · exact k2.elim
  · exact k2.elim
end
/-! ### targets -/
def RS.nxt (K : Sl → Sto → Prop) : RS → Prop
  | .nx l S => K l S
  | _ => False
theorem RS.nxt_sq {K : Sl → Sto → Prop} {r : RS} {f : Sl → Sto → RS} (h : (r.sq f).nxt K) : r.nxt fun l S => (f l S).nxt K := by
  cases r <;> exact h
def JG (J : Jx) (tg : Expr) (is : List Nat) (g : W → Sl → Sto → RS) : Prop :=
  ∀ (pins : List (Addr × Obj)) (s : Shared) (σ : L2.St) (H : Hp) (m : List Addr) (S : Sto) (l : Sl) (w : W) (v : V) (u : Value) (K : Sl → Sto → Prop), Sta J pins σ m S l H s → RW J.Y J.av m H w v → RelV v u → (g w l S).nxt K →
    wpAny (model J.X.prog J.X.w) J.X.A (assign tg J.X.env u) (fun _ s' => ∃ σ' l' S', K l' S' ∧ Sta J pins σ' m S' l' H s' ∧ (σ'.length = σ.length ∧ ∀ j, j ∉ is → σ'[j]? = σ[j]?)) J.X.xe s
def JGs (J : Jx) (ts : List Expr) (is : List Nat) (g : List D → Sl → Sto → RS) : Prop :=
  ∀ (pins : List (Addr × Obj)) (s : Shared) (σ : L2.St) (H : Hp) (m : List Addr) (S : Sto) (l : Sl) (ds : List D) (vs : List V) (us : List Value) (K : Sl → Sto → Prop), Sta J pins σ m S l H s → RDs J.Y (J.av ++ m) H ds vs → Vals vs us → (g ds l S).nxt K →
    wpAny (model J.X.prog J.X.w) J.X.A (assignInOrder ((assignEach ts J.X.env).map (·.2)) us) (fun _ s' => ∃ σ' l' S', K l' S' ∧ Sta J pins σ' m S' l' H s' ∧ (σ'.length = σ.length ∧ ∀ j, j ∉ is → σ'[j]? = σ[j]?)) J.X.xe s
section
variable {J : Jx} {pos : Pos}
theorem Sta.set {pins : List (Addr × Obj)} {σ : L2.St} {m : List Addr} {S : Sto} {l : Sl} {H : Hp} {s s' : Shared} {i : Nat} {w : W} {v : V} (st : Sta J pins σ m S l H s) (t : 1 ≤ s'.toks) (I : Inv J.X pins (σ.set i (some v)) H s') (r : RW J.Y J.av m H w v) :
    Sta J pins (σ.set i (some v)) m S (l.set i (some w)) H s' := ⟨t, I, st.fra, st.rel.set r⟩
theorem store_go {pins : List (Addr × Obj)} {σ : L2.St} {m : List Addr} {S : Sto} {l : Sl} {H : Hp} {s : Shared} {i : Nat} {x : Str} {w : W} {v : V} {u : Value} {Q : Unit → Shared → Prop} (st : Sta J pins σ m S l H s) (hN : J.X.N.Nodup) (hi : J.X.N[i]? = some x) (hx : Loc J.X.env.scope x)
    (hf : J.X.fn x = true ∨ J.X.env.scope.names.lookup x = some .local) (r : RW J.Y J.av m H w v) (q : RelV v u) (h : ∀ s', Sta J pins (σ.set i (some v)) m S (l.set i (some w)) H s' → Q () s') : wpAny (model J.X.prog J.X.w) J.X.A (storeName J.X.env x u) Q J.X.xe s := by
  refine wpAny_mono (PySem.wpAny_toks_of st.tok (store_ok (Q := fun _ s2 => Inv J.X pins (σ.set i (some v)) H s2) st.inv hN hi hx q (fun _ I2 => I2) hf)) (fun _ s2 z => h s2 (st.set z.1 z.2 r)) fun _ _ z => z.2
theorem jg_nam {i : Nat} {x : Str} (hN : J.X.N.Nodup) (hi : J.X.N[i]? = some x) (hx : Loc J.X.env.scope x) (hf : J.X.fn x = true ∨ J.X.env.scope.names.lookup x = some .local) : JG J (.Name x pos) [i] (fun w l S => if i < l.length then .nx (l.set i (some w)) S else .bad) := by
  intro pins s σ H m S l w v u K st r q k
  dsimp only at k
  split at k
  · exact wpAny_assign_Name (store_go st hN hi hx hf r q fun s' st' => ⟨_, _, _, k, st', List.length_set, fun j hj => List.getElem?_set_ne (fun e => hj (List.mem_singleton.mpr e.symm))⟩)
  · exact k.elim
theorem jgs_nil : JGs J [] [] (fun xs l S => (match xs with
    | [] => .nx l S
    | _ :: _ => .bad)) := by
  intro pins s σ H m S l ds vs us K st r q k
  cases r with
  | nil =>
    cases q
    exact assignInOrder_nil ⟨_, _, _, k, st, rfl, fun _ _ => rfl⟩
  | cons h r => exact k.elim
theorem jgs_cons {e : Expr} {es : List Expr} {is js : List Nat} {g : W → Sl → Sto → RS} {gs : List D → Sl → Sto → RS} (h1 : JG J e is g) (h2 : JGs J es js gs) (hs : (assignEach (e :: es) J.X.env).map (·.2) = assign e J.X.env :: (assignEach es J.X.env).map (·.2)) :
    JGs J (e :: es) (is ++ js) (fun xs l S => (match xs with
    | [] => .bad
    | x :: xs => (g (.d x) l S).sq fun l S => gs xs l S)) := by
  intro pins s σ H m S l ds vs us K st r q k
  cases r with
  | nil => exact k.elim
  | @cons d v ds vs hd r =>
    cases q with
    | cons qd q =>
      rw [hs]
      refine assignInOrder_cons (thn (h1 pins s σ H m S l (.d d) v _ _ st hd qd (RS.nxt_sq k)) fun _ s1 ⟨σ1, l1, S1, k1, st1, e1, e2⟩ => ?_)
      refine thn (h2 pins s1 σ1 H m S1 l1 _ _ _ K st1 r q k1) fun _ s2 ⟨σ2, l2, S2, k2, st2, e3, e4⟩ => ⟨σ2, l2, S2, k2, st2, e3.trans e1, fun j hj => ?_⟩
      rw [e4 j fun z => hj (List.mem_append_right _ z), e2 j fun z => hj (List.mem_append_left _ z)]
theorem jg_tup {es : List Expr} {k : Nat} {is : List Nat} {gs : List D → Sl → Sto → RS} {n : Nat} (hc : J.X.calm = true) (ok : J.Ok) (h : JGs J es is gs) (hn : (assignEach es J.X.env).length = n) (hlen : ∀ xs l S K, (gs xs l S).nxt K → xs.length = n) (hst : (assignEach es J.X.env).findIdx? (·.1) = none) :
    JG J (.Tuple es k pos) is (fun w l S => (match w with
    | .d (.tup xs) => gs xs l S
    | _ => .bad)) := by
  intro pins s σ H m S l w v u K st r q kk
  dsimp only at kk
  split at kk
  · rename_i xs
    obtain ⟨_, p, vs, rfl, sq, rd⟩ := RT.tup (.inl r : RT J.Y (J.av ++ m) H (.tup xs) v)
    cases q
    rw [← ok.hK] at sq
    obtain ⟨its, rv, ht, hz⟩ := st.inv.tuple sq
    refine assign_Tuple_tuple (st.inv.ok.hd hc) ht (by simp [hn, ← hlen _ _ _ _ kk, rd.length, rv.length]) hst fun h' hx => ?_
    have st1 : Sta J pins σ m S l H { s with heap := h' } := ⟨st.tok, st.inv.kept (t' := s.toks) fun b o e => hx b o (Nat.ne_of_lt (Heap.lt_size e)) e, st.fra, st.rel⟩
    exact h pins _ σ H m S l xs vs _ K st1 rd (by simpa using rv) kk
  · exact kk.elim
end
end Kr
/-! KrJ7: statements. -/
namespace Kr
open PySem PySem.Spec PyProof.Rows L2

structure Ks where
  nx : Sl → Sto → Prop
  rt : W → Sto → Prop
  bk : Sl → Sto → Prop
  ct : Sl → Sto → Prop
def RS.el (K : Ks) (X : Nat → Sl → Sto → Prop) : RS → Prop
  | .nx l S => K.nx l S
  | .ret w S => K.rt w S
  | .brk l S => K.bk l S
  | .cnt l S => K.ct l S
  | .ex c l S => X c l S
  | .bad => False
section
variable {α : Type} {K : Ks} {X : Nat → Sl → Sto → Prop} {r : RE α} {q : RS} {l : Sl}
theorem RE.st_el {f : α → Sto → RS} (h : (r.st l f).el K X) : r.el (fun a S => (f a S).el K X) (fun c S => X c l S) := by
  cases r <;> exact h
theorem RS.sq_el {f : Sl → Sto → RS} (h : (q.sq f).el K X) : q.el { K with nx := fun l S => (f l S).el K X } X := by
  cases q <;> exact h
theorem RE.el_x {M : α → Sto → Prop} {X X' : Nat → Sto → Prop} (h : r.el M X) (i : ∀ c S, X c S → X' c S) : r.el M X' := by
  cases r with
  | ok a S => exact h
  | ex c S => exact i _ _ h
  | bad => exact h
theorem RS.nxt_el (h : q.el K X) (hn : ∀ l S, q ≠ .nx l S → q.el K X → False) : q.nxt K.nx := by
  cases q with
  | nx l S => exact h
  | _ => exact hn [] [] (fun e => nomatch e) h
end
def Jx.Xs (J : Jx) (c : Nat) (l : Sl) (S : Sto) : Prop := ∀ m' H' σ', Fra J.m0 J.H0 m' H' → Rel J.Y J.av m' S l σ' H' → J.Wx (.ref (J.Y.xA c)) none σ' H'
theorem Jx.Xs.c {J : Jx} {σ : L2.St} {l : Sl} {c : Nat} {S : Sto} (h : J.Xs c l S) : J.Xc σ l c S := fun m' H' f r => h m' H' σ f r
def PostS (J : Jx) (pins : List (Addr × Obj)) (m : List Addr) (H : Hp) (K : Ks) (f : Flow) (s' : Shared) : Prop := match f with
  | .next => ∃ l' S' m' H' σ', K.nx l' S' ∧ Sta J pins σ' m' S' l' H' s' ∧ Fra m H m' H'
  | .brk => ∃ l' S' m' H' σ', K.bk l' S' ∧ Sta J pins σ' m' S' l' H' s' ∧ Fra m H m' H'
  | .cont => ∃ l' S' m' H' σ', K.ct l' S' ∧ Sta J pins σ' m' S' l' H' s' ∧ Fra m H m' H'
  | .ret u => ∃ w S' m' H' l' σ' v, K.rt w S' ∧ Sta J pins σ' m' S' l' H' s' ∧ Fra m H m' H' ∧ RW J.Y J.av m' H' w v ∧ RelV v u
def JS (J : Jx) (st : Stmt) (f : Sl → Sto → RS) : Prop :=
  ∀ (pins : List (Addr × Obj)) (s : Shared) (σ : L2.St) (H : Hp) (m : List Addr) (S : Sto) (l : Sl) (K : Ks), Sta J pins σ m S l H s → (f l S).el K J.Xs → wpAny (model J.X.prog J.X.w) J.X.A (exec st J.X.env) (PostS J pins m H K) J.X.xe s
def JSs (J : Jx) (sts : List Stmt) (f : Sl → Sto → RS) : Prop :=
  ∀ (pins : List (Addr × Obj)) (s : Shared) (σ : L2.St) (H : Hp) (m : List Addr) (S : Sto) (l : Sl) (K : Ks), Sta J pins σ m S l H s → (f l S).el K J.Xs → wpAny (model J.X.prog J.X.w) J.X.A (execs sts J.X.env) (PostS J pins m H K) J.X.xe s
section
variable {J : Jx} {pins : List (Addr × Obj)} {σ : L2.St} {m m1 : List Addr} {S : Sto} {l : Sl} {H H1 : Hp} {s : Shared} {K K' : Ks} {f : Flow}
theorem PostS.fra (h : PostS J pins m1 H1 K f s) (g : Fra m H m1 H1) : PostS J pins m H K f s := by
  cases f with
  | next => obtain ⟨l', S', m', H', σ', k, st, fr⟩ := h; exact ⟨l', S', m', H', σ', k, st, g.trans fr⟩
  | brk => obtain ⟨l', S', m', H', σ', k, st, fr⟩ := h; exact ⟨l', S', m', H', σ', k, st, g.trans fr⟩
  | cont => obtain ⟨l', S', m', H', σ', k, st, fr⟩ := h; exact ⟨l', S', m', H', σ', k, st, g.trans fr⟩
  | ret u => obtain ⟨w, S', m', H', l', σ', v, k, st, fr, r⟩ := h; exact ⟨w, S', m', H', l', σ', v, k, st, g.trans fr, r⟩
/-- an expression's value in a statement -/
theorem JE.go {e : Expr} {fe : Sl → Sto → RE W} {g : W → Sto → RS} (he : JE J e fe) (st : Sta J pins σ m S l H s) (k : ((fe l S).st l g).el K J.Xs) {Q : Value → Shared → Prop}
    (h : ∀ u s1 w S1 m1 H1 v, (g w S1).el K J.Xs → Sta J pins σ m1 S1 l H1 s1 → Fra m H m1 H1 → RW J.Y J.av m1 H1 w v → RelV v u → Q u s1) : wpAny (model J.X.prog J.X.w) J.X.A (eval e J.X.env) Q J.X.xe s :=
  thn (he pins s σ H m S l _ st (RE.el_x (RE.st_el k) fun c S x => Jx.Xs.c x)) fun u s1 ⟨w, S1, m1, H1, k1, st1, f1, v, r1, q1⟩ => h u s1 w S1 m1 H1 v k1 st1 f1 r1 q1
theorem JT.go {e : Expr} {ft : Sl → Sto → RE Bool} {g : Bool → Sto → RS} (ht : JT J e ft) (st : Sta J pins σ m S l H s) (k : ((ft l S).st l g).el K J.Xs) {Q : Bool → Shared → Prop}
    (h : ∀ s1 b S1 m1 H1, (g b S1).el K J.Xs → Sta J pins σ m1 S1 l H1 s1 → Fra m H m1 H1 → Q b s1) : wpAny (model J.X.prog J.X.w) J.X.A (isTrue e J.X.env (eval e J.X.env)) Q J.X.xe s :=
  thn (ht pins s σ H m S l _ st (RE.el_x (RE.st_el k) fun c S x => Jx.Xs.c x)) fun u s1 ⟨w, S1, m1, H1, k1, st1, f1, e⟩ => by subst e; exact h s1 w S1 m1 H1 k1 st1 f1
end
section
variable {J : Jx} {pos : Pos} {e o : Expr} {fe fo : Sl → Sto → RE W}
theorem jss_nil : JSs J [] (fun l S => .nx l S) := fun pins s σ H m S l K st k => wpAny_execs_nil ⟨l, S, m, H, σ, k, st, .refl⟩
theorem jss_cons {a : Stmt} {r : List Stmt} {f g : Sl → Sto → RS} (h1 : JS J a f) (h2 : JSs J r g) : JSs J (a :: r) (fun l S => (f l S).sq fun l S => g l S) := by
  intro pins s σ H m S l K st k
  refine wpAny_execs_cons (thn (h1 pins s σ H m S l _ st (RS.sq_el k)) fun fl s1 q => ?_)
  cases fl with
  | next =>
    obtain ⟨l', S', m', H', σ', k', st', fr⟩ := q
    exact thn (h2 pins s1 σ' H' m' S' l' K st' k') fun _ _ z => z.fra fr
  | ret v => exact q
  | brk => exact q
  | cont => exact q
theorem js_pass : JS J (.Pass pos) (fun l S => .nx l S) := fun pins s σ H m S l K st k => wpAny_Pass ⟨l, S, m, H, σ, k, st, .refl⟩
theorem js_brk : JS J (.Break pos) (fun l S => .brk l S) := fun pins s σ H m S l K st k => wpAny_Break ⟨l, S, m, H, σ, k, st, .refl⟩
theorem js_cnt : JS J (.Continue pos) (fun l S => .cnt l S) := fun pins s σ H m S l K st k => wpAny_Continue ⟨l, S, m, H, σ, k, st, .refl⟩
theorem js_doc {x : Str} {j : Nat} {p : Pos} : JS J (.Expr (.Constant (.str x) j p) pos) (fun l S => .nx l S) := fun pins s σ H m S l K st k =>
  wpAny_Expr (Calls.Constant_str ⟨l, S, m, H, σ, k, st.up, .refl⟩) st.inv.quiet
theorem js_expr (he : JE J e fe) (hs : swapsWith e none pos.line J.X.env = pure false) : JS J (.Expr e pos) (fun l S => (fe l S).st l fun _ S => .nx l S) := by
  intro pins s σ H m S l K st k
  exact wpAny_Expr_any (he.go st k fun u s1 w S1 m1 H1 v k1 st1 f1 r q => ⟨l, S1, m1, H1, σ, k1, st1, f1⟩) st.inv.quiet hs
theorem js_ret (he : JE J e fe) : JS J (.Return (some e) pos) (fun l S => (fe l S).st l fun w S => .ret w S) := by
  intro pins s σ H m S l K st k
  exact wpAny_Return_some (he.go st k fun u s1 w S1 m1 H1 v k1 st1 f1 r q => ⟨w, S1, m1, H1, l, σ, v, k1, st1, f1, r, q⟩)
theorem js_retN : JS J (.Return none pos) (fun _ S => .ret (.d .non) S) := fun pins s σ H m S l K st k => wpAny_Return_none ⟨.d .non, S, m, H, l, σ, .non, k, st, .refl, .non, rfl⟩
theorem js_ite {c : Expr} {a b : List Stmt} {ft : Sl → Sto → RE Bool} {f g : Sl → Sto → RS} (hc : JT J c ft) (ha : JSs J a f) (hb : JSs J b g) : JS J (.If c a b pos) (fun l S => (ft l S).st l fun k S => if k then f l S else g l S) := by
  intro pins s σ H m S l K st k
  refine wpAny_If (hc.go st k fun s1 t S1 m1 H1 k1 st1 f1 => ?_)
  cases t with
  | true => exact thn (ha pins s1 σ H1 m1 S1 l K st1 k1) fun _ _ z => z.fra f1
  | false => exact thn (hb pins s1 σ H1 m1 S1 l K st1 k1) fun _ _ z => z.fra f1
/-- only nx comes of a target -/
def Nxo (g : W → Sl → Sto → RS) : Prop := ∀ w l S, (∃ l' S', g w l S = .nx l' S') ∨ g w l S = .bad
theorem Nxo.el {g : W → Sl → Sto → RS} (n : Nxo g) {w : W} {l : Sl} {S : Sto} {K : Ks} {X : Nat → Sl → Sto → Prop} (h : (g w l S).el K X) : (g w l S).nxt K.nx := by
  rcases n w l S with ⟨l', S', e⟩ | e
  · rw [e] at h ⊢; exact h
  · rw [e] at h; exact h.elim
theorem js_asg {tg : Expr} {is : List Nat} {g : W → Sl → Sto → RS} (he : JE J e fe) (hg : JG J tg is g) (hn : Nxo g) (hs : swapsWithSole [tg] e pos.line J.X.env = pure false) (hw : swappedStores [tg] e J.X.env = pure none) (h1 : (assignEach [tg] J.X.env).map (·.2) = [assign tg J.X.env]) :
    JS J (.Assign [tg] e pos) (fun l S => (fe l S).st l fun w S => g w l S) := by
  intro pins s σ H m S l K st k
  refine wpAny_Assign_stores (he.go st k fun u s1 w S1 m1 H1 v k1 st1 f1 r q => ?_) hs hw
  rw [h1]
  exact thn (hg pins s1 σ H1 m1 S1 l w v u K.nx st1 r q (hn.el k1)) fun _ s2 ⟨σ2, l2, S2, k2, st2, _⟩ => ⟨l2, S2, m1, H1, σ2, k2, st2, f1⟩
theorem js_set {i : Nat} {x : Str} {pos' : Pos} (hN : J.X.N.Nodup) (hi : J.X.N[i]? = some x) (hx : Loc J.X.env.scope x) (hf : J.X.fn x = true ∨ J.X.env.scope.names.lookup x = some .local) (he : JE J e fe) (hs : swapsWith e (some (.Name x pos')) pos.line J.X.env = pure false) :
    JS J (.Assign [.Name x pos'] e pos) (fun l S => (fe l S).st l fun w S => if i < l.length then .nx (l.set i (some w)) S else .bad) := by
  intro pins s σ H m S l K st k
  refine wpAny_Assign_Name (he.go st k fun u s1 w S1 m1 H1 v k1 st1 f1 r q => ?_) hs
  split at k1
  · exact store_go st1 hN hi hx hf r q fun s2 st2 => ⟨_, S1, m1, H1, _, k1, st2, f1⟩
  · exact k1.elim
/-! ### while, for -/
theorem js_whl {c : Expr} {b : List Stmt} {ft : Sl → Sto → RE Bool} {f : Sl → Sto → RS} (hp : PassesOwn (model J.X.prog J.X.w) J.X.A J.X.env J.X.xe) (hc : JT J c ft) (hb : JSs J b f) (n : Nat) : JS J (.While c b [] pos) (evWhile ft f n) := by
  intro pins s σ H m S l K st k
  refine wpAny_While (codeAny_whileLoop (fun n s' => ∃ l' S' m' H' σ', Sta J pins σ' m' S' l' H' s' ∧ Fra m H m' H' ∧ (evWhile ft f n l' S').el K J.Xs) ?_ n ⟨l, S, m, H, σ, st, .refl, k⟩)
  rintro n s1 ⟨l1, S1, m1, H1, σ1, st1, f1, k1⟩
  cases n with
  | zero => exact k1.elim
  | succ n =>
    unfold evWhile at k1
    refine wpAny_passesOwn hp (hc.go st1 k1 fun s2 t S2 m2 H2 k2 st2 f2 => ?_)
    cases t with
    | true =>
      rw [if_pos rfl]
      have k2 : (match f l1 S2 with
        | .nx l S => evWhile ft f n l S
        | .cnt l S => evWhile ft f n l S
        | .brk l S => .nx l S
        | r => r).el K J.Xs := k2
      have k3 : (f l1 S2).el { nx := fun l S => (evWhile ft f n l S).el K J.Xs, rt := K.rt, bk := K.nx, ct := fun l S => (evWhile ft f n l S).el K J.Xs } J.Xs := by
        generalize f l1 S2 = r at k2
        cases r <;> exact k2
      refine wpAny_passesOwn hp (thn (hb pins s2 σ1 H2 m2 S2 l1 _ st2 k3) fun fl s3 q3 => ?_)
      have f12 := f1.trans f2
      cases fl with
      | next => obtain ⟨l', S', m', H', σ', k', st', fr⟩ := q3; exact ⟨n, Nat.lt_succ_self n, l', S', m', H', σ', st', f12.trans fr, k'⟩
      | cont => obtain ⟨l', S', m', H', σ', k', st', fr⟩ := q3; exact ⟨n, Nat.lt_succ_self n, l', S', m', H', σ', st', f12.trans fr, k'⟩
      | brk => obtain ⟨l', S', m', H', σ', k', st', fr⟩ := q3; exact ⟨l', S', m', H', σ', k', st', f12.trans fr⟩
      | ret v => obtain ⟨w, S', m', H', l', σ', v', k', st', fr, r⟩ := q3; exact ⟨w, S', m', H', l', σ', v', k', st', f12.trans fr, r⟩
    | false =>
      rw [if_neg Bool.false_ne_true]
      exact wpAny_execs_nil ⟨l1, S2, m2, H2, σ1, k2, st2, f1.trans f2⟩
theorem evFor_X (g : W → Sl → Sto → RS) (b : Sl → Sto → RS) (xs : List W) : ∀ (k i : Nat) (l : Sl) (S : Sto), xs.length + 1 = k + i → i ≤ xs.length → evForX g b (.vs xs) k i l S = evFor g b (xs.drop i) l S
  | 0, i, l, S, h, h2 => by
    omega
  | k + 1, i, l, S, h, h2 => by
    unfold evForX
    by_cases hi : i < xs.length
    · rw [List.drop_eq_getElem_cons hi]
      unfold evFor
      have e : ivAt S i (.vs xs) = some (some xs[i]) := by
        show some xs[i]? = _
        rw [List.getElem?_eq_getElem hi]
      rw [e]
      dsimp only
      have ih := fun l S => evFor_X g b xs k (i + 1) l S (by omega) hi
      simp only [ih]
    · rw [List.drop_of_length_le (by omega)]
      have e : ivAt S i (.vs xs) = some none := by
        show some xs[i]? = _
        rw [List.getElem?_eq_none (by omega)]
      rw [e]
      rfl
def ivN : Iv → Nat
  | .vs xs => xs.length + 1
  | .ref _ => 100000
theorem evForI_X (g : W → Sl → Sto → RS) (b : Sl → Sto → RS) (v : Iv) (l : Sl) (S : Sto) : evForI g b v l S = evForX g b v (ivN v) 0 l S := by
  cases v with
  | vs xs =>
    show evFor g b xs l S = evForX g b (.vs xs) (xs.length + 1) 0 l S
    rw [evFor_X g b xs (xs.length + 1) 0 l S rfl (Nat.zero_le _), List.drop_zero]
  | ref n => rfl
theorem Sta.unpin {pins pl : List (Addr × Obj)} {σ : L2.St} {m : List Addr} {S : Sto} {l : Sl} {H : Hp} {s : Shared} (st : Sta J (pins ++ pl) σ m S l H s) : Sta J pins σ m S l H s := ⟨st.tok, st.inv.unpinned, st.fra, st.rel⟩
theorem js_for {tg iter : Expr} {b : List Stmt} {fi : Sl → Sto → RE Iv} {is : List Nat} {g : W → Sl → Sto → RS} {f : Sl → Sto → RS} (hp : PassesOwn (model J.X.prog J.X.w) J.X.A J.X.env J.X.xe) (hc : J.X.calm = true) (hi : JI J tg iter fi) (hg : JG J tg is g) (hn : Nxo g) (hb : JSs J b f)
    (hs : ∀ x, foldedSetIterable iter J.X.env x = pure x) : JS J (.For tg iter b [] pos) (fun l S => (fi l S).st l fun v S => evForI g f v l S) := by
  intro pins s σ H m S l K st k
  refine wpAny_For (wpAny_mono (PySem.wpAny_toks_of st.tok (hi pins s σ H m S l _ st (RE.el_x (RE.st_el k) fun c S x => Jx.Xs.c x))) (fun v s1 z1 => wpAny_mono (PySem.wpAny_toks_of z1.1 z1.2) (fun itv s2 h2 => ?_) fun _ _ z => z.2) fun _ _ z => z.2) hs
  obtain ⟨tk2, it, fp, tn, I, H2, e, I2, T, st2, f2, iv, S2, m2, k2, fr2, rs2, wo⟩ := h2
  subst e
  have stat : ∀ {H' : Hp}, (∀ b ∈ fp, H' b = none) → ∀ b ∈ fp, FpOk J.X pins H' b := fun hn b hb => ⟨hn b hb, (f2 b hb).2⟩
  rw [evForI_X] at k2
  refine codeAny_forLoop_any (fun n s' => ∃ i l' S' m' H' σ', Sta J pins σ' m' S' l' H' s' ∧ Fra m H m' H' ∧ Fra m2 H2 m' H' ∧ tn i s'.heap ∧ (∀ b ∈ fp, H' b = none) ∧ (evForX g f iv n i l' S').el K J.Xs) ?_ (ivN iv) ⟨0, l, S2, m2, H2, σ, st.mv tk2 I2 fr2 rs2, fr2, .refl, st2, fun b hb => (f2 b hb).1, k2⟩
  rintro n s3 ⟨i, l3, S3, m3, H3, σ3, st3, fr3, fr23, tn3, fp3, k3⟩
  cases n with
  | zero => exact k3.elim
  | succ n =>
    unfold evForX at k3
    have wk := wo J.av m3 S3 H3 i (fun p o h q => ⟨fr23.keep p o h fun z => q (List.mem_append_right _ z), fun z => (List.mem_append.mp z).elim (fun z => q (List.mem_append_left _ z)) (fr23.new p o h fun z => q (List.mem_append_right _ z))⟩) fr23.pre st3.rel.st
    generalize hat : ivAt S3 i iv = at3 at k3 wk
    cases at3 with
    | none => exact k3.elim
    | some ow =>
      cases ow with
      | none =>
        refine wpAny_passesOwn hp (wpAny_mono (PySem.wpAny_toks_of st3.tok (T.done J.X rfl rfl rfl hc i pins s3 σ3 H3 J.X.xe st3.inv (stat fp3) tn3 (wk.2 rfl))) (fun r s4 z4 => ?_) fun _ _ z => z.2)
        obtain ⟨tk4, hr, I4⟩ := z4
        subst hr
        exact wpAny_execs_nil ⟨l3, S3, m3, H3, σ3, k3, ⟨tk4, I4, st3.fra, st3.rel⟩, fr3⟩
      | some w =>
        obtain ⟨go, yl⟩ := wk.1 w rfl
        refine wpAny_passesOwn hp (wpAny_mono (PySem.wpAny_toks_of st3.tok (T.item J.X rfl rfl rfl hc i pins s3 σ3 H3 J.X.xe st3.inv (stat fp3) tn3 go)) (fun r s4 z4 => ?_) fun _ _ z => z.2)
        obtain ⟨tk4, u, hr, h4⟩ := z4
        subst hr
        refine wpAny_passesOwn hp (wpAny_mono (PySem.wpAny_toks_of tk4 h4) (fun _ s5 z5 => ?_) fun _ _ z => z.2)
        obtain ⟨tk5, x, H5, I5, r5, y5, tn5, fp5⟩ := z5
        obtain ⟨fr5, rs5, rw5⟩ := yl x H5 y5
        have st5 : Sta J (pins ++ pinsAt fp s5.heap) σ3 m3 S3 l3 H5 s5 := ⟨tk5, I5.pinned (stat fp5) (T.obj _ _ tn5), st3.fra.trans fr5, st3.rel.fra fr5 rs5⟩
        have k3' : (g w l3 S3).nxt fun l S => (f l S).el ⟨fun l S => (evForX g f iv n (i + 1) l S).el K J.Xs, K.rt, K.nx, fun l S => (evForX g f iv n (i + 1) l S).el K J.Xs⟩ J.Xs := by
          dsimp only at k3
          rcases hn w l3 S3 with ⟨l', S', e⟩ | e
          · rw [e] at k3 ⊢
            show (f l' S').el _ _
            dsimp only [RS.sq] at k3
            generalize f l' S' = r at k3
            cases r <;> exact k3
          · rw [e] at k3
            exact k3.elim
        refine wpAny_passesOwn hp (thn (hg _ s5 σ3 H5 m3 S3 l3 w x u _ st5 rw5 r5 k3') fun _ s6 ⟨σ6, l6, S6, k7, st6, _⟩ => ?_)
        refine wpAny_passesOwn hp (thn (hb _ s6 σ6 H5 m3 S6 l6 _ st6 k7) fun fl s7 q7 => ?_)
        have again : ∀ {l' : Sl} {S' : Sto} {m' : List Addr} {H' : Hp} {σ' : L2.St}, (evForX g f iv n (i + 1) l' S').el K J.Xs → Sta J (pins ++ pinsAt fp s5.heap) σ' m' S' l' H' s7 → Fra m3 H5 m' H' →
            ∃ j, j < n + 1 ∧ ∃ i l' S' m' H' σ', Sta J pins σ' m' S' l' H' s7 ∧ Fra m H m' H' ∧ Fra m2 H2 m' H' ∧ tn i s7.heap ∧ (∀ b ∈ fp, H' b = none) ∧ (evForX g f iv j i l' S').el K J.Xs := fun {l' S' m' H' σ'} k' st' fr' => by
          refine ⟨n, Nat.lt_succ_self n, i + 1, l', S', m', H', σ', st'.unpin, (fr3.trans fr5).trans fr', (fr23.trans fr5).trans fr', T.keep _ _ _ tn5 fun b hb o e => (st'.inv.pin (b, o) (List.mem_append_right _ (List.mem_append_right _ (mem_pinsAt hb e)))).1, fun b hb => ?_, k'⟩
          obtain ⟨o, e, _⟩ := T.obj _ _ tn5 b hb
          exact (st'.inv.pin (b, o) (List.mem_append_right _ (List.mem_append_right _ (mem_pinsAt hb e)))).2.1
        have f35 := fr3.trans fr5
        cases fl with
        | next => obtain ⟨l', S', m', H', σ', k', st', fr⟩ := q7; exact again k' st' fr
        | cont => obtain ⟨l', S', m', H', σ', k', st', fr⟩ := q7; exact again k' st' fr
        | brk => obtain ⟨l', S', m', H', σ', k', st', fr⟩ := q7; exact ⟨l', S', m', H', σ', k', st'.unpin, f35.trans fr⟩
        | ret v => obtain ⟨w', S', m', H', l', σ', v', k', st', fr, r⟩ := q7; exact ⟨w', S', m', H', l', σ', v', k', st'.unpin, f35.trans fr, r⟩
end
end Kr
/-! KrJ8: fields set, several names at once, raise, try. -/
namespace Kr
open PySem PySem.Spec PyProof.Rows L2

theorem putF_set {f : Str} {y : V} : ∀ {fs : List Str} {vs : List V} {k : Nat}, fs.Nodup → fs[k]? = some f → k < vs.length → putF f y (fs.zip vs) = fs.zip (vs.set k y)
  | [], _, _, _, e, _ => by simp at e
  | _ :: _, [], _, _, _, h => by simp at h
  | a :: fs, b :: vs, 0, _, e, _ => by
    simp at e
    subst e
    show (if a = a then (a, y) :: fs.zip vs else _) = _
    rw [if_pos rfl]
    rfl
  | a :: fs, b :: vs, k + 1, nd, e, h => by
    simp only [List.getElem?_cons_succ] at e
    have hne : ¬ a = f := fun z => (List.nodup_cons.mp nd).1 (z ▸ List.mem_of_getElem? e)
    show (if a = f then _ else (a, b) :: putF f y (fs.zip vs)) = _
    rw [if_neg hne, putF_set (List.nodup_cons.mp nd).2 e (by simpa using h)]
    rfl
theorem putF_new {f : Str} {y : V} : ∀ {fs : List Str} {vs : List V}, fs.Nodup → fs[vs.length]? = some f → putF f y (fs.zip vs) = fs.zip (vs ++ [y])
  | [], _, _, e => by simp at e
  | a :: fs, [], _, e => by
    simp at e
    subst e
    simp [putF]
  | a :: fs, b :: vs, nd, e => by
    simp only [List.length_cons, List.getElem?_cons_succ] at e
    have hne : ¬ a = f := fun z => (List.nodup_cons.mp nd).1 (z ▸ List.mem_of_getElem? e)
    show (if a = f then _ else (a, b) :: putF f y (fs.zip vs)) = _
    rw [if_neg hne, putF_new (List.nodup_cons.mp nd).2 e]
    rfl
def evSetf (c k : Nat) (w : W) (l : Sl) (S : Sto) (v : W) : RS := match v with
    | .r n => (match S[n]? with
      | some (.ins c' xs) => if c' = c then (match putW k w xs with
        | some ys => .nx l (S.set n (.ins c ys))
        | none => .bad) else .bad
      | _ => .bad)
    | _ => .bad
section
variable {J : Jx} {pos : Pos} {e o : Expr} {fe fo : Sl → Sto → RE W}
theorem RE.st_of {α : Type} {r : RE α} {l : Sl} {f : α → Sto → RS} {K : Ks} {X : Nat → Sl → Sto → Prop} (h : r.el (fun a S => (f a S).el K X) (fun c S => X c l S)) : (r.st l f).el K X := by
  cases r <;> exact h
theorem js_setf {c k : Nat} {f : Str} {pos' : Pos} (F : FldOk J c k f) (hl : (J.Y.fs c).length < 1000) (he : JE J e fe) (ho : JE J o fo) (hs : swapsWith e (some (.Attribute o f pos')) pos.line J.X.env = pure false) :
    JS J (.Assign [.Attribute o f pos'] e pos) (fun l S => (fe l S).st l fun w S => (fo l S).st l fun v S => evSetf c k w l S v) := by
  intro pins s σ H m S l K st kk
  refine plainObj_wpAny_Assign_Attribute (he.go st kk fun u s1 w S1 m1 H1 y k1 st1 f1 r1 q1 => ho.go st1 k1 fun ov s2 v S2 m2 H2 x k2 st2 f2 r2 q2 => ?_) hs
  unfold evSetf at k2
  split at k2
  · rename_i n
    split at k2
    · rename_i c' xs e0
      split at k2
      · rename_i hc
        subst hc
        split at k2
        · rename_i ys e1
          obtain ⟨p, hp, rfl⟩ := r2
          cases q2
          obtain ⟨p', hp', dx, vs, h1, h2, h3⟩ := st2.rel.st.at_ n _ e0
          rw [hp] at hp'
          cases hp'
          have hz : ((J.Y.fs c').zip vs).length < 1000 := by rw [List.length_zip]; omega
          have hm : p ∈ m2 := List.mem_of_getElem? hp
          have hlen := h3.length
          have kf : k < (J.Y.fs c').length := (List.getElem?_eq_some_iff.mp F.at_).1
          refine wpAny_mono (PySem.wpAny_toks_of st2.tok (setattr_ok (Q := fun _ s3 => Inv J.X pins σ (upd H2 p (.ins (J.Y.cA c') dx (putF f y ((J.Y.fs c').zip vs)))) s3) st2.inv h1 F.cls F.no hz q1 fun s3 I3 => I3)) (fun _ s3 z => ?_) fun _ _ z => z.2
          have fw : Fra m2 H2 m2 (upd H2 p (.ins (J.Y.cA c') dx (putF f y ((J.Y.fs c').zip vs)))) := Fra.write hm
          have rw1 := fw.rw (f2.rw r1)
          have ro : RO J.Y J.av m2 (upd H2 p (.ins (J.Y.cA c') dx (putF f y ((J.Y.fs c').zip vs)))) p (.ins c' ys) := by
            unfold putW at e1
            split at e1
            · rename_i hk
              cases e1
              refine ⟨dx, vs.set k y, ?_, by rw [List.length_set]; exact h2, RWs.set rw1 k (fw.rws h3)⟩
              rw [upd_same, putF_set F.nd F.at_ (by omega)]
            · split at e1
              · rename_i hk
                cases e1
                refine ⟨dx, vs ++ [y], ?_, by rw [List.length_append, List.length_singleton]; omega, RWs.app (fw.rws h3) (.cons rw1 .nil)⟩
                have ha := F.at_
                rw [hk, hlen] at ha
                rw [upd_same, putF_new F.nd ha]
              · cases e1
          exact ⟨l, _, m2, _, σ, k2, ⟨z.1, z.2, (st2.fra).trans fw, st2.rel.fra fw (st2.rel.st.write hp ro)⟩, (f1.trans f2).trans fw⟩
        · exact k2.elim
      · exact k2.elim
    · exact k2.elim
  · exact k2.elim
/-! ### several names at once, from the right -/
theorem bind_go {pins : List (Addr × Obj)} {σ : L2.St} {m : List Addr} {S : Sto} {l : Sl} {H : Hp} {s : Shared} {i : Nat} {x : Str} {w : W} {v : V} {u : Value} {Q : Unit → Shared → Prop} (st : Sta J pins σ m S l H s) (hN : J.X.N.Nodup) (hi : J.X.N[i]? = some x)
    (hx : J.X.env.scope.names.lookup x = some .local) (r : RW J.Y J.av m H w v) (q : RelV v u) (h : ∀ s', Sta J pins (σ.set i (some v)) m S (l.set i (some w)) H s' → Q () s') : wpAny (model J.X.prog J.X.w) J.X.A (bindName J.X.env x u) Q J.X.xe s :=
  wpAny_bindName (store_go st hN hi (.inl hx) (.inr hx) r q h)
theorem par_go {tg e : Expr} {fe : Sl → Sto → RE W} {g : W → Sl → Sto → RS} {names : List Str} {n : Nat} {pins : List (Addr × Obj)} {σ : L2.St} {m : List Addr} {S : Sto} {l : Sl} {H : Hp} {s : Shared} {K : Ks} (ok : J.Ok) (hc : J.X.calm = true) (hnm : names.length = n) (he : JE J e fe)
    (hw : swappedStores [tg] e J.X.env = pure (some names)) (hs : swapsWithSole [tg] e pos.line J.X.env = pure false) (st : Sta J pins σ m S l H s) (k : ((fe l S).st l fun w S => g w l S).el K J.Xs)
    (hg : ∀ w S1, (g w l S1).el K J.Xs → ∃ ds, w = .d (.tup ds) ∧ ds.length = n)
    (h : ∀ (ds : List D) (vs : List V) (us : List Value) (S1 : Sto) (m1 : List Addr) (H1 : Hp) (s1 : Shared), (g (.d (.tup ds)) l S1).el K J.Xs → Sta J pins σ m1 S1 l H1 s1 → Fra m H m1 H1 → RDs J.Y (J.av ++ m1) H1 ds vs → Vals vs us → us.length = n →
      wpAny (model J.X.prog J.X.w) J.X.A (assignInOrder (names.reverse.map fun x => bindName J.X.env x) us.reverse) (fun _ s' => PostS J pins m H K .next s') J.X.xe s1) :
    wpAny (model J.X.prog J.X.w) J.X.A (exec (.Assign [tg] e pos) J.X.env) (PostS J pins m H K) J.X.xe s := by
  rw [exec_Assign_arm]
  refine wpAny_bind (wpAny_standAt ?_)
  rw [hs]
  refine wpAny_bind (wpAny_pure ?_)
  rw [if_neg (by decide)]
  refine wpAny_bind (he.go st k fun u s1 w S1 m1 H1 v k1 st1 f1 r1 q1 => ?_)
  obtain ⟨ds, rfl, hl⟩ := hg w S1 k1
  obtain ⟨_, p, vs, rfl, sq, rd⟩ := RT.tup (.inl r1 : RT J.Y (J.av ++ m1) H1 (.tup ds) v)
  cases q1
  rw [← ok.hK] at sq
  obtain ⟨its, rv, ht, hz⟩ := st1.inv.tuple sq
  rw [hw]
  refine wpAny_bind (wpAny_pure ?_)
  show wpAny (model J.X.prog J.X.w) J.X.A (do rule "assign.swapped-stores"; let items ← unpackItems (.ref p) names.length none; assignInOrder (names.reverse.map fun n => bindName J.X.env n) items.reverse; pure Flow.next) _ _ _
  have hlu : its.length = n := by rw [← rv.length, ← rd.length]; exact hl
  rw [hnm]
  have e1 : its.toArray.size = n := by rw [List.size_toArray]; exact hlu
  rw [← e1]
  refine wpAny_bind (wpAny_rule (wpAny_bind (unpackItems_tuple (items := its.toArray) (st.inv.ok.hd hc) ht fun h' hx' => ?_)))
  have st2 : Sta J pins σ m1 S1 l H1 { s1 with heap := h' } := ⟨st1.tok, st1.inv.kept (t' := s1.toks) fun b o e => hx' b o (Nat.ne_of_lt (Heap.lt_size e)) e, st1.fra, st1.rel⟩
  have := h ds vs its S1 m1 H1 _ k1 st2 f1 rd rv hlu
  refine wpAny_bind (thn ?_ fun _ s' z => wpAny_pure z)
  simpa using this
theorem js_par2 {i j : Nat} {x y : Str} {px py pt : Pos} {kt : Nat} {g : W → Sl → Sto → RS} (ok : J.Ok) (hc : J.X.calm = true) (hN : J.X.N.Nodup) (hi : J.X.N[i]? = some x) (hj : J.X.N[j]? = some y) (hij : i ≠ j) (hx : J.X.env.scope.names.lookup x = some .local) (hy : J.X.env.scope.names.lookup y = some .local)
    (he : JE J e fe) (hw : swappedStores [.Tuple [.Name x px, .Name y py] kt pt] e J.X.env = pure (some [x, y])) (hs : swapsWithSole [.Tuple [.Name x px, .Name y py] kt pt] e pos.line J.X.env = pure false)
    (hg : ∀ w l S K X, (g w l S).el K X → ∃ a b, w = .d (.tup [a, b]) ∧ K.nx ((l.set i (some (.d a))).set j (some (.d b))) S) : JS J (.Assign [.Tuple [.Name x px, .Name y py] kt pt] e pos) (fun l S => (fe l S).st l fun w S => g w l S) := by
  intro pins s σ H m S l K st k
  refine par_go (n := 2) ok hc rfl he hw hs st k (fun w S1 k1 => ?_) fun ds vs us S1 m1 H1 s1 k1 st1 f1 rd rv hl => ?_
  · obtain ⟨a, b, rfl, _⟩ := hg w l S1 K J.Xs k1
    exact ⟨_, rfl, rfl⟩
  · obtain ⟨a, b, e1, k2⟩ := hg _ l S1 K J.Xs k1
    cases e1
    cases rd with
    | @cons _ va _ _ ra rd =>
      cases rd with
      | @cons _ vb _ _ rb rd =>
        cases rd
        obtain ⟨u1, u2, rfl, q1, q2⟩ := vals2 rv
        show wpAny _ _ (assignInOrder [fun v => bindName J.X.env y v, fun v => bindName J.X.env x v] [u2, u1]) _ _ _
        refine assignInOrder_cons (bind_go (w := .d b) st1 hN hj hy rb q2 fun s2 st2 => assignInOrder_cons (bind_go (w := .d a) st2 hN hi hx ra q1 fun s3 st3 => assignInOrder_nil ?_))
        rw [List.set_comm _ _ hij] at k2
        exact ⟨_, S1, m1, H1, _, k2, st3, f1⟩
theorem js_par3 {i j n : Nat} {x y z : Str} {px py pz pt : Pos} {kt : Nat} {g : W → Sl → Sto → RS} (ok : J.Ok) (hc : J.X.calm = true) (hN : J.X.N.Nodup) (hi : J.X.N[i]? = some x) (hj : J.X.N[j]? = some y) (hn : J.X.N[n]? = some z) (hij : i ≠ j) (hin : i ≠ n) (hjn : j ≠ n)
    (hx : J.X.env.scope.names.lookup x = some .local) (hy : J.X.env.scope.names.lookup y = some .local) (hz : J.X.env.scope.names.lookup z = some .local)
    (he : JE J e fe) (hw : swappedStores [.Tuple [.Name x px, .Name y py, .Name z pz] kt pt] e J.X.env = pure (some [x, y, z])) (hs : swapsWithSole [.Tuple [.Name x px, .Name y py, .Name z pz] kt pt] e pos.line J.X.env = pure false)
    (hg : ∀ w l S K X, (g w l S).el K X → ∃ a b c, w = .d (.tup [a, b, c]) ∧ K.nx (((l.set i (some (.d a))).set j (some (.d b))).set n (some (.d c))) S) : JS J (.Assign [.Tuple [.Name x px, .Name y py, .Name z pz] kt pt] e pos) (fun l S => (fe l S).st l fun w S => g w l S) := by
  intro pins s σ H m S l K st k
  refine par_go (n := 3) ok hc rfl he hw hs st k (fun w S1 k1 => ?_) fun ds vs us S1 m1 H1 s1 k1 st1 f1 rd rv hl => ?_
  · obtain ⟨a, b, c, rfl, _⟩ := hg w l S1 K J.Xs k1
    exact ⟨_, rfl, rfl⟩
  · obtain ⟨a, b, c, e1, k2⟩ := hg _ l S1 K J.Xs k1
    cases e1
    cases rd with
    | @cons _ va _ _ ra rd =>
      cases rd with
      | @cons _ vb _ _ rb rd =>
        cases rd with
        | @cons _ vc _ _ rc rd =>
          cases rd
          cases rv with
          | @cons _ u1 _ _ q1 rv =>
            cases rv with
            | @cons _ u2 _ _ q2 rv =>
              cases rv with
              | @cons _ u3 _ _ q3 rv =>
                cases rv
                show wpAny _ _ (assignInOrder [fun v => bindName J.X.env z v, fun v => bindName J.X.env y v, fun v => bindName J.X.env x v] [u3, u2, u1]) _ _ _
                refine assignInOrder_cons (bind_go (w := .d c) st1 hN hn hz rc q3 fun s2 st2 => assignInOrder_cons (bind_go (w := .d b) st2 hN hj hy rb q2 fun s3 st3 => assignInOrder_cons (bind_go (w := .d a) st3 hN hi hx ra q1 fun s4 st4 => assignInOrder_nil ?_)))
                have e2 : ((l.set n (some (W.d c))).set j (some (.d b))).set i (some (.d a)) = ((l.set i (some (.d a))).set j (some (.d b))).set n (some (.d c)) := by
                  rw [List.set_comm _ _ hij, List.set_comm (l := l.set j _) _ _ hin, List.set_comm (l := l) _ _ hjn]
                rw [← e2] at k2
                exact ⟨_, S1, m1, H1, _, k2, st4, f1⟩
/-! ### raise -/
structure ExOk (J : Jx) (c : Nat) (x : Str) : Prop where
  ex : ∃ B newId initId bmB, ExcBaseFacts B newId initId bmB ∧ PySem.W.excIn J.X.K (J.Y.xA c) bmB newId = true
  kp : PySem.W.keepIn J.X.K (.ref (J.Y.xA c)) = true
  rs : Raises J.X (.ref (J.Y.xA c))
theorem js_raise {c : Nat} {x msg : Str} {p p2 cpos : Pos} {j : Nat} (ok : J.Ok) (hc : J.X.calm = true) (E : ExOk J c x) (hg : Gl J.X x) (hm : J.X.mg x = some (.ref (J.Y.xA c))) (hd : (x == ("__debug__" : Str)) = false) :
    JS J (.Raise (some (.Call (.Name x p) [.Constant (.str msg) j p2] [] cpos)) none pos) (fun l S => .ex c l S) := by
  intro pins s σ H m S l K st k
  obtain ⟨B, nw, ini, bmB, F, q⟩ := E.ex
  refine thn ((ps_raise hc ok.tk (pmk_own F q hm E.kp E.rs hg hd)).run pins s σ H ⟨fun _ _ => False, fun _ _ => False, fun _ _ => False, fun _ _ => False⟩ st.inv (k m H σ st.fra st.rel)) fun fl s1 q => ?_
  cases fl with
  | next => obtain ⟨_, _, _, z⟩ := q; exact z.elim
  | brk => obtain ⟨_, _, _, z⟩ := q; exact z.elim
  | cont => obtain ⟨_, _, _, z⟩ := q; exact z.elim
  | ret u => obtain ⟨_, _, _, _, _, z⟩ := q; exact z.elim
end
end Kr
/-! KrJ9: op=, try. -/
namespace Kr
open PySem PySem.Spec PyProof.Rows L2
def evAug (i : Nat) (o : Bop) (r : Sl → Sto → RE W) (l : Sl) (S : Sto) : RS := match l[i]? with
    | some (some (.d x)) => (asD (r l S)).st l fun y S => (match intOp o x y with
      | some z => .nx (l.set i (some (.d z))) S
      | none => .bad)
    | _ => .bad
def evAugf (c k : Nat) (ro : Sl → Sto → RE W) (b : Bop) (re : Sl → Sto → RE W) (l : Sl) (S : Sto) : RS := (ro l S).st l fun v S => (match v with
    | .r n => (match S[n]? with
      | some (.ins c' xs) => if c' = c then (match xs[k]? with
        | some (.d x) => (asD (re l S)).st l fun y S => (match intOp b x y with
          | some z => (match S[n]? with
            | some (.ins c' ys) => if c' = c then (match putW k (.d z) ys with
              | some ys => .nx l (S.set n (.ins c ys))
              | none => .bad) else .bad
            | _ => .bad)
          | none => .bad)
        | _ => .bad) else .bad
      | _ => .bad)
    | _ => .bad)
section
variable {J : Jx} {pos : Pos} {e o : Expr} {fe fo : Sl → Sto → RE W}
theorem intOp_some {o : Bop} {x y z : D} (h : intOp o x y = some z) : ∃ i j, x = .int i ∧ y = .int j ∧ ((o = .add ∧ z = .int (i + j)) ∨ (o = .sub ∧ z = .int (i - j))) := by
  unfold intOp at h
  split at h
  · cases h; exact ⟨_, _, rfl, rfl, .inl ⟨rfl, rfl⟩⟩
  · cases h; exact ⟨_, _, rfl, rfl, .inr ⟨rfl, rfl⟩⟩
  · cases h
theorem JE.goD {pins : List (Addr × Obj)} {σ : L2.St} {m : List Addr} {S : Sto} {l : Sl} {H : Hp} {s : Shared} {K : Ks} {g : D → Sto → RS} (he : JE J e fe) (st : Sta J pins σ m S l H s) (k : ((asD (fe l S)).st l g).el K J.Xs) {Q : Value → Shared → Prop}
    (h : ∀ u s1 d S1 m1 H1 v, (g d S1).el K J.Xs → Sta J pins σ m1 S1 l H1 s1 → Fra m H m1 H1 → RT J.Y (J.av ++ m1) H1 d v → RelV v u → Q u s1) : wpAny (model J.X.prog J.X.w) J.X.A (eval e J.X.env) Q J.X.xe s :=
  thn (he.dat pins s σ H m S l _ st (RE.el_x (RE.st_el k) fun c S x => Jx.Xs.c x)) fun u s1 ⟨w, S1, m1, H1, k1, st1, f1, v, r1, q1⟩ => h u s1 w S1 m1 H1 v k1 st1 f1 r1 q1
theorem inop_go {pins : List (Addr × Obj)} {σ : L2.St} {m : List Addr} {S : Sto} {l : Sl} {H : Hp} {s : Shared} {o : Bop} {x y z : D} {vx vy : V} {ux uy : Value} {Q : Value → Shared → Prop} (st : Sta J pins σ m S l H s) (e : intOp o x y = some z) (rx : RT J.Y (J.av ++ m) H x vx) (ry : RT J.Y (J.av ++ m) H y vy)
    (qx : RelV vx ux) (qy : RelV vy uy) (h : ∀ u s' v, Sta J pins σ m S l H s' → RW J.Y J.av m H (.d z) v → RelV v u → Q u s') : wpAny (model J.X.prog J.X.w) J.X.A (inplaceOp (bopOf o) ux uy) Q J.X.xe s := by
  obtain ⟨i, j, rfl, rfl, c⟩ := intOp_some e
  obtain rfl := rx.int
  obtain rfl := ry.int
  rcases c with ⟨rfl, rfl⟩ | ⟨rfl, rfl⟩
  · refine wpAny_mono (PySem.wpAny_toks_of st.tok (in_add pins s σ H _ _ ux uy (fun v H' => v = .int (i + j) ∧ H' = H) st.inv qx qy ⟨i, j, rfl, rfl, rfl, rfl⟩)) (fun u s' zz => ?_) fun _ _ z => z.2
    obtain ⟨tk, v, H', I, r, rfl, rfl⟩ := zz
    exact h u s' _ ⟨tk, I, st.fra, st.rel⟩ (.int _) r
  · refine wpAny_mono (PySem.wpAny_toks_of st.tok (in_sub pins s σ H _ _ ux uy (fun v H' => v = .int (i - j) ∧ H' = H) st.inv qx qy ⟨i, j, rfl, rfl, rfl, rfl⟩)) (fun u s' zz => ?_) fun _ _ z => z.2
    obtain ⟨tk, v, H', I, r, rfl, rfl⟩ := zz
    exact h u s' _ ⟨tk, I, st.fra, st.rel⟩ (.int _) r
theorem js_aug {i : Nat} {x : Str} {pos' : Pos} (o : Bop) (hN : J.X.N.Nodup) (hi : J.X.N[i]? = some x) (hx : Loc J.X.env.scope x) (hf : J.X.fn x = true ∨ J.X.env.scope.names.lookup x = some .local) (he : JE J e fe) : JS J (.AugAssign (.Name x pos') (bopOf o) e pos) (evAug i o fe) := by
  intro pins s σ H m S l K st k
  unfold evAug at k
  split at k
  · rename_i x0 e0
    obtain ⟨v, e1, r⟩ := st.rel.sl.2 i _ e0
    obtain ⟨mm, hn, hl⟩ := st.inv.loc
    have vis : Vis J.X.env.scope x := by rcases hx with k | k; exact .inl k; exact .inr (.inl k)
    obtain ⟨u, ru, lk⟩ := hl i x v hi e1 vis
    refine wpAny_AugAssign_Name ?_
    have go : wpAny (model J.X.prog J.X.w) J.X.A (eval e J.X.env) (fun w s₂ => wpAny (model J.X.prog J.X.w) J.X.A (inplaceOp (bopOf o) u w) (fun r s₃ => wpAny (model J.X.prog J.X.w) J.X.A (storeName J.X.env x r) (fun _ => PostS J pins m H K .next) J.X.xe s₃) J.X.xe s₂) J.X.xe s := by
      refine he.goD st k fun u2 s1 d S1 m1 H1 v2 k1 st1 f1 r2 q2 => ?_
      split at k1
      · rename_i z ez
        refine inop_go st1 ez (.inl (f1.rd r)) r2 ru q2 fun u3 s3 v3 st3 r3 q3 => ?_
        exact store_go st3 hN hi hx hf r3 q3 fun s4 st4 => ⟨_, S1, m1, H1, _, k1, st4, f1⟩
      · exact k1.elim
    rcases lk with ⟨hk, hm⟩ | ⟨hk, c, hc, hcell⟩
    · exact wpAny_loadName_local st.inv.ok.kind hk hn hm go
    · rcases hk with hk | hk
      · exact wpAny_loadName_cell st.inv.ok.kind hk hc hcell go
      · rcases hx with k | k
        · have : J.X.env.scope.names.lookup x = some .free := hk
          rw [k] at this
          cases this
        · have : J.X.env.scope.names.lookup x = some .free := hk
          rw [k] at this
          cases this
  · exact k.elim
/-- a field is written -/
theorem setf_go {pins : List (Addr × Obj)} {σ : L2.St} {m : List Addr} {S : Sto} {l : Sl} {H : Hp} {s : Shared} {c k n : Nat} {f : Str} {p : Addr} {xs ys : List W} {w : W} {y : V} {u : Value} {Q : Unit → Shared → Prop} (F : FldOk J c k f) (hl : (J.Y.fs c).length < 1000) (st : Sta J pins σ m S l H s)
    (hp : m[n]? = some p) (e0 : S[n]? = some (.ins c xs)) (e1 : putW k w xs = some ys) (r : RW J.Y J.av m H w y) (q : RelV y u) (h : ∀ s' H', Sta J pins σ m (S.set n (.ins c ys)) l H' s' → Fra m H m H' → Q () s') :
    wpAny (model J.X.prog J.X.w) J.X.A (setAttr (.ref p) f u) Q J.X.xe s := by
  obtain ⟨p', hp', dx, vs, h1, h2, h3⟩ := st.rel.st.at_ n _ e0
  rw [hp] at hp'
  cases hp'
  have hz : ((J.Y.fs c).zip vs).length < 1000 := by rw [List.length_zip]; omega
  have hm : p ∈ m := List.mem_of_getElem? hp
  have hlen := h3.length
  have kf : k < (J.Y.fs c).length := (List.getElem?_eq_some_iff.mp F.at_).1
  refine wpAny_mono (PySem.wpAny_toks_of st.tok (setattr_ok (Q := fun _ s3 => Inv J.X pins σ (upd H p (.ins (J.Y.cA c) dx (putF f y ((J.Y.fs c).zip vs)))) s3) st.inv h1 F.cls F.no hz q fun s3 I3 => I3)) (fun _ s3 z => ?_) fun _ _ z => z.2
  have fw : Fra m H m (upd H p (.ins (J.Y.cA c) dx (putF f y ((J.Y.fs c).zip vs)))) := Fra.write hm
  have rw1 := fw.rw r
  have ro : RO J.Y J.av m (upd H p (.ins (J.Y.cA c) dx (putF f y ((J.Y.fs c).zip vs)))) p (.ins c ys) := by
    unfold putW at e1
    split at e1
    · cases e1
      refine ⟨dx, vs.set k y, ?_, by rw [List.length_set]; exact h2, RWs.set rw1 k (fw.rws h3)⟩
      rw [upd_same, putF_set F.nd F.at_ (by omega)]
    · split at e1
      · rename_i hk
        cases e1
        refine ⟨dx, vs ++ [y], ?_, by rw [List.length_append, List.length_singleton]; omega, RWs.app (fw.rws h3) (.cons rw1 .nil)⟩
        have ha := F.at_
        rw [hk, hlen] at ha
        rw [upd_same, putF_new F.nd ha]
      · cases e1
  exact h s3 _ ⟨z.1, z.2, st.fra.trans fw, st.rel.fra fw (st.rel.st.write hp ro)⟩ fw
theorem js_augf {c k : Nat} {f : Str} {tpos : Pos} (b : Bop) (F : FldOk J c k f) (hl : (J.Y.fs c).length < 1000) (ho : JE J o fo) (he : JE J e fe) : JS J (.AugAssign (.Attribute o f tpos) (bopOf b) e pos) (evAugf c k fo b fe) := by
  intro pins s σ H m S l K st kk
  unfold evAugf at kk
  refine wpAny_AugAssign_AttributeAny (ho.go st kk fun ov s1 v S1 m1 H1 x k1 st1 f1 r1 q1 => ?_)
  split at k1
  · rename_i n
    split at k1
    · rename_i c' xs e0
      split at k1
      · rename_i hc
        subst hc
        split at k1
        · rename_i d0 ek
          obtain ⟨p, hp, rfl⟩ := r1
          cases q1
          obtain ⟨p', hp', dx, vs, h1, h2, h3⟩ := st1.rel.st.at_ n _ e0
          rw [hp] at hp'
          cases hp'
          obtain ⟨y, e1, r2⟩ := h3.get ek
          refine wpAny_mono (PySem.wpAny_toks_of st1.tok (getattr_ok (Q := fun u s2 => Inv J.X pins σ H1 s2 ∧ RelV y u) st1.inv h1 F.cls F.no (zip_look F.nd F.at_ e1) fun u' s2 I2 ru => ⟨I2, ru⟩)) (fun u s2 z => ?_) fun _ _ z => z.2
          obtain ⟨tk, I2, ru⟩ := z
          have st2 : Sta J pins σ m1 S1 l H1 s2 := ⟨tk, I2, st1.fra, st1.rel⟩
          refine he.goD st2 k1 fun u3 s3 d3 S3 m3 H3 v3 k3 st3 f3 r3 q3 => ?_
          split at k3
          · rename_i z ez
            refine inop_go st3 ez (.inl (f3.rd r2)) r3 ru q3 fun u4 s4 v4 st4 r4 q4 => ?_
            split at k3
            · rename_i c2 ys e5
              split at k3
              · rename_i hc2
                subst hc2
                split at k3
                · rename_i ys2 e6
                  exact setf_go F hl st4 (f3.pre n p hp) e5 e6 r4 q4 fun s5 H5 st5 f5 => ⟨l, _, m3, H5, σ, k3, st5, (f1.trans f3).trans f5⟩
                · exact k3.elim
              · exact k3.elim
            · exact k3.elim
          · exact k3.elim
        · exact k1.elim
      · exact k1.elim
    · exact k1.elim
  · exact k1.elim
end
end Kr
/-! KrJA: list comprehensions. -/
namespace Kr
open PySem PySem.Spec PyProof.Rows L2

/-- a block's context -/
structure BlkOf (J : Jx) (scope : Scope) (J' : Jx) : Prop where
  x : ∃ s H C cl fp, J'.X = J.X.blk s H scope (compEnvC scope cl C J.X.env) fp
  y : J'.Y = J.Y
  w : J'.Wx = fun _ _ _ _ => False
theorem takes_no {X : Cx} : Takes X (fun _ _ _ _ => False) := fun _ _ ⟨_, _, _, _, _, _, _, _, _, _, _, _, _, _, _, _, w⟩ => w.elim
theorem BlkOf.ok {J J' : Jx} {scope : Scope} (b : BlkOf J scope J') (ok : J.Ok) : J'.Ok := by
  obtain ⟨s, H, C, cl, fp, e⟩ := b.x
  refine ⟨?_, ?_, ?_⟩
  · rw [e, b.y]; exact ok.hK
  · rw [b.w]; exact takes_no
  · rw [e]; exact ok.un
section
variable {Y : Cfg} {av av' m m' : List Addr} {H H' : Hp} {S : Sto} {l : Sl} {σ : L2.St}
/-- data and objects seen over other places that are not touched -/
theorem RW.keepA (hk : ∀ p o, H p = some o → p ∉ av ++ m → H' p = some o ∧ p ∉ av' ++ m') (hm : ∀ (n : Nat) (a : Addr), m[n]? = some a → m'[n]? = some a) {w : W} {v : V} (r : RW Y av m H w v) : RW Y av' m' H' w v := by
  cases w with
  | d x => exact RD.keep hk r
  | r n => obtain ⟨a, e, q⟩ := r; exact ⟨a, hm n a e, q⟩
  | f g cs => exact r
theorem RWs.keepA (hk : ∀ p o, H p = some o → p ∉ av ++ m → H' p = some o ∧ p ∉ av' ++ m') (hm : ∀ (n : Nat) (a : Addr), m[n]? = some a → m'[n]? = some a) : ∀ {ws : List W} {vs : List V}, RWs Y av m H ws vs → RWs Y av' m' H' ws vs
  | _, _, .nil => .nil
  | _, _, .cons h r => .cons (RW.keepA hk hm h) (RWs.keepA hk hm r)
theorem RO.keepA (hk : ∀ p o, H p = some o → p ∉ av ++ m → H' p = some o ∧ p ∉ av' ++ m') (hm : ∀ (n : Nat) (a : Addr), m[n]? = some a → m'[n]? = some a) {a : Addr} {o : O} (ha : H a = H' a) (r : RO Y av m H a o) : RO Y av' m' H' a o := by
  cases o with
  | lst ws => obtain ⟨vs, h, q⟩ := r; exact ⟨vs, ha ▸ h, RWs.keepA hk hm q⟩
  | ins c ws => obtain ⟨dx, vs, h, z, q⟩ := r; exact ⟨dx, vs, ha ▸ h, z, RWs.keepA hk hm q⟩
  | dct _ => exact False.elim r
  | dtp _ => exact False.elim r
theorem wipeS_len (l : Sl) : ∀ vs : List Nat, (wipeS l vs).length = l.length
  | [] => rfl
  | v :: vs => by unfold wipeS; rw [List.length_set, wipeS_len l vs]
theorem wipeS_get {l : Sl} {i : Nat} {w : W} : ∀ {vs : List Nat}, (wipeS l vs)[i]? = some (some w) → l[i]? = some (some w) ∧ i ∉ vs
  | [], h => ⟨h, by simp⟩
  | v :: vs, h => by
    unfold wipeS at h
    by_cases hi : v = i
    · subst hi
      by_cases hv : v < (wipeS l vs).length
      · rw [List.getElem?_set_self hv] at h; cases h
      · rw [List.getElem?_eq_none (by simpa using hv)] at h; cases h
    · rw [List.getElem?_set_ne hi] at h
      obtain ⟨h1, h2⟩ := wipeS_get h
      exact ⟨h1, by simp only [List.mem_cons, not_or]; exact ⟨fun e => hi e.symm, h2⟩⟩
theorem wipe_keep {σ : L2.St} {i : Nat} : ∀ {vs : List Nat}, i ∉ vs → (wipe σ vs)[i]? = σ[i]?
  | [], _ => rfl
  | v :: vs, h => by
    simp only [List.mem_cons, not_or] at h
    unfold wipe
    rw [List.getElem?_set_ne (fun e => h.1 e.symm)]
    exact wipe_keep h.2
theorem RSl.wipe (r : RSl Y av m H l σ) (vs : List Nat) : RSl Y av m H (wipeS l vs) (L2.wipe σ vs) := by
  refine ⟨by rw [wipeS_len, wipe_length]; exact r.1, fun i w e => ?_⟩
  obtain ⟨h1, h2⟩ := wipeS_get e
  obtain ⟨v, h3, h4⟩ := r.2 i w h1
  exact ⟨v, by rw [wipe_keep h2]; exact h3, h4⟩
theorem RSl.keepA (hk : ∀ p o, H p = some o → p ∉ av ++ m → H' p = some o ∧ p ∉ av' ++ m') (hm : ∀ (n : Nat) (a : Addr), m[n]? = some a → m'[n]? = some a) (r : RSl Y av m H l σ) : RSl Y av' m' H' l σ :=
  ⟨r.1, fun i w e => let ⟨v, h3, h4⟩ := r.2 i w e; ⟨v, h3, RW.keepA hk hm h4⟩⟩
end
theorem evLc_X (u : W → List D → Sto → RE (List D)) (xs : List W) : ∀ (k i : Nat) (acc : List D) (S : Sto), xs.length + 1 = k + i → i ≤ xs.length → evLcX u (.vs xs) k i acc S = evLc u (xs.drop i) acc S
  | 0, i, acc, S, h, h2 => by
    omega
  | k + 1, i, acc, S, h, h2 => by
    unfold evLcX
    by_cases hi : i < xs.length
    · rw [List.drop_eq_getElem_cons hi]
      unfold evLc
      have e : ivAt S i (.vs xs) = some (some xs[i]) := by
        show some xs[i]? = _
        rw [List.getElem?_eq_getElem hi]
      rw [e]
      dsimp only
      have ih := fun acc S => evLc_X u xs k (i + 1) acc S (by omega) hi
      simp only [ih]
    · rw [List.drop_of_length_le (by omega)]
      have e : ivAt S i (.vs xs) = some none := by
        show some xs[i]? = _
        rw [List.getElem?_eq_none (by omega)]
      rw [e]
      rfl
theorem evLcI_X (u : W → List D → Sto → RE (List D)) (v : Iv) (S : Sto) : evLcI u v S = evLcX u v (ivN v) 0 [] S := by
  cases v with
  | vs xs =>
    show evLc u xs [] S = evLcX u (.vs xs) (xs.length + 1) 0 [] S
    rw [evLc_X u xs (xs.length + 1) 0 [] S rfl (Nat.zero_le _), List.drop_zero]
  | ref n => rfl
/-- a clause's tests -/
def JTs (J : Jx) (ifs : List Expr) (f : Sl → Sto → RE Bool) : Prop :=
  Jg J (fun _ _ a b => a = b) (forIn ifs true fun c r => if r = true then do let ok ← isTrue c J.X.env (eval c J.X.env); pure (ForInStep.yield ok) else pure (ForInStep.yield r)) f
theorem jts_nil {J : Jx} : JTs J [] (fun _ S => .ok true S) := fun pins s σ H m S l K st k => wpAny_tests_nil (Post.at st .refl k rfl)
theorem jts_one {J : Jx} {c : Expr} {f : Sl → Sto → RE Bool} (h : JT J c f) : JTs J [c] f := fun pins s σ H m S l K st k => wpAny_tests_one (h pins s σ H m S l K st k)
def evLcEnd (keep : Bool) (ys : List D) (S : Sto) : RE W := if keep then .ok (.r S.length) (S ++ [.lst (ys.map .d)]) else .ok (.d (.lst ys)) S
section
variable {J : Jx} {elt tg iter : Expr} {ifs : List Expr} {scope : Scope} {own : List (Str × Nat)} {pos pos' : Pos} {fi : Sl → Sto → RE Iv} {g : W → Sl → Sto → RS} {ft : Sl → Sto → RE Bool} {fe : Sl → Sto → RE W} {keep : Bool}
theorem lc_go {pins : List (Addr × Obj)} {s : Shared} {σ : L2.St} {H : Hp} {m : List Addr} {S : Sto} {l : Sl} {K : W → Sto → Prop} {use : Option (Value → Sem Unit)} {Qf : Value → Shared → Prop} (hc : J.X.calm = true) (hN : J.X.N.Nodup) (st : Sta J pins σ m S l H s) (hi : JI J tg iter fi)
    (ok : BlkOk J.X.N J.X.env.scope scope own) (hg : ∀ J', BlkOf J scope J' → JG J' tg (own.map (·.2)) g) (hnx : Nxo g) (ht : ∀ J', BlkOf J scope J' → JTs J' ifs ft) (he : ∀ J', BlkOf J scope J' → JE J' elt fe)
    (hs : ∀ x, foldedSetIterable iter J.X.env x = pure x)
    (k : ((fi l S).bind fun v S => (evLcI (lcTurn g ft fe (wipeS l (own.map (·.2)))) v S).bind fun ys S => evLcEnd keep ys S).el K (J.Xc σ l))
    (hRR : ∀ D C s' mn H' w S' m', K w S' → Sta J pins σ m' S' l H' s' → Fra m H m' H' → RW J.Y J.av m' H' w (.ref D) → s'.heap.Ns C mn → FpOk J.X pins H' C → compPost (model J.X.prog J.X.w) J.X.A J.X.xe use Qf (.ref D) C (.ok .next) s') :
    wpAny (model J.X.prog J.X.w) J.X.A (comprehension (.ListComp elt [⟨tg, iter, ifs, 0⟩] scope pos) scope J.X.env pos' (newList []) false (eval iter J.X.env) use) Qf J.X.xe s := by
  have hfree : ∀ y ∈ scope.names, y.2 = .free → ∃ c, J.X.env.cells.lookup y.1 = some c := fun y hy e => by
    rcases ok.free y hy e with k | k
    · exact st.inv.ok.has _ (.inl k)
    · exact st.inv.ok.has _ (.inr k)
  refine wpAny_comprehension_free (use := use) rfl hs (closure_ok hfree) ok.kind (fun y hy e => by rw [ok.uniq y hy, e])
    (wpAny_mono (PySem.wpAny_toks_of st.tok (hi pins s σ H m S l _ st (RE.el_bind k))) (fun xv s1 z1 => wpAny_mono (PySem.wpAny_toks_of z1.1 z1.2) (fun itv s2 z2 => ?_) fun _ _ z => z.2) fun _ _ z => z.2)
  obtain ⟨tk2, it, fp, tn, I, H2, e, I2, T, tn2, f2, iv, S2, m2, k2, fr2, rs2, wo⟩ := z2
  subst e
  have k3 := RE.el_bind k2
  rw [evLcI_X] at k3
  refine wpAny_newObj_type (newEnv_comp ?_) (by show 0 ≤ sizeLine; decide)
  generalize hD : s2.heap.objs.size = D
  have hDn : H2 D = none := I2.hok.fresh (Nat.le_of_eq hD)
  have nDm : D ∉ J.av ++ m2 := rs2.fresh hDn
  generalize hs3 : ({ s2 with heap := s2.heap.push { cls := .type "list", data := .seq ([] : List Value).toArray } } : Shared) = s3
  have I3 : Inv J.X pins σ (upd H2 D (.lst [])) s3 := by
    rw [← hs3]
    refine I2.laid (t' := s2.toks) (fun b o e => Heap.get?_push_of_some _ e) (Nat.le_of_eq hD) ⟨Nat.zero_le _, [], 0, .nil, ?_⟩
    rw [← hD]
    exact Heap.get?_push_size _ rfl
  have tk3 : 1 ≤ s3.toks := by rw [← hs3]; exact tk2
  have h3 : s3.heap = s2.heap.push { cls := .type "list", data := .seq ([] : List Value).toArray } := by rw [← hs3]
  have f3 : ∀ b ∈ fp, FpOk J.X pins (upd H2 D (.lst [])) b ∧ b < s3.heap.objs.size := fun b hb => by
    obtain ⟨o, e, _⟩ := T.obj _ _ tn2 b hb
    have hlt := Heap.lt_size e
    refine ⟨⟨?_, (f2 b hb).2⟩, by rw [h3, Heap.size_push]; exact Nat.lt_succ_of_lt hlt⟩
    rw [upd_ne (by rw [← hD]; exact Nat.ne_of_lt hlt)]
    exact (f2 b hb).1
  have tn3 : tn 0 s3.heap := T.keep _ _ _ tn2 fun b _ o e => by rw [h3]; exact Heap.get?_push_of_some _ e
  have I4 := block_start I3 ok hN f3
  -- what was there is there, and is not D
  have kD : ∀ p o, H2 p = some o → p ∉ J.av ++ m2 → upd H2 D (.lst []) p = some o ∧ p ∉ (J.av ++ [D]) ++ m2 := fun p o h n => by
    have ne : p ≠ D := ne_of_none h hDn
    refine ⟨by rw [upd_ne ne]; exact h, fun z => ?_⟩
    rcases List.mem_append.mp z with z | z
    · rcases List.mem_append.mp z with z | z
      · exact n (List.mem_append_left _ z)
      · exact ne (by simpa using z)
    · exact n (List.mem_append_right _ z)
  have rs3 : RSt J.Y (J.av ++ [D]) m2 S2 (upd H2 D (.lst [])) := by
    refine ⟨rs2.len, ?_, fun n o e => ?_, fun a ha => ?_⟩
    · rw [List.append_assoc]
      refine List.nodup_append.mpr ⟨(List.nodup_append.mp rs2.nd).1, ?_, fun a ha b hb e => ?_⟩
      · exact List.nodup_cons.mpr ⟨fun z => nDm (List.mem_append_right _ z), (List.nodup_append.mp rs2.nd).2.1⟩
      · rcases List.mem_cons.mp hb with z | z
        · rw [e, z] at ha
          exact nDm (List.mem_append_left _ ha)
        · exact (List.nodup_append.mp rs2.nd).2.2 a ha b z e
    · obtain ⟨a, e1, r⟩ := rs2.at_ n o e
      obtain ⟨u, hu, _⟩ := r.there
      exact ⟨a, e1, r.keepA kD (fun _ _ e => e) (by rw [upd_ne (ne_of_none hu hDn)])⟩
    · rcases List.mem_append.mp ha with z | z
      · obtain ⟨o, e⟩ := rs2.av_ a z
        exact ⟨o, by rw [upd_ne (ne_of_none e hDn)]; exact e⟩
      · have : a = D := by simpa using z
        rw [this]
        exact ⟨_, upd_same⟩
  have kF : ∀ {m' : List Addr} {H' : Hp}, Fra m2 H2 m' H' → ∀ p o, H2 p = some o → p ∉ J.av ++ m2 → H' p = some o ∧ p ∉ (J.av ++ [D]) ++ m' := fun {m' H'} fr p o h n => by
    have nm : p ∉ m2 := fun z => n (List.mem_append_right _ z)
    refine ⟨fr.keep p o h nm, fun z => ?_⟩
    rcases List.mem_append.mp z with z | z
    · rcases List.mem_append.mp z with z | z
      · exact n (List.mem_append_left _ z)
      · exact ne_of_none h hDn (by simpa using z)
    · exact fr.new p o h nm z
  have sl2 := fr2.rsl st.rel.sl
  have sl3 : RSl J.Y (J.av ++ [D]) m2 (upd H2 D (.lst [])) l σ := (fr2.rsl st.rel.sl).keepA kD fun _ _ e => e
  show codeAny _ _ (.compStart (.ListComp elt [⟨tg, iter, ifs, 0⟩] scope pos) 0 (.ref it) (.ref D) (compEnvC scope (cellsFrom (s3.heap.objs.size + 1) scope.names (cloFrom J.X.env.cells scope.names [])) s3.heap.objs.size J.X.env)) (compPost (model J.X.prog J.X.w) J.X.A J.X.xe use Qf (.ref D) s3.heap.objs.size) { s3 with heap := pushCells (s3.heap.push { cls := .type "dict", data := .dict #[] }) scope.names }
  generalize hce : compEnvC scope (cellsFrom (s3.heap.objs.size + 1) scope.names (cloFrom J.X.env.cells scope.names [])) s3.heap.objs.size J.X.env = ce at I4 ⊢
  have cL : ce.locals = s3.heap.objs.size := by subst hce; rfl
  generalize hH3 : upd H2 D (.lst []) = H3 at I3 I4 f3 kD rs3 sl3
  have hH3D : H3 D = some (.lst []) := by rw [← hH3]; exact upd_same
  generalize hs4 : ({ s3 with heap := pushCells (s3.heap.push { cls := .type "dict", data := .dict #[] }) scope.names } : Shared) = s4 at I4 ⊢
  have tn4 : tn 0 s4.heap := T.keep _ _ _ tn3 fun b _ o e => by rw [← hs4]; exact pushCells_keeps _ _ _ _ (Heap.get?_push_of_some _ e)
  have tk4 : 1 ≤ s4.toks := by rw [← hs4]; exact tk3
  let B : Jx := { X := J.X.blk s3 H3 scope ce fp, Y := J.Y, av := J.av ++ [D], m0 := m2, H0 := H2, Wx := fun _ _ _ _ => False }
  have hB : BlkOf J scope B := ⟨⟨s3, H3, s3.heap.objs.size, cellsFrom (s3.heap.objs.size + 1) scope.names (cloFrom J.X.env.cells scope.names []), fp, by show J.X.blk s3 H3 scope ce fp = _; rw [hce]⟩, rfl, rfl⟩
  have pg := hg B hB
  have pt := ht B hB
  have pe := he B hB
  have nfp : ∀ b ∈ fp, H3 b = none := fun b hb => (f3 b hb).1.1
  have stat : ∀ {σ' : L2.St} {H' : Hp} {s' : Shared}, Inv (J.X.blk s3 H3 scope ce fp) [] σ' H' s' → (∀ b ∈ fp, H' b = none) → ∀ b ∈ fp, FpOk (J.X.blk s3 H3 scope ce fp) [] H' b := fun {σ' H' s'} I' hn b hb =>
    ⟨hn b hb, (I'.ok.exf b hb).1, I'.ok.exfs b hb, .inl hb, fun x c e => (I'.ok.exf b hb).2 x c e, fun p hp => absurd (show p ∈ ([] : List (Addr × Obj)) ++ [] from hp) (by simp)⟩
  have loop : codeAny (model J.X.prog J.X.w) J.X.A (.compLoop (.ListComp elt [⟨tg, iter, ifs, 0⟩] scope pos) 0 (.ref it) (.ref D) ce) (compPost (model J.X.prog J.X.w) J.X.A J.X.xe use Qf (.ref D) s3.heap.objs.size) s4 := by
    refine compLoop_any (fun n s' => ∃ i m' S' H' ys acc, Sta B [] (wipe σ (own.map (·.2))) m' S' (wipeS l (own.map (·.2))) H' s' ∧ H' D = some (.lst acc) ∧ RDs J.Y ((J.av ++ [D]) ++ m') H' ys acc ∧ tn i s'.heap ∧ (∀ b ∈ fp, H' b = none) ∧
      (evLcX (lcTurn g ft fe (wipeS l (own.map (·.2)))) iv n i ys S').el (fun ys S => (evLcEnd keep ys S).el K (J.Xc σ l)) (J.Xc σ l)) ?_ (ivN iv) ⟨0, m2, S2, H3, [], [], ⟨tk4, I4, by show Fra m2 H2 m2 H3; rw [← hH3]; exact Fra.laid hDn, rs3, sl3.wipe _⟩, hH3D, .nil, tn4, nfp, k3⟩
    rintro n s5 ⟨i, m5, S5, H5, ys, acc, st5, hD5, rd5, tn5, n5, k5⟩
    cases n with
    | zero => exact k5.elim
    | succ n =>
      unfold evLcX at k5
      have fr25 : Fra m2 H2 m5 H5 := st5.fra
      have wk := wo (J.av ++ [D]) m5 S5 H5 i (kF fr25) fr25.pre st5.rel.st
      generalize hat : ivAt S5 i iv = at5 at k5 wk
      cases at5 with
      | none => exact k5.elim
      | some ow =>
        cases ow with
        | none =>
          have td := T.done (J.X.blk s3 H3 scope ce fp) rfl rfl rfl hc i [] s5 _ H5 (fun _ _ => False) st5.inv (stat st5.inv n5) tn5 (wk.2 rfl)
          refine wpAny_mono (PySem.wpAny_toks_of st5.tok td) (fun r s6 z6 => ?_) fun _ _ z => z.2.elim
          obtain ⟨tk6, hr, I6⟩ := z6
          subst hr
          have I7 : Inv J.X pins σ H5 s6 := I3.call' (ch := fp) I6.os I6.base I6.hok I6.bare fun b hb => ⟨(f3 b hb).1.2.2.2.1, (f3 b hb).1.2.1, (f3 b hb).1.2.2.2.2.1, (f3 b hb).1.2.2.2.2.2⟩
          have nC : H5 s3.heap.objs.size = none := by
            have z : H5 ce.locals = none := I6.free
            rw [cL] at z
            exact z
          obtain ⟨mn, hn, _⟩ := I6.loc
          have hn : s6.heap.Ns ce.locals mn := hn
          rw [cL] at hn
          have k6 : (evLcEnd keep ys S5).el K (J.Xc σ l) := k5
          have rs5 := st5.rel.st
          have nD5 : D ∉ J.av ++ m5 := fun z => by
            have hnd := rs5.nd
            rw [List.append_assoc] at hnd
            rcases List.mem_append.mp z with z | z
            · exact (List.nodup_append.mp hnd).2.2 D z D (List.mem_cons_self) rfl
            · exact (List.nodup_cons.mp (List.nodup_append.mp hnd).2.1).1 z
          have nd5 : (J.av ++ m5).Nodup := by
            have hnd := rs5.nd
            rw [List.append_assoc] at hnd
            refine List.nodup_append.mpr ⟨(List.nodup_append.mp hnd).1, (List.nodup_cons.mp (List.nodup_append.mp hnd).2.1).2, fun a ha b hb e => (List.nodup_append.mp hnd).2.2 a ha b (List.mem_cons_of_mem _ hb) e⟩
          have old : ∀ p o, H2 p = some o → p ∉ m2 → H5 p = some o := fr25.keep
          have hFp := I3.fpOk (Nat.le_refl _) nC
          unfold evLcEnd at k6
          split at k6
          · have fr6 : Fra m2 H2 (m5 ++ [D]) H5 := by
              refine ⟨old, fun p o h n z => ?_, fun j a e => ?_⟩
              · rcases List.mem_append.mp z with z | z
                · exact fr25.new p o h n z
                · exact ne_of_none h hDn (by simpa using z)
              · have := fr25.pre j a e
                rw [List.getElem?_append_left (List.getElem?_eq_some_iff.mp this).1]
                exact this
            have kk : ∀ p o, H5 p = some o → p ∉ (J.av ++ [D]) ++ m5 → H5 p = some o ∧ p ∉ J.av ++ (m5 ++ [D]) := fun p o h n => ⟨h, fun z => n (by
              simp only [List.mem_append] at z ⊢
              rcases z with z | z | z
              · exact .inl (.inl z)
              · exact .inr z
              · exact .inl (.inr z))⟩
            have hmA : ∀ (j : Nat) (a : Addr), m5[j]? = some a → (m5 ++ [D])[j]? = some a := fun j a e => by
              rw [List.getElem?_append_left (List.getElem?_eq_some_iff.mp e).1]
              exact e
            have rs6 : RSt J.Y J.av (m5 ++ [D]) (S5 ++ [.lst (ys.map .d)]) H5 := by
              refine ⟨by rw [List.length_append, List.length_append, rs5.len]; rfl, ?_, fun j o e => ?_, fun a ha => rs5.av_ a (List.mem_append_left _ ha)⟩
              · rw [← List.append_assoc]
                refine List.nodup_append.mpr ⟨nd5, by simp, fun a ha b hb e => ?_⟩
                have : b = D := by simpa using hb
                rw [e, this] at ha
                exact nD5 ha
              · by_cases hj : j < S5.length
                · rw [List.getElem?_append_left hj] at e
                  obtain ⟨a, e1, r⟩ := rs5.at_ j o e
                  exact ⟨a, hmA j a e1, r.keepA kk hmA rfl⟩
                · have hj2 : j = S5.length := by
                    have := (List.getElem?_eq_some_iff.mp e).1
                    rw [List.length_append, List.length_singleton] at this
                    omega
                  subst hj2
                  rw [List.getElem?_append_right (Nat.le_refl _), Nat.sub_self] at e
                  cases e
                  refine ⟨D, ?_, acc, hD5, RWs.of (rd5.keep kk)⟩
                  rw [← rs5.len, List.getElem?_append_right (Nat.le_refl _), Nat.sub_self]
                  rfl
            refine hRR D _ s6 mn H5 _ _ _ k6 (st.mv tk6 I7 (fr2.trans fr6) rs6) (fr2.trans fr6) ⟨D, ?_, rfl⟩ hn hFp
            rw [← rs5.len, List.getElem?_append_right (Nat.le_refl _), Nat.sub_self]
            rfl
          · have fr6 : Fra m2 H2 m5 H5 := fr25
            have kk : ∀ p o, H5 p = some o → p ∉ (J.av ++ [D]) ++ m5 → H5 p = some o ∧ p ∉ J.av ++ m5 := fun p o h n => ⟨h, fun z => n (by
              simp only [List.mem_append] at z ⊢
              rcases z with z | z
              · exact .inl (.inl z)
              · exact .inr z)⟩
            have rs6 : RSt J.Y J.av m5 S5 H5 := ⟨rs5.len, nd5, fun j o e => by
              obtain ⟨a, e1, r⟩ := rs5.at_ j o e
              exact ⟨a, e1, r.keepA kk (fun _ _ e => e) rfl⟩, fun a ha => rs5.av_ a (List.mem_append_left _ ha)⟩
            exact hRR D _ s6 mn H5 _ _ _ k6 (st.mv tk6 I7 (fr2.trans fr6) rs6) (fr2.trans fr6) (show RD J.Y (J.av ++ m5) H5 (.lst ys) (.ref D) from .lst hD5 nD5 (rd5.keep kk)) hn hFp
        | some w =>
          obtain ⟨go, yl⟩ := wk.1 w rfl
          have ti := T.item (J.X.blk s3 H3 scope ce fp) rfl rfl rfl hc i [] s5 _ H5 (fun _ _ => False) st5.inv (stat st5.inv n5) tn5 go
          refine wpAny_mono (PySem.wpAny_toks_of st5.tok ti) (fun r s6 z6 => ?_) fun _ _ z => z.2.elim
          obtain ⟨tk6, u, hr, h6⟩ := z6
          subst hr
          refine wpAny_mono (PySem.wpAny_toks_of tk6 h6) (fun _ s7 z7 => ?_) fun _ _ z => z.2.elim
          obtain ⟨tk7, x, H7, I7, r7, y7, tn7, n7⟩ := z7
          obtain ⟨fr7, rs7, rw7⟩ := yl x H7 y7
          have st7 : Sta B ([] ++ pinsAt fp s7.heap) (wipe σ (own.map (·.2))) m5 S5 (wipeS l (own.map (·.2))) H7 s7 := ⟨tk7, I7.pinned (stat I7 n7) (T.obj _ _ tn7), st5.fra.trans fr7, st5.rel.fra fr7 rs7⟩
          have nDm5 : D ∉ m5 := fun z => by
            have hnd := st5.rel.st.nd
            exact (List.nodup_append.mp hnd).2.2 D (List.mem_append_right _ (List.mem_singleton.mpr rfl)) D z rfl
          have hD7 : H7 D = some (.lst acc) := fr7.keep D _ hD5 nDm5
          -- what the turn does
          dsimp only at k5
          have k5' := RE.el_bind k5
          unfold lcTurn at k5'
          rcases hnx w (wipeS l (own.map (·.2))) S5 with ⟨l8, S8, e8⟩ | e8
          · rw [e8] at k5'
            dsimp only at k5'
            refine wpAny_mono (pg _ s7 _ H7 m5 S5 _ w x u (fun l' S' => l' = l8 ∧ S' = S8) st7 rw7 r7 (by rw [e8]; exact ⟨rfl, rfl⟩)) (fun _ s8 z8 => ?_) fun _ _ z => z.elim
            obtain ⟨σ8, l8', S8', ⟨rfl, rfl⟩, st8, len8, keep8⟩ := z8
            -- the turn's end
            have turnEnd : ∀ {s' : Shared} {m' : List Addr} {S' : Sto} {H' : Hp} {ys' : List Kr.D} {acc' : List V}, Sta B ([] ++ pinsAt fp s7.heap) σ8 m' S' l8' H' s' → H' D = some (.lst acc') → RDs J.Y ((J.av ++ [D]) ++ m') H' ys' acc' →
                (evLcX (lcTurn g ft fe (wipeS l (own.map (·.2)))) iv n (i + 1) ys' S').el (fun ys S => (evLcEnd keep ys S).el K (J.Xc σ l)) (J.Xc σ l) →
                ∃ j, j < n + 1 ∧ ∃ i m' S' H' ys acc, Sta B [] (wipe σ (own.map (·.2))) m' S' (wipeS l (own.map (·.2))) H' s' ∧ H' D = some (.lst acc) ∧ RDs J.Y ((J.av ++ [D]) ++ m') H' ys acc ∧ tn i s'.heap ∧ (∀ b ∈ fp, H' b = none) ∧
                  (evLcX (lcTurn g ft fe (wipeS l (own.map (·.2)))) iv j i ys S').el (fun ys S => (evLcEnd keep ys S).el K (J.Xc σ l)) (J.Xc σ l) := fun {s' m' S' H' ys' acc'} st' hd' rd' k' => by
              have pin' : ∀ b ∈ fp, ∀ o, s7.heap.get? b = some o → s'.heap.get? b = some o ∧ H' b = none := fun b hb o e =>
                let z := st'.inv.pin (b, o) (List.mem_append_right _ (List.mem_append_right _ (mem_pinsAt hb e)))
                ⟨z.1, z.2.1⟩
              refine ⟨n, Nat.lt_succ_self n, i + 1, m', S', H', ys', acc', ⟨st'.tok, (st'.inv.unpinned (pins := [])).weak len8.symm (fun j v e => ?_), st'.fra, st'.rel.st, (sl2.keepA (kF (show Fra m2 H2 m' H' from st'.fra)) (show Fra m2 H2 m' H' from st'.fra).pre).wipe _⟩, hd', rd', T.keep _ _ _ tn7 fun b hb o e => (pin' b hb o e).1, fun b hb => ?_, k'⟩
              · rw [keep8 j (wipe_some e).2]
                exact e
              · obtain ⟨o, e, _⟩ := T.obj _ _ tn7 b hb
                exact (pin' b hb o e).2
            have rd7 : RDs J.Y ((J.av ++ [D]) ++ m5) H7 ys acc := fr7.rds rd5
            generalize hrt : ft l8' S8' = rt at k5'
            cases rt with
            | ex c S9 => exact k5'.elim
            | bad => exact k5'.elim
            | ok b S9 =>
              refine wpAny_mono (pt _ s8 σ8 H7 m5 S8' l8' (fun t S' => t = b ∧ S' = S9) st8 (by rw [hrt]; exact ⟨rfl, rfl⟩)) (fun t s9 z9 => ?_) fun _ _ z => z.elim
              obtain ⟨t', S9', m9, H9, ⟨rfl, rfl⟩, st9, fr9, et⟩ := z9
              subst et
              have hD9 : H9 D = some (.lst acc) := fr9.keep D _ hD7 nDm5
              have rd9 : RDs J.Y ((J.av ++ [D]) ++ m9) H9 ys acc := fr9.rds rd7
              have nD9 : D ∉ m9 := fr9.new D _ hD7 nDm5
              cases t' with
              | false =>
                simp only [Bool.false_eq_true, if_false]
                exact turnEnd st9 hD9 rd9 k5'
              | true =>
                simp only [if_true]
                dsimp only at k5'
                generalize hre : fe l8' S9' = re at k5'
                cases re with
                | ex c S10 => exact k5'.elim
                | bad => exact k5'.elim
                | ok wy S10 =>
                  refine wpAny_mono (pe _ s9 σ8 H9 m9 S9' l8' (fun t S' => t = wy ∧ S' = S10) st9 (by rw [hre]; exact ⟨rfl, rfl⟩)) (fun uy s10 z10 => ?_) fun _ _ z => z.elim
                  obtain ⟨wy', S10', m10, H10, ⟨rfl, rfl⟩, st10, fr10, vy, ry, qy⟩ := z10
                  have hD10 : H10 D = some (.lst acc) := fr10.keep D _ hD9 nD9
                  have rd10 : RDs J.Y ((J.av ++ [D]) ++ m10) H10 ys acc := fr10.rds rd9
                  have nD10 : D ∉ m10 := fr10.new D _ hD9 nD9
                  cases wy' with
                  | r nn => exact k5'.elim
                  | f gg cs => exact k5'.elim
                  | d y =>
                    dsimp only at k5'
                    split at k5'
                    · rename_i hz
                      have hza : acc.length < sizeLine := by rw [← sz_line, ← rd10.length]; exact hz
                      refine wpAny_mono (PySem.wpAny_toks_of st10.tok (app_ok (X := J.X.blk s3 H3 scope ce fp) (Q := fun _ s11 => Inv (J.X.blk s3 H3 scope ce fp) ([] ++ pinsAt fp s7.heap) σ8 (upd H10 D (.lst (acc ++ [vy]))) s11) st10.inv hD10 hza qy fun s11 I11 => I11)) (fun _ s11 z11 => ?_) fun _ _ z => z.2
                      have ry : RD J.Y ((J.av ++ [D]) ++ m10) H10 y vy := ry
                      have hkD : ∀ p o, H10 p = some o → p ∉ (J.av ++ [D]) ++ m10 → upd H10 D (.lst (acc ++ [vy])) p = some o ∧ p ∉ (J.av ++ [D]) ++ m10 := fun p o h n => ⟨by
                        have ne : p ≠ D := fun z => n (by rw [z]; exact List.mem_append_left _ (List.mem_append_right _ (List.mem_singleton.mpr rfl)))
                        rw [upd_ne ne]
                        exact h, n⟩
                      have f0 : Fra m2 H2 m10 H10 := st10.fra
                      have frD : Fra m2 H2 m10 (upd H10 D (.lst (acc ++ [vy]))) := ⟨fun p o h n => by
                        rw [upd_ne (ne_of_none h hDn)]
                        exact f0.keep p o h n, f0.new, f0.pre⟩
                      have rs10 := st10.rel.st
                      have rs11 : RSt J.Y (J.av ++ [D]) m10 S10' (upd H10 D (.lst (acc ++ [vy]))) := ⟨rs10.len, rs10.nd, fun j o e => by
                        obtain ⟨a, e1, r⟩ := rs10.at_ j o e
                        have ne : a ≠ D := fun z => nD10 (by rw [← z]; exact List.mem_of_getElem? e1)
                        exact ⟨a, e1, r.keepA hkD (fun _ _ e => e) (by rw [upd_ne ne])⟩, fun a ha => by
                        by_cases z : a = D
                        · rw [z]; exact ⟨_, upd_same⟩
                        · obtain ⟨o, e⟩ := rs10.av_ a ha
                          exact ⟨o, by rw [upd_ne z]; exact e⟩⟩
                      refine turnEnd (ys' := ys ++ [y]) (acc' := acc ++ [vy]) ⟨z11.1, z11.2, frD, rs11, st10.rel.sl.keepA hkD fun _ _ e => e⟩ upd_same (RDs.app (rd10.keep hkD) (.cons (ry.keep hkD) .nil)) k5'
                    · exact k5'.elim
          · rw [e8] at k5'
            exact k5'.elim
  exact codeAny_compStart_list loop (T.self J.X.A 0 _ _ _ tn4 loop)
theorem je_lc (hc : J.X.calm = true) (hN : J.X.N.Nodup) (hi : JI J tg iter fi) (ok : BlkOk J.X.N J.X.env.scope scope own) (hg : ∀ J', BlkOf J scope J' → JG J' tg (own.map (·.2)) g) (hnx : Nxo g) (ht : ∀ J', BlkOf J scope J' → JTs J' ifs ft) (he : ∀ J', BlkOf J scope J' → JE J' elt fe)
    (hs : ∀ x, foldedSetIterable iter J.X.env x = pure x) :
    JE J (.ListComp elt [⟨tg, iter, ifs, 0⟩] scope pos) (fun l S => (fi l S).bind fun v S => (evLcI (lcTurn g ft fe (wipeS l (own.map (·.2)))) v S).bind fun ys S => evLcEnd keep ys S) := by
  intro pins s σ H m S l K st k
  rw [eval_ListComp]
  refine lc_go hc hN st hi ok hg hnx ht he hs k fun D C s' mn H' w S' m' kw st' fr rw' hn f => ⟨mn, hn, fun h'' sb => ?_⟩
  obtain ⟨f0, f1, f2, f3, f4, f5⟩ := f
  exact ⟨w, S', m', H', kw, ⟨st'.tok, st'.inv.turned (t' := s'.toks) (fun b o hb e => (sb.2 b hb).trans e) f0 f1 f3 f4 f5, st'.fra, st'.rel⟩, fr, .ref D, rw', rfl⟩
/-- name = [..] on one line, the name a local -/
theorem js_setlc {i : Nat} {y : Str} {py spos : Pos} (hc : J.X.calm = true) (hN : J.X.N.Nodup) (hy : J.X.N[i]? = some y) (hyl : J.X.env.scope.names.lookup y = some .local)
    (hsw : swapsWith (.ListComp elt [⟨tg, iter, ifs, 0⟩] scope pos) (some (.Name y py)) spos.line J.X.env = pure true) (hi : JI J tg iter fi) (ok : BlkOk J.X.N J.X.env.scope scope own) (hg : ∀ J', BlkOf J scope J' → JG J' tg (own.map (·.2)) g) (hnx : Nxo g) (ht : ∀ J', BlkOf J scope J' → JTs J' ifs ft)
    (he : ∀ J', BlkOf J scope J' → JE J' elt fe) (hs : ∀ x, foldedSetIterable iter J.X.env x = pure x) :
    JS J (.Assign [.Name y py] (.ListComp elt [⟨tg, iter, ifs, 0⟩] scope pos) spos) (fun l S => ((fi l S).bind fun v S => (evLcI (lcTurn g ft fe (wipeS l (own.map (·.2)))) v S).bind fun ys S => evLcEnd keep ys S).st l fun w S => if i < l.length then .nx (l.set i (some w)) S else .bad) := by
  intro pins s σ H m S l K st k
  have k := RE.el_x (RE.st_el k) fun c S x => Jx.Xs.c (σ := σ) x
  rw [exec_Assign_Name_used _ _ _ _ hsw]
  refine wpAny_bind (wpAny_standAt (wpAny_bind ?_))
  show wpAny _ J.X.A (do let _ ← comprehension (.ListComp elt [⟨tg, iter, ifs, 0⟩] scope pos) scope J.X.env (firstIterPos [⟨tg, iter, ifs, 0⟩] pos) (newList []) false (eval iter J.X.env) (some (assign (.Name y py) J.X.env))) _ _ s
  refine wpAny_bind (wpAny_mono (PySem.wpAny_toks_of st.tok (lc_go (Qf := fun _ s' => ∃ w S' m' H' v, (if i < l.length then RS.nx (l.set i (some w)) S' else .bad).el K J.Xs ∧ L2.Inv J.X pins (σ.set i (some v)) H' s' ∧ Fra m H m' H' ∧ RSt J.Y J.av m' S' H' ∧ RW J.Y J.av m' H' w v) hc hN st hi ok hg hnx ht he hs k fun L C s' mn H' w S' m' kw st' fr rw' hn f => ?_)) (fun _ s' hq => wpAny_pure (wpAny_pure ?_)) fun _ _ z => z.2)
  · show wpAny _ _ (assign (.Name y py) J.X.env (.ref L)) _ _ _
    refine wpAny_assign_Name (store_ok2 (v := V.ref L) st'.inv hN hy (.inl hyl) rfl (fun s2 I2 ⟨a, sb, ha⟩ => ?_) (.inr hyl))
    obtain ⟨f0, f1, f2, f3, f4, f5⟩ := f
    have haC : C ≠ a := by
      rcases ha with z | z
      · rw [z]; exact f1
      · exact fun e => f4 y a z e.symm
    exact ⟨mn, hn.sameBut sb haC, fun h3 sb3 => ⟨w, S', m', H', .ref L, kw, I2.turned (t' := s2.toks) (fun b o hb e => (sb3.2 b hb).trans e) f0 f1 f3 f4 f5, fr, st'.rel.st, rw'⟩⟩
  · obtain ⟨tk, w, S', m', H', v, kw, I, fr, rs, rw'⟩ := hq
    split at kw
    · exact ⟨_, S', m', H', _, kw, ⟨tk, I, st.fra.trans fr, (st.rel.fra fr rs).set rw'⟩, fr⟩
    · exact kw.elim
end
end Kr
/-! KrC: what the shape of a text grants. -/
namespace Kr
open PySem PySem.Spec PyProof.Rows L2
/-- no star, no slice, no set -/
def pl : Expr → Bool
  | .Constant _ _ _ => true | .Name _ _ => true | .BinOp _ _ _ _ => true | .UnaryOp _ _ _ => true | .BoolOp _ _ _ => true | .Compare _ _ _ _ => true | .Call _ _ _ _ => true | .IfExp _ _ _ _ => true
  | .Attribute _ _ _ => true | .Subscript _ _ _ => true | .Tuple _ _ _ => true | .List _ _ => true | .ListComp _ _ _ _ => true | .Dict _ _ _ => true | _ => false
def pls : List Expr → Bool
  | [] => true
  | e :: es => pl e && pls es
theorem star_cons {e : Expr} {es : List Expr} {env : Env} (h : pl e = true) : starEach (e :: es) env = (false, eval e env) :: starEach es env := by
  cases e <;> first | rfl | cases h
theorem star_any {env : Env} {pos : Pos} : ∀ {es : List Expr}, pls es = true → (backTo pos (starEach es env)).any (·.1) = false
  | [], _ => rfl
  | e :: es, h => by
    obtain ⟨h1, h2⟩ := Bool.and_eq_true_iff.mp (show (pl e && pls es) = true from h)
    rw [star_cons h1]
    show (false || (backTo pos (starEach es env)).any (·.1)) = false
    rw [star_any h2]
    rfl
theorem star_all {env : Env} {pos : Pos} : ∀ {es : List Expr}, pls es = true → (backTo pos (starEach es env)).all (fun x => !x.1) = true
  | [], _ => rfl
  | e :: es, h => by
    obtain ⟨h1, h2⟩ := Bool.and_eq_true_iff.mp (show (pl e && pls es) = true from h)
    rw [star_cons h1]
    show (true && (backTo pos (starEach es env)).all (fun x => !x.1)) = true
    rw [star_all h2]
    rfl
theorem few_ok {env : Env} {pos : Pos} {es : List Expr} (h : pls es = true) (hl : es.length < 30) :
    ((backTo pos (starEach es env)).all (fun x => !x.1) && (backToKw pos (keywordEach [] env)).all (fun x => x.1.isSome) && decide (es.length + ([] : List Keyword).length + (if ([] : List Keyword).isEmpty then 0 else 1) < 30)) = true := by
  rw [star_all h]
  show (true && true && decide (es.length + 0 + 0 < 30)) = true
  simpa using hl
theorem subs_ok {b : Expr} (h : pl b = true) (o i : Value) : subscripted b false o i = operate [o, i] (getItem o i) := by
  cases b <;> first | rfl | cases h
theorem set_ok {e : Expr} {env : Env} (h : pl e = true) (x : Value) : foldedSetIterable e env x = pure x := by
  cases e <;> first | rfl | cases h
theorem marks_ok {b : Expr} {op : CmpOp} (h : pl b = true) : behindInMarks op b = false := by
  cases b <;> first | rfl | cases h
theorem last_ok {b c : Expr} {op op' : CmpOp} (h : pl c = true) : lastMarks [op, op'] [b, c] = false := marks_ok h
theorem part_ok {e : Expr} {env : Env} (h : pl e = true) : evalPart (some e) env = eval e env := by
  cases e <;> first | rfl | cases h
def notComp : Expr → Bool
  | .ListComp _ _ _ _ => false | .SetComp _ _ _ _ => false | .DictComp _ _ _ _ _ => false | _ => true
theorem swaps_no {e : Expr} {t : Option Expr} {n : Nat} {env : Env} (h : notComp e = true) : swapsWith e t n env = pure false := by
  cases e <;> first | rfl | cases h
def abOk : Expr → Bool
  | .Call (.Name id _) [] [] _ => id != "super"
  | _ => true
theorem ab_ok {o : Expr} {f : Str} {env : Env} {x : Sem Value} (h : abOk o = true) : attributeBase o f env x = x := by
  unfold attributeBase
  split
  · rename_i id _ _
    have h : (id != "super") = true := h
    rw [h, Bool.true_or, Bool.true_or, Bool.true_or, if_pos rfl]
  · rfl
/-- a test that is its value's truth -/
def plainT : Expr → Bool
  | .Constant _ _ _ => true | .Name _ _ => true | .BinOp _ _ _ _ => true | .Call _ _ _ _ => true | .Attribute _ _ _ => true | .Subscript _ _ _ => true | .Tuple _ _ _ => true | .List _ _ => true | _ => false
theorem plainT_ok {e : Expr} {env : Env} (h : plainT e = true) (whole : Sem Value) : isTrue e env whole = (do let v ← whole; standAt e.pos; holding [v] (truthy v)) := by
  cases e <;> first | rfl | cases h
theorem call_tree {o : Expr} {n : Str} {apos pos : Pos} {args : List Expr} {env : Env} (h : abOk o = true) (hp : pls args = true) (hl : args.length < 30) (hline : (apos.endLine == pos.line) = true) : ∃ pl, eval (.Call (.Attribute o n apos) args [] pos) env = (do
      let ov ← eval o env
      standAt apos.atName
      let (f, first) ← holding [ov] (getMethod ov n pl)
      callWith pos f first (backTo pos (starEach args env)) (backToKw pos (keywordEach [] env))) := by
  have few : methodCallForm (args.length + ([] : List Keyword).length) (backTo pos (starEach args env)) (backToKw pos (keywordEach [] env)) = true := by
    have := few_ok (env := env) (pos := pos) hp hl
    exact this
  refine ⟨?_, ?_⟩
  rotate_left
  · rw [arm_eval_Call, ab_ok h]
    unfold methodCall
    rw [few]
    unfold methodCallPos calleeOf
    rw [hline]
    rfl
end Kr
/-! KrK: the text and its IR are held together. -/
namespace Kr
open PySem PySem.Spec PyProof.Rows L2

/-- a row's numbers and names -/
structure Row where
  G : Tab
  fnm : Nat → Option Str
  mnm : Nat → Nat → Option Str
  cnm : Nat → Option Str
  xnm : Nat → Option Str
  gnm : Nat → Option Str
  fs : Nat → List Str
/-- where a name is read -/
structure Sc where
  N : List Str
  sc : Scope
  fnb : Str → Bool
def vis (s : Sc) (x : Str) : Bool := match s.sc.names.lookup x with
  | some .local => true
  | some .cell => true
  | some .free => true
  | _ => false
def gl (s : Sc) (x : Str) : Bool := match s.sc.names.lookup x with
  | some .globalImplicit => true
  | _ => false
def loc (s : Sc) (x : Str) : Bool := match s.sc.names.lookup x with
  | some .local => true
  | some .cell => s.fnb x
  | _ => false
def isLoc (s : Sc) (x : Str) : Bool := match s.sc.names.lookup x with
  | some .local => true
  | _ => false
def okN (x : Str) : Bool := !(x == ("__debug__" : Str)) && !(x == ("__classdict__" : Str))
def eqO (a : Option Str) (x : Str) : Bool := match a with
  | some y => y == x
  | none => false
def bltFree : List Str := ["len", "abs", "int", "str", "bool", "list", "tuple", "max", "min", "isinstance", "range"]
/-- a comprehension's own scope -/
def Sc.blk (s : Sc) (scope : Scope) : Sc := ⟨s.N, relS scope s.sc, fun x => scope.names.lookup x == some .cell⟩
def ownOf (N : List Str) (own : List Nat) : List (Str × Nat) := own.map fun i => (N.getD i "", i)
def constIs : D → Expr → Bool
  | .non, .Constant .none _ _ => true
  | .bl b, .Constant (.bool c) _ _ => b == c
  | .int i, .Constant (.int j) _ _ => i == j
  | .str x, .Constant (.str y) _ _ => y.cps.toList == x && x.all (· < 128)
  | _, _ => false
def Tg.ix : Tg → List Nat
  | .nam i => [i]
  | .tup gs => Tgs.ix gs
  | .sub _ _ => []
where Tgs.ix : Tgs → List Nat
  | .nil => []
  | .cons g gs => Tg.ix g ++ Tgs.ix gs
def Tgs.len : Tgs → Nat
  | .nil => 0
  | .cons _ gs => gs.len + 1
mutual
def chkG (s : Sc) : Tg → Expr → Bool
  | .nam i, .Name x _ => eqO s.N[i]? x && loc s x
  | .tup gs, .Tuple es _ _ => chkGs s gs es
  | _, _ => false
def chkGs (s : Sc) : Tgs → List Expr → Bool
  | .nil, [] => true
  | .cons g gs, e :: es => chkG s g e && chkGs s gs es
  | _, _ => false
end
def meNm : Me → Str
  | .strip => "strip" | .rstrip => "rstrip" | .split => "split" | .replace => "replace" | .rjust => "rjust" | .join => "join" | .count => "count" | .index => "index" | .append => "append" | .pop => "pop" | .extend => "extend" | .get => "get" | .update => "update"
def isS (m : Me) : Bool := match m with
  | .strip => true | .rstrip => true | .split => true | .rjust => true | .join => true | _ => false
/-- a method's call: the shape -/
def bmShape (o : Expr) (apos pos : Pos) (as : List Expr) : Bool := abOk o && (apos.endLine == pos.line) && decide (as.length < 30) && !as.isEmpty
mutual
def chkE (R : Row) (s : Sc) : E → Expr → Bool
  | .cst d, e => constIs d e
  | .var i, .Name x _ => eqO s.N[i]? x && vis s x && okN x
  | .glb g, .Name x _ => eqO (R.gnm g) x && gl s x && okN x
  | .bin o a b, .BinOp ea op eb _ => decide (op = bopOf o) && chkE R s a ea && chkE R s b eb
  | .neg a, .UnaryOp .USub ea _ => chkE R s a ea
  | .cmp o a b, .Compare ea [op] [eb] _ => decide (op = copOf o) && chkE R s a ea && chkE R s b eb && pl eb
  | .chn o p a b c, .Compare ea [op, op'] [eb, ec] _ => decide (op = copOf o) && decide (op' = copOf p) && chkE R s a ea && chkE R s b eb && chkE R s c ec && pl ec
  | .and es, .BoolOp .And as _ => chkEs R s es as && !as.isEmpty
  | .or es, .BoolOp .Or as _ => chkEs R s es as && !as.isEmpty
  | .not a, .UnaryOp .Not ea _ => chkE R s a ea
  | .ite t a b, .IfExp et ea eb _ => chkT R s t et && chkE R s a ea && chkE R s b eb
  | .call _ f as, .Call (.Name x _) es [] _ => eqO (R.fnm f) x && gl s x && okN x && chkEs R s as es
  | .mk _ c as, .Call (.Name x _) es [] _ => eqO (R.cnm c) x && (R.G.ini c).isSome && gl s x && okN x && chkEs R s as es && !es.isEmpty
  | .mth _ c f o as, .Call (.Attribute eo n apos) es [] pos => eqO (R.mnm c f) n && (R.cnm c).isSome && chkE R s o eo && chkEs R s as es && abOk eo && (apos.endLine == pos.line) && decide (es.length < 30)
  | .blt b as, .Call (.Name x _) es [] _ => eqO (biN b) x && gl s x && chkEs R s as es && !es.isEmpty
  | .isi a t, .Call (.Name x _) [ea, .Name y _] [] _ => (x == ("isinstance" : Str)) && gl s x && (y == Str.ofString (tyN t)) && gl s y && chkE R s a ea && pl ea
  | .bm m o as, .Call (.Attribute eo n apos) es [] pos => (n == meNm m) && (isS m || decide (m = .append) || decide (m = .count)) && chkE R s o eo && chkEs R s as es && bmShape eo apos pos es
  | .repl o c z, .Call (.Attribute eo n apos) [.Constant (.str y) _ _, .Constant (.str y') _ _] [] pos => (n == ("replace" : Str)) && (y.cps.toList == [c]) && decide (c < 128) && (y'.cps.toList == z) && z.all (· < 128) && !(z == [c]) && chkE R s o eo && abOk eo && (apos.endLine == pos.line)
  | .fld c k o, .Attribute eo f _ => eqO (R.fs c)[k]? f && (R.cnm c).isSome && chkE R s o eo && abOk eo
  | .ix a b, .Subscript ea eb _ => chkE R s a ea && chkE R s b eb && pl eb
  | .sl a lo hi, .Subscript ea (.Slice el eh none _) _ => chkE R s a ea && chkO R s lo el && chkO R s hi eh
  | .tup as, .Tuple es _ _ => chkEs R s as es
  | .lst _ as, .List es _ => chkEs R s as es
  | .lc _ own g i t e, .ListComp elt [⟨tg, iter, ifs, 0⟩] scope _ => blkC s.N s.sc scope (ownOf s.N own) && chkI R s i iter && pl iter && chkG (s.blk scope) g tg && (g.ix.all own.contains) && chkOt R (s.blk scope) t ifs && chkE R (s.blk scope) e elt
  | _, _ => false
def chkEs (R : Row) (s : Sc) : Es → List Expr → Bool
  | .nil, [] => true
  | .cons e es, a :: as => pl a && chkE R s e a && chkEs R s es as
  | _, _ => false
def chkO (R : Row) (s : Sc) : Oe → Option Expr → Bool
  | .none, none => true
  | .some e, some a => chkE R s e a && pl a
  | _, _ => false
def chkOt (R : Row) (s : Sc) : Ot → List Expr → Bool
  | .none, [] => true
  | .some t, [a] => chkT R s t a
  | _, _ => false
def chkT (R : Row) (s : Sc) : T → Expr → Bool
  | .val e, a => chkE R s e a && plainT a
  | .cmp o a b, .Compare ea [op] [eb] _ => decide (op = copOf o) && chkE R s a ea && chkE R s b eb && pl eb
  | .chn o p a b c, .Compare ea [op, op'] [eb, ec] _ => decide (op = copOf o) && decide (op' = copOf p) && chkE R s a ea && chkE R s b eb && chkE R s c ec && pl ec
  | .and ts, .BoolOp .And as _ => chkTs R s ts as && !as.isEmpty
  | .or ts, .BoolOp .Or as _ => chkTs R s ts as && !as.isEmpty
  | .not a, .UnaryOp .Not ea _ => chkT R s a ea
  | _, _ => false
def chkTs (R : Row) (s : Sc) : Ts → List Expr → Bool
  | .nil, [] => true
  | .cons t ts, a :: as => chkT R s t a && chkTs R s ts as
  | _, _ => false
def chkI (R : Row) (s : Sc) : It → Expr → Bool
  | .seq e, a => chkE R s e a
  | .rng1 a, .Call (.Name x _) [ea] [] _ => (x == ("range" : Str)) && gl s x && chkE R s a ea && pl ea
  | .rng2 a b, .Call (.Name x _) [ea, eb] [] _ => (x == ("range" : Str)) && gl s x && chkE R s a ea && pl ea && chkE R s b eb && pl eb
  | _, _ => false
end
/-- what a, b = x, y does -/
def ssB (sc : Scope) (ts vs : List Expr) : Option (Option (List Str)) :=
  if !(ts.length == 2 || ts.length == 3) || vs.length != ts.length then some none
  else if vs.any (fun | .Starred .. => true | _ => false) then some none
  else
    let line := (ts.head?.map (·.pos.line)).getD 0
    let names := ts.filterMap fun
      | .Name id pos => if sc.names.lookup id == some .local && pos.line == line then some id else none
      | _ => none
    if names.length != ts.length || names.eraseDups.length != names.length then some none
    else if vs.all (foldedForSure 8) then some none
    else if vs.all (constantsAlone 8) then none
    else some (some names)
def notTup : Expr → Bool
  | .Tuple _ _ _ => false | _ => true
def swB (s : Sc) (x : Str) (px : Pos) (scope : Scope) (pos : Pos) : Bool :=
  isLoc s x && px.line == pos.line && !(scope.names.any fun (n, k) => n == x && (k == .local || k == .cell))
/-- the names of a swap -/
def parOk (s : Sc) : Tgs → List Expr → List Str → Bool
  | .cons (.nam i) (.cons (.nam j) .nil), [.Name x _, .Name y _], [x', y'] => (x == x') && (y == y') && eqO s.N[i]? x && eqO s.N[j]? y && !(i == j) && isLoc s x && isLoc s y
  | .cons (.nam i) (.cons (.nam j) (.cons (.nam k) .nil)), [.Name x _, .Name y _, .Name z _], [x', y', z'] => (x == x') && (y == y') && (z == z') && eqO s.N[i]? x && eqO s.N[j]? y && eqO s.N[k]? z && !(i == j) && !(i == k) && !(j == k) && isLoc s x && isLoc s y && isLoc s z
  | _, _, _ => false
def isLC : Expr → Bool
  | .ListComp _ _ _ _ => true
  | _ => false
def tupChk (s : Sc) (gs : Tgs) (ts : List Expr) (a : Expr) : Bool := if notTup a then chkGs s gs ts else (match a with
    | .Tuple vs _ _ => (match ssB s.sc ts vs with
      | some none => chkGs s gs ts
      | some (some names) => parOk s gs ts names
      | none => false)
    | _ => false)
def chkH (R : Row) (s : Sc) : List (Nat × Nat × D) → List ExceptHandler → Bool
  | [], [] => true
  | (k, i, d) :: hs, .ExceptHandler (some (.Name x _)) none [.Assign [.Name y _] c _] _ :: as => eqO (R.xnm k) x && gl s x && okN x && eqO s.N[i]? y && isLoc s y && constIs d c && chkH R s hs as
  | _, _ => false
mutual
def chkS (R : Row) (s : Sc) : St → Stmt → Bool
  | .doc, .Expr (.Constant (.str _) _ _) _ => true
  | .pass, .Pass _ => true
  | .brk, .Break _ => true
  | .cnt, .Continue _ => true
  | .expr e, .Expr a _ => chkE R s e a && notComp a
  | .asg (.nam i) e, .Assign [.Name x px] a _ => eqO s.N[i]? x && loc s x && chkE R s e a && (notComp a || isLC a)
  | .asg (.tup gs) e, .Assign [.Tuple ts _ _] a _ => chkE R s e a && notComp a && tupChk s gs ts a
  | .setf c k o e, .Assign [.Attribute eo f _] a _ => eqO (R.fs c)[k]? f && (R.cnm c).isSome && chkE R s o eo && chkE R s e a && notComp a
  | .aug i o e, .AugAssign (.Name x _) op a _ => eqO s.N[i]? x && loc s x && decide (op = bopOf o) && chkE R s e a
  | .augf c k o b e, .AugAssign (.Attribute eo f _) op a _ => eqO (R.fs c)[k]? f && (R.cnm c).isSome && decide (op = bopOf b) && chkE R s o eo && chkE R s e a
  | .ret e, .Return (some a) _ => chkE R s e a
  | .retN, .Return none _ => true
  | .ite t a b, .If c sa sb _ => chkT R s t c && chkB R s a sa && chkB R s b sb
  | .whl t b, .While c sb [] _ => chkT R s t c && chkB R s b sb
  | .loop g i b, .For tg iter sb [] _ => chkG s g tg && chkI R s i iter && pl iter && chkB R s b sb
  | .raise c, .Raise (some (.Call (.Name x _) [.Constant (.str _) _ _] [] _)) none _ => eqO (R.xnm c) x && gl s x && okN x
  | .tri b hs, .Try sb hds [] [] _ => chkB R s b sb && chkH R s hs hds && !hds.isEmpty
  | _, _ => false
def chkB (R : Row) (s : Sc) : Ss → List Stmt → Bool
  | .nil, [] => true
  | .cons a as, b :: bs => chkS R s a b && chkB R s as bs
  | _, _ => false
end
end Kr
/-! KrS: what is held together is true of the text: expressions. -/
namespace Kr
open PySem PySem.Spec PyProof.Rows L2

/-- what a row's head grants; C: what a call does, lv: the room that it needs -/
structure Facts (R : Row) (C : Cl) (lv : Nat) (P : Program) (w : World) (K : PySem.W.Frag) (mg : Str → Option Value) (base : Heap) (Y : Cfg) : Prop where
  glb : ∀ g x d, R.gnm g = some x → R.G.glb g = some d → ∃ u, mg x = some u ∧ KD Y d u
  fn : ∀ f x, R.fnm f = some x → ∃ a, mg x = some (.ref a) ∧ FnAt P w K mg base Y C lv f a
  mt : ∀ c f n, R.mnm c f = some n → ∃ a, Meth K (Y.cA c) n a ∧ FnAt P w K mg base Y C lv f a
  cl : ∀ c x, R.cnm c = some x → mg x = some (.ref (Y.cA c)) ∧ Cls K (Y.cA c)
  mkr : ∀ c x f, R.cnm c = some x → R.G.ini c = some f → ∃ a, Mk K (Y.cA c) a ∧ FnAt P w K mg base Y C lv f a
  fld : ∀ (c k : Nat) (f x : Str), R.cnm c = some x → (R.fs c)[k]? = some f → NoAttr K (Y.cA c) f
  fsY : Y.fs = R.fs
  nd : ∀ c, (R.fs c).Nodup ∧ (R.fs c).length < 1000
  mno : ∀ c f n, R.mnm c f = some n → n ∉ R.fs c
  exc : ∀ c x, R.xnm c = some x → mg x = some (.ref (Y.xA c)) ∧ (∃ B newId initId bmB, ExcBaseFacts B newId initId bmB ∧ PySem.W.excIn K (Y.xA c) bmB newId = true) ∧ PySem.W.keepIn K (.ref (Y.xA c)) = true ∧
    PySem.W.subIn K (.ref (Y.xA c)) (.type "BaseException") = some true ∧ PySem.W.typeIn K (.ref (Y.xA c)) = some (.type "type")
  sub : ∀ c k b, R.G.sub c k = some b → PySem.W.exmOne K (.ref (Y.xA c)) (.ref (Y.xA k)) = some b
  blt : ∀ x ∈ bltFree, mg x = none
structure Cxt (R : Row) (C : Cl) (lv : Nat) (J : Jx) (s : Sc) : Prop where
  ok : J.Ok
  calm : J.X.calm = true
  room : Room (lv + 1) J.X.A
  N : J.X.N = s.N
  nd : s.N.Nodup
  sc : J.X.env.scope = s.sc
  fn : J.X.fn = s.fnb
  F : Facts R C lv J.X.prog J.X.w J.X.K J.X.mg J.X.base J.Y
section
variable {R : Row} {C : Cl} {lv : Nat} {J : Jx} {s : Sc}
theorem Cxt.vis (c : Cxt R C lv J s) {x : Str} (h : Kr.vis s x = true) : Vis J.X.env.scope x := by
  rw [c.sc]
  unfold Kr.vis at h
  unfold Vis
  split at h
  · rename_i e; exact .inl e
  · rename_i e; exact .inr (.inl e)
  · rename_i e; exact .inr (.inr e)
  · cases h
theorem Cxt.gl (c : Cxt R C lv J s) {x : Str} (h : Kr.gl s x = true) : Gl J.X x := by
  show J.X.env.scope.names.lookup x = some .globalImplicit
  rw [c.sc]
  unfold Kr.gl at h
  split at h
  · rename_i e; exact e
  · cases h
theorem Cxt.loc (c : Cxt R C lv J s) {x : Str} (h : Kr.loc s x = true) : Loc J.X.env.scope x ∧ (J.X.fn x = true ∨ J.X.env.scope.names.lookup x = some .local) := by
  rw [c.sc, c.fn]
  unfold Kr.loc at h
  unfold L2.Loc
  split at h
  · rename_i e; exact ⟨.inl e, .inr e⟩
  · rename_i e; exact ⟨.inr e, .inl h⟩
  · cases h
theorem Cxt.isLoc (c : Cxt R C lv J s) {x : Str} (h : Kr.isLoc s x = true) : J.X.env.scope.names.lookup x = some .local := by
  rw [c.sc]
  unfold Kr.isLoc at h
  split at h
  · rename_i e; exact e
  · cases h
theorem eqO_ok {a : Option Str} {x : Str} (h : eqO a x = true) : a = some x := by
  cases a with
  | none => cases h
  | some y => exact congrArg some (beq_iff_eq.mp h)
theorem okN_ok {x : Str} (h : okN x = true) : (x == ("__debug__" : Str)) = false ∧ (x == ("__classdict__" : Str)) = false := by
  obtain ⟨a, b⟩ := Bool.and_eq_true_iff.mp h
  exact ⟨by simpa using a, by simpa using b⟩
theorem Cxt.nm (c : Cxt R C lv J s) {i : Nat} {x : Str} (h : eqO s.N[i]? x = true) : J.X.N[i]? = some x := by
  rw [c.N]; exact eqO_ok h
theorem Cxt.ndx (c : Cxt R C lv J s) : J.X.N.Nodup := by rw [c.N]; exact c.nd
theorem Cxt.blk (c : Cxt R C lv J s) {scope : Scope} {J' : Jx} (b : BlkOf J scope J') : Cxt R C lv J' (s.blk scope) := by
  have ok := b.ok c.ok
  obtain ⟨s0, H, Cc, cl, fp, e⟩ := b.x
  have ey := b.y
  obtain ⟨X', Y', av, m0, H0, Wx⟩ := J'
  simp only at e ey
  subst e ey
  refine ⟨ok, c.calm, c.room, c.N, c.nd, ?_, rfl, c.F⟩
  show relS scope J.X.env.scope = relS scope s.sc
  rw [c.sc]
theorem JG.mono {tg : Expr} {is is' : List Nat} {g : W → Sl → Sto → RS} (h : JG J tg is g) (hm : ∀ i ∈ is, i ∈ is') : JG J tg is' g := fun pins s σ H m S l w v u K st r q k =>
  thn (h pins s σ H m S l w v u K st r q k) fun _ s' ⟨σ', l', S', k', st', e1, e2⟩ => ⟨σ', l', S', k', st', e1, fun j hj => e2 j fun z => hj (hm j z)⟩
/-! ### targets -/
theorem each_one {t : Expr} {env : Env} (h : pl t = true) : assignEach [t] env = [(false, assign t env)] := by
  cases t <;> first | rfl | cases h
theorem each_cons {t : Expr} {ts : List Expr} {env : Env} (h : pl t = true) : assignEach (t :: ts) env = (false, assign t env) :: assignEach ts env := by
  cases t <;> first | rfl | cases h
theorem chkG_pl {g : Tg} {e : Expr} (h : chkG s g e = true) : pl e = true := by
  cases g with
  | nam i => cases e <;> first | rfl | exact (Bool.false_ne_true h).elim
  | tup gs => cases e <;> first | rfl | exact (Bool.false_ne_true h).elim
  | sub o i => cases e <;> exact (Bool.false_ne_true h).elim
theorem chkGs_each : ∀ {gs : Tgs} {es : List Expr} {env : Env}, chkGs s gs es = true → (assignEach es env).length = gs.len ∧ (assignEach es env).findIdx? (·.1) = none
  | .nil, [], env, _ => ⟨rfl, rfl⟩
  | .nil, _ :: _, _, h => (Bool.false_ne_true h).elim
  | .cons g gs, [], _, h => (Bool.false_ne_true h).elim
  | .cons g gs, e :: es, env, h => by
    obtain ⟨h1, h2⟩ := Bool.and_eq_true_iff.mp (show (chkG s g e && chkGs s gs es) = true from h)
    obtain ⟨i1, i2⟩ := chkGs_each (env := env) h2
    rw [each_cons (chkG_pl h1)]
    refine ⟨by rw [List.length_cons, i1]; rfl, ?_⟩
    rw [List.findIdx?_cons]
    simp [i2]
mutual
theorem evG_nx (G : Tab) (C : Cl) : ∀ (g : Tg) (w : W) (l : Sl) (S : Sto), (∃ l' S', evG G C g w l S = .nx l' S') ∨ evG G C g w l S = .bad
  | .nam i, w, l, S => by
    show (∃ l' S', (if i < l.length then RS.nx (l.set i (some w)) S else .bad) = .nx l' S') ∨ (if i < l.length then RS.nx (l.set i (some w)) S else .bad) = .bad
    split
    · exact .inl ⟨_, _, rfl⟩
    · exact .inr rfl
  | .tup gs, w, l, S => by
    cases w with
    | d x =>
      cases x with
      | tup xs => exact evGs_nx G C gs xs l S
      | _ => exact .inr rfl
    | _ => exact .inr rfl
  | .sub _ _, _, _, _ => .inr rfl
theorem evGs_nx (G : Tab) (C : Cl) : ∀ (gs : Tgs) (xs : List D) (l : Sl) (S : Sto), (∃ l' S', evGs G C gs xs l S = .nx l' S') ∨ evGs G C gs xs l S = .bad
  | .nil, [], l, S => .inl ⟨_, _, rfl⟩
  | .nil, _ :: _, l, S => .inr rfl
  | .cons g gs, [], l, S => .inr rfl
  | .cons g gs, x :: xs, l, S => by
    show (∃ l' S', ((evG G C g (.d x) l S).sq fun l S => evGs G C gs xs l S) = .nx l' S') ∨ ((evG G C g (.d x) l S).sq fun l S => evGs G C gs xs l S) = .bad
    rcases evG_nx G C g (.d x) l S with ⟨l', S', e⟩ | e
    · rw [e]
      exact evGs_nx G C gs xs l' S'
    · rw [e]
      exact .inr rfl
end
theorem evGs_len (G : Tab) (C : Cl) : ∀ (gs : Tgs) (xs : List D) (l : Sl) (S : Sto) (K : Sl → Sto → Prop), (evGs G C gs xs l S).nxt K → xs.length = gs.len
  | .nil, [], l, S, K, h => rfl
  | .nil, _ :: _, l, S, K, h => h.elim
  | .cons g gs, [], l, S, K, h => h.elim
  | .cons g gs, x :: xs, l, S, K, h => by
    have h : ((evG G C g (.d x) l S).sq fun l S => evGs G C gs xs l S).nxt K := h
    rcases evG_nx G C g (.d x) l S with ⟨l', S', e⟩ | e
    · rw [e] at h
      show xs.length + 1 = gs.len + 1
      rw [evGs_len G C gs xs l' S' K h]
    · rw [e] at h
      exact h.elim
mutual
theorem sndG : ∀ (g : Tg) {J : Jx} {s : Sc} {e : Expr}, Cxt R C lv J s → chkG s g e = true → JG J e g.ix (evG R.G C g)
  | .nam i, J, s, e, c, h => by
    cases e with
    | Name x p =>
      obtain ⟨h1, h2⟩ := Bool.and_eq_true_iff.mp (show (eqO s.N[i]? x && loc s x) = true from h)
      exact jg_nam c.ndx (c.nm h1) (c.loc h2).1 (c.loc h2).2
    | _ => exact (Bool.false_ne_true h).elim
  | .tup gs, J, s, e, c, h => by
    cases e with
    | Tuple es k p =>
      have h : chkGs s gs es = true := h
      obtain ⟨h1, h2⟩ := chkGs_each (env := J.X.env) h
      exact jg_tup c.calm c.ok (sndGs gs c h) h1 (evGs_len R.G C gs) h2
    | _ => exact (Bool.false_ne_true h).elim
  | .sub o i, J, s, e, c, h => by cases e <;> exact (Bool.false_ne_true h).elim
theorem sndGs : ∀ (gs : Tgs) {J : Jx} {s : Sc} {es : List Expr}, Cxt R C lv J s → chkGs s gs es = true → JGs J es (Tg.ix.Tgs.ix gs) (evGs R.G C gs)
  | .nil, J, s, [], c, h => jgs_nil
  | .nil, J, s, _ :: _, c, h => (Bool.false_ne_true h).elim
  | .cons g gs, J, s, [], c, h => (Bool.false_ne_true h).elim
  | .cons g gs, J, s, e :: es, c, h => by
    obtain ⟨h1, h2⟩ := Bool.and_eq_true_iff.mp (show (chkG s g e && chkGs s gs es) = true from h)
    refine jgs_cons (sndG g c h1) (sndGs gs c h2) ?_
    rw [each_cons (chkG_pl h1)]
    rfl
end
end
end Kr
/-! KrS2: what is held together is true of the text: expressions. -/
namespace Kr
open PySem PySem.Spec PyProof.Rows L2
theorem ba2 {a b : Bool} (h : (a && b) = true) : a = true ∧ b = true := Bool.and_eq_true_iff.mp h
theorem ne_nil {as : List Expr} (h : (!as.isEmpty) = true) : ∃ e es, as = e :: es := by
  cases as with
  | nil => cases h
  | cons e es => exact ⟨e, es, rfl⟩
theorem str_of {y : Str} {x : List Nat} (h : (y.cps.toList == x) = true) : y = mkS x := str_ext (beq_iff_eq.mp h)
theorem asc_of {x : List Nat} (h : x.all (· < 128) = true) : Asc x := fun c hc => by
  have := List.all_eq_true.mp h c hc
  simpa using this
theorem je_cst {J : Jx} {d : D} {e : Expr} (h : constIs d e = true) : JE J e (fun _ S => .ok (.d d) S) := by
  unfold constIs at h
  split at h
  · exact je_none
  · rename_i b c _ _
    have : b = c := by simpa using h
    subst this
    exact je_bool
  · rename_i b c _ _
    have : b = c := by simpa using h
    subst this
    exact je_int
  · obtain ⟨h1, h2⟩ := ba2 h
    rw [str_of h1]
    exact je_str (asc_of h2)
  · cases h
section
variable {R : Row} {C : Cl} {lv : Nat} {J : Jx} {s : Sc}
theorem Facts.fldOk (c : Cxt R C lv J s) {k n : Nat} {f : Str} (h1 : eqO (R.fs k)[n]? f = true) (h2 : (R.cnm k).isSome = true) : FldOk J k n f := by
  obtain ⟨x, e⟩ := Option.isSome_iff_exists.mp h2
  have e1 := eqO_ok h1
  refine ⟨(c.F.cl k x e).2, c.F.fld k n f x e e1, ?_, ?_⟩
  · rw [c.F.fsY]; exact e1
  · rw [c.F.fsY]; exact (c.F.nd k).1
theorem Cxt.blt (c : Cxt R C lv J s) {x : Str} (h : x ∈ bltFree) : J.X.mg x = none := c.F.blt x h
theorem biN_free {b : Bi} {x : Str} (h : biN b = some x) : x ∈ bltFree := by
  cases b <;> cases h <;> decide +kernel
theorem tyN_free (t : Ty) : Str.ofString (tyN t) ∈ bltFree := by
  cases t <;> decide +kernel
theorem chkEs_pls : ∀ {es : Es} {as : List Expr}, chkEs R s es as = true → pls as = true
  | .nil, [], _ => rfl
  | .nil, _ :: _, h => (Bool.false_ne_true h).elim
  | .cons e es, [], h => (Bool.false_ne_true h).elim
  | .cons e es, a :: as, h => by
    obtain ⟨h, h3⟩ := ba2 (show (pl a && chkE R s e a && chkEs R s es as) = true from h)
    obtain ⟨h1, h2⟩ := ba2 h
    show (pl a && pls as) = true
    rw [h1, chkEs_pls h3]
    rfl
theorem ownOf_ix (N : List Str) (own : List Nat) : (ownOf N own).map (·.2) = own := by
  unfold ownOf
  rw [List.map_map]
  exact List.map_id own
theorem bmOk_of {eo : Expr} {n : Str} {apos pos : Pos} {e : Expr} {es : List Expr} (h : bmShape eo apos pos (e :: es) = true) (hp : pls (e :: es) = true) : BmOk J eo n apos pos e es := by
  obtain ⟨h, _⟩ := ba2 h
  obtain ⟨h, h3⟩ := ba2 h
  obtain ⟨h1, h2⟩ := ba2 h
  obtain ⟨p1, p2⟩ := ba2 (show (pl e && pls es) = true from hp)
  exact ⟨ab_ok h1, few_ok hp (of_decide_eq_true h3), h2, star_cons p1, star_any p2⟩
theorem lc_shape {kp : Bool} {own : List Nat} {g : Tg} {i : It} {t : Ot} {e0 : E} {e : Expr} (h : chkE R s (.lc kp own g i t e0) e = true) : ∃ elt tg iter ifs scope p, e = .ListComp elt [⟨tg, iter, ifs, 0⟩] scope p ∧
    (blkC s.N s.sc scope (ownOf s.N own) && chkI R s i iter && pl iter && chkG (s.blk scope) g tg && (g.ix.all own.contains) && chkOt R (s.blk scope) t ifs && chkE R (s.blk scope) e0 elt) = true := by
  unfold chkE at h
  split at h <;> rename_i heq <;> first | (cases heq; done) | skip
  · cases heq
    exact ⟨_, _, _, _, _, _, rfl, h⟩
  · cases h
mutual
theorem sndE : ∀ (e : E) {J : Jx} {s : Sc} {a : Expr}, Cxt R C lv J s → chkE R s e a = true → JE J a (evE R.G C e)
  | .cst d, J, s, a, c, h => je_cst h
  | .var i, J, s, a, c, h => by
    cases a with
    | Name x p =>
      obtain ⟨h, h3⟩ := ba2 (show (eqO s.N[i]? x && vis s x && okN x) = true from h)
      obtain ⟨h1, h2⟩ := ba2 h
      exact je_var (c.nm h1) (c.vis h2) (okN_ok h3).1 (okN_ok h3).2
    | _ => exact (Bool.false_ne_true h).elim
  | .glb g, J, s, a, c, h => by
    cases a with
    | Name x p =>
      obtain ⟨h, h3⟩ := ba2 (show (eqO (R.gnm g) x && gl s x && okN x) = true from h)
      obtain ⟨h1, h2⟩ := ba2 h
      intro pins s' σ H m S l K st k
      have k : (match R.G.glb g with
        | some d => RE.ok (W.d d) S
        | none => RE.bad).el K (J.Xc σ l) := k
      cases e : R.G.glb g with
      | none => rw [e] at k; exact k.elim
      | some d =>
        rw [e] at k
        obtain ⟨u, e1, e2⟩ := c.F.glb g x d (eqO_ok h1) e
        exact je_glob (c.gl h2) e1 e2 (okN_ok h3).1 pins s' σ H m S l K st k
    | _ => exact (Bool.false_ne_true h).elim
  | .bin o a b, J, s, e, c, h => by
    cases e with
    | BinOp ea op eb p =>
      obtain ⟨h, h3⟩ := ba2 (show (decide (op = bopOf o) && chkE R s a ea && chkE R s b eb) = true from h)
      obtain ⟨h1, h2⟩ := ba2 h
      cases of_decide_eq_true h1
      exact je_bin c.ok o (sndE a c h2) (sndE b c h3)
    | _ => exact (Bool.false_ne_true h).elim
  | .neg a, J, s, e, c, h => by
    cases e with
    | UnaryOp op ea p =>
      cases op with
      | USub => exact je_neg (sndE a c h)
      | _ => exact (Bool.false_ne_true h).elim
    | _ => exact (Bool.false_ne_true h).elim
  | .cmp o a b, J, s, e, c, h => by
    cases e with
    | Compare ea ops es p =>
      match ops, es, h with
      | [op], [eb], h =>
        obtain ⟨h, h4⟩ := ba2 (show (decide (op = copOf o) && chkE R s a ea && chkE R s b eb && pl eb) = true from h)
        obtain ⟨h, h3⟩ := ba2 h
        obtain ⟨h1, h2⟩ := ba2 h
        cases of_decide_eq_true h1
        exact je_cmp c.ok o (sndE a c h2) (sndE b c h3) (marks_ok h4)
      | [], _, h => exact (Bool.false_ne_true h).elim
      | [_], [], h => exact (Bool.false_ne_true h).elim
      | [_], _ :: _ :: _, h => exact (Bool.false_ne_true h).elim
      | _ :: _ :: _, _, h => exact (Bool.false_ne_true h).elim
    | _ => exact (Bool.false_ne_true h).elim
  | .chn o p a b c', J, s, e, c, h => by
    cases e with
    | Compare ea ops es p' =>
      match ops, es, h with
      | [op, op'], [eb, ec], h =>
        obtain ⟨h, h6⟩ := ba2 (show (decide (op = copOf o) && decide (op' = copOf p) && chkE R s a ea && chkE R s b eb && chkE R s c' ec && pl ec) = true from h)
        obtain ⟨h, h5⟩ := ba2 h
        obtain ⟨h, h4⟩ := ba2 h
        obtain ⟨h, h3⟩ := ba2 h
        obtain ⟨h1, h2⟩ := ba2 h
        cases of_decide_eq_true h1
        cases of_decide_eq_true h2
        exact je_chn c.ok o p (sndE a c h3) (sndE b c h4) (sndE c' c h5) (last_ok h6)
      | [], _, h => exact (Bool.false_ne_true h).elim
      | [_], _, h => exact (Bool.false_ne_true h).elim
      | [_, _], [], h => exact (Bool.false_ne_true h).elim
      | [_, _], [_], h => exact (Bool.false_ne_true h).elim
      | [_, _], _ :: _ :: _ :: _, h => exact (Bool.false_ne_true h).elim
      | _ :: _ :: _ :: _, _, h => exact (Bool.false_ne_true h).elim
    | _ => exact (Bool.false_ne_true h).elim
  | .and es, J, s, e, c, h => by
    cases e with
    | BoolOp op as p =>
      cases op with
      | And =>
        obtain ⟨h1, h2⟩ := ba2 (show (chkEs R s es as && !as.isEmpty) = true from h)
        exact sndAnd es c h1 h2
      | Or => exact (Bool.false_ne_true h).elim
    | _ => exact (Bool.false_ne_true h).elim
  | .or es, J, s, e, c, h => by
    cases e with
    | BoolOp op as p =>
      cases op with
      | Or =>
        obtain ⟨h1, h2⟩ := ba2 (show (chkEs R s es as && !as.isEmpty) = true from h)
        exact sndOr es c h1 h2
      | And => exact (Bool.false_ne_true h).elim
    | _ => exact (Bool.false_ne_true h).elim
  | .not a, J, s, e, c, h => by
    cases e with
    | UnaryOp op ea p =>
      cases op with
      | Not => exact je_not c.ok (sndE a c h)
      | _ => exact (Bool.false_ne_true h).elim
    | _ => exact (Bool.false_ne_true h).elim
  | .ite t a b, J, s, e, c, h => by
    cases e with
    | IfExp et ea eb p =>
      obtain ⟨h, h3⟩ := ba2 (show (chkT R s t et && chkE R s a ea && chkE R s b eb) = true from h)
      obtain ⟨h1, h2⟩ := ba2 h
      exact je_ite (sndT t c h1) (sndE a c h2) (sndE b c h3)
    | _ => exact (Bool.false_ne_true h).elim
  | .call kp f as, J, s, e, c, h => by
    cases e with
    | Call fn es kws p =>
      cases fn with
      | Name x p2 =>
        cases kws with
        | nil =>
          obtain ⟨h, h4⟩ := ba2 (show (eqO (R.fnm f) x && gl s x && okN x && chkEs R s as es) = true from h)
          obtain ⟨h, h3⟩ := ba2 h
          obtain ⟨h1, h2⟩ := ba2 h
          obtain ⟨a, m1, F⟩ := c.F.fn f x (eqO_ok h1)
          cases es with
          | nil =>
            cases as with
            | nil => exact je_call0 c.ok F (c.room.mono (Nat.le_succ _)) (c.gl h2) m1 (okN_ok h3).1
            | cons => exact (Bool.false_ne_true h4).elim
          | cons e0 es =>
            obtain ⟨p1, p2⟩ := ba2 (show (pl e0 && pls es) = true from chkEs_pls h4)
            exact je_call c.ok F (c.room.mono (Nat.le_succ _)) (c.gl h2) m1 (okN_ok h3).1 (sndA as c h4) (star_cons p1) (star_any p2)
        | cons => exact (Bool.false_ne_true h).elim
      | _ => exact (Bool.false_ne_true h).elim
    | _ => exact (Bool.false_ne_true h).elim
  | .lcall i as, J, s, e, c, h => by cases e <;> exact (Bool.false_ne_true h).elim
  | .mk kp k as, J, s, e, c, h => by
    cases e with
    | Call fn es kws p =>
      cases fn with
      | Name x p2 =>
        cases kws with
        | nil =>
          obtain ⟨h, h6⟩ := ba2 (show (eqO (R.cnm k) x && (R.G.ini k).isSome && gl s x && okN x && chkEs R s as es && !es.isEmpty) = true from h)
          obtain ⟨h, h5⟩ := ba2 h
          obtain ⟨h, h4⟩ := ba2 h
          obtain ⟨h, h3⟩ := ba2 h
          obtain ⟨h1, h2⟩ := ba2 h
          obtain ⟨f, ef⟩ := Option.isSome_iff_exists.mp h2
          obtain ⟨e0, es', rfl⟩ := ne_nil h6
          obtain ⟨q1, q2⟩ := ba2 (show (pl e0 && pls es') = true from chkEs_pls h5)
          obtain ⟨a, M, F⟩ := c.F.mkr k x f (eqO_ok h1) ef
          have := je_mk (keep := kp) (p := p2) (pos := p) c.ok M F c.room (c.gl h3) (c.F.cl k x (eqO_ok h1)).1 (okN_ok h4).1 (sndA as c h5) (star_cons q1) (star_any q2)
          intro pins s' σ H m S l K st kk
          refine this pins s' σ H m S l K st ?_
          have kk : ((evA R.G C as l S).bind fun ws S => (match R.G.ini k with
            | some f => mkW C kp k f ws S
            | none => .bad)).el K (J.Xc σ l) := kk
          rw [ef] at kk
          exact kk
        | cons => exact (Bool.false_ne_true h).elim
      | _ => exact (Bool.false_ne_true h).elim
    | _ => exact (Bool.false_ne_true h).elim
  | .mth kp k f o as, J, s, e, c, h => by
    cases e with
    | Call fn es kws p =>
      cases fn with
      | Attribute eo n apos =>
        cases kws with
        | nil =>
          obtain ⟨h, h7⟩ := ba2 (show (eqO (R.mnm k f) n && (R.cnm k).isSome && chkE R s o eo && chkEs R s as es && abOk eo && (apos.endLine == p.line) && decide (es.length < 30)) = true from h)
          obtain ⟨h, h6⟩ := ba2 h
          obtain ⟨h, h5⟩ := ba2 h
          obtain ⟨h, h4⟩ := ba2 h
          obtain ⟨h, h3⟩ := ba2 h
          obtain ⟨h1, h2⟩ := ba2 h
          obtain ⟨x, ex⟩ := Option.isSome_iff_exists.mp h2
          obtain ⟨a, M, F⟩ := c.F.mt k f n (eqO_ok h1)
          have mo : MtOk J k n a := ⟨(c.F.cl k x ex).2, M, by rw [c.F.fsY]; exact c.F.mno k f n (eqO_ok h1)⟩
          obtain ⟨pl0, ht⟩ := call_tree (n := n) (apos := apos) (pos := p) (args := es) (env := J.X.env) h5 (chkEs_pls h4) (of_decide_eq_true h7) h6
          cases es with
          | nil =>
            cases as with
            | nil => exact je_mth0 c.ok mo F (c.room.mono (Nat.le_succ _)) (sndE o c h3) ht
            | cons => exact (Bool.false_ne_true h4).elim
          | cons e0 es' =>
            obtain ⟨p1, p2⟩ := ba2 (show (pl e0 && pls es') = true from chkEs_pls h4)
            exact je_mth c.ok mo F (c.room.mono (Nat.le_succ _)) (sndE o c h3) (sndA as c h4) (star_cons p1) (star_any p2) ht
        | cons => exact (Bool.false_ne_true h).elim
      | _ => exact (Bool.false_ne_true h).elim
    | _ => exact (Bool.false_ne_true h).elim
  | .blt b as, J, s, e, c, h => by
    cases e with
    | Call fn es kws p =>
      cases fn with
      | Name x p2 =>
        cases kws with
        | nil =>
          obtain ⟨h, h4⟩ := ba2 (show (eqO (biN b) x && gl s x && chkEs R s as es && !es.isEmpty) = true from h)
          obtain ⟨h, h3⟩ := ba2 h
          obtain ⟨h1, h2⟩ := ba2 h
          obtain ⟨e0, es', rfl⟩ := ne_nil h4
          obtain ⟨p1, p2⟩ := ba2 (show (pl e0 && pls es') = true from chkEs_pls h3)
          exact je_blt c.ok c.calm (eqO_ok h1) (c.gl h2) (c.blt (biN_free (eqO_ok h1))) (sndA as c h3) (star_cons p1) (star_any p2)
        | cons => exact (Bool.false_ne_true h).elim
      | _ => exact (Bool.false_ne_true h).elim
    | _ => exact (Bool.false_ne_true h).elim
  | .isi a t, J, s, e, c, h => by
    cases e with
    | Call fn es kws p =>
      cases fn with
      | Name x p2 =>
        match es, kws, h with
        | [ea, ey], [], h =>
          cases ey with
          | Name y p3 =>
            obtain ⟨h, h6⟩ := ba2 (show ((x == ("isinstance" : Str)) && gl s x && (y == Str.ofString (tyN t)) && gl s y && chkE R s a ea && pl ea) = true from h)
            obtain ⟨h, h5⟩ := ba2 h
            obtain ⟨h, h4⟩ := ba2 h
            obtain ⟨h, h3⟩ := ba2 h
            obtain ⟨h1, h2⟩ := ba2 h
            cases beq_iff_eq.mp h1
            cases beq_iff_eq.mp h3
            exact je_isi c.ok t (c.gl h2) (c.blt (by decide +kernel)) (c.gl h4) (c.blt (tyN_free t)) (sndE a c h5) (star_cons h6) rfl rfl
          | _ => exact (Bool.false_ne_true h).elim
        | [], _, h => exact (Bool.false_ne_true h).elim
        | [_], _, h => exact (Bool.false_ne_true h).elim
        | _ :: y :: _ :: _, _, h => cases y <;> exact (Bool.false_ne_true h).elim
        | [_, y], _ :: _, h => cases y <;> exact (Bool.false_ne_true h).elim
      | _ => exact (Bool.false_ne_true h).elim
    | _ => exact (Bool.false_ne_true h).elim
  | .ise a k, J, s, e, c, h => by cases e <;> exact (Bool.false_ne_true h).elim
  | .bm m o as, J, s, e, c, h => by
    cases e with
    | Call fn es kws p =>
      cases fn with
      | Attribute eo n apos =>
        cases kws with
        | nil =>
          obtain ⟨h, h5⟩ := ba2 (show ((n == meNm m) && (isS m || decide (m = .append) || decide (m = .count)) && chkE R s o eo && chkEs R s as es && bmShape eo apos p es) = true from h)
          obtain ⟨h, h4⟩ := ba2 h
          obtain ⟨h, h3⟩ := ba2 h
          obtain ⟨h1, h2⟩ := ba2 h
          cases beq_iff_eq.mp h1
          obtain ⟨_, hn⟩ := ba2 h5
          obtain ⟨e0, es', rfl⟩ := ne_nil hn
          have B : BmOk J eo (meNm m) apos p e0 es' := bmOk_of h5 (chkEs_pls h4)
          have ho := sndE o c h3
          have ha := sndA as c h4
          cases m with
          | strip => exact je_bmS (m := .strip) c.ok rfl B ho ha
          | rstrip => exact je_bmS (m := .rstrip) c.ok rfl B ho ha
          | split => exact je_bmS (m := .split) c.ok rfl B ho ha
          | rjust => exact je_bmS (m := .rjust) c.ok rfl B ho ha
          | join => exact je_bmS (m := .join) c.ok rfl B ho ha
          | append => exact je_app B ho ha
          | count => exact je_cnt c.ok B ho ha
          | _ => cases h2
        | cons => exact (Bool.false_ne_true h).elim
      | _ => exact (Bool.false_ne_true h).elim
    | _ => exact (Bool.false_ne_true h).elim
  | .repl o k z, J, s, e, c, h => by
    obtain ⟨eo, n, apos, y, j1, p1, y', j2, p2, p, rfl, h⟩ : ∃ eo n apos y j1 p1 y' j2 p2 p, e = .Call (.Attribute eo n apos) [.Constant (.str y) j1 p1, .Constant (.str y') j2 p2] [] p ∧
        ((n == ("replace" : Str)) && (y.cps.toList == [k]) && decide (k < 128) && (y'.cps.toList == z) && z.all (· < 128) && !(z == [k]) && chkE R s o eo && abOk eo && (apos.endLine == p.line)) = true := by
      unfold chkE at h
      split at h <;> rename_i heq <;> first | (cases heq; done) | skip
      · cases heq
        exact ⟨_, _, _, _, _, _, _, _, _, _, rfl, h⟩
      · cases h
    obtain ⟨h, h9⟩ := ba2 h
    obtain ⟨h, h8⟩ := ba2 h
    obtain ⟨h, h7⟩ := ba2 h
    obtain ⟨h, h6⟩ := ba2 h
    obtain ⟨h, h5⟩ := ba2 h
    obtain ⟨h, h4⟩ := ba2 h
    obtain ⟨h, h3⟩ := ba2 h
    obtain ⟨h1, h2⟩ := ba2 h
    cases beq_iff_eq.mp h1
    rw [str_of h2, str_of h4]
    refine je_repl (of_decide_eq_true h3) (asc_of h5) (sndE o c h7) ?_ rfl (ab_ok h8) h9
    refine beq_eq_false_iff_ne.mpr fun q => ?_
    have q2 : [k] = z := by
      have := congrArg (fun x : Str => x.cps.toList) q
      simpa using this
    rw [← q2] at h6
    simp at h6
  | .fld k n o, J, s, e, c, h => by
    cases e with
    | Attribute eo f p =>
      obtain ⟨h, h4⟩ := ba2 (show (eqO (R.fs k)[n]? f && (R.cnm k).isSome && chkE R s o eo && abOk eo) = true from h)
      obtain ⟨h, h3⟩ := ba2 h
      obtain ⟨h1, h2⟩ := ba2 h
      exact je_fld (Facts.fldOk c h1 h2) (sndE o c h3) (ab_ok h4)
    | _ => exact (Bool.false_ne_true h).elim
  | .ix a b, J, s, e, c, h => by
    cases e with
    | Subscript ea eb p =>
      obtain ⟨h, h3⟩ := ba2 (show (chkE R s a ea && chkE R s b eb && pl eb) = true from h)
      obtain ⟨h1, h2⟩ := ba2 h
      exact je_ix c.ok (sndE a c h1) (sndE b c h2) (subs_ok h3)
    | _ => exact (Bool.false_ne_true h).elim
  | .sl a lo hi, J, s, e, c, h => by
    cases e with
    | Subscript ea eb p =>
      cases eb with
      | Slice el eh stp p2 =>
        cases stp with
        | none =>
          obtain ⟨h, h3⟩ := ba2 (show (chkE R s a ea && chkO R s lo el && chkO R s hi eh) = true from h)
          obtain ⟨h1, h2⟩ := ba2 h
          exact je_sl c.ok (sndE a c h1) (sndO lo c h2) (sndO hi c h3)
        | some => exact (Bool.false_ne_true h).elim
      | _ => exact (Bool.false_ne_true h).elim
    | _ => exact (Bool.false_ne_true h).elim
  | .rev a, J, s, e, c, h => by cases e <;> exact (Bool.false_ne_true h).elim
  | .tup as, J, s, e, c, h => by
    cases e with
    | Tuple es k p => exact je_tup (sndA as c h)
    | _ => exact (Bool.false_ne_true h).elim
  | .lst kp as, J, s, e, c, h => by
    cases e with
    | List es p => exact je_lst (keep := kp) (sndA as c h)
    | _ => exact (Bool.false_ne_true h).elim
  | .dct ks as, J, s, e, c, h => by cases e <;> exact (Bool.false_ne_true h).elim
  | .lc kp own g i t e0, J, s, e, c, h => by
    obtain ⟨elt, tg, iter, ifs, scope, p, rfl, h⟩ := lc_shape h
    obtain ⟨h, h7⟩ := ba2 h
    obtain ⟨h, h6⟩ := ba2 h
    obtain ⟨h, h5⟩ := ba2 h
    obtain ⟨h, h4⟩ := ba2 h
    obtain ⟨h, h3⟩ := ba2 h
    obtain ⟨h1, h2⟩ := ba2 h
    have bo : BlkOk J.X.N J.X.env.scope scope (ownOf s.N own) := by rw [c.N, c.sc]; exact blkOk_by h1
    have := je_lc (keep := kp) (own := ownOf s.N own) (pos := p) (g := evG R.G C g) (ft := evOt R.G C t) (fe := evE R.G C e0) c.calm c.ndx (sndI (tg := tg) i c h2) bo (fun J' b => (sndG g (c.blk b) h4).mono fun j hj => by
      rw [ownOf_ix]
      have := List.all_eq_true.mp h5 j hj
      simpa using this) (evG_nx R.G C g) (fun J' b => sndOt t (c.blk b) h6) (fun J' b => sndE e0 (c.blk b) h7) (set_ok h3)
    rw [ownOf_ix] at this
    exact this
theorem sndAnd : ∀ (es : Es) {J : Jx} {s : Sc} {as : List Expr} {p : Pos}, Cxt R C lv J s → chkEs R s es as = true → (!as.isEmpty) = true → JE J (.BoolOp .And as p) (evAnd R.G C es)
  | .nil, J, s, [], p, c, h, hn => by cases hn
  | .nil, J, s, _ :: _, p, c, h, hn => (Bool.false_ne_true h).elim
  | .cons e es, J, s, [], p, c, h, hn => (Bool.false_ne_true h).elim
  | .cons e .nil, J, s, [a], p, c, h, hn => by
    obtain ⟨h, h3⟩ := ba2 (show (pl a && chkE R s e a && chkEs R s .nil []) = true from h)
    exact je_one (sndE e c (ba2 h).2)
  | .cons e .nil, J, s, a :: _ :: _, p, c, h, hn => by
    obtain ⟨h, h3⟩ := ba2 (show (pl a && chkE R s e a && chkEs R s .nil (_ :: _)) = true from h)
    exact (Bool.false_ne_true h3).elim
  | .cons e (.cons e1 es), J, s, [a], p, c, h, hn => by
    obtain ⟨h, h3⟩ := ba2 (show (pl a && chkE R s e a && chkEs R s (.cons e1 es) []) = true from h)
    exact (Bool.false_ne_true h3).elim
  | .cons e (.cons e1 es), J, s, a :: b :: as, p, c, h, hn => by
    obtain ⟨h, h3⟩ := ba2 (show (pl a && chkE R s e a && chkEs R s (.cons e1 es) (b :: as)) = true from h)
    exact je_and (sndE e c (ba2 h).2) (sndAnd (.cons e1 es) c h3 rfl)
theorem sndOr : ∀ (es : Es) {J : Jx} {s : Sc} {as : List Expr} {p : Pos}, Cxt R C lv J s → chkEs R s es as = true → (!as.isEmpty) = true → JE J (.BoolOp .Or as p) (evOr R.G C es)
  | .nil, J, s, [], p, c, h, hn => by cases hn
  | .nil, J, s, _ :: _, p, c, h, hn => (Bool.false_ne_true h).elim
  | .cons e es, J, s, [], p, c, h, hn => (Bool.false_ne_true h).elim
  | .cons e .nil, J, s, [a], p, c, h, hn => by
    obtain ⟨h, h3⟩ := ba2 (show (pl a && chkE R s e a && chkEs R s .nil []) = true from h)
    exact je_one (sndE e c (ba2 h).2)
  | .cons e .nil, J, s, a :: _ :: _, p, c, h, hn => by
    obtain ⟨h, h3⟩ := ba2 (show (pl a && chkE R s e a && chkEs R s .nil (_ :: _)) = true from h)
    exact (Bool.false_ne_true h3).elim
  | .cons e (.cons e1 es), J, s, [a], p, c, h, hn => by
    obtain ⟨h, h3⟩ := ba2 (show (pl a && chkE R s e a && chkEs R s (.cons e1 es) []) = true from h)
    exact (Bool.false_ne_true h3).elim
  | .cons e (.cons e1 es), J, s, a :: b :: as, p, c, h, hn => by
    obtain ⟨h, h3⟩ := ba2 (show (pl a && chkE R s e a && chkEs R s (.cons e1 es) (b :: as)) = true from h)
    exact je_or (sndE e c (ba2 h).2) (sndOr (.cons e1 es) c h3 rfl)
theorem sndA : ∀ (es : Es) {J : Jx} {s : Sc} {as : List Expr}, Cxt R C lv J s → chkEs R s es as = true → JA J as (evA R.G C es)
  | .nil, J, s, [], c, h => ja_nil
  | .nil, J, s, _ :: _, c, h => (Bool.false_ne_true h).elim
  | .cons e es, J, s, [], c, h => (Bool.false_ne_true h).elim
  | .cons e es, J, s, a :: as, c, h => by
    obtain ⟨h, h3⟩ := ba2 (show (pl a && chkE R s e a && chkEs R s es as) = true from h)
    obtain ⟨h1, h2⟩ := ba2 h
    exact ja_cons (sndE e c h2) (sndA es c h3) (star_cons h1)
theorem sndO : ∀ (o : Oe) {J : Jx} {s : Sc} {a : Option Expr}, Cxt R C lv J s → chkO R s o a = true → JO J a (evO R.G C o)
  | .none, J, s, none, c, h => jo_none
  | .none, J, s, some _, c, h => (Bool.false_ne_true h).elim
  | .some e, J, s, none, c, h => (Bool.false_ne_true h).elim
  | .some e, J, s, some a, c, h => by
    obtain ⟨h1, h2⟩ := ba2 (show (chkE R s e a && pl a) = true from h)
    exact jo_some (sndE e c h1) (part_ok h2)
theorem sndOt : ∀ (o : Ot) {J : Jx} {s : Sc} {a : List Expr}, Cxt R C lv J s → chkOt R s o a = true → JTs J a (evOt R.G C o)
  | .none, J, s, [], c, h => jts_nil
  | .none, J, s, _ :: _, c, h => (Bool.false_ne_true h).elim
  | .some t, J, s, [], c, h => (Bool.false_ne_true h).elim
  | .some t, J, s, [a], c, h => jts_one (sndT t c h)
  | .some t, J, s, _ :: _ :: _, c, h => (Bool.false_ne_true h).elim
theorem sndT : ∀ (t : T) {J : Jx} {s : Sc} {a : Expr}, Cxt R C lv J s → chkT R s t a = true → JT J a (evT R.G C t)
  | .val e, J, s, a, c, h => by
    obtain ⟨h1, h2⟩ := ba2 (show (chkE R s e a && plainT a) = true from h)
    exact jt_val c.ok (sndE e c h1) (plainT_ok h2)
  | .cmp o a b, J, s, e, c, h => by
    cases e with
    | Compare ea ops es p =>
      match ops, es, h with
      | [op], [eb], h =>
        obtain ⟨h, h4⟩ := ba2 (show (decide (op = copOf o) && chkE R s a ea && chkE R s b eb && pl eb) = true from h)
        obtain ⟨h, h3⟩ := ba2 h
        obtain ⟨h1, h2⟩ := ba2 h
        cases of_decide_eq_true h1
        exact jt_cmp c.ok o (sndE a c h2) (sndE b c h3) (marks_ok h4)
      | [], _, h => exact (Bool.false_ne_true h).elim
      | [_], [], h => exact (Bool.false_ne_true h).elim
      | [_], _ :: _ :: _, h => exact (Bool.false_ne_true h).elim
      | _ :: _ :: _, _, h => exact (Bool.false_ne_true h).elim
    | _ => exact (Bool.false_ne_true h).elim
  | .chn o p a b c', J, s, e, c, h => by
    cases e with
    | Compare ea ops es p' =>
      match ops, es, h with
      | [op, op'], [eb, ec], h =>
        obtain ⟨h, h6⟩ := ba2 (show (decide (op = copOf o) && decide (op' = copOf p) && chkE R s a ea && chkE R s b eb && chkE R s c' ec && pl ec) = true from h)
        obtain ⟨h, h5⟩ := ba2 h
        obtain ⟨h, h4⟩ := ba2 h
        obtain ⟨h, h3⟩ := ba2 h
        obtain ⟨h1, h2⟩ := ba2 h
        cases of_decide_eq_true h1
        cases of_decide_eq_true h2
        exact jt_chn c.ok o p (sndE a c h3) (sndE b c h4) (sndE c' c h5) (last_ok h6)
      | [], _, h => exact (Bool.false_ne_true h).elim
      | [_], _, h => exact (Bool.false_ne_true h).elim
      | [_, _], [], h => exact (Bool.false_ne_true h).elim
      | [_, _], [_], h => exact (Bool.false_ne_true h).elim
      | [_, _], _ :: _ :: _ :: _, h => exact (Bool.false_ne_true h).elim
      | _ :: _ :: _ :: _, _, h => exact (Bool.false_ne_true h).elim
    | _ => exact (Bool.false_ne_true h).elim
  | .and ts, J, s, e, c, h => by
    cases e with
    | BoolOp op as p =>
      cases op with
      | And =>
        obtain ⟨h1, h2⟩ := ba2 (show (chkTs R s ts as && !as.isEmpty) = true from h)
        exact (sndTand ts c h1 h2).pt
      | Or => exact (Bool.false_ne_true h).elim
    | _ => exact (Bool.false_ne_true h).elim
  | .or ts, J, s, e, c, h => by
    cases e with
    | BoolOp op as p =>
      cases op with
      | Or =>
        obtain ⟨h1, h2⟩ := ba2 (show (chkTs R s ts as && !as.isEmpty) = true from h)
        exact (sndTor ts c h1 h2).pt
      | And => exact (Bool.false_ne_true h).elim
    | _ => exact (Bool.false_ne_true h).elim
  | .not a, J, s, e, c, h => by
    cases e with
    | UnaryOp op ea p =>
      cases op with
      | Not => exact jt_not (sndT a c h)
      | _ => exact (Bool.false_ne_true h).elim
    | _ => exact (Bool.false_ne_true h).elim
theorem sndTand : ∀ (ts : Ts) {J : Jx} {s : Sc} {as : List Expr} {p : Pos}, Cxt R C lv J s → chkTs R s ts as = true → (!as.isEmpty) = true → JTw J (.BoolOp .And as p) (evTand R.G C ts)
  | .nil, J, s, [], p, c, h, hn => by cases hn
  | .nil, J, s, _ :: _, p, c, h, hn => (Bool.false_ne_true h).elim
  | .cons t ts, J, s, [], p, c, h, hn => (Bool.false_ne_true h).elim
  | .cons t .nil, J, s, [a], p, c, h, hn => jt_and1 (sndT t c (ba2 (show (chkT R s t a && chkTs R s .nil []) = true from h)).1)
  | .cons t .nil, J, s, a :: _ :: _, p, c, h, hn => (Bool.false_ne_true (ba2 (show (chkT R s t a && chkTs R s .nil (_ :: _)) = true from h)).2).elim
  | .cons t (.cons t1 ts), J, s, [a], p, c, h, hn => (Bool.false_ne_true (ba2 (show (chkT R s t a && chkTs R s (.cons t1 ts) []) = true from h)).2).elim
  | .cons t (.cons t1 ts), J, s, a :: b :: as, p, c, h, hn => by
    obtain ⟨h1, h2⟩ := ba2 (show (chkT R s t a && chkTs R s (.cons t1 ts) (b :: as)) = true from h)
    exact jt_and (sndT t c h1) (sndTand (.cons t1 ts) c h2 rfl)
theorem sndTor : ∀ (ts : Ts) {J : Jx} {s : Sc} {as : List Expr} {p : Pos}, Cxt R C lv J s → chkTs R s ts as = true → (!as.isEmpty) = true → JTw J (.BoolOp .Or as p) (evTor R.G C ts)
  | .nil, J, s, [], p, c, h, hn => by cases hn
  | .nil, J, s, _ :: _, p, c, h, hn => (Bool.false_ne_true h).elim
  | .cons t ts, J, s, [], p, c, h, hn => (Bool.false_ne_true h).elim
  | .cons t .nil, J, s, [a], p, c, h, hn => jt_or1 (sndT t c (ba2 (show (chkT R s t a && chkTs R s .nil []) = true from h)).1)
  | .cons t .nil, J, s, a :: _ :: _, p, c, h, hn => (Bool.false_ne_true (ba2 (show (chkT R s t a && chkTs R s .nil (_ :: _)) = true from h)).2).elim
  | .cons t (.cons t1 ts), J, s, [a], p, c, h, hn => (Bool.false_ne_true (ba2 (show (chkT R s t a && chkTs R s (.cons t1 ts) []) = true from h)).2).elim
  | .cons t (.cons t1 ts), J, s, a :: b :: as, p, c, h, hn => by
    obtain ⟨h1, h2⟩ := ba2 (show (chkT R s t a && chkTs R s (.cons t1 ts) (b :: as)) = true from h)
    exact jt_or (sndT t c h1) (sndTor (.cons t1 ts) c h2 rfl)
theorem sndI : ∀ (i : It) {J : Jx} {s : Sc} {tg a : Expr}, Cxt R C lv J s → chkI R s i a = true → JI J tg a (evI R.G C i)
  | .seq e, J, s, tg, a, c, h => ji_seq c.ok (sndE e c h)
  | .rng1 a, J, s, tg, e, c, h => by
    cases e with
    | Call fn es kws p =>
      cases fn with
      | Name x p2 =>
        match es, kws, h with
        | [ea], [], h =>
          obtain ⟨h, h4⟩ := ba2 (show ((x == ("range" : Str)) && gl s x && chkE R s a ea && pl ea) = true from h)
          obtain ⟨h, h3⟩ := ba2 h
          obtain ⟨h1, h2⟩ := ba2 h
          cases beq_iff_eq.mp h1
          exact ji_rng1 (c.gl h2) (c.blt (by decide +kernel)) (sndE a c h3) (star_cons h4)
        | [], _, h => exact (Bool.false_ne_true h).elim
        | _ :: _ :: _, _, h => exact (Bool.false_ne_true h).elim
        | [_], _ :: _, h => exact (Bool.false_ne_true h).elim
      | _ => exact (Bool.false_ne_true h).elim
    | _ => exact (Bool.false_ne_true h).elim
  | .rng2 a b, J, s, tg, e, c, h => by
    cases e with
    | Call fn es kws p =>
      cases fn with
      | Name x p2 =>
        match es, kws, h with
        | [ea, eb], [], h =>
          obtain ⟨h, h6⟩ := ba2 (show ((x == ("range" : Str)) && gl s x && chkE R s a ea && pl ea && chkE R s b eb && pl eb) = true from h)
          obtain ⟨h, h5⟩ := ba2 h
          obtain ⟨h, h4⟩ := ba2 h
          obtain ⟨h, h3⟩ := ba2 h
          obtain ⟨h1, h2⟩ := ba2 h
          cases beq_iff_eq.mp h1
          have e2 : starEach [eb] J.X.env = [(false, eval eb J.X.env)] := star_cons h6
          exact ji_rng2 (c.gl h2) (c.blt (by decide +kernel)) (sndE a c h3) (sndE b c h5) (by rw [star_cons h4, e2]) e2
        | [], _, h => exact (Bool.false_ne_true h).elim
        | [_], _, h => exact (Bool.false_ne_true h).elim
        | _ :: _ :: _ :: _, _, h => exact (Bool.false_ne_true h).elim
        | [_, _], _ :: _, h => exact (Bool.false_ne_true h).elim
      | _ => exact (Bool.false_ne_true h).elim
    | _ => exact (Bool.false_ne_true h).elim
  | .rng3 _ _ _, J, s, tg, e, c, h => by cases e <;> exact (Bool.false_ne_true h).elim
  | .enum _, J, s, tg, e, c, h => by cases e <;> exact (Bool.false_ne_true h).elim
  | .zip _ _, J, s, tg, e, c, h => by cases e <;> exact (Bool.false_ne_true h).elim
  | .enzip _ _, J, s, tg, e, c, h => by cases e <;> exact (Bool.false_ne_true h).elim
end
end
end Kr
/-! KrS3: statements. -/
namespace Kr
open PySem PySem.Spec PyProof.Rows L2
structure CxtS (R : Row) (C : Cl) (lv : Nat) (J : Jx) (s : Sc) : Prop extends Cxt R C lv J s where
  hp : PassesOwn (model J.X.prog J.X.w) J.X.A J.X.env J.X.xe
  kd : s.sc.kind = .function
  hs : J.X.stack = J.X.env :: J.X.outer
  hf : J.X.env.frame = some J.X.env.locals
theorem ss_no {ts : List Expr} {k : Nat} {p : Pos} {a : Expr} {env : Env} (h : notTup a = true) : swappedStores [.Tuple ts k p] a env = pure none := by
  cases a <;> first | rfl | cases h
theorem blockKind_fn {env : Env} (h : env.scope.kind = .function) : env.blockKind = .function := by
  unfold Env.blockKind
  rw [h]
  rfl
theorem ss_ok {sc : Scope} {ts vs : List Expr} {k k2 : Nat} {p p2 : Pos} {env : Env} {r : Option (List Str)} (hsc : env.scope = sc) (hk : sc.kind = .function) (h : ssB sc ts vs = some r) :
    swappedStores [.Tuple ts k p] (.Tuple vs k2 p2) env = pure r := by
  have hb : env.blockKind = .function := blockKind_fn (by rw [hsc]; exact hk)
  unfold ssB at h
  unfold swappedStores Env.kindOf
  rw [hsc, hb]
  dsimp only
  have e0 : (ScopeKind.function != ScopeKind.function) = false := by decide
  rw [e0, Bool.or_false]
  split at h
  · rename_i c
    cases h
    exact (if_pos c).trans rfl
  · rename_i c
    refine (if_neg c).trans ?_
    split at h
    · rename_i c2
      cases h
      exact if_pos c2
    · rename_i c2
      refine (if_neg c2).trans ?_
      dsimp only at h
      split at h
      · rename_i c3
        cases h
        exact if_pos c3
      · rename_i c3
        refine (if_neg c3).trans ?_
        split at h
        · rename_i c4
          cases h
          exact if_pos c4
        · rename_i c4
          refine (if_neg c4).trans ?_
          split at h
          · cases h
          · rename_i c5
            cases h
            exact if_neg c5
section
variable {R : Row} {C : Cl} {lv : Nat} {J : Jx} {s : Sc}
theorem nam_el {i : Nat} {w : W} {l : Sl} {S : Sto} {f : Sl → Sto → RS} {K : Ks} {X : Nat → Sl → Sto → Prop} (h : ((if i < l.length then RS.nx (l.set i (some w)) S else .bad).sq f).el K X) : (f (l.set i (some w)) S).el K X := by
  by_cases c : i < l.length
  · rw [if_pos c] at h
    exact h
  · rw [if_neg c] at h
    exact False.elim h
theorem par2_shape {G : Tab} {C : Cl} {i j : Nat} (w : W) (l : Sl) (S : Sto) (K : Ks) (X : Nat → Sl → Sto → Prop) (h : (evG G C (.tup (.cons (.nam i) (.cons (.nam j) .nil))) w l S).el K X) :
    ∃ a b, w = .d (.tup [a, b]) ∧ K.nx ((l.set i (some (.d a))).set j (some (.d b))) S := by
  cases w with
  | d x =>
    cases x with
    | tup xs =>
      match xs, h with
      | [], h => exact False.elim h
      | [a], h => exact False.elim (nam_el (f := fun _ _ => .bad) h)
      | [a, b], h => exact ⟨a, b, rfl, nam_el (f := fun l S => .nx l S) (nam_el (f := fun l S => (if j < l.length then RS.nx (l.set j (some (.d b))) S else .bad).sq fun l S => .nx l S) h)⟩
      | a :: b :: c :: r, h => exact False.elim (nam_el (f := fun l S => .bad) (nam_el (f := fun l S => (if j < l.length then RS.nx (l.set j (some (.d b))) S else .bad).sq fun l S => .bad) h))
    | _ => exact False.elim h
  | _ => exact False.elim h
theorem par3_shape {G : Tab} {C : Cl} {i j n : Nat} (w : W) (l : Sl) (S : Sto) (K : Ks) (X : Nat → Sl → Sto → Prop) (h : (evG G C (.tup (.cons (.nam i) (.cons (.nam j) (.cons (.nam n) .nil)))) w l S).el K X) :
    ∃ a b c, w = .d (.tup [a, b, c]) ∧ K.nx (((l.set i (some (.d a))).set j (some (.d b))).set n (some (.d c))) S := by
  cases w with
  | d x =>
    cases x with
    | tup xs =>
      match xs, h with
      | [], h => exact False.elim h
      | [a], h => exact False.elim (nam_el (f := fun _ _ => .bad) h)
      | [a, b], h => exact False.elim (nam_el (f := fun l S => .bad) (nam_el (f := fun l S => (if j < l.length then RS.nx (l.set j (some (.d b))) S else .bad).sq fun l S => .bad) h))
      | [a, b, c], h =>
        have h1 := nam_el (f := fun l S => (if j < l.length then RS.nx (l.set j (some (.d b))) S else .bad).sq fun l S => (if n < l.length then RS.nx (l.set n (some (.d c))) S else .bad).sq fun l S => .nx l S) h
        have h2 := nam_el (f := fun l S => (if n < l.length then RS.nx (l.set n (some (.d c))) S else .bad).sq fun l S => .nx l S) h1
        exact ⟨a, b, c, rfl, nam_el (f := fun l S => .nx l S) h2⟩
      | a :: b :: c :: d :: r, h =>
        have h1 := nam_el (f := fun l S => (if j < l.length then RS.nx (l.set j (some (.d b))) S else .bad).sq fun l S => (if n < l.length then RS.nx (l.set n (some (.d c))) S else .bad).sq fun l S => .bad) h
        have h2 := nam_el (f := fun l S => (if n < l.length then RS.nx (l.set n (some (.d c))) S else .bad).sq fun l S => .bad) h1
        exact False.elim (nam_el (f := fun l S => .bad) h2)
    | _ => exact False.elim h
  | _ => exact False.elim h
/-- a, b = .. -/
theorem snd_tup (c : CxtS R C lv J s) {gs : Tgs} {e : E} {ts : List Expr} {k : Nat} {p pos : Pos} {a : Expr} (h1 : chkE R s e a = true) (h2 : notComp a = true)
    (h3 : tupChk s gs ts a = true) : JS J (.Assign [.Tuple ts k p] a pos) (evS R.G C (.asg (.tup gs) e)) := by
  have he := sndE e c.toCxt h1
  have hsw : swapsWithSole [.Tuple ts k p] a pos.line J.X.env = pure false := swaps_no (t := some (.Tuple ts k p)) (n := pos.line) (env := J.X.env) h2
  have gen : chkGs s gs ts = true → swappedStores [.Tuple ts k p] a J.X.env = pure none → JS J (.Assign [.Tuple ts k p] a pos) (evS R.G C (.asg (.tup gs) e)) := fun hg hw =>
    js_asg (g := evG R.G C (.tup gs)) he (sndG (.tup gs) c.toCxt (show chkG s (.tup gs) (.Tuple ts k p) = true from hg)) (evG_nx R.G C (.tup gs)) hsw hw rfl
  unfold tupChk at h3
  by_cases hn : notTup a = true
  · rw [if_pos hn] at h3
    exact gen h3 (ss_no hn)
  · rw [if_neg hn] at h3
    cases a with
    | Tuple vs k2 p2 =>
      dsimp only at h3
      cases es : ssB s.sc ts vs with
      | none => rw [es] at h3; cases h3
      | some r =>
        rw [es] at h3
        have hw := ss_ok (k := k) (p := p) (k2 := k2) (p2 := p2) c.sc c.kd es
        cases r with
        | none => exact gen h3 hw
        | some names =>
          dsimp only at h3
          unfold parOk at h3
          split at h3
          · obtain ⟨h, a7⟩ := ba2 h3
            obtain ⟨h, a6⟩ := ba2 h
            obtain ⟨h, a5⟩ := ba2 h
            obtain ⟨h, a4⟩ := ba2 h
            obtain ⟨h, a3⟩ := ba2 h
            obtain ⟨x1, x2⟩ := ba2 h
            cases beq_iff_eq.mp x1
            cases beq_iff_eq.mp x2
            exact js_par2 (g := evG R.G C (.tup _)) c.ok c.calm c.ndx (c.nm a3) (c.nm a4) (by simpa using a5) (c.isLoc a6) (c.isLoc a7) he hw hsw par2_shape
          · obtain ⟨h, hc⟩ := ba2 h3
            obtain ⟨h, hb⟩ := ba2 h
            obtain ⟨h, ha⟩ := ba2 h
            obtain ⟨h, a9⟩ := ba2 h
            obtain ⟨h, a8⟩ := ba2 h
            obtain ⟨h, a7⟩ := ba2 h
            obtain ⟨h, a6⟩ := ba2 h
            obtain ⟨h, a5⟩ := ba2 h
            obtain ⟨h, a4⟩ := ba2 h
            obtain ⟨h, x3⟩ := ba2 h
            obtain ⟨x1, x2⟩ := ba2 h
            cases beq_iff_eq.mp x1
            cases beq_iff_eq.mp x2
            cases beq_iff_eq.mp x3
            exact js_par3 (g := evG R.G C (.tup _)) c.ok c.calm c.ndx (c.nm a4) (c.nm a5) (c.nm a6) (by simpa using a7) (by simpa using a8) (by simpa using a9) (c.isLoc ha) (c.isLoc hb) (c.isLoc hc) he hw hsw par3_shape
          · cases h3
    | _ => cases h3
/-- name = .. -/
theorem snd_nam (c : CxtS R C lv J s) {i : Nat} {e : E} {x : Str} {px pos : Pos} {a : Expr} (h1 : eqO s.N[i]? x = true) (h2 : loc s x = true) (h3 : chkE R s e a = true) (h4 : (notComp a || isLC a) = true) : JS J (.Assign [.Name x px] a pos) (evS R.G C (.asg (.nam i) e)) := by
  have he := sndE e c.toCxt h3
  obtain ⟨l1, l2⟩ := c.loc h2
  by_cases hn : notComp a = true
  · exact js_set c.ndx (c.nm h1) l1 l2 he (swaps_no hn)
  · cases a with
    | ListComp elt gs scope p =>
      cases hb : (J.X.env.blockKind == .function && J.X.env.kindOf x == some .local && px.line == p.line && !(scope.names.any fun (n, k) => n == x && (k == .local || k == .cell))) with
      | false =>
        exact js_set c.ndx (c.nm h1) l1 l2 he (by
          show pure (J.X.env.blockKind == .function && J.X.env.kindOf x == some .local && px.line == p.line && !(scope.names.any fun (n, k) => n == x && (k == .local || k == .cell))) = _
          rw [hb])
      | true =>
        have hsw : swapsWith (.ListComp elt gs scope p) (some (.Name x px)) pos.line J.X.env = pure true := by
          show pure (J.X.env.blockKind == .function && J.X.env.kindOf x == some .local && px.line == p.line && !(scope.names.any fun (n, k) => n == x && (k == .local || k == .cell))) = _
          rw [hb]
        have hy : J.X.env.scope.names.lookup x = some .local := by
          obtain ⟨hb, _⟩ := ba2 hb
          obtain ⟨hb, _⟩ := ba2 hb
          obtain ⟨_, hb⟩ := ba2 hb
          exact beq_iff_eq.mp hb
        cases e with
        | lc kp own g i0 t e0 =>
          obtain ⟨elt', tg, iter, ifs, scope', p', e1, h⟩ := lc_shape h3
          cases e1
          obtain ⟨h, h7⟩ := ba2 h
          obtain ⟨h, h6⟩ := ba2 h
          obtain ⟨h, h5⟩ := ba2 h
          obtain ⟨h, h4⟩ := ba2 h
          obtain ⟨h, h3⟩ := ba2 h
          obtain ⟨h1', h2⟩ := ba2 h
          have bo : BlkOk J.X.N J.X.env.scope scope (ownOf s.N own) := by rw [c.N, c.sc]; exact blkOk_by h1'
          have := js_setlc (keep := kp) (own := ownOf s.N own) (pos := p) (spos := pos) (py := px) (g := evG R.G C g) (ft := evOt R.G C t) (fe := evE R.G C e0) c.calm c.ndx (c.nm h1) hy hsw (sndI (tg := tg) i0 c.toCxt h2) bo (fun J' b => (sndG g (c.toCxt.blk b) h4).mono fun j hj => by
            rw [ownOf_ix]
            have := List.all_eq_true.mp h5 j hj
            simpa using this) (evG_nx R.G C g) (fun J' b => sndOt t (c.toCxt.blk b) h6) (fun J' b => sndE e0 (c.toCxt.blk b) h7) (set_ok h3)
          rw [ownOf_ix] at this
          exact this
        | cst d => cases d <;> exact (Bool.false_ne_true h3).elim
        | _ => exact (Bool.false_ne_true h3).elim
    | _ => first | exact absurd rfl hn | exact (Bool.false_ne_true h4).elim
theorem exOk_of (c : Cxt R C lv J s) {k : Nat} {x : Str} (h : R.xnm k = some x) : ExOk J k x := by
  obtain ⟨_, h2, h3, h4, h5⟩ := c.F.exc k x h
  exact ⟨h2, h3, raises_own h4 h5⟩
end
end Kr
/-! KrS4: try. -/
namespace Kr
open PySem PySem.Spec PyProof.Rows L2
/-- a statement's end, but for the token -/
def Sta0 (J : Jx) (pins : List (Addr × Obj)) (σ : L2.St) (m : List Addr) (S : Sto) (l : Sl) (H : Hp) (s : Shared) : Prop := L2.Inv J.X pins σ H s ∧ Fra J.m0 J.H0 m H ∧ Rel J.Y J.av m S l σ H
def PostS0 (J : Jx) (pins : List (Addr × Obj)) (m : List Addr) (H : Hp) (K : Ks) (f : Flow) (s' : Shared) : Prop := match f with
  | .next => ∃ l' S' m' H' σ', K.nx l' S' ∧ Sta0 J pins σ' m' S' l' H' s' ∧ Fra m H m' H'
  | .brk => ∃ l' S' m' H' σ', K.bk l' S' ∧ Sta0 J pins σ' m' S' l' H' s' ∧ Fra m H m' H'
  | .cont => ∃ l' S' m' H' σ', K.ct l' S' ∧ Sta0 J pins σ' m' S' l' H' s' ∧ Fra m H m' H'
  | .ret u => ∃ w S' m' H' l' σ' v, K.rt w S' ∧ Sta0 J pins σ' m' S' l' H' s' ∧ Fra m H m' H' ∧ RW J.Y J.av m' H' w v ∧ RelV v u
theorem PostS0.tok {J : Jx} {pins : List (Addr × Obj)} {m : List Addr} {H : Hp} {K : Ks} {f : Flow} {s' : Shared} (t : 1 ≤ s'.toks) (h : PostS0 J pins m H K f s') : PostS J pins m H K f s' := by
  cases f with
  | next => obtain ⟨l', S', m', H', σ', k, ⟨a, b, c⟩, fr⟩ := h; exact ⟨l', S', m', H', σ', k, ⟨t, a, b, c⟩, fr⟩
  | brk => obtain ⟨l', S', m', H', σ', k, ⟨a, b, c⟩, fr⟩ := h; exact ⟨l', S', m', H', σ', k, ⟨t, a, b, c⟩, fr⟩
  | cont => obtain ⟨l', S', m', H', σ', k, ⟨a, b, c⟩, fr⟩ := h; exact ⟨l', S', m', H', σ', k, ⟨t, a, b, c⟩, fr⟩
  | ret u => obtain ⟨w, S', m', H', l', σ', v, k, ⟨a, b, c⟩, fr, r⟩ := h; exact ⟨w, S', m', H', l', σ', v, k, ⟨t, a, b, c⟩, fr, r⟩
/-- what the clauses wish of an exception of the body -/
def Wc (R : Row) (J : Jx) (m : List Addr) (H : Hp) (K : Ks) (hs : List (Nat × Nat × D)) : WX := fun cls d σ' H' =>
  ∃ c l' S' m', cls = .ref (J.Y.xA c) ∧ d = none ∧ Fra m H m' H' ∧ Rel J.Y J.av m' S' l' σ' H' ∧ (handle R.G hs c l' S').el K J.Xs
theorem pe_cst {Y : Cfg} {d : D} {e : Expr} (h : constIs d e = true) : ∃ v, (∀ X : Cx, PE X e (tC v)) ∧ ∀ z H, RD Y z H d v := by
  unfold constIs at h
  split at h
  · exact ⟨.non, fun X => pe_non, fun _ _ => .non⟩
  · rename_i b c _ _
    have : b = c := by simpa using h
    subst this
    exact ⟨.bl b, fun X => pe_bl, fun _ _ => .bl b⟩
  · rename_i b c _ _
    have : b = c := by simpa using h
    subst this
    exact ⟨.int b, fun X => pe_int, fun _ _ => .int b⟩
  · obtain ⟨h1, h2⟩ := ba2 h
    rw [str_of h1]
    exact ⟨.str _, fun X => pe_str, fun _ _ => .str _ (asc_of h2)⟩
  · cases h
theorem cst_notComp {d : D} {e : Expr} (h : constIs d e = true) : notComp e = true := by
  cases e with
  | Constant v j p => rfl
  | _ => cases d <;> exact (Bool.false_ne_true h).elim
section
variable {R : Row} {C : Cl} {lv : Nat} {J : Jx} {s : Sc}
/-- the context of a try's body -/
structure TryOf (J J' : Jx) : Prop where
  x : ∃ pn xe, J'.X = J.X.tr pn xe
  y : J'.Y = J.Y
  tk : Takes J'.X J'.Wx
  hp : PassesOwn (model J'.X.prog J'.X.w) J'.X.A J'.X.env J'.X.xe
theorem CxtS.try_ (c : CxtS R C lv J s) {J' : Jx} (t : TryOf J J') : CxtS R C lv J' s := by
  obtain ⟨pn, xe, e⟩ := t.x
  have ey := t.y
  have tk := t.tk
  have hp := t.hp
  obtain ⟨X', Y', av, m0, H0, Wx⟩ := J'
  simp only at e ey
  subst e ey
  exact { ok := ⟨c.ok.hK, tk, c.ok.un⟩, calm := c.calm, room := c.room, N := c.N, nd := c.nd, sc := c.sc, fn := c.fn, F := c.F, hp := hp, kd := c.kd, hs := c.hs, hf := c.hf }
theorem js_try {body : List Stmt} {hds : List ExceptHandler} {hs : List (Nat × Nat × D)} {fb : Sl → Sto → RS} {pos : Pos} (c : CxtS R C lv J s) (hb : ∀ J', TryOf J J' → JSs J' body fb) (hh : chkH R s hs hds = true) (hne : (!hds.isEmpty) = true) :
    JS J (.Try body hds [] [] pos) (fun l S => match fb l S with
    | .ex c l S => handle R.G hs c l S
    | r => r) := by
  intro pins s0 σ H m S l K st k
  have iok := st.inv.ok
  have hfr : J.X.A.frames = some (J.X.env :: J.X.outer) := by rw [iok.frames, c.hs]
  refine wpAny_mono (PySem.wpAny_toks_of st.tok ?_) (fun f s1 z => PostS0.tok z.1 z.2) fun _ _ z => z.2
  obtain ⟨h0, hds', rfl⟩ : ∃ h0 hds', hds = h0 :: hds' := by
    cases hds with
    | nil => cases hne
    | cons a b => exact ⟨a, b, rfl⟩
  refine wpAny_Try_except ?_
  let xe' : Value → Shared → Prop := fun e s₁ => wpAny (model J.X.prog J.X.w) J.X.A (noteFrame e J.X.env) (fun _ s₂ => wpAny (model J.X.prog J.X.w) J.X.A (setFlight e none) (fun _ s₃ =>
    wpAny (model J.X.prog J.X.w) J.X.A (handleBy e J.X.env (h0 :: hds')) (PostS0 J pins m H K) J.X.xe s₃) J.X.xe s₂) J.X.xe s₁
  let B : Jx := { X := J.X.tr (J.X.pn ++ pins) xe', Y := J.Y, av := J.av, m0 := m, H0 := H, Wx := Wc R J m H K hs }
  have takes : Takes B.X B.Wx := by
    intro u s' xx
    obtain ⟨a, Bh, sI, pins', σ', H', cls, d, rfl, J', nb, up, sky, na, os, ag, k0, l', S', m', rfl, rfl, fr', rel', kh⟩ := xx
    have I0 : L2.Inv J.X pins σ' H' sI := J'.ofTry iok
    have sky' : Sky Bh (J.X.env :: J.X.outer) a (Zc (.ref (J.Y.xA k0)) none) J.X.env.locals s'.heap := by rw [← c.hs]; exact sky
    show wpAny (model J.X.prog J.X.w) J.X.A (noteFrame (.ref a) J.X.env) _ _ _
    refine Sky.land Zc.steady hfr c.hf sky' fun h3 fl3 up3 => ?_
    have I3 : L2.Inv J.X pins σ' H' { s' with heap := h3 } := I0.landed nb fl3.1 (up.trans up3) os ag
    obtain ⟨oe3, vs3, he3, hz3, hd3⟩ := fl3.there
    have nfr : a ∉ frs (J.X.env :: J.X.outer) := fun hm => by
      obtain ⟨_, o', e', hnf⟩ := fl3.2.2.1.mem hm
      rw [he3] at e'
      cases e'
      exact hnf _ hd3
    have nL : a ≠ J.X.env.locals := fun z => nfr (List.mem_filterMap.mpr ⟨J.X.env, List.mem_cons_self, by rw [c.hf, z]⟩)
    have nF : a ∉ J.X.fs := fun hm => by
      obtain ⟨e, he, q⟩ := List.mem_filterMap.mp hm
      exact nfr (List.mem_filterMap.mpr ⟨e, List.mem_cons_of_mem _ he, q⟩)
    have S3 := I3.suite he3 hd3 na nL nF
    have LT : PySem.W.Looks (model J.X.prog J.X.w) h3 (typeOf (.ref a)) (.ref (J.Y.xA k0)) := fun A Q E s k q => wpAny_typeOf_ref (k _ _ he3) (by rw [hz3.1]; exact q)
    -- the clauses, one after the other
    have go : ∀ (hs' : List (Nat × Nat × D)) (hds2 : List ExceptHandler), chkH R s hs' hds2 = true → (handle R.G hs' k0 l' S').el K J.Xs → wpAny (model J.X.prog J.X.w) J.X.A (handleBy (.ref a) J.X.env hds2) (PostS0 J pins m H K) J.X.xe { s' with heap := h3 } := by
      intro hs'
      induction hs' with
      | nil =>
        intro hds2 hc hk
        cases hds2 with
        | cons => exact (Bool.false_ne_true hc).elim
        | nil =>
          have hk : J.Xs k0 l' S' := hk
          refine wpAny_handleBy_nil ?_
          obtain ⟨k1, k2, k3, oe, vs, T, oT, ts', he, hz, hd, h1, hr⟩ := id fl3
          unfold PySem.passOn
          refine wpAny_bind (wpAny_field he hd h1 ?_)
          rw [if_neg (show ¬ ((Value.ref T == Value.none) = true) from by simp)]
          have fin0 : wpAny (model J.X.prog J.X.w) J.X.A (setFlight (.ref a) J.X.env.frame) (fun _ s4 => wpAny (model J.X.prog J.X.w) J.X.A (throw (.ref a) : Sem Flow) (PostS0 J pins m H K) J.X.xe s4) J.X.xe { s' with heap := h3 } := by
            rw [c.hf]
            refine HandSPX.setFlight_upZ fl3 fun h4 hh4 up4 => wpAny_throw (c.ok.tk _ _ ?_)
            exact ⟨a, Bh, sI, pins, σ', H', _, _, rfl, I0, nb, (up.trans up3).trans up4, .inr (.inr (by rw [c.hs]; exact hh4)), na, os, ag, hk m' H' σ' (st.fra.trans fr') rel'⟩
          first
            | exact wpAny_bind (wpAny_pure (wpAny_bind fin0))
            | exact wpAny_bind fin0
      | cons hd0 hs2 ih =>
        intro hds2 hc hk
        obtain ⟨kk, i, d⟩ := hd0
        obtain ⟨x, np, y, py, ce, p3, p4, hds3, rfl, hc⟩ : ∃ x np y py ce p3 p4 hds3, hds2 = .ExceptHandler (some (.Name x np)) none [.Assign [.Name y py] ce p3] p4 :: hds3 ∧
            (eqO (R.xnm kk) x && gl s x && okN x && eqO s.N[i]? y && isLoc s y && constIs d ce && chkH R s hs2 hds3) = true := by
          unfold chkH at hc
          split at hc <;> first | (rename_i heq; cases heq; done) | skip
          · rename_i heq
            cases heq
            exact ⟨_, _, _, _, _, _, _, _, rfl, hc⟩
          · cases hc
        obtain ⟨hc, c7⟩ := ba2 hc
        obtain ⟨hc, c6⟩ := ba2 hc
        obtain ⟨hc, c5⟩ := ba2 hc
        obtain ⟨hc, c4⟩ := ba2 hc
        obtain ⟨hc, c3⟩ := ba2 hc
        obtain ⟨c1, c2⟩ := ba2 hc
        obtain ⟨xm, _⟩ := c.F.exc kk x (eqO_ok c1)
        have hk : (match R.G.sub k0 kk with
          | some true => if i < l'.length then RS.nx (l'.set i (some (.d d))) S' else .bad
          | some false => handle R.G hs2 k0 l' S'
          | none => .bad).el K J.Xs := hk
        cases es : R.G.sub k0 kk with
        | none => rw [es] at hk; exact False.elim hk
        | some b =>
          rw [es] at hk
          refine wpAny_handleBy_cons (codeAny_handlers_test ?_) (by intro q; cases q)
          have LM := PySem.W.exm_one (M := model J.X.prog J.X.w) I3.kIn LT (c.F.sub k0 kk b es)
          refine ld_glob (X := J.X.suite a ((a, oe3) :: (J.X.pn ++ pins))) S3 (c.toCxt.gl c2) xm (LM.here ?_) (okN_ok c3).1
          cases b with
          | true =>
            refine codeAny_handlers_suite ?_
            refine HandSPX.lands_againZ fl3 fun h4 fl4 up4 => ?_
            have I4 : L2.Inv J.X pins σ' H' { s' with heap := h4 } := I0.landed nb fl4.1 ((up.trans up3).trans up4) os ag
            obtain ⟨oe4, vs4, he4, hz4, hd4⟩ := fl4.there
            have S4 := I4.suite he4 hd4 na nL nF
            obtain ⟨v, pev, rdv⟩ := pe_cst (Y := J.Y) c6
            have ly : J.X.env.scope.names.lookup y = some .local := c.toCxt.isLoc c5
            have ps := pss_one (ps_set (X := J.X.suite a ((a, oe4) :: (J.X.pn ++ pins))) (pos := p3) (pos' := py) c.toCxt.ndx (c.toCxt.nm c4) (.inl ly) (pev _) (swaps_no (cst_notComp c6)) (.inr ly))
            refine wpAny_mono (ps.run [] _ _ H' { nx := fun σ6 H6 => σ6 = σ'.set i (some v) ∧ H6 = H', rt := fun _ _ => False } S4 ⟨rfl, rfl⟩) (fun f s6 hsp => ?_) (fun _ _ z => False.elim z)
            cases f with
            | next =>
              obtain ⟨σ6, H6, S6, e6, e7⟩ := hsp
              subst e6 e7
              have hk : (if i < l'.length then RS.nx (l'.set i (some (.d d))) S' else .bad).el K J.Xs := hk
              by_cases hil : i < l'.length
              · rw [if_pos hil] at hk
                exact ⟨_, S', m', H6, _, hk, ⟨S6.unsuite iok, st.fra.trans fr', rel'.set (show RW J.Y J.av m' H6 (.d d) v from rdv _ _)⟩, fr'⟩
              · rw [if_neg hil] at hk
                exact False.elim hk
            | brk => obtain ⟨_, _, _, z⟩ := hsp; exact z.elim
            | cont => obtain ⟨_, _, _, z⟩ := hsp; exact z.elim
            | ret u => obtain ⟨_, _, _, _, _, z⟩ := hsp; exact z.elim
          | false =>
            show wpAny _ J.X.A (handleBy (.ref a) J.X.env hds3) _ _ _
            exact ih hds3 c7 hk
    exact go hs (h0 :: hds') hh kh
  have tb : TryOf J B := ⟨⟨_, _, rfl⟩, rfl, takes, PassesOwn.looking⟩
  have stB : Sta B [] σ m S l H s0 := ⟨st.tok, st.inv.toTry _, .refl, st.rel⟩
  have kb : (fb l S).el K B.Xs := by
    dsimp only at k
    generalize fb l S = r at k
    cases r with
    | ex k0 l' S' => exact fun m' H' σ' fr rel => ⟨k0, l', S', m', rfl, rfl, fr, rel, k⟩
    | _ => exact k
  refine wpAny_mono (hb B tb [] s0 σ H m S l K stB kb) (fun f s1 hsp => ?_) (fun e s1 he => he)
  cases f with
  | next =>
    obtain ⟨l', S', m', H', σ', k', st', fr⟩ := hsp
    exact wpAny_execs_nil ⟨l', S', m', H', σ', k', ⟨st'.inv.ofTry iok, st.fra.trans fr, st'.rel⟩, fr⟩
  | brk =>
    obtain ⟨l', S', m', H', σ', k', st', fr⟩ := hsp
    exact ⟨l', S', m', H', σ', k', ⟨st'.inv.ofTry iok, st.fra.trans fr, st'.rel⟩, fr⟩
  | cont =>
    obtain ⟨l', S', m', H', σ', k', st', fr⟩ := hsp
    exact ⟨l', S', m', H', σ', k', ⟨st'.inv.ofTry iok, st.fra.trans fr, st'.rel⟩, fr⟩
  | ret u =>
    obtain ⟨w, S', m', H', l', σ', v, k', st', fr, r⟩ := hsp
    exact ⟨w, S', m', H', l', σ', v, k', ⟨st'.inv.ofTry iok, st.fra.trans fr, st'.rel⟩, fr, r⟩
end
end Kr
/-! KrS5: statements; a def keeps its promise. -/
namespace Kr
open PySem PySem.Spec PyProof.Rows L2
section
variable {R : Row} {C : Cl} {lv : Nat}
mutual
theorem sndS : ∀ (t : St) {J : Jx} {s : Sc} {a : Stmt}, CxtS R C lv J s → chkS R s t a = true → JS J a (evS R.G C t)
  | .doc, J, s, a, c, h => by
    cases a with
    | Expr e p =>
      cases e with
      | Constant v j p2 =>
        cases v with
        | str x => exact js_doc
        | _ => exact (Bool.false_ne_true h).elim
      | _ => exact (Bool.false_ne_true h).elim
    | _ => exact (Bool.false_ne_true h).elim
  | .pass, J, s, a, c, h => by
    cases a with
    | Pass p => exact js_pass
    | _ => exact (Bool.false_ne_true h).elim
  | .brk, J, s, a, c, h => by
    cases a with
    | Break p => exact js_brk
    | _ => exact (Bool.false_ne_true h).elim
  | .cnt, J, s, a, c, h => by
    cases a with
    | Continue p => exact js_cnt
    | _ => exact (Bool.false_ne_true h).elim
  | .expr e, J, s, a, c, h => by
    cases a with
    | Expr x p =>
      obtain ⟨h1, h2⟩ := ba2 (show (chkE R s e x && notComp x) = true from h)
      exact js_expr (sndE e c.toCxt h1) (swaps_no h2)
    | _ => exact (Bool.false_ne_true h).elim
  | .asg g e, J, s, a, c, h => by
    cases a with
    | Assign ts x p =>
      match ts, h with
      | [], h => cases g <;> exact (Bool.false_ne_true h).elim
      | t :: _ :: _, h => cases g <;> cases t <;> exact (Bool.false_ne_true h).elim
      | [t], h =>
        cases g with
        | nam i =>
          cases t with
          | Name y py =>
            obtain ⟨h, h4⟩ := ba2 (show (eqO s.N[i]? y && loc s y && chkE R s e x && (notComp x || isLC x)) = true from h)
            obtain ⟨h, h3⟩ := ba2 h
            obtain ⟨h1, h2⟩ := ba2 h
            exact snd_nam c h1 h2 h3 h4
          | _ => exact (Bool.false_ne_true h).elim
        | tup gs =>
          cases t with
          | Tuple es k p2 =>
            obtain ⟨h, h3⟩ := ba2 (show (chkE R s e x && notComp x && tupChk s gs es x) = true from h)
            obtain ⟨h1, h2⟩ := ba2 h
            exact snd_tup c h1 h2 h3
          | _ => exact (Bool.false_ne_true h).elim
        | sub o i => cases t <;> exact (Bool.false_ne_true h).elim
    | _ => cases g <;> exact (Bool.false_ne_true h).elim
  | .setf k n o e, J, s, a, c, h => by
    cases a with
    | Assign ts x p =>
      match ts, h with
      | [], h => exact (Bool.false_ne_true h).elim
      | t :: _ :: _, h => cases t <;> exact (Bool.false_ne_true h).elim
      | [t], h =>
        cases t with
        | Attribute eo f p2 =>
          obtain ⟨h, h5⟩ := ba2 (show (eqO (R.fs k)[n]? f && (R.cnm k).isSome && chkE R s o eo && chkE R s e x && notComp x) = true from h)
          obtain ⟨h, h4⟩ := ba2 h
          obtain ⟨h, h3⟩ := ba2 h
          obtain ⟨h1, h2⟩ := ba2 h
          exact js_setf (Facts.fldOk c.toCxt h1 h2) (by rw [c.F.fsY]; exact (c.F.nd k).2) (sndE e c.toCxt h4) (sndE o c.toCxt h3) (swaps_no h5)
        | _ => exact (Bool.false_ne_true h).elim
    | _ => exact (Bool.false_ne_true h).elim
  | .aug i o e, J, s, a, c, h => by
    cases a with
    | AugAssign t op x p =>
      cases t with
      | Name y py =>
        obtain ⟨h, h4⟩ := ba2 (show (eqO s.N[i]? y && loc s y && decide (op = bopOf o) && chkE R s e x) = true from h)
        obtain ⟨h, h3⟩ := ba2 h
        obtain ⟨h1, h2⟩ := ba2 h
        cases of_decide_eq_true h3
        exact js_aug o c.ndx (c.nm h1) (c.toCxt.loc h2).1 (c.toCxt.loc h2).2 (sndE e c.toCxt h4)
      | _ => exact (Bool.false_ne_true h).elim
    | _ => exact (Bool.false_ne_true h).elim
  | .augf k n o b e, J, s, a, c, h => by
    cases a with
    | AugAssign t op x p =>
      cases t with
      | Attribute eo f py =>
        obtain ⟨h, h5⟩ := ba2 (show (eqO (R.fs k)[n]? f && (R.cnm k).isSome && decide (op = bopOf b) && chkE R s o eo && chkE R s e x) = true from h)
        obtain ⟨h, h4⟩ := ba2 h
        obtain ⟨h, h3⟩ := ba2 h
        obtain ⟨h1, h2⟩ := ba2 h
        cases of_decide_eq_true h3
        exact js_augf b (Facts.fldOk c.toCxt h1 h2) (by rw [c.F.fsY]; exact (c.F.nd k).2) (sndE o c.toCxt h4) (sndE e c.toCxt h5)
      | _ => exact (Bool.false_ne_true h).elim
    | _ => exact (Bool.false_ne_true h).elim
  | .ret e, J, s, a, c, h => by
    cases a with
    | Return v p =>
      cases v with
      | some x => exact js_ret (sndE e c.toCxt h)
      | none => exact (Bool.false_ne_true h).elim
    | _ => exact (Bool.false_ne_true h).elim
  | .retN, J, s, a, c, h => by
    cases a with
    | Return v p =>
      cases v with
      | some x => exact (Bool.false_ne_true h).elim
      | none => exact js_retN
    | _ => exact (Bool.false_ne_true h).elim
  | .ite t x y, J, s, a, c, h => by
    cases a with
    | If e sa sb p =>
      obtain ⟨h, h3⟩ := ba2 (show (chkT R s t e && chkB R s x sa && chkB R s y sb) = true from h)
      obtain ⟨h1, h2⟩ := ba2 h
      exact js_ite (sndT t c.toCxt h1) (sndB x c h2) (sndB y c h3)
    | _ => exact (Bool.false_ne_true h).elim
  | .whl t x, J, s, a, c, h => by
    cases a with
    | While e sa oe p =>
      cases oe with
      | nil =>
        obtain ⟨h1, h2⟩ := ba2 (show (chkT R s t e && chkB R s x sa) = true from h)
        exact js_whl c.hp (sndT t c.toCxt h1) (sndB x c h2) 100000
      | cons => exact (Bool.false_ne_true h).elim
    | _ => exact (Bool.false_ne_true h).elim
  | .loop g i x, J, s, a, c, h => by
    cases a with
    | For tg iter sa oe p =>
      cases oe with
      | nil =>
        obtain ⟨h, h4⟩ := ba2 (show (chkG s g tg && chkI R s i iter && pl iter && chkB R s x sa) = true from h)
        obtain ⟨h, h3⟩ := ba2 h
        obtain ⟨h1, h2⟩ := ba2 h
        exact js_for c.hp c.calm (sndI i c.toCxt h2) (sndG g c.toCxt h1) (evG_nx R.G C g) (sndB x c h4) (set_ok h3)
      | cons => exact (Bool.false_ne_true h).elim
    | _ => exact (Bool.false_ne_true h).elim
  | .raise k, J, s, a, c, h => by
    obtain ⟨x, p1, m, j, p2, p3, p4, rfl, h⟩ : ∃ x p1 m j p2 p3 p4, a = .Raise (some (.Call (.Name x p1) [.Constant (.str m) j p2] [] p3)) none p4 ∧ (eqO (R.xnm k) x && gl s x && okN x) = true := by
      unfold chkS at h
      split at h <;> rename_i heq <;> first | (cases heq; done) | skip
      · cases heq
        exact ⟨_, _, _, _, _, _, _, rfl, h⟩
      · cases h
    obtain ⟨h, h3⟩ := ba2 h
    obtain ⟨h1, h2⟩ := ba2 h
    exact js_raise c.ok c.calm (exOk_of c.toCxt (eqO_ok h1)) (c.toCxt.gl h2) (c.F.exc k x (eqO_ok h1)).1 (okN_ok h3).1
  | .tri b hs, J, s, a, c, h => by
    cases a with
    | Try sb hds oe fe p =>
      cases oe with
      | nil =>
        cases fe with
        | nil =>
          obtain ⟨h, h3⟩ := ba2 (show (chkB R s b sb && chkH R s hs hds && !hds.isEmpty) = true from h)
          obtain ⟨h1, h2⟩ := ba2 h
          exact js_try c (fun J' t => sndB b (c.try_ t) h1) h2 h3
        | cons => exact (Bool.false_ne_true h).elim
      | cons => exact (Bool.false_ne_true h).elim
    | _ => exact (Bool.false_ne_true h).elim
  | .triAs _ _ _ _, J, s, a, c, h => by cases a <;> exact (Bool.false_ne_true h).elim
  | .ndef _ _ _, J, s, a, c, h => by cases a <;> exact (Bool.false_ne_true h).elim
theorem sndB : ∀ (t : Ss) {J : Jx} {s : Sc} {a : List Stmt}, CxtS R C lv J s → chkB R s t a = true → JSs J a (evB R.G C t)
  | .nil, J, s, [], c, h => jss_nil
  | .nil, J, s, _ :: _, c, h => (Bool.false_ne_true h).elim
  | .cons _ _, J, s, [], c, h => (Bool.false_ne_true h).elim
  | .cons t ts, J, s, a :: as, c, h => by
    obtain ⟨h1, h2⟩ := ba2 (show (chkS R s t a && chkB R s ts as) = true from h)
    exact jss_cons (sndS t c h1) (sndB ts c h2)
end
end
end Kr
/-! KrF: a def keeps its promise; a row's table. -/
namespace Kr
open PySem PySem.Spec PyProof.Rows L2
/-- a def's scope -/
def scB (N ps : List Str) (sc : Scope) : Bool :=
  (match sc.kind with | .function => true | _ => false) && !sc.isCoroutine && !sc.isGenerator && decide N.Nodup && decide (N.take ps.length = ps) &&
    (ps.all fun x => match sc.names.lookup x with | some .local => true | some .cell => true | _ => false) && (sc.names.all fun y => match y.2 with | .free => false | _ => true)
theorem scB_ok {N ps : List Str} {sc : Scope} (h : scB N ps sc = true) : FnScope N ps sc := by
  obtain ⟨h, h7⟩ := ba2 h
  obtain ⟨h, h6⟩ := ba2 h
  obtain ⟨h, h5⟩ := ba2 h
  obtain ⟨h, h4⟩ := ba2 h
  obtain ⟨h, h3⟩ := ba2 h
  obtain ⟨h1, h2⟩ := ba2 h
  refine ⟨?_, by simpa using h2, by simpa using h3, of_decide_eq_true h4, of_decide_eq_true h5, fun x hx => ?_, fun y hy e => ?_⟩
  · split at h1
    · assumption
    · cases h1
  · have := List.all_eq_true.mp h6 x hx
    split at this
    · exact .inl (by assumption)
    · exact .inr (by assumption)
    · cases this
  · have := List.all_eq_true.mp h7 y hy
    rw [e] at this
    cases this
/-- a def of a row: its number, where it stands, its names, its IR -/
structure Ent where
  id : Nat
  d : He.DefD
  N : List Str
  F : Fn
def Ent.ps (e : Ent) : List Str := e.N.take e.F.np
def chkFn (R : Row) (e : Ent) : Bool := decide (e.F.ns = e.N.length) && decide (e.F.np ≤ e.N.length) && scB e.N e.ps e.d.scope && chkB R ⟨e.N, e.d.scope, fun _ => true⟩ e.F.body e.d.body
def BindOk (e : Ent) : Prop := ∀ (kV doc pm : Value) (an : Option Addr) (cdv ct : Value) (us : List Value), us.length = e.F.np → bindArgs (PySem.W.fnOf e.d.name e.d.qual e.d.params e.d.body e.d.scope .none kV doc pm an cdv ct) ⟨us, []⟩ = pure (e.ps.zip us)
theorem rsl_start {Y : Cfg} {av m : List Addr} {H : Hp} {N : List Str} {ws : List W} {vs : List V} {n : Nat} (r : RWs Y av m H ws vs) (h1 : N.length = n) (h2 : ws.length ≤ n) :
    RSl Y av m H (ws.map some ++ List.replicate (n - ws.length) none) (start N vs) := by
  have hl := r.length
  refine ⟨by simp only [L2.start, List.length_append, List.length_map, List.length_replicate]; omega, fun i w e => ?_⟩
  by_cases hi : i < ws.length
  · rw [List.getElem?_append_left (by simpa using hi), List.getElem?_map] at e
    have e : (ws[i]?).map some = some (some w) := e
    obtain ⟨w', e1, e2⟩ := Option.map_eq_some_iff.mp e
    cases e2
    obtain ⟨v, e3, e4⟩ := r.get e1
    refine ⟨v, ?_, e4⟩
    unfold L2.start
    rw [List.getElem?_append_left (by simp only [List.length_map]; omega), List.getElem?_map, e3]
    rfl
  · rw [List.getElem?_append_right (by simp only [List.length_map]; omega)] at e
    rw [List.getElem?_replicate] at e
    split at e <;> cases e
section
variable {R : Row} {P : Program} {w : World} {K : PySem.W.Frag} {mg : Str → Option Value} {base : Heap} {Y : Cfg}
theorem ent_binds {e : Ent} {fd : FuncData} {f : Addr} (F : FunD K e.d.name e.d.qual e.d.params e.d.body e.d.scope [] [] f fd) (hb : BindOk e) (hl : e.ps.length = e.F.np) : Binds K fd e.ps [] :=
  F.bindsN fun kV doc pm an cdv ct us h => hb kV doc pm an cdv ct us (h.trans hl)
theorem fn_T {k : Nat} {e : Ent} {fd : FuncData} {f : Addr} (hK : Y.K = K) (F : FunD K e.d.name e.d.qual e.d.params e.d.body e.d.scope [] [] f fd) (hfn : R.G.fn e.id = some e.F) (hc : chkFn R e = true)
    (facts : Facts R (run R.G k) (2 * k) P w K mg base Y) : FnT P w K mg base (2 * (k + 1)) f fd e.ps (spRun Y (run R.G (k + 1)) e.id) := by
  obtain ⟨hc, c4⟩ := ba2 hc
  obtain ⟨hc, c3⟩ := ba2 hc
  obtain ⟨c1, c2⟩ := ba2 hc
  have c1 := of_decide_eq_true c1
  have c2 := of_decide_eq_true c2
  have hpl : e.ps.length = e.F.np := by unfold Ent.ps; rw [List.length_take]; omega
  have Sc0 := scB_ok c3
  have runE : ∀ ws S, run R.G (k + 1) e.id ws S = if ws.length = e.F.np ∧ e.F.np ≤ e.F.ns then (match evB R.G (run R.G k) e.F.body (ws.map some ++ List.replicate (e.F.ns - e.F.np) none) S with
      | .nx _ S => .ok (.d .non) S
      | .ret w S => .ok w S
      | .ex c _ S => .ex c S
      | _ => .bad) else .bad := fun ws S => by
    show (match R.G.fn e.id with
    | some F => if ws.length = F.np ∧ F.np ≤ F.ns then (match evB R.G (run R.G k) F.body (ws.map some ++ List.replicate (F.ns - F.np) none) S with
      | .nx _ S => RE.ok (W.d .non) S
      | .ret w S => .ok w S
      | .ex c _ S => .ex c S
      | _ => .bad) else .bad
    | none => .bad) = _
    rw [hfn]
  refine ⟨fun vs H Q E h => ?_, fun A outer s H args us vs Q E t0 hr e0 hb r hsp => ?_⟩
  · obtain ⟨av, m, S, ws, rs, rws, h⟩ := h
    rw [runE] at h
    by_cases hl : ws.length = e.F.np ∧ e.F.np ≤ e.F.ns
    · rw [← rws.length, hl.1, hpl]
    · rw [if_neg hl] at h
      exact False.elim h
  · obtain ⟨av, m, S, ws, rs, rws, hel⟩ := hsp
    rw [runE] at hel
    by_cases hl : ws.length = e.F.np ∧ e.F.np ≤ e.F.ns
    · rw [if_pos hl] at hel
      obtain ⟨oc, od, dV, kV, doc, pm, an, cdv, ct, osl, rfl, lk, hcd, _, _⟩ := F.ex
      have hlv : vs.length = e.ps.length := by rw [← rws.length, hl.1, hpl]
      have KX : K.In s.heap := e0.mod.kin.keeps fun b o e => (e0.bs b o e).1
      have lim : s.heap.NoLimit := e0.mod.nolimit.keeps fun b o e => (e0.bs b o e).1
      have hkind : ∀ y ∈ e.ps.zip us, e.d.scope.names.lookup y.1 = some .local ∨ (e.d.scope.names.lookup y.1 = some .cell ∧ ((cellsFrom (s.heap.objs.size + 1) e.d.scope.names []).lookup y.1).isSome = true) := fun ⟨n, v⟩ hy => by
        rcases Sc0.par n (List.of_mem_zip hy).1 with q | q
        · exact .inl q
        · exact .inr ⟨q, PySem.W.cellsFrom_some _ _ _ (.inl q)⟩
      refine codeAny_call_function hr.depth (KX _ _ lk) rfl Sc0.co Sc0.gen rfl (PySem.W.codeRec_of KX hcd) (hb _ _ _ _ ?_)
      refine PySem.wpAny_with_toks t0 (wpAny_newFunctionEnv_cells Sc0.kind hkind fun env he s1 x ht => ?_)
      subst he
      refine ⟨lim.keeps x.toInCall.keep, codeAny_func ?_⟩
      let X : Cx := cxOf (CX P w) P w K mg base e.N e.d.qual e.d.scope f cdv A outer s H E
      let J : Jx := { X := X, Y := Y, av := av, m0 := m, H0 := H, Wx := fun cls d _ H' => E cls d H' }
      have hr2 : Room (2 * k + 1) X.A := hr.deeper _
      have I : L2.Inv X [] (start e.N vs) H s1 := inv_start Sc0 hr.hd e0 hlv r x
      have cx : CxtS R (run R.G k) (2 * k) J ⟨e.N, e.d.scope, fun _ => true⟩ := by
        refine { ok := ⟨hK.symm, takes_of rfl rfl rfl rfl, ?_⟩, calm := rfl, room := hr2, N := rfl, nd := Sc0.nd, sc := rfl, fn := rfl, F := facts, hp := passes_of rfl, kd := Sc0.kind, hs := rfl, hf := rfl }
        have := hr2.un
        show X.A.units + 65 < cLine
        omega
      have st : Sta J [] (start e.N vs) m S (ws.map some ++ List.replicate (e.F.ns - e.F.np) none) H s1 := ⟨ht, I, .refl, rs, by rw [← hl.1]; exact rsl_start rws c1.symm (by omega)⟩
      have kb : (evB R.G (run R.G k) e.F.body (ws.map some ++ List.replicate (e.F.ns - e.F.np) none) S).el
          ⟨fun _ S' => ∀ m' H' v, Fra m H m' H' → RSt Y av m' S' H' → RW Y av m' H' (.d .non) v → Q v H', fun w S' => ∀ m' H' v, Fra m H m' H' → RSt Y av m' S' H' → RW Y av m' H' w v → Q v H', fun _ _ => False, fun _ _ => False⟩ J.Xs := by
        generalize evB R.G (run R.G k) e.F.body (ws.map some ++ List.replicate (e.F.ns - e.F.np) none) S = q at hel
        cases q with
        | nx l' S' => exact hel
        | ret w S' => exact hel
        | ex c l' S' => exact fun m' H' σ' fr rel => hel m' H' fr rel.st
        | _ => exact hel
      refine wpAny_mono (sndB e.F.body cx c4 [] s1 (start e.N vs) H m S _ _ st kb) (fun fl s' hs => ?_) fun e s' hs => hs
      have fin0 : ∀ {σ' : L2.St} {H' : Hp} {v : V} {u : Value}, L2.Inv X [] σ' H' s' → RelV v u → Q v H' → CE outer P w H s Q u s' := fun {σ' H' v u} J rv q => ⟨v, H', J.os, J.bare, J.base, J.hok, rv, q⟩
      cases fl with
      | ret u =>
        obtain ⟨w', S', m', H', l', σ', v, k', st', fr, rw', q⟩ := hs
        exact fin0 st'.inv q (k' m' H' v fr st'.rel.st rw')
      | next =>
        obtain ⟨l', S', m', H', σ', k', st', fr⟩ := hs
        exact fin0 (v := .non) (u := .none) st'.inv rfl (k' m' H' .non fr st'.rel.st .non)
      | brk => obtain ⟨_, _, _, _, _, z, _⟩ := hs; exact z.elim
      | cont => obtain ⟨_, _, _, _, _, z, _⟩ := hs; exact z.elim
    · rw [if_neg hl] at hel
      exact False.elim hel
end
end Kr
/-! KrT: a row's table, what its head grants. -/
namespace Kr
open PySem PySem.Spec PyProof.Rows L2
structure Tbl where
  ents : List Ent
  /-- number, name, fields, the number of __init__ -/
  cls : List (Nat × Str × List Str × Nat)
  xcs : List (Nat × Str)
  gls : List (Nat × Str × D)
  subs : List (Nat × Nat × Bool)
def Tbl.ent (T : Tbl) (f : Nat) : Option Ent := T.ents.find? (·.id == f)
def Tbl.cnm (T : Tbl) (c : Nat) : Option Str := (T.cls.lookup c).map (·.1)
def Tbl.xnm (T : Tbl) (c : Nat) : Option Str := T.xcs.lookup c
def Tbl.G (T : Tbl) : Tab where
  glb := fun g => (T.gls.lookup g).map (·.2)
  fn := fun f => (T.ent f).map (·.F)
  ini := fun c => (T.cls.lookup c).map (·.2.2)
  sub := fun c k => (T.subs.find? fun p => p.1 == c && p.2.1 == k).map (·.2.2)
def Tbl.row (T : Tbl) : Row where
  G := T.G
  fnm := fun f => (T.ent f).bind fun e => match e.d.at_.2 with
    | none => some e.d.at_.1
    | some _ => none
  mnm := fun c f => (T.ent f).bind fun e => match e.d.at_.2 with
    | none => none
    | some m => if T.cnm c = some e.d.at_.1 ∧ ¬ m = ("__init__" : Str) then some m else none
  cnm := T.cnm
  xnm := T.xnm
  gnm := fun g => (T.gls.lookup g).map (·.1)
  fs := fun c => match T.cls.lookup c with
    | some (_, fs, _) => fs
    | none => []
def faE (e : Ent) : List He.Fa := match e.d.at_.2 with
  | none => [.glo e.d.at_.1]
  | some m => if m = ("__init__" : Str) then [] else [.meth e.d.at_.1 m]
def faC (p : Nat × Str × List Str × Nat) : List He.Fa := .glo p.2.1 :: .cls p.2.1 :: .mkr p.2.1 :: p.2.2.1.map fun f => .noat p.2.1 f
def faX (p : Nat × Str) : List He.Fa := [.glo p.2, .exc p.2]
def faS (T : Tbl) (p : Nat × Nat × Bool) : List He.Fa := match T.xnm p.1, T.xnm p.2.1 with
  | some x, some y => [.exm x y p.2.2]
  | _, _ => []
def Tbl.fa (T : Tbl) : List He.Fa := T.ents.flatMap faE ++ (T.cls.flatMap faC ++ (T.xcs.flatMap faX ++ (T.subs.flatMap (faS T) ++ bltFree.map .free)))
/-- a constant of the top -/
def flatB : D → Value → Bool
  | .int i, .int j _ => decide (j = i)
  | .str x, .str y _ => y.cps.toList == x && x.all (· < 128)
  | _, _ => false
def flatsB : List D → List Value → Bool
  | [], [] => true
  | d :: ds, v :: vs => flatB d v && flatsB ds vs
  | _, _ => false
def kdV (K : PySem.W.Frag) (d : D) (u : Value) : Bool := match d, u with
  | .tup ds, .ref a => (match K.lookup a with
    | some ⟨.type c, none, .seq its _, _⟩ => decide (c = "tuple") && decide (its.size ≤ sizeLine) && flatsB ds its.toList
    | _ => false)
  | d, u => flatB d u
def kdB (K : PySem.W.Frag) (x : Str) (d : D) : Bool := match PySem.W.nsIn K mainGlobals x with
  | some (some u) => kdV K d u
  | _ => false
def Tbl.ex (T : Tbl) (K : PySem.W.Frag) : Bool := T.gls.all fun p => kdB K p.2.1 p.2.2
/-- what of a table is looked at once -/
def Tbl.ok (T : Tbl) : Bool :=
  decide (T.ents.map (·.id)).Nodup && T.ents.all (fun e => chkFn T.row e) &&
  T.cls.all (fun p => decide (T.cls.lookup p.1 = some p.2) && decide p.2.2.1.Nodup && decide (p.2.2.1.length < 1000) && (match T.ent p.2.2.2 with
    | some e => decide (e.d.at_ = (p.2.1, some ("__init__" : Str)))
    | none => false)) &&
  T.cls.all (fun p => T.ents.all fun e => match e.d.at_.2 with
    | some m => !(decide (e.d.at_.1 = p.2.1)) || !(p.2.2.1.contains m)
    | none => true) &&
  T.ents.all (fun e => e.d.dfl.isEmpty && e.d.kwd.isEmpty) &&
  T.subs.all (fun p => (T.xnm p.1).isSome && (T.xnm p.2.1).isSome)
def Tbl.cfg (T : Tbl) (K : PySem.W.Frag) : Cfg where
  K := K
  cA := fun c => match T.cls.lookup c with
    | some p => He.ga K p.1
    | none => 0
  xA := fun c => match T.xcs.lookup c with
    | some x => He.ga K x
    | none => 0
  fs := T.row.fs
theorem find_ent {T : Tbl} (nd : (T.ents.map (·.id)).Nodup) {e : Ent} (h : e ∈ T.ents) : T.ent e.id = some e := by
  unfold Tbl.ent
  generalize T.ents = l at nd h
  induction l with
  | nil => cases h
  | cons a l ih =>
    rw [List.find?_cons]
    rcases List.mem_cons.mp h with z | z
    · subst z
      simp
    · have ne : (a.id == e.id) = false := by
        refine beq_eq_false_iff_ne.mpr fun q => ?_
        have := (List.nodup_cons.mp (by simpa using nd : (a.id :: l.map (·.id)).Nodup)).1
        exact this (List.mem_map.mpr ⟨e, z, q.symm⟩)
      rw [ne]
      exact ih (List.nodup_cons.mp (by simpa using nd : (a.id :: l.map (·.id)).Nodup)).2 z
theorem ent_mem {T : Tbl} {f : Nat} {e : Ent} (h : T.ent f = some e) : e ∈ T.ents ∧ e.id = f := by
  unfold Tbl.ent at h
  exact ⟨List.mem_of_find?_eq_some h, by simpa using List.find?_some h⟩
theorem look_mem {α : Type} {l : List (Nat × α)} {n : Nat} {a : α} (h : l.lookup n = some a) : (n, a) ∈ l := by
  induction l with
  | nil => cases h
  | cons p l ih =>
    obtain ⟨k, b⟩ := p
    cases e : n == k with
    | true =>
      rw [List.lookup, e] at h
      cases h
      rw [beq_iff_eq.mp e]
      exact List.mem_cons_self
    | false =>
      rw [List.lookup, e] at h
      exact List.mem_cons_of_mem _ (ih h)
theorem flatB_ok {Y : Cfg} {d : D} {u : Value} (h : flatB d u = true) : ∃ v, RelV v u ∧ ∀ z H, RD Y z H d v := by
  unfold flatB at h
  split at h
  · cases of_decide_eq_true h
    exact ⟨.int _, ⟨_, rfl⟩, fun _ _ => .int _⟩
  · obtain ⟨h1, h2⟩ := ba2 h
    rw [str_of h1]
    exact ⟨.str _, ⟨_, rfl⟩, fun _ _ => .str _ (asc_of h2)⟩
  · cases h
theorem flatsB_ok {Y : Cfg} : ∀ {ds : List D} {us : List Value}, flatsB ds us = true → ∃ vs, Vals vs us ∧ ∀ z H, RDs Y z H ds vs
  | [], [], _ => ⟨[], .nil, fun _ _ => .nil⟩
  | [], _ :: _, h => (Bool.false_ne_true h).elim
  | _ :: _, [], h => (Bool.false_ne_true h).elim
  | d :: ds, u :: us, h => by
    obtain ⟨h1, h2⟩ := ba2 (show (flatB d u && flatsB ds us) = true from h)
    obtain ⟨v, r, q⟩ := flatB_ok (Y := Y) h1
    obtain ⟨vs, rs, qs⟩ := flatsB_ok (Y := Y) h2
    exact ⟨v :: vs, .cons r rs, fun z H => .cons (q z H) (qs z H)⟩
theorem kdV_ok {Y : Cfg} {K : PySem.W.Frag} (hK : Y.K = K) {d : D} {u : Value} (h : kdV K d u = true) : KD Y d u := by
  unfold kdV at h
  split at h
  · rename_i ds a
    split at h
    · rename_i c its n sl e
      obtain ⟨h, h3⟩ := ba2 h
      obtain ⟨h1, h2⟩ := ba2 h
      cases of_decide_eq_true h1
      obtain ⟨vs, r, q⟩ := flatsB_ok (Y := Y) h3
      exact ⟨.ref a, rfl, fun z H => .tupK ⟨_, its, n, by rw [hK]; exact e, rfl, rfl, rfl, of_decide_eq_true h2, r⟩ (q z H)⟩
    · cases h
  · exact flatB_ok h
section
variable {T : Tbl} {P : Program} {w : World} {K : PySem.W.Frag} {mg : Str → Option Value} {base h : Heap}
theorem Tbl.facts (ok : T.ok = true) (X : K.In h) (Gs : h.Ns mainGlobals mg) (c : He.SaysX T.fa (T.ents.map (·.d)) [] [] T.ex w h K) {C : Cl} {lv : Nat} (at_ : ∀ e ∈ T.ents, FnAt P w K mg base (T.cfg K) C lv e.id (He.fAd K e.d.at_)) :
    Facts T.row C lv P w K mg base (T.cfg K) := by
  obtain ⟨ok, o6⟩ := ba2 ok
  obtain ⟨ok, o5⟩ := ba2 ok
  obtain ⟨ok, o4⟩ := ba2 ok
  obtain ⟨ok, o3⟩ := ba2 ok
  obtain ⟨o1, o2⟩ := ba2 ok
  have cd := c.t.d
  have fE : ∀ e ∈ T.ents, ∀ f ∈ faE e, f ∈ T.fa := fun e he f hf => List.mem_append_left _ (List.mem_flatMap.mpr ⟨e, he, hf⟩)
  have fC : ∀ p ∈ T.cls, ∀ f ∈ faC p, f ∈ T.fa := fun e he f hf => List.mem_append_right _ (List.mem_append_left _ (List.mem_flatMap.mpr ⟨e, he, hf⟩))
  have fX : ∀ p ∈ T.xcs, ∀ f ∈ faX p, f ∈ T.fa := fun e he f hf => List.mem_append_right _ (List.mem_append_right _ (List.mem_append_left _ (List.mem_flatMap.mpr ⟨e, he, hf⟩)))
  have fS : ∀ p ∈ T.subs, ∀ f ∈ faS T p, f ∈ T.fa := fun e he f hf => List.mem_append_right _ (List.mem_append_right _ (List.mem_append_right _ (List.mem_append_left _ (List.mem_flatMap.mpr ⟨e, he, hf⟩))))
  have fB : ∀ x ∈ bltFree, He.Fa.free x ∈ T.fa := fun x hx => List.mem_append_right _ (List.mem_append_right _ (List.mem_append_right _ (List.mem_append_right _ (List.mem_map.mpr ⟨x, hx, rfl⟩))))
  have cAe : ∀ {k : Nat} {x : Str}, T.cnm k = some x → ∃ q, T.cls.lookup k = some q ∧ q.1 = x ∧ (k, q) ∈ T.cls ∧ (T.cfg K).cA k = He.ga K x := fun {k x} e => by
    obtain ⟨q, e1, e2⟩ := Option.map_eq_some_iff.mp e
    refine ⟨q, e1, e2, look_mem e1, ?_⟩
    show (match T.cls.lookup k with
      | some p => He.ga K p.1
      | none => 0) = _
    rw [e1, ← e2]
  have xAe : ∀ {k : Nat} {x : Str}, T.xnm k = some x → (k, x) ∈ T.xcs ∧ (T.cfg K).xA k = He.ga K x := fun {k x} e => by
    refine ⟨look_mem e, ?_⟩
    show (match T.xcs.lookup k with
      | some x => He.ga K x
      | none => 0) = _
    rw [show T.xcs.lookup k = some x from e]
  have fsE : ∀ {k : Nat} {q : Str × List Str × Nat}, T.cls.lookup k = some q → T.row.fs k = q.2.1 := fun {k q} e => by
    show (match T.cls.lookup k with
      | some (_, fs, _) => fs
      | none => []) = _
    rw [e]
  refine ⟨?_, ?_, ?_, ?_, ?_, ?_, rfl, ?_, ?_, ?_, ?_, ?_⟩
  · intro g x d e1 e2
    obtain ⟨q, a1, rfl⟩ := Option.map_eq_some_iff.mp (show (T.gls.lookup g).map (·.1) = some x from e1)
    obtain ⟨q', a3, a4⟩ := Option.map_eq_some_iff.mp (show (T.gls.lookup g).map (·.2) = some d from e2)
    rw [a1] at a3
    cases a3
    have hx := List.all_eq_true.mp c.more (g, q) (look_mem a1)
    have hx : kdB K q.1 q.2 = true := hx
    unfold kdB at hx
    split at hx
    · rename_i u en
      refine ⟨u, PySem.W.mg_of X Gs en, ?_⟩
      rw [← a4]
      exact kdV_ok rfl hx
    · cases hx
  · intro f x e1
    obtain ⟨e, a1, a2⟩ := Option.bind_eq_some_iff.mp (show ((T.ent f).bind fun e => match e.d.at_.2 with
      | none => some e.d.at_.1
      | some _ => none) = some x from e1)
    obtain ⟨m1, rfl⟩ := ent_mem a1
    split at a2
    · rename_i en
      cases a2
      have gl := He.glo_ok X Gs (cd.facts (fE e m1 (.glo e.d.at_.1) (by unfold faE; rw [en]; exact List.mem_singleton.mpr rfl)))
      refine ⟨He.fAd K e.d.at_, ?_, at_ e m1⟩
      rw [gl]
      unfold He.fAd
      rw [en]
    · cases a2
  · intro k f n e1
    obtain ⟨e, a1, a2⟩ := Option.bind_eq_some_iff.mp (show ((T.ent f).bind fun e => match e.d.at_.2 with
      | none => none
      | some m => if T.cnm k = some e.d.at_.1 ∧ ¬ m = ("__init__" : Str) then some m else none) = some n from e1)
    obtain ⟨m1, rfl⟩ := ent_mem a1
    split at a2
    · cases a2
    · rename_i m en
      split at a2
      · rename_i hc
        cases a2
        obtain ⟨hc, hi⟩ := hc
        obtain ⟨q, b1, b2, b3, b4⟩ := cAe hc
        · have mt := He.meth_ok (cd.facts (fE e m1 (.meth e.d.at_.1 n) (by unfold faE; rw [en]; dsimp only; rw [if_neg hi]; exact List.mem_singleton.mpr rfl)))
          refine ⟨He.fAd K e.d.at_, ?_, at_ e m1⟩
          rw [b4]
          have : He.fAd K e.d.at_ = He.ma K (He.ga K e.d.at_.1) n := by
            unfold He.fAd
            rw [en]
          rw [this]
          exact mt
      · cases a2
  · intro k x e1
    obtain ⟨q, b1, b2, b3, b4⟩ := cAe e1
    refine ⟨?_, ?_⟩
    · rw [b4, ← b2]
      exact He.glo_ok X Gs (cd.facts (fC _ b3 _ List.mem_cons_self))
    · rw [b4, ← b2]
      exact He.cls_ok (cd.facts (fC _ b3 _ (List.mem_cons_of_mem _ List.mem_cons_self)))
  · intro k x f e1 e2
    obtain ⟨q, b1, b2, b3, b4⟩ := cAe e1
    obtain ⟨q', a1, a2⟩ := Option.map_eq_some_iff.mp (show (T.cls.lookup k).map (·.2.2) = some f from e2)
    rw [b1] at a1
    cases a1
    have hx := List.all_eq_true.mp o3 (k, q) b3
    obtain ⟨hx, h4⟩ := ba2 hx
    dsimp only at h4
    rw [a2] at h4
    split at h4
    · rename_i e en
      obtain ⟨m1, rfl⟩ := ent_mem en
      have ea := of_decide_eq_true h4
      have mk := He.mkr_ok (cd.facts (fC _ b3 (.mkr q.1) (List.mem_cons_of_mem _ (List.mem_cons_of_mem _ List.mem_cons_self))))
      refine ⟨He.fAd K e.d.at_, ?_, at_ e m1⟩
      rw [b4, ea, ← b2]
      exact mk
    · cases h4
  · intro k n f x e1 e2
    obtain ⟨q, b1, b2, b3, b4⟩ := cAe e1
    rw [fsE b1] at e2
    rw [b4, ← b2]
    exact He.noat_ok (cd.facts (fC _ b3 (.noat q.1 f) (List.mem_cons_of_mem _ (List.mem_cons_of_mem _ (List.mem_cons_of_mem _ (List.mem_map.mpr ⟨f, List.mem_of_getElem? e2, rfl⟩))))))
  · intro k
    cases e : T.cls.lookup k with
    | none =>
      have : T.row.fs k = [] := by
        show (match T.cls.lookup k with
          | some (_, fs, _) => fs
          | none => []) = _
        rw [e]
      rw [this]
      exact ⟨List.nodup_nil, by decide⟩
    | some q =>
      rw [fsE e]
      have hx := List.all_eq_true.mp o3 (k, q) (look_mem e)
      obtain ⟨hx, _⟩ := ba2 hx
      obtain ⟨hx, h3⟩ := ba2 hx
      obtain ⟨_, h2⟩ := ba2 hx
      exact ⟨of_decide_eq_true h2, of_decide_eq_true h3⟩
  · intro k f n e1
    obtain ⟨e, a1, a2⟩ := Option.bind_eq_some_iff.mp (show ((T.ent f).bind fun e => match e.d.at_.2 with
      | none => none
      | some m => if T.cnm k = some e.d.at_.1 ∧ ¬ m = ("__init__" : Str) then some m else none) = some n from e1)
    obtain ⟨m1, rfl⟩ := ent_mem a1
    split at a2
    · cases a2
    · rename_i m en
      split at a2
      · rename_i hc
        cases a2
        obtain ⟨q, b1, b2, b3, b4⟩ := cAe hc.1
        rw [fsE b1]
        have hx := List.all_eq_true.mp (List.all_eq_true.mp o4 (k, q) b3) e m1
        dsimp only at hx
        rw [en] at hx
        dsimp only at hx
        intro hm
        rw [decide_eq_true (by rw [b2] : e.d.at_.1 = q.1)] at hx
        have : q.2.1.contains n = true := by simpa using hm
        rw [this] at hx
        cases hx
      · cases a2
  · intro k x e1
    obtain ⟨b1, b2⟩ := xAe e1
    rw [b2]
    obtain ⟨x1, x2, x3, x4⟩ := He.exc_ok (cd.facts (fX _ b1 (.exc x) (List.mem_cons_of_mem _ List.mem_cons_self)))
    exact ⟨He.glo_ok X Gs (cd.facts (fX _ b1 (.glo x) List.mem_cons_self)), ⟨_, _, _, _, PySem.F.excBase_ValueError, x1⟩, x2, x3, x4⟩
  · intro k n b e1
    obtain ⟨p, a1, rfl⟩ := Option.map_eq_some_iff.mp (show (T.subs.find? fun p => p.1 == k && p.2.1 == n).map (·.2.2) = some b from e1)
    have hm := List.mem_of_find?_eq_some a1
    have hp := List.find?_some a1
    obtain ⟨p1, p2⟩ := ba2 hp
    have p1 := beq_iff_eq.mp p1
    have p2 := beq_iff_eq.mp p2
    obtain ⟨h1, h2⟩ := ba2 (List.all_eq_true.mp o6 p hm)
    obtain ⟨x, ex⟩ := Option.isSome_iff_exists.mp h1
    obtain ⟨y, ey⟩ := Option.isSome_iff_exists.mp h2
    rw [← p1, ← p2, (xAe ex).2, (xAe ey).2]
    refine He.exm_ok (cd.facts (fS p hm (.exm x y p.2.2) ?_))
    unfold faS
    rw [ex, ey]
    exact List.mem_singleton.mpr rfl
  · intro x hx
    exact He.free_ok X Gs (cd.facts (fB x hx))
theorem Tbl.at_ (ok : T.ok = true) (hb : ∀ e ∈ T.ents, BindOk e) (X : K.In h) (Gs : h.Ns mainGlobals mg) (c : He.SaysX T.fa (T.ents.map (·.d)) [] [] T.ex w h K) :
    ∀ k, ∀ e ∈ T.ents, FnAt P w K mg base (T.cfg K) (run T.G k) (2 * k) e.id (He.fAd K e.d.at_) := by
  have ok0 := ok
  obtain ⟨ok, o6⟩ := ba2 ok
  obtain ⟨ok, o5⟩ := ba2 ok
  obtain ⟨ok, o4⟩ := ba2 ok
  obtain ⟨ok, o3⟩ := ba2 ok
  obtain ⟨o1, o2⟩ := ba2 ok
  have fun_ : ∀ e ∈ T.ents, ∃ fd, FunD K e.d.name e.d.qual e.d.params e.d.body e.d.scope [] [] (He.fAd K e.d.at_) fd := fun e he => by
    obtain ⟨fd, F⟩ := c.t.d.defs (List.mem_map.mpr ⟨e, he, rfl⟩)
    obtain ⟨d1, d2⟩ := ba2 (List.all_eq_true.mp o5 e he)
    have e1 : e.d.dvs K = [] := by
      unfold He.DefD.dvs
      rw [List.isEmpty_iff.mp d1]
      rfl
    have e2 : e.d.kws K = [] := by
      unfold He.DefD.kws
      rw [List.isEmpty_iff.mp d2]
      rfl
    rw [e1, e2] at F
    exact ⟨fd, F⟩
  have pl : ∀ e ∈ T.ents, e.ps.length = e.F.np := fun e he => by
    obtain ⟨hc, _⟩ := ba2 (List.all_eq_true.mp o2 e he)
    obtain ⟨hc, _⟩ := ba2 hc
    obtain ⟨_, c2⟩ := ba2 hc
    have := of_decide_eq_true c2
    unfold Ent.ps
    rw [List.length_take]
    omega
  intro k
  induction k with
  | zero =>
    intro e he
    obtain ⟨fd, F⟩ := fun_ e he
    refine ⟨⟨fd, e.ps, ⟨fun vs H Q E hs => ?_, fun A outer s H args us vs Q E t0 hr e0 hb r hs => ?_⟩, ent_binds F (hb e he) (pl e he)⟩, F.kp⟩
    · obtain ⟨_, _, _, _, _, _, z⟩ := hs
      exact False.elim z
    · obtain ⟨_, _, _, _, _, _, z⟩ := hs
      exact False.elim z
  | succ k ih =>
    intro e he
    obtain ⟨fd, F⟩ := fun_ e he
    have hfn : T.row.G.fn e.id = some e.F := by
      show (T.ent e.id).map (·.F) = some e.F
      rw [find_ent (of_decide_eq_true o1) he]
      rfl
    exact ⟨⟨fd, e.ps, fn_T (R := T.row) (K := K) (Y := T.cfg K) rfl F hfn (List.all_eq_true.mp o2 e he) (T.facts ok0 X Gs c ih), ent_binds F (hb e he) (pl e he)⟩, F.kp⟩
end
end Kr
/-! KrL: the law's def: no token is asked of the caller. -/
namespace Kr
open PySem PySem.Spec PyProof.Rows L2
/-- one parameter that is a local: behind its binding a token is out -/
theorem newEnv1 {M : Model} {A : Around} {E : Value → Shared → Prop} {s : Shared} {scope : Scope} {globals : Addr} {x : Str} {v : Value} {qual : Str} {func : Option Addr} {code : Value} {builtins : Addr} {Q : Env → Shared → Prop}
    (hk : scope.kind = .function) (hx : scope.names.lookup x = some .local)
    (hQ : ∀ env, env = newEnv scope s.heap.objs.size globals (cellsFrom (s.heap.objs.size + 1) scope.names []) qual func code none builtins →
      ∀ s', InCallC s env.locals (bindL env.kindOf [(x, v)] fun _ => none) env.cells (bindC env.kindOf [(x, v)] fun _ => none) s' → 1 ≤ s'.toks → Q env s') :
    wpAny M A (newFunctionEnv scope globals [] [(x, v)] qual func code none builtins) Q E s := by
  simp only [newFunctionEnv, Option.isSome_none, Bool.false_eq_true, if_false]
  refine wpAny_bind (wpAny_alloc ?_)
  refine wpAny_bind (wpAny_layCells _ (fun name kind cells => by cases hkc : kind == NameKind.cell <;> simp [hkc]) _ _ _ _ ?_)
  have ok := cellsFrom_ok scope.names (s.heap.push { cls := .type "frame", data := .dict #[] }) (s.heap.objs.size + 1) [] ⟨fun _ _ hm => (nomatch hm), List.Pairwise.nil⟩ (by rw [Heap.size_push]; exact Nat.le_refl _)
  rw [Heap.size_push] at ok
  rw [show ({ s with heap := s.heap.push { cls := .type "frame", data := .dict #[] } } : Shared).heap.objs.size = s.heap.objs.size + 1 from Heap.size_push ..]
  generalize henv : newEnv scope s.heap.objs.size globals (cellsFrom (s.heap.objs.size + 1) scope.names []) qual func code none builtins = env
  have hl : env.kindOf x = some .local := by rw [← henv]; exact hx
  have hkk : env.scope.kind = .function := by rw [← henv]; exact hk
  have x0 : InCallC s env.locals (fun _ => none) env.cells (fun _ => none) ({ s with heap := pushCells (s.heap.push { cls := .type "frame", data := .dict #[] }) scope.names } : Shared) := by
    rw [← henv]
    exact ⟨⟨⟨_, _, rfl⟩, (Heap.Ns.new s.heap (.type "frame")).keeps (pushCells_keeps _ _), fun b o e => pushCells_keeps _ _ b o (Heap.get?_push_of_some _ e), Nat.le_refl _⟩,
      fun n c hc => (ok.empty n c (mem_of_lookup hc)).1, ok.apart, fun n c hm => (ok.empty n c hm).2⟩
  have e1 : bindL env.kindOf [(x, v)] (fun _ => none) = fun y => if y = x then some v else none := by
    show (if env.kindOf x = some .local then (fun y => if y = x then some v else none) else fun _ => none) = _
    rw [if_pos hl]
  have e2 : bindC env.kindOf [(x, v)] (fun _ => none) = fun _ => none := by
    show (if env.kindOf x = some .local then (fun _ => none) else _) = _
    rw [if_pos hl]
  refine wpAny_bind ?_
  rw [List.forIn_cons]
  refine wpAny_bind (wpAny_bind ?_)
  have hst : wpAny M A (storeName env x v) (fun _ s' => InCallC s env.locals (fun y => if y = x then some v else none) env.cells (fun _ => none) s' ∧ 1 ≤ s'.toks) E ({ s with heap := pushCells (s.heap.push { cls := .type "frame", data := .dict #[] }) scope.names } : Shared) := by
    refine wpAny_storeName_local hl x0.toInCall.ns (fun h' hn' hs' => ⟨⟨⟨?_, hn', fun b o e => ?_, x0.toInCall.fresh⟩, fun k c hc => ?_, x0.apart, x0.above⟩, Nat.le_add_left _ _⟩) (by rw [hkk]; rfl)
    · exact ⟨h', _, rfl⟩
    · exact hs'.extBut b o (Nat.ne_of_lt (Nat.lt_of_lt_of_le (Heap.lt_size e) x0.toInCall.fresh)) (x0.toInCall.keep b o e)
    · exact (x0.cell k c hc).sameBut hs' (Nat.ne_of_gt (x0.above k c (mem_of_lookup hc)))
  have fin1 : ∀ s', InCallC s env.locals (fun y => if y = x then some v else none) env.cells (fun _ => none) s' → 1 ≤ s'.toks → Q env s' := fun s' xx tt => hQ env henv.symm s' (by rw [e1, e2]; exact xx) tt
  have hst' := hst
  rw [← henv] at hst'
  refine wpAny_mono hst' (fun _ s' z => wpAny_pure ?_) fun _ _ z => z
  show wpAny M A (forIn ([] : List (Str × Value)) PUnit.unit _) _ _ _
  rw [List.forIn_nil]
  refine wpAny_pure (wpAny_pure ?_)
  have := fin1 s'
  rw [← henv] at this
  exact this z.1 z.2
section
variable {R : Row} {P : Program} {w : World} {K : PySem.W.Frag} {mg : Str → Option Value} {base : Heap} {Y : Cfg}
theorem fn_law {k : Nat} {e : Ent} {fd : FuncData} {f : Addr} {x : Str} (hK : Y.K = K) (F : FunD K e.d.name e.d.qual e.d.params e.d.body e.d.scope [] [] f fd) (hfn : R.G.fn e.id = some e.F) (hc : chkFn R e = true)
    (facts : Facts R (run R.G k) (2 * k) P w K mg base Y) (hx : e.ps = [x]) (hl0 : e.d.scope.names.lookup x = some .local) : FnOk P w K mg base (CX P w) (2 * (k + 1)) f fd [x] (spRun Y (run R.G (k + 1)) e.id) := by
  obtain ⟨hc, c4⟩ := ba2 hc
  obtain ⟨hc, c3⟩ := ba2 hc
  obtain ⟨c1, c2⟩ := ba2 hc
  have c1 := of_decide_eq_true c1
  have c2 := of_decide_eq_true c2
  have hpl : e.ps.length = e.F.np := by unfold Ent.ps; rw [List.length_take]; omega
  have Sc0 := scB_ok c3
  have runE : ∀ ws S, run R.G (k + 1) e.id ws S = if ws.length = e.F.np ∧ e.F.np ≤ e.F.ns then (match evB R.G (run R.G k) e.F.body (ws.map some ++ List.replicate (e.F.ns - e.F.np) none) S with
      | .nx _ S => .ok (.d .non) S
      | .ret w S => .ok w S
      | .ex c _ S => .ex c S
      | _ => .bad) else .bad := fun ws S => by
    show (match R.G.fn e.id with
    | some F => if ws.length = F.np ∧ F.np ≤ F.ns then (match evB R.G (run R.G k) F.body (ws.map some ++ List.replicate (F.ns - F.np) none) S with
      | .nx _ S => RE.ok (W.d .non) S
      | .ret w S => .ok w S
      | .ex c _ S => .ex c S
      | _ => .bad) else .bad
    | none => .bad) = _
    rw [hfn]
  refine ⟨fun vs H Q E h => ?_, fun A outer s H args us vs Q E hr e0 hb r hsp => ?_⟩
  · obtain ⟨av, m, S, ws, rs, rws, h⟩ := h
    rw [runE] at h
    by_cases hl : ws.length = e.F.np ∧ e.F.np ≤ e.F.ns
    · rw [← rws.length, hl.1, ← hpl, hx]
    · rw [if_neg hl] at h
      exact False.elim h
  · obtain ⟨av, m, S, ws, rs, rws, hel⟩ := hsp
    rw [runE] at hel
    by_cases hl : ws.length = e.F.np ∧ e.F.np ≤ e.F.ns
    · rw [if_pos hl] at hel
      obtain ⟨oc, od, dV, kV, doc, pm, an, cdv, ct, osl, rfl, lk, hcd, _, _⟩ := F.ex
      have hlv : vs.length = e.ps.length := by rw [← rws.length, hl.1, hpl]
      have KX : K.In s.heap := e0.mod.kin.keeps fun b o e => (e0.bs b o e).1
      have lim : s.heap.NoLimit := e0.mod.nolimit.keeps fun b o e => (e0.bs b o e).1
      have hlu : us.length = 1 := by rw [← r.length, hlv, hx]; rfl
      obtain ⟨u, rfl⟩ : ∃ u, us = [u] := by
        match us, hlu with
        | [u], _ => exact ⟨u, rfl⟩
      refine codeAny_call_function hr.depth (KX _ _ lk) rfl Sc0.co Sc0.gen rfl (PySem.W.codeRec_of KX hcd) (hb _ _ _ _ ?_)
      refine newEnv1 Sc0.kind hl0 fun env he s1 xx ht => ?_
      subst he
      refine ⟨lim.keeps xx.toInCall.keep, codeAny_func ?_⟩
      let X : Cx := cxOf (CX P w) P w K mg base e.N e.d.qual e.d.scope f cdv A outer s H E
      let J : Jx := { X := X, Y := Y, av := av, m0 := m, H0 := H, Wx := fun cls d _ H' => E cls d H' }
      have hr2 : Room (2 * k + 1) X.A := hr.deeper _
      have I : L2.Inv X [] (start e.N vs) H s1 := inv_start (us := [u]) Sc0 hr.hd e0 hlv r (by rw [hx]; exact xx)
      have cx : CxtS R (run R.G k) (2 * k) J ⟨e.N, e.d.scope, fun _ => true⟩ := by
        refine { ok := ⟨hK.symm, takes_of rfl rfl rfl rfl, ?_⟩, calm := rfl, room := hr2, N := rfl, nd := Sc0.nd, sc := rfl, fn := rfl, F := facts, hp := passes_of rfl, kd := Sc0.kind, hs := rfl, hf := rfl }
        have := hr2.un
        show X.A.units + 65 < cLine
        omega
      have st : Sta J [] (start e.N vs) m S (ws.map some ++ List.replicate (e.F.ns - e.F.np) none) H s1 := ⟨ht, I, .refl, rs, by rw [← hl.1]; exact rsl_start rws c1.symm (by omega)⟩
      have kb : (evB R.G (run R.G k) e.F.body (ws.map some ++ List.replicate (e.F.ns - e.F.np) none) S).el
          ⟨fun _ S' => ∀ m' H' v, Fra m H m' H' → RSt Y av m' S' H' → RW Y av m' H' (.d .non) v → Q v H', fun w S' => ∀ m' H' v, Fra m H m' H' → RSt Y av m' S' H' → RW Y av m' H' w v → Q v H', fun _ _ => False, fun _ _ => False⟩ J.Xs := by
        generalize evB R.G (run R.G k) e.F.body (ws.map some ++ List.replicate (e.F.ns - e.F.np) none) S = q at hel
        cases q with
        | nx l' S' => exact hel
        | ret w S' => exact hel
        | ex c l' S' => exact fun m' H' σ' fr rel => hel m' H' fr rel.st
        | _ => exact hel
      refine wpAny_mono (sndB e.F.body cx c4 [] s1 (start e.N vs) H m S _ _ st kb) (fun fl s' hs => ?_) fun e s' hs => hs
      have fin0 : ∀ {σ' : L2.St} {H' : Hp} {v : V} {u : Value}, L2.Inv X [] σ' H' s' → RelV v u → Q v H' → CE outer P w H s Q u s' := fun {σ' H' v u} J rv q => ⟨v, H', J.os, J.bare, J.base, J.hok, rv, q⟩
      cases fl with
      | ret u =>
        obtain ⟨w', S', m', H', l', σ', v, k', st', fr, rw', q⟩ := hs
        exact fin0 st'.inv q (k' m' H' v fr st'.rel.st rw')
      | next =>
        obtain ⟨l', S', m', H', σ', k', st', fr⟩ := hs
        exact fin0 (v := .non) (u := .none) st'.inv rfl (k' m' H' .non fr st'.rel.st .non)
      | brk => obtain ⟨_, _, _, _, _, z, _⟩ := hs; exact z.elim
      | cont => obtain ⟨_, _, _, _, _, z, _⟩ := hs; exact z.elim
    · rw [if_neg hl] at hel
      exact False.elim hel
end
/-- what walk_ofE asks for -/
theorem Tbl.law {T : Tbl} {P : Program} {w : World} {K : PySem.W.Frag} {mg : Str → Option Value} {h : Heap} {fa : Addr} (ok : T.ok = true) (hb : ∀ e ∈ T.ents, BindOk e) (X : K.In h) (Gs : h.Ns mainGlobals mg)
    (c : He.SaysX T.fa (T.ents.map (·.d)) [] [] T.ex w h K) {e : Ent} (he : e ∈ T.ents) (hat : e.d.at_ = (("law" : Str), none)) (hps : e.ps = [("script" : Str)]) (hl0 : e.d.scope.names.lookup ("script" : Str) = some .local) (hmg : mg ("law" : Str) = some (.ref fa)) {k : Nat}
    (hrun : ∀ ns : List Int, ns.length ≤ 63 → ∃ S, run T.G (k + 1) e.id [.d (.scr ns)] [] = .ok (.d (.bl true)) S) :
    ∃ (fd : FuncData) (sp : Sp), (∀ (s : Shared) (u : Value), BindsTo s fd ⟨[u], []⟩ [("script", u)]) ∧
      (∀ (H : Hp) (a : Addr) (ns : List Int), ns.length ≤ 63 → Only H → SqL K H a (ns.map V.int) → sp [.ref a] H (fun v _ => v = .bl true) fun _ _ _ => False) ∧
      ∀ base : Heap, K.In base → base.Ns mainGlobals mg → FnOk P w K mg base (CX P w) (2 * (k + 1)) fa fd ["script"] sp := by
  have ok0 := ok
  obtain ⟨ok, o6⟩ := ba2 ok
  obtain ⟨ok, o5⟩ := ba2 ok
  obtain ⟨ok, o4⟩ := ba2 ok
  obtain ⟨ok, o3⟩ := ba2 ok
  obtain ⟨o1, o2⟩ := ba2 ok
  obtain ⟨fd, F⟩ := c.t.d.defs (List.mem_map.mpr ⟨e, he, rfl⟩)
  obtain ⟨d1, d2⟩ := ba2 (List.all_eq_true.mp o5 e he)
  have e1 : e.d.dvs K = [] := by
    unfold He.DefD.dvs
    rw [List.isEmpty_iff.mp d1]
    rfl
  have e2 : e.d.kws K = [] := by
    unfold He.DefD.kws
    rw [List.isEmpty_iff.mp d2]
    rfl
  rw [e1, e2] at F
  have hfa : He.fAd K e.d.at_ = fa := by
    have gl := He.glo_ok X Gs (c.t.d.facts (f := .glo "law") (List.mem_append_left _ (List.mem_flatMap.mpr ⟨e, he, by unfold faE; rw [hat]; exact List.mem_singleton.mpr rfl⟩)))
    rw [hmg] at gl
    cases gl
    rw [hat]
    rfl
  rw [hfa] at F
  have hfn : T.row.G.fn e.id = some e.F := by
    show (T.ent e.id).map (·.F) = some e.F
    rw [find_ent (of_decide_eq_true o1) he]
    rfl
  have hnp : e.F.np = 1 := by
    obtain ⟨hc, _⟩ := ba2 (List.all_eq_true.mp o2 e he)
    obtain ⟨hc, _⟩ := ba2 hc
    obtain ⟨_, c2⟩ := ba2 hc
    have := of_decide_eq_true c2
    have h1 := congrArg List.length hps
    unfold Ent.ps at h1
    rw [List.length_take] at h1
    have h1 : min e.F.np e.N.length = 1 := h1
    omega
  refine ⟨fd, spRun (T.cfg K) (run T.G (k + 1)) e.id, fun s u => ?_, fun H a ns hl hO hS => ?_, fun base hKb hGb => ?_⟩
  · have := FunD.bindsA (ps := e.ps) F (fun kV doc pm an cdv ct us h => hb e he kV doc pm an cdv ct us (by rw [h, hps, hnp]; rfl)) s [u] (by rw [hps]; rfl)
    rw [hps] at this
    exact this
  · obtain ⟨S, hr⟩ := hrun ns hl
    refine ⟨[], [], [], [.d (.scr ns)], ⟨rfl, List.nodup_nil, fun n o e => by simp at e, fun a ha => by cases ha⟩, .cons ?_ .nil, ?_⟩
    · show RD (T.cfg K) ([] ++ []) H (.scr ns) (.ref a)
      rcases hS with (hS | ⟨o, hS⟩) | hS
      · rcases hO a with z | ⟨o, xs, z⟩
        · rw [z] at hS; cases hS
        · rw [z] at hS; cases hS
      · exact .scr hS (by simp)
      · exact .scrK hS
    · rw [hr]
      intro m' H' v _ _ rv
      have rv : RD (T.cfg K) ([] ++ m') H' (.bl true) v := rv
      cases rv
      rfl
  · exact fn_law (R := T.row) (K := K) (Y := T.cfg K) rfl F hfn (List.all_eq_true.mp o2 e he) (T.facts ok0 X Gs c (T.at_ ok0 hb X Gs c k)) hps hl0
/-- whatever the world -/
def CXw (P : Program) : CXT := fun outer H s E e s' => ∃ w, L2.CX P w outer H s E e s'
theorem CXw.no {P : Program} {H : Hp} {s : Shared} {e : Value} {s' : Shared} (h : CXw P [] H s (fun _ _ _ => False) e s') : False := by
  obtain ⟨w, a, B, H', cls, d, _, _, _, _, _, _, _, z⟩ := h
  exact z
theorem FnOk.cxw {P : Program} {w : World} {K : PySem.W.Frag} {mg : Str → Option Value} {base : Heap} {k : Nat} {f : Addr} {fd : FuncData} {ps : List Str} {sp : Sp} (F : FnOk P w K mg base (L2.CX P w) k f fd ps sp) : FnOk P w K mg base (CXw P) k f fd ps sp :=
  ⟨F.len, fun A outer s H args us vs Q E hr e0 hb r hs => codeAny_mono (F.run A outer s H args us vs Q E hr e0 hb r hs) fun r s' hq => by
    cases r with
    | error e => exact ⟨w, hq⟩
    | ok fl => cases fl <;> exact hq⟩
end Kr
/-! KrM: the evaluator step by step, for simp (arguments first, what follows is not looked into). -/
namespace Kr
def bnd {α β : Type} (x : RE α) (f : α → Sto → RE β) : RE β := match x with
  | .ok a S => f a S
  | .ex c S => .ex c S
  | .bad => .bad
def sts {α : Type} (x : RE α) (l : Sl) (f : α → Sto → RS) : RS := match x with
  | .ok a S => f a S
  | .ex c S => .ex c l S
  | .bad => .bad
def sqs (x : RS) (f : Sl → Sto → RS) : RS := match x with
  | .nx l S => f l S
  | r => r
def cnd {α : Type} (k : Bool) (x y : α) : α := match k with
  | true => x
  | false => y
theorem bnd_cg {α β : Type} {x y : RE α} {f : α → Sto → RE β} (h : x = y) : bnd x f = bnd y f := by rw [h]
theorem sts_cg {α : Type} {x y : RE α} {l : Sl} {f : α → Sto → RS} (h : x = y) : sts x l f = sts y l f := by rw [h]
theorem sqs_cg {x y : RS} {f : Sl → Sto → RS} (h : x = y) : sqs x f = sqs y f := by rw [h]
theorem cnd_cg {α : Type} {k j : Bool} {x y : α} (h : k = j) : cnd k x y = cnd j x y := by rw [h]
theorem evE_cg {G : Tab} {C : Cl} {e : E} {l l' : Sl} {S S' : Sto} (h : l = l') (h' : S = S') : evE G C e l S = evE G C e l' S' := by rw [h, h']
theorem evA_cg {G : Tab} {C : Cl} {e : Es} {l l' : Sl} {S S' : Sto} (h : l = l') (h' : S = S') : evA G C e l S = evA G C e l' S' := by rw [h, h']
theorem evT_cg {G : Tab} {C : Cl} {e : T} {l l' : Sl} {S S' : Sto} (h : l = l') (h' : S = S') : evT G C e l S = evT G C e l' S' := by rw [h, h']
theorem evS_cg {G : Tab} {C : Cl} {e : St} {l l' : Sl} {S S' : Sto} (h : l = l') (h' : S = S') : evS G C e l S = evS G C e l' S' := by rw [h, h']
theorem evB_cg {G : Tab} {C : Cl} {e : Ss} {l l' : Sl} {S S' : Sto} (h : l = l') (h' : S = S') : evB G C e l S = evB G C e l' S' := by rw [h, h']
section
variable {G : Tab} {C : Cl} {l : Sl} {S : Sto}
theorem bnd_ok {α β : Type} (a : α) (f : α → Sto → RE β) : bnd (.ok a S) f = f a S := rfl
theorem bnd_ex {α β : Type} (c : Nat) (f : α → Sto → RE β) : bnd (.ex c S) f = .ex c S := rfl
theorem sts_ok {α : Type} (a : α) (f : α → Sto → RS) : sts (.ok a S) l f = f a S := rfl
theorem sts_ex {α : Type} (c : Nat) (f : α → Sto → RS) : sts (α := α) (.ex c S) l f = .ex c l S := rfl
theorem sqs_nx (f : Sl → Sto → RS) : sqs (.nx l S) f = f l S := rfl
theorem sqs_ret (w : W) (f : Sl → Sto → RS) : sqs (.ret w S) f = .ret w S := rfl
theorem sqs_ex (c : Nat) (f : Sl → Sto → RS) : sqs (.ex c l S) f = .ex c l S := rfl
theorem cnd_t {α : Type} (x y : α) : cnd true x y = x := rfl
theorem cnd_f {α : Type} (x y : α) : cnd false x y = y := rfl
theorem ite_cnd {α : Type} (k : Bool) (x y : α) : (if k then x else y) = cnd k x y := by cases k <;> rfl
/-- data of an object read -/
def asd (r : RE W) : RE D := bnd r fun w S => .of S (look1 S w)
theorem of_some {α : Type} (a : α) : RE.of S (some a) = .ok a S := rfl
theorem asd_ok (x : D) : asd (.ok (.d x) S) = .ok x S := rfl
theorem asd_ex (c : Nat) : asd (.ex c S) = .ex c S := rfl
theorem e_cst (d : D) : evE G C (.cst d) l S = .ok (.d d) S := by unfold evE; rfl
theorem e_var (i : Nat) : evE G C (.var i) l S = rdVar i l S := by unfold evE; rfl
def rdO : Option (Option W) → Sto → RE W
  | some (some w), S => .ok w S
  | _, _ => .bad
theorem rd_eq (i : Nat) : rdVar i l S = rdO l[i]? S := by
  unfold rdVar rdO
  rcases l[i]? with _ | _ | w <;> rfl
theorem rdO_ok (w : W) : rdO (some (some w)) S = .ok w S := rfl
def glO : Option D → Sto → RE W
  | some d, S => .ok (.d d) S
  | none, _ => .bad
theorem e_glb (g : Nat) : evE G C (.glb g) l S = glO (G.glb g) S := by
  unfold evE glO
  cases G.glb g <;> rfl
theorem glO_ok (d : D) : glO (some d) S = .ok (.d d) S := rfl
theorem e_bin (o : Bop) (a b : E) : evE G C (.bin o a b) l S = bnd (evE G C a l S) fun v S => bnd (evE G C b l S) fun w S => .of S ((opt2 (evBin o) S v w).map .d) := by rw [evE]; rfl
theorem e_neg (a : E) : evE G C (.neg a) l S = bnd (asd (evE G C a l S)) fun x S => (match x with
    | .int i => .ok (.d (.int (-i))) S
    | _ => .bad) := by rw [evE]; rfl
theorem e_cmp (o : Cop) (a b : E) : evE G C (.cmp o a b) l S = bnd (evE G C a l S) fun v S => bnd (evE G C b l S) fun w S => .of S ((opt2 (evCmp o) S v w).map fun k => .d (.bl k)) := by rw [evE]; rfl
def chK {α : Type} (r : Option Bool) (x y : RE α) : RE α := match r with
  | some true => x
  | some false => y
  | none => .bad
theorem chK_cg {α : Type} {k j : Option Bool} {x y : RE α} (h : k = j) : chK k x y = chK j x y := by rw [h]
theorem chK_t {α : Type} (x y : RE α) : chK (some true) x y = x := rfl
theorem chK_f {α : Type} (x y : RE α) : chK (some false) x y = y := rfl
theorem e_chn (o p : Cop) (a b c : E) : evE G C (.chn o p a b c) l S = bnd (evE G C a l S) fun v S => bnd (evE G C b l S) fun w S => chK (opt2 (evCmp o) S v w)
    (bnd (evE G C c l S) fun u S => .of S ((opt2 (evCmp p) S w u).map fun k => .d (.bl k))) (.ok (.d (.bl false)) S) := by rw [evE]; rfl
theorem e_and (es : Es) : evE G C (.and es) l S = evAnd G C es l S := by rw [evE]
theorem e_or (es : Es) : evE G C (.or es) l S = evOr G C es l S := by rw [evE]
theorem and_one (a : E) : evAnd G C (.cons a .nil) l S = evE G C a l S := by rw [evAnd]
theorem and_more (a b : E) (es : Es) : evAnd G C (.cons a (.cons b es)) l S = bnd (asd (evE G C a l S)) fun x S => (match x with
      | .bl k => cnd k (evAnd G C (.cons b es) l S) (.ok (.d (.bl false)) S)
      | _ => .bad) := by
  rw [evAnd]
  show (asd (evE G C a l S)).bind _ = _
  rcases asd (evE G C a l S) with ⟨x, S⟩ | _ | _
  · cases x <;> first
      | rfl
      | (rename_i k; cases k <;> rfl)
  · rfl
  · rfl
theorem or_one (a : E) : evOr G C (.cons a .nil) l S = evE G C a l S := by rw [evOr]
theorem or_more (a b : E) (es : Es) : evOr G C (.cons a (.cons b es)) l S = bnd (asd (evE G C a l S)) fun x S => (match x with
      | .bl k => cnd k (.ok (.d (.bl true)) S) (evOr G C (.cons b es) l S)
      | _ => .bad) := by
  rw [evOr]
  show (asd (evE G C a l S)).bind _ = _
  rcases asd (evE G C a l S) with ⟨x, S⟩ | _ | _
  · cases x <;> first
      | rfl
      | (rename_i k; cases k <;> rfl)
  · rfl
  · rfl
theorem e_not (a : E) : evE G C (.not a) l S = bnd (asd (evE G C a l S)) fun x S => .of S ((truD x).map fun k => .d (.bl (!k))) := by rw [evE]; rfl
theorem e_ite (t : T) (a b : E) : evE G C (.ite t a b) l S = bnd (evT G C t l S) fun k S => cnd k (evE G C a l S) (evE G C b l S) := by
  rw [evE]
  rcases evT G C t l S with ⟨k, S⟩ | _ | _
  · cases k <;> rfl
  · rfl
  · rfl
theorem e_call (keep : Bool) (f : Nat) (as : Es) : evE G C (.call keep f as) l S = bnd (evA G C as l S) fun ws S => callW C keep f ws S := by rw [evE]; rfl
def mkI (C : Cl) (keep : Bool) (c : Nat) (ws : List W) (S : Sto) : Option Nat → RE W
  | some f => mkW C keep c f ws S
  | none => .bad
theorem mkI_some (keep : Bool) (c f : Nat) (ws : List W) : mkI C keep c ws S (some f) = mkW C keep c f ws S := rfl
theorem e_mk (keep : Bool) (c : Nat) (as : Es) : evE G C (.mk keep c as) l S = bnd (evA G C as l S) fun ws S => mkI C keep c ws S (G.ini c) := by
  rw [evE]
  rcases evA G C as l S with ⟨ws, S⟩ | _ | _
  · show (match G.ini c with
      | some f => mkW C keep c f ws S
      | none => .bad) = mkI C keep c ws S (G.ini c)
    cases G.ini c <;> rfl
  · rfl
  · rfl
theorem e_mth (keep : Bool) (c f : Nat) (o : E) (as : Es) : evE G C (.mth keep c f o as) l S = bnd (evE G C o l S) fun v S => cnd (decide (clsOf S v = some c)) (bnd (evA G C as l S) fun ws S => callW C keep f (v :: ws) S) .bad := by
  rw [evE]
  rcases evE G C o l S with ⟨v, S⟩ | _ | _
  · show (if clsOf S v = some c then _ else _) = cnd (decide (clsOf S v = some c)) _ _
    by_cases h : clsOf S v = some c
    · rw [if_pos h, decide_eq_true h]; rfl
    · rw [if_neg h, decide_eq_false h]; rfl
  · rfl
  · rfl
theorem e_blt (b : Bi) (as : Es) : evE G C (.blt b as) l S = bnd (evA G C as l S) fun ws S => .of S (((looks S ws).bind (evBi b)).map .d) := by rw [evE]; rfl
theorem e_isi (a : E) (t : Ty) : evE G C (.isi a t) l S = bnd (asd (evE G C a l S)) fun x S => .of S ((isiD t x).map fun k => .d (.bl k)) := by rw [evE]; rfl
theorem e_bm (m : Me) (o : E) (as : Es) : evE G C (.bm m o as) l S = bnd (evE G C o l S) fun v S => cnd (rcv m S v) (bnd (evA G C as l S) fun ws S => evBm m S v ws) .bad := by
  rw [evE]
  rcases evE G C o l S with ⟨v, S⟩ | _ | _
  · show (if rcv m S v = true then _ else _) = cnd (rcv m S v) _ _
    cases rcv m S v <;> rfl
  · rfl
  · rfl
theorem e_repl (o : E) (c : Nat) (z : Tx) : evE G C (.repl o c z) l S = bnd (evE G C o l S) fun v S => .of S (((look1 S v).bind (evRepl c z)).map .d) := by rw [evE]; rfl
theorem e_fld (c k : Nat) (o : E) : evE G C (.fld c k o) l S = bnd (evE G C o l S) fun v S => evFld c k S v := by rw [evE]; rfl
theorem e_ix (a b : E) : evE G C (.ix a b) l S = bnd (evE G C a l S) fun v S => bnd (asd (evE G C b l S)) fun i S => evIx S v i := by rw [evE]; rfl
theorem e_sl (a : E) (lo hi : Oe) : evE G C (.sl a lo hi) l S = bnd (evE G C a l S) fun v S => bnd (evO G C lo l S) fun i S => bnd (evO G C hi l S) fun j S => .of S (((look1 S v).bind fun x => slD x i j).map .d) := by rw [evE]; rfl
theorem e_tup (as : Es) : evE G C (.tup as) l S = bnd (evA G C as l S) fun ws S => (match W.dats ws with
    | some ds => cnd (decide (ds.length ≤ sz)) (.ok (.d (.tup ds)) S) .bad
    | none => .bad) := by
  rw [evE]
  rcases evA G C as l S with ⟨ws, S⟩ | _ | _
  · show (match W.dats ws with
      | some ds => if ds.length ≤ sz then RE.ok (W.d (.tup ds)) S else .bad
      | none => .bad) = (match W.dats ws with
      | some ds => cnd (decide (ds.length ≤ sz)) (.ok (.d (.tup ds)) S) .bad
      | none => .bad)
    cases W.dats ws with
    | none => rfl
    | some ds =>
      show (if ds.length ≤ sz then _ else _) = _
      by_cases h : ds.length ≤ sz
      · rw [if_pos h]; dsimp only; rw [decide_eq_true h]; rfl
      · rw [if_neg h]; dsimp only; rw [decide_eq_false h]; rfl
  · rfl
  · rfl
def lstK (keep : Bool) (ws : List W) (S : Sto) : RE W := if ws.length ≤ sz then (if keep then .ok (.r S.length) (S ++ [.lst ws]) else match W.dats ws with
    | some ds => .ok (.d (.lst ds)) S
    | none => .bad) else .bad
theorem e_lst (keep : Bool) (as : Es) : evE G C (.lst keep as) l S = bnd (evA G C as l S) fun ws S => lstK keep ws S := by
  rw [evE]; rfl
def lcEnd (keep : Bool) (ys : List D) (S : Sto) : RE W := cnd keep (.ok (.r S.length) (S ++ [.lst (ys.map .d)])) (.ok (.d (.lst ys)) S)
theorem e_lc (keep : Bool) (own : List Nat) (g : Tg) (i : It) (t : Ot) (e : E) : evE G C (.lc keep own g i t e) l S = bnd (evI G C i l S) fun v S => bnd (evLcI (lcTurn (fun x => evG G C g x) (evOt G C t) (evE G C e) (wipeS l own)) v S) fun ys S => lcEnd keep ys S := by
  rw [evE]
  rcases evI G C i l S with ⟨v, S⟩ | _ | _
  · rw [bnd_ok]
    show (evLcI (lcTurn (fun x => evG G C g x) (evOt G C t) (evE G C e) (wipeS l own)) v S).bind _ = _
    rcases evLcI (lcTurn (fun x => evG G C g x) (evOt G C t) (evE G C e) (wipeS l own)) v S with ⟨v, S⟩ | _ | _
    · cases keep <;> rfl
    · rfl
    · rfl
  · rfl
  · rfl
theorem a_nil : evA G C .nil l S = .ok [] S := by rw [evA]
theorem a_cons (e : E) (es : Es) : evA G C (.cons e es) l S = bnd (evE G C e l S) fun w S => bnd (evA G C es l S) fun ws S => .ok (w :: ws) S := by rw [evA]; rfl
theorem o_none : evO G C .none l S = .ok none S := by rw [evO]
theorem o_some (e : E) : evO G C (.some e) l S = bnd (asd (evE G C e l S)) fun x S => (match x with
    | .int i => .ok (some i) S
    | _ => .bad) := by rw [evO]; rfl
theorem t_val (e : E) : evT G C (.val e) l S = bnd (asd (evE G C e l S)) fun x S => .of S (truD x) := by rw [evT]; rfl
theorem t_cmp (o : Cop) (a b : E) : evT G C (.cmp o a b) l S = bnd (evE G C a l S) fun v S => bnd (evE G C b l S) fun w S => .of S (opt2 (evCmp o) S v w) := by rw [evT]; rfl
theorem t_chn (o p : Cop) (a b c : E) : evT G C (.chn o p a b c) l S = bnd (evE G C a l S) fun v S => bnd (evE G C b l S) fun w S => chK (opt2 (evCmp o) S v w)
    (bnd (evE G C c l S) fun u S => .of S (opt2 (evCmp p) S w u)) (.ok false S) := by rw [evT]; rfl
theorem t_and (ts : Ts) : evT G C (.and ts) l S = evTand G C ts l S := by rw [evT]
theorem t_or (ts : Ts) : evT G C (.or ts) l S = evTor G C ts l S := by rw [evT]
theorem t_not (a : T) : evT G C (.not a) l S = bnd (evT G C a l S) fun k S => .ok (!k) S := by rw [evT]; rfl
theorem tand_nil : evTand G C .nil l S = .ok true S := by rw [evTand]
theorem tand_cons (a : T) (ts : Ts) : evTand G C (.cons a ts) l S = bnd (evT G C a l S) fun k S => cnd k (evTand G C ts l S) (.ok false S) := by
  rw [evTand]
  rcases evT G C a l S with ⟨k, S⟩ | _ | _
  · cases k <;> rfl
  · rfl
  · rfl
theorem tor_nil : evTor G C .nil l S = .ok false S := by rw [evTor]
theorem tor_cons (a : T) (ts : Ts) : evTor G C (.cons a ts) l S = bnd (evT G C a l S) fun k S => cnd k (.ok true S) (evTor G C ts l S) := by
  rw [evTor]
  rcases evT G C a l S with ⟨k, S⟩ | _ | _
  · cases k <;> rfl
  · rfl
  · rfl
theorem i_seq (e : E) : evI G C (.seq e) l S = bnd (evE G C e l S) fun w S => seqIv S w := by rw [evI]; rfl
def setL (i : Nat) (w : W) (l : Sl) (S : Sto) : RS := if i < l.length then .nx (l.set i (some w)) S else .bad
theorem g_nam (i : Nat) (w : W) : evG G C (.nam i) w l S = setL i w l S := by rw [evG]; rfl
theorem g_tup (gs : Tgs) (xs : List D) : evG G C (.tup gs) (.d (.tup xs)) l S = evGs G C gs xs l S := by rw [evG]
theorem gs_nil : evGs G C .nil [] l S = .nx l S := by rw [evGs]
theorem gs_cons (g : Tg) (gs : Tgs) (x : D) (xs : List D) : evGs G C (.cons g gs) (x :: xs) l S = sqs (evG G C g (.d x) l S) fun l S => evGs G C gs xs l S := by rw [evGs]; rfl
theorem s_expr (e : E) : evS G C (.expr e) l S = sts (evE G C e l S) l fun _ S => .nx l S := by rw [evS]; rfl
theorem s_asg (g : Tg) (e : E) : evS G C (.asg g e) l S = sts (evE G C e l S) l fun w S => evG G C g w l S := by rw [evS]; rfl
def setf (c k : Nat) (l : Sl) (S : Sto) (v w : W) : RS := match v with
    | .r n => (match S[n]? with
      | some (.ins c' xs) => if c' = c then (match putW k w xs with
        | some ys => .nx l (S.set n (.ins c ys))
        | none => .bad) else .bad
      | _ => .bad)
    | _ => .bad
theorem s_setf (c k : Nat) (o e : E) : evS G C (.setf c k o e) l S = sts (evE G C e l S) l fun w S => sts (evE G C o l S) l fun v S => setf c k l S v w := by rw [evS]; rfl
def augK (i : Nat) (o : Bop) (l : Sl) (x y : D) (S : Sto) : RS := match intOp o x y with
      | some z => .nx (l.set i (some (.d z))) S
      | none => .bad
def augL (i : Nat) (o : Bop) (l : Sl) (f : RE D) : Option (Option W) → RS
  | some (some (.d x)) => sts f l fun y S => augK i o l x y S
  | _ => .bad
theorem s_aug (i : Nat) (o : Bop) (e : E) : evS G C (.aug i o e) l S = augL i o l (asd (evE G C e l S)) l[i]? := by
  rw [evS]
  unfold augL
  rcases l[i]? with _ | _ | x
  · rfl
  · rfl
  · cases x <;> rfl
theorem augL_ok (i : Nat) (o : Bop) (x y : D) : augL i o l (.ok y S) (some (some (.d x))) = augK i o l x y S := rfl
theorem s_ret (e : E) : evS G C (.ret e) l S = sts (evE G C e l S) l fun w S => .ret w S := by rw [evS]; rfl
theorem s_retN : evS G C .retN l S = .ret (.d .non) S := by rw [evS]
theorem s_ite (t : T) (a b : Ss) : evS G C (.ite t a b) l S = sts (evT G C t l S) l fun k S => cnd k (evB G C a l S) (evB G C b l S) := by
  rw [evS]
  rcases evT G C t l S with ⟨k, S⟩ | _ | _
  · cases k <;> rfl
  · rfl
  · rfl
theorem s_whl (t : T) (b : Ss) : evS G C (.whl t b) l S = evWhile (evT G C t) (evB G C b) 100000 l S := by rw [evS]
theorem s_loop (g : Tg) (i : It) (b : Ss) : evS G C (.loop g i b) l S = sts (evI G C i l S) l fun v S => evForI (evG G C g) (evB G C b) v l S := by rw [evS]; rfl
theorem s_raise (c : Nat) : evS G C (.raise c) l S = .ex c l S := by rw [evS]
theorem b_nil : evB G C .nil l S = .nx l S := by rw [evB]
theorem b_cons (s : St) (ss : Ss) : evB G C (.cons s ss) l S = sqs (evS G C s l S) fun l S => evB G C ss l S := by rw [evB]; rfl
/-- the end of a def -/
def finW : RS → RE W
  | .nx _ S => .ok (.d .non) S
  | .ret w S => .ok w S
  | .ex c _ S => .ex c S
  | _ => .bad
theorem fin_nx : finW (.nx l S) = .ok (.d .non) S := rfl
theorem fin_ret (w : W) : finW (.ret w S) = .ok w S := rfl
theorem fin_ex (c : Nat) : finW (.ex c l S) = .ex c S := rfl
theorem run_fn {k f : Nat} {F : Fn} {ws : List W} (h : G.fn f = some F) (h1 : ws.length = F.np) (h2 : F.np ≤ F.ns) : run G (k + 1) f ws S = finW (evB G (run G k) F.body (ws.map some ++ List.replicate (F.ns - F.np) none) S) := by
  show (match G.fn f with
    | some F => if ws.length = F.np ∧ F.np ≤ F.ns then (match evB G (run G k) F.body (ws.map some ++ List.replicate (F.ns - F.np) none) S with
      | .nx _ S => RE.ok (W.d .non) S
      | .ret w S => .ok w S
      | .ex c _ S => .ex c S
      | _ => .bad) else .bad
    | none => .bad) = _
  rw [h]
  dsimp only
  rw [if_pos ⟨h1, h2⟩]
  rfl
/-! values -/
theorem o2 {α : Type} (f : D → D → Option α) (x y : D) : opt2 f S (.d x) (.d y) = f x y := rfl
theorem lk (x : D) : look1 S (.d x) = some x := rfl
theorem call_d {keep : Bool} {f : Nat} {ws : List W} {ds : List D} (h : W.dats ws = some ds) : callW C keep f ws S = leave keep S (C f ws []) := by
  unfold callW
  rw [h]
theorem leave_d {keep : Bool} (x : D) (S' : Sto) : leave keep S (.ok (.d x) S') = .ok (.d x) S := rfl
theorem leave_ex {keep : Bool} (c : Nat) (S' : Sto) : leave keep S (.ex c S') = .ex c S := rfl
theorem dats_nil : W.dats [] = some [] := rfl
theorem dats_cons (x : D) (t : List W) : W.dats (.d x :: t) = (W.dats t).map (x :: ·) := rfl
theorem fld_d (c k : Nat) (xs : List D) : evFld c k S (.d (.ins c xs)) = (match xs[k]? with
      | some x => .ok (.d x) S
      | none => .bad) := by
  show (if c = c then _ else _) = _
  rw [if_pos rfl] <;> rfl
theorem ix_d (x i : D) : evIx S (.d x) i = .of S ((ixD x i).map .d) := rfl
theorem infix_one (c : Nat) : ∀ t : Tx, infixT [c] t = t.contains c
  | [] => rfl
  | a :: r => by
    show ([c].isPrefixOf (a :: r) || infixT [c] r) = _
    rw [infix_one c r, List.contains_cons, List.isPrefixOf_cons₂]
    simp
end
end Kr
namespace Kr
def f_is_within : Fn := ⟨3, 3, (.cons (.ret (.and (.cons (.isi (.var 0) .int) (.cons (.not (.isi (.var 0) .bool)) (.cons (.chn .le .le (.var 1) (.var 0) (.var 2)) .nil)))))
  .nil)⟩
def f_is_make : Fn := ⟨1, 1, (.cons (.ite (.or (.cons (.not (.val (.isi (.var 0) .tuple))) (.cons (.cmp .ne (.blt .len (.cons (.var 0) .nil)) (.cst (.int 2))) (.cons (.not (.val (.isi (.ix (.var 0) (.cst (.int 0))) .str))) .nil))))
  (.cons (.ret (.cst (.bl false)))
  .nil)
  .nil)
  (.cons (.ret (.and (.cons (.cmp .isin (.ix (.var 0) (.cst (.int 0))) (.glb 0)) (.cons (.call false 0 (.cons (.ix (.var 0) (.cst (.int 1))) (.cons (.cst (.int 3)) (.cons (.cst (.int 8)) .nil)))) .nil))))
  .nil))⟩
def f_look : Fn := ⟨1, 1, (.cons (.ite (.not (.val (.call false 1 (.cons (.var 0) .nil))))
  (.cons (.raise 1)
  .nil)
  .nil)
  .nil)⟩
def f_is_key : Fn := ⟨1, 1, (.cons (.ret (.and (.cons (.isi (.var 0) .str) (.cons (.cmp .eq (.blt .len (.cons (.var 0) .nil)) (.cst (.int 1))) (.cons (.cmp .isin (.var 0) (.glb 1)) .nil)))))
  .nil)⟩
def f_is_row : Fn := ⟨1, 2, (.cons (.ret (.and (.cons (.isi (.var 0) .str) (.cons (.cmp .le (.blt .len (.cons (.var 0) .nil)) (.glb 2)) (.cons (.not (.lc false [1] (.nam 1) (.seq (.var 0)) (.some (.cmp .nin (.var 1) (.glb 1))) (.var 1))) .nil)))))
  .nil)⟩
def f_look_row : Fn := ⟨2, 2, (.cons (.expr (.call false 2 (.cons (.var 0) .nil)))
  (.cons (.ite (.not (.val (.call false 4 (.cons (.var 1) .nil))))
  (.cons (.raise 2)
  .nil)
  .nil)
  .nil))⟩
def f_tens : Fn := ⟨1, 1, (.cons (.ret (.blt .int (.cons (.bin .add (.cst (.str [49])) (.bin .mul (.cst (.str [48])) (.var 0))) .nil)))
  .nil)⟩
def f_cut_number : Fn := ⟨3, 6, (.cons (.ite (.cmp .lt (.var 1) (.cst (.int 0)))
  (.cons (.asg (.tup (.cons (.nam 0) (.cons (.nam 1) .nil))) (.tup (.cons (.neg (.var 0)) (.cons (.neg (.var 1)) .nil))))
  .nil)
  .nil)
  (.cons (.asg (.nam 3) (.bin .fdiv (.blt .abs (.cons (.var 0) .nil)) (.var 1)))
  (.cons (.ite (.cmp .ge (.var 3) (.call false 6 (.cons (.var 2) .nil)))
  (.cons (.ret (.cst .non))
  .nil)
  .nil)
  (.cons (.asg (.nam 4) (.bin .sub (.var 2) (.blt .len (.cons (.blt .str (.cons (.var 3) .nil)) .nil))))
  (.cons (.asg (.nam 5) (.bin .fdiv (.bin .mul (.blt .abs (.cons (.var 0) .nil)) (.call false 6 (.cons (.var 4) .nil))) (.var 1)))
  (.cons (.whl (.and (.cons (.cmp .gt (.var 4) (.cst (.int 0))) (.cons (.cmp .eq (.bin .mod (.var 5) (.cst (.int 10))) (.cst (.int 0))) .nil)))
  (.cons (.asg (.nam 5) (.bin .fdiv (.var 5) (.cst (.int 10))))
  (.cons (.aug 4 .sub (.cst (.int 1)))
  .nil)))
  (.cons (.ret (.tup (.cons (.ite (.cmp .ge (.var 0) (.cst (.int 0))) (.var 5) (.neg (.var 5))) (.cons (.var 4) .nil))))
  .nil)))))))⟩
def f_operation : Fn := ⟨4, 7, (.cons (.asg (.tup (.cons (.nam 4) (.cons (.nam 5) .nil))) (.tup (.cons (.bin .mul (.ix (.var 1) (.cst (.int 0))) (.call false 6 (.cons (.ix (.var 2) (.cst (.int 1))) .nil))) (.cons (.call false 6 (.cons (.bin .add (.ix (.var 1) (.cst (.int 1))) (.ix (.var 2) (.cst (.int 1)))) .nil)) .nil))))
  (.cons (.asg (.nam 6) (.bin .mul (.ix (.var 2) (.cst (.int 0))) (.call false 6 (.cons (.ix (.var 1) (.cst (.int 1))) .nil))))
  (.cons (.ite (.cmp .eq (.var 0) (.cst (.str [43])))
  (.cons (.ret (.call false 7 (.cons (.bin .add (.var 4) (.var 6)) (.cons (.var 5) (.cons (.var 3) .nil)))))
  .nil)
  .nil)
  (.cons (.ite (.cmp .eq (.var 0) (.cst (.str [45])))
  (.cons (.ret (.call false 7 (.cons (.bin .sub (.var 4) (.var 6)) (.cons (.var 5) (.cons (.var 3) .nil)))))
  .nil)
  .nil)
  (.cons (.ite (.cmp .eq (.var 0) (.cst (.str [42])))
  (.cons (.ret (.call false 7 (.cons (.bin .mul (.ix (.var 1) (.cst (.int 0))) (.ix (.var 2) (.cst (.int 0)))) (.cons (.var 5) (.cons (.var 3) .nil)))))
  .nil)
  .nil)
  (.cons (.ite (.cmp .eq (.ix (.var 2) (.cst (.int 0))) (.cst (.int 0)))
  (.cons (.ret (.cst .non))
  .nil)
  .nil)
  (.cons (.ret (.call false 7 (.cons (.var 4) (.cons (.var 6) (.cons (.var 3) .nil)))))
  .nil)))))))⟩
def f_hundredth : Fn := ⟨3, 3, (.cons (.ret (.call false 7 (.cons (.bin .mul (.ix (.var 0) (.cst (.int 0))) (.ix (.var 1) (.cst (.int 0)))) (.cons (.bin .mul (.cst (.int 100)) (.call false 6 (.cons (.bin .add (.ix (.var 0) (.cst (.int 1))) (.ix (.var 1) (.cst (.int 1)))) .nil))) (.cons (.var 2) .nil)))))
  .nil)⟩
def f_text_of : Fn := ⟨1, 3, (.cons (.asg (.nam 1) (.ite (.cmp .lt (.ix (.var 0) (.cst (.int 0))) (.cst (.int 0))) (.cst (.str [45])) (.cst (.str []))))
  (.cons (.asg (.nam 2) (.bm .rjust (.blt .str (.cons (.blt .abs (.cons (.ix (.var 0) (.cst (.int 0))) .nil)) .nil)) (.cons (.bin .add (.ix (.var 0) (.cst (.int 1))) (.cst (.int 1))) (.cons (.cst (.str [48])) .nil))))
  (.cons (.ite (.cmp .eq (.ix (.var 0) (.cst (.int 1))) (.cst (.int 0)))
  (.cons (.ret (.bin .add (.var 1) (.var 2)))
  .nil)
  .nil)
  (.cons (.ret (.bin .add (.bin .add (.bin .add (.var 1) (.sl (.var 2) .none (.some (.neg (.ix (.var 0) (.cst (.int 1))))))) (.cst (.str [46]))) (.sl (.var 2) (.some (.neg (.ix (.var 0) (.cst (.int 1))))) .none)))
  .nil))))⟩
def f_number_of : Fn := ⟨1, 4, (.cons (.asg (.nam 1) (.ite (.cmp .eq (.sl (.var 0) .none (.some (.cst (.int 1)))) (.cst (.str [45]))) (.neg (.cst (.int 1))) (.cst (.int 1))))
  (.cons (.asg (.nam 2) (.bm .split (.bm .strip (.var 0) (.cons (.cst (.str [45])) .nil)) (.cons (.cst (.str [46])) .nil)))
  (.cons (.asg (.nam 3) (.ite (.cmp .eq (.blt .len (.cons (.var 2) .nil)) (.cst (.int 2))) (.ix (.var 2) (.cst (.int 1))) (.cst (.str []))))
  (.cons (.asg (.nam 3) (.bm .rstrip (.var 3) (.cons (.cst (.str [48])) .nil)))
  (.cons (.ret (.tup (.cons (.bin .mul (.var 1) (.blt .int (.cons (.bin .add (.ix (.var 2) (.cst (.int 0))) (.var 3)) .nil))) (.cons (.blt .len (.cons (.var 3) .nil)) .nil))))
  .nil)))))⟩
def f_Stand_init : Fn := ⟨8, 8, (.cons (.setf 0 0 (.var 0) (.var 1))
  (.cons (.setf 0 1 (.var 0) (.var 2))
  (.cons (.setf 0 2 (.var 0) (.var 3))
  (.cons (.setf 0 3 (.var 0) (.var 4))
  (.cons (.setf 0 4 (.var 0) (.var 5))
  (.cons (.setf 0 5 (.var 0) (.var 6))
  (.cons (.setf 0 6 (.var 0) (.var 7))
  .nil)))))))⟩
def f_Stand_now : Fn := ⟨1, 1, (.cons (.ret (.ite (.cmp .is (.fld 0 0 (.var 0)) (.cst .non)) (.fld 0 1 (.var 0)) (.call false 11 (.cons (.fld 0 0 (.var 0)) .nil))))
  .nil)⟩
def f_Stand_shown : Fn := ⟨1, 1, (.cons (.ite (.cmp .eq (.fld 0 6 (.var 0)) (.cst (.str [102, 97, 117, 108, 116])))
  (.cons (.ret (.cst (.str [69])))
  .nil)
  .nil)
  (.cons (.ret (.ite (.cmp .is (.fld 0 0 (.var 0)) (.cst .non)) (.call false 10 (.cons (.fld 0 1 (.var 0)) .nil)) (.fld 0 0 (.var 0))))
  .nil))⟩
def f_first_stand : Fn := ⟨2, 2, (.cons (.ret (.mk false 0 (.cons (.cst .non) (.cons (.glb 3) (.cons (.cst (.bl false)) (.cons (.ite (.cmp .eq (.ix (.var 0) (.cst (.int 0))) (.cst (.str [112, 105, 108, 101]))) (.bin .mul (.tup (.cons (.glb 3) .nil)) (.cst (.int 3))) (.tup .nil)) (.cons (.cst .non) (.cons (.var 1) (.cons (.cst (.str [])) .nil)))))))))
  .nil)⟩
def f_at_fault : Fn := ⟨1, 1, (.cons (.ret (.mk false 0 (.cons (.cst .non) (.cons (.glb 3) (.cons (.cst (.bl false)) (.cons (.fld 0 3 (.var 0)) (.cons (.fld 0 4 (.var 0)) (.cons (.fld 0 5 (.var 0)) (.cons (.cst (.str [102, 97, 117, 108, 116])) .nil)))))))))
  .nil)⟩
def f_with_number : Fn := ⟨4, 4, (.cons (.ite (.cmp .is (.var 1) (.cst .non))
  (.cons (.ret (.call false 17 (.cons (.var 0) .nil)))
  .nil)
  .nil)
  (.cons (.ret (.mk false 0 (.cons (.cst .non) (.cons (.var 1) (.cons (.var 2) (.cons (.var 3) (.cons (.fld 0 4 (.var 0)) (.cons (.fld 0 5 (.var 0)) (.cons (.cst (.str [])) .nil)))))))))
  .nil))⟩
def f_with_typed : Fn := ⟨3, 3, (.cons (.ret (.mk false 0 (.cons (.var 1) (.cons (.glb 3) (.cons (.cst (.bl true)) (.cons (.var 2) (.cons (.fld 0 4 (.var 0)) (.cons (.fld 0 5 (.var 0)) (.cons (.cst (.str [])) .nil)))))))))
  .nil)⟩
def f_longer : Fn := ⟨3, 3, (.cons (.ite (.cmp .eq (.var 2) (.cst (.str [46])))
  (.cons (.ret (.ite (.cmp .isin (.cst (.str [46])) (.var 1)) (.var 1) (.bin .add (.var 1) (.var 2))))
  .nil)
  .nil)
  (.cons (.ite (.cmp .eq (.bm .strip (.var 1) (.cons (.cst (.str [45])) .nil)) (.cst (.str [48])))
  (.cons (.ret (.bin .add (.sl (.var 1) .none (.some (.neg (.cst (.int 1))))) (.var 2)))
  .nil)
  .nil)
  (.cons (.ret (.ite (.cmp .eq (.blt .len (.cons (.repl (.bm .strip (.var 1) (.cons (.cst (.str [45])) .nil)) 46 []) .nil)) (.ix (.var 0) (.cst (.int 1)))) (.var 1) (.bin .add (.var 1) (.var 2))))
  .nil)))⟩
def f_begun : Fn := ⟨1, 1, (.cons (.ret (.ite (.cmp .eq (.var 0) (.cst (.str [46]))) (.cst (.str [48, 46])) (.var 0)))
  .nil)⟩
def f_sign_turned : Fn := ⟨1, 2, (.cons (.ite (.cmp .isn (.fld 0 0 (.var 0)) (.cst .non))
  (.cons (.asg (.nam 1) (.ite (.cmp .eq (.sl (.fld 0 0 (.var 0)) .none (.some (.cst (.int 1)))) (.cst (.str [45]))) (.sl (.fld 0 0 (.var 0)) (.some (.cst (.int 1))) .none) (.bin .add (.cst (.str [45])) (.fld 0 0 (.var 0)))))
  (.cons (.ret (.call false 19 (.cons (.var 0) (.cons (.var 1) (.cons (.fld 0 3 (.var 0)) .nil)))))
  .nil))
  .nil)
  (.cons (.ret (.call false 18 (.cons (.var 0) (.cons (.tup (.cons (.neg (.ix (.fld 0 1 (.var 0)) (.cst (.int 0)))) (.cons (.ix (.fld 0 1 (.var 0)) (.cst (.int 1))) .nil))) (.cons (.fld 0 2 (.var 0)) (.cons (.fld 0 3 (.var 0)) .nil))))))
  .nil))⟩
def f_stored : Fn := ⟨2, 4, (.cons (.asg (.nam 2) (.call false 8 (.cons (.cst (.str [43])) (.cons (.fld 0 5 (.var 1)) (.cons (.mth false 0 13 (.var 1) .nil) (.cons (.ix (.var 0) (.cst (.int 1))) .nil))))))
  (.cons (.ite (.cmp .is (.var 2) (.cst .non))
  (.cons (.ret (.call false 17 (.cons (.var 1) .nil)))
  .nil)
  .nil)
  (.cons (.asg (.nam 3) (.or (.cons (.fld 0 2 (.var 1)) (.cons (.cmp .eq (.ix (.var 0) (.cst (.int 0))) (.cst (.str [112, 105, 108, 101]))) .nil))))
  (.cons (.ret (.mk false 0 (.cons (.cst .non) (.cons (.mth false 0 13 (.var 1) .nil) (.cons (.var 3) (.cons (.fld 0 3 (.var 1)) (.cons (.fld 0 4 (.var 1)) (.cons (.var 2) (.cons (.fld 0 6 (.var 1)) .nil)))))))))
  .nil))))⟩
def f_emptied : Fn := ⟨1, 1, (.cons (.ret (.mk false 0 (.cons (.fld 0 0 (.var 0)) (.cons (.fld 0 1 (.var 0)) (.cons (.fld 0 2 (.var 0)) (.cons (.fld 0 3 (.var 0)) (.cons (.fld 0 4 (.var 0)) (.cons (.glb 3) (.cons (.fld 0 6 (.var 0)) .nil)))))))))
  .nil)⟩
def f_part_of : Fn := ⟨3, 3, (.cons (.ret (.call false 9 (.cons (.ite (.cmp .is (.var 1) (.cst .non)) (.tup (.cons (.cst (.int 1)) (.cons (.cst (.int 0)) .nil))) (.var 1)) (.cons (.var 2) (.cons (.ix (.var 0) (.cst (.int 1))) .nil)))))
  .nil)⟩
def f_rank_of : Fn := ⟨2, 2, (.cons (.ret (.ite (.and (.cons (.cmp .eq (.ix (.var 0) (.cst (.int 0))) (.cst (.str [114, 97, 110, 107]))) (.cons (.cmp .isin (.var 1) (.cst (.str [42, 47]))) .nil))) (.cst (.int 2)) (.cst (.int 1))))
  .nil)⟩
def f_is_op : Fn := ⟨1, 1, (.cons (.ret (.and (.cons (.blt .bool (.cons (.fld 0 3 (.var 0)) .nil)) (.cons (.cmp .ne (.ix (.fld 0 3 (.var 0)) (.neg (.cst (.int 1)))) (.glb 4)) .nil))))
  .nil)⟩
def f_reduced : Fn := ⟨4, 4, (.cons (.whl (.and (.cons (.val (.var 1)) (.cons (.cmp .ne (.ix (.var 1) (.neg (.cst (.int 1)))) (.glb 4)) (.cons (.cmp .isn (.var 2) (.cst .non)) (.cons (.cmp .ge (.call false 26 (.cons (.var 0) (.cons (.ix (.ix (.var 1) (.neg (.cst (.int 1)))) (.cst (.int 1))) .nil))) (.var 3)) .nil)))))
  (.cons (.asg (.nam 2) (.call false 8 (.cons (.ix (.ix (.var 1) (.neg (.cst (.int 1)))) (.cst (.int 1))) (.cons (.ix (.ix (.var 1) (.neg (.cst (.int 1)))) (.cst (.int 0))) (.cons (.var 2) (.cons (.ix (.var 0) (.cst (.int 1))) .nil))))))
  (.cons (.asg (.nam 1) (.sl (.var 1) .none (.some (.neg (.cst (.int 1))))))
  .nil)))
  (.cons (.ret (.tup (.cons (.var 1) (.cons (.var 2) .nil))))
  .nil))⟩
def f_operated : Fn := ⟨3, 5, (.cons (.asg (.tup (.cons (.nam 3) (.cons (.nam 4) .nil))) (.tup (.cons (.mth false 0 13 (.var 1) .nil) (.cons (.fld 0 3 (.var 1)) .nil))))
  (.cons (.ite (.and (.cons (.not (.val (.fld 0 2 (.var 1)))) (.cons (.val (.call false 27 (.cons (.var 1) .nil))) .nil)))
  (.cons (.asg (.tup (.cons (.nam 3) (.cons (.nam 4) .nil))) (.tup (.cons (.ix (.ix (.var 4) (.neg (.cst (.int 1)))) (.cst (.int 0))) (.cons (.sl (.var 4) .none (.some (.neg (.cst (.int 1))))) .nil))))
  .nil)
  .nil)
  (.cons (.asg (.tup (.cons (.nam 4) (.cons (.nam 3) .nil))) (.call false 28 (.cons (.var 0) (.cons (.var 4) (.cons (.var 3) (.cons (.call false 26 (.cons (.var 0) (.cons (.var 2) .nil))) .nil))))))
  (.cons (.ite (.cmp .is (.var 3) (.cst .non))
  (.cons (.ret (.call false 17 (.cons (.var 1) .nil)))
  .nil)
  .nil)
  (.cons (.ret (.call false 18 (.cons (.var 1) (.cons (.var 3) (.cons (.cst (.bl false)) (.cons (.bin .add (.var 4) (.tup (.cons (.tup (.cons (.var 3) (.cons (.var 2) .nil))) .nil))) .nil))))))
  .nil)))))⟩
def f_equalled : Fn := ⟨2, 7, (.cons (.asg (.tup (.cons (.nam 2) (.cons (.nam 3) (.cons (.nam 4) .nil)))) (.tup (.cons (.mth false 0 13 (.var 1) .nil) (.cons (.fld 0 3 (.var 1)) (.cons (.fld 0 4 (.var 1)) .nil)))))
  (.cons (.asg (.nam 5) (.lc false [6] (.nam 6) (.seq (.var 3)) (.some (.cmp .ne (.var 6) (.glb 4))) (.var 6)))
  (.cons (.ite (.val (.var 5))
  (.cons (.asg (.nam 4) (.tup (.cons (.ix (.ix (.var 5) (.neg (.cst (.int 1)))) (.cst (.int 1))) (.cons (.var 2) .nil))))
  .nil)
  (.cons (.ite (.cmp .isn (.var 4) (.cst .non))
  (.cons (.asg (.nam 2) (.call false 8 (.cons (.ix (.var 4) (.cst (.int 0))) (.cons (.var 2) (.cons (.ix (.var 4) (.cst (.int 1))) (.cons (.ix (.var 0) (.cst (.int 1))) .nil))))))
  .nil)
  .nil)
  .nil))
  (.cons (.whl (.and (.cons (.val (.var 3)) (.cons (.cmp .isn (.var 2) (.cst .non)) .nil)))
  (.cons (.asg (.tup (.cons (.nam 3) (.cons (.nam 2) .nil))) (.call false 28 (.cons (.var 0) (.cons (.var 3) (.cons (.var 2) (.cons (.cst (.int 1)) .nil))))))
  (.cons (.ite (.and (.cons (.val (.var 3)) (.cons (.cmp .isn (.var 2) (.cst .non)) .nil)))
  (.cons (.asg (.nam 3) (.sl (.var 3) .none (.some (.neg (.cst (.int 1))))))
  .nil)
  .nil)
  .nil)))
  (.cons (.ite (.cmp .is (.var 2) (.cst .non))
  (.cons (.ret (.call false 17 (.cons (.var 1) .nil)))
  .nil)
  .nil)
  (.cons (.ret (.mk false 0 (.cons (.cst .non) (.cons (.var 2) (.cons (.cst (.bl true)) (.cons (.tup .nil) (.cons (.var 4) (.cons (.fld 0 5 (.var 1)) (.cons (.cst (.str [101, 110, 100, 101, 100])) .nil)))))))))
  .nil))))))⟩
def f_opened : Fn := ⟨1, 1, (.cons (.ite (.cmp .eq (.fld 0 6 (.var 0)) (.cst (.str [101, 110, 100, 101, 100])))
  (.cons (.ret (.call false 18 (.cons (.var 0) (.cons (.glb 3) (.cons (.cst (.bl false)) (.cons (.tup (.cons (.glb 4) .nil)) .nil))))))
  .nil)
  .nil)
  (.cons (.ite (.or (.cons (.val (.fld 0 2 (.var 0))) (.cons (.cmp .eq (.bm .count (.fld 0 3 (.var 0)) (.cons (.glb 4) .nil)) (.glb 5)) .nil)))
  (.cons (.ret (.var 0))
  .nil)
  .nil)
  (.cons (.ret (.call false 18 (.cons (.var 0) (.cons (.glb 3) (.cons (.cst (.bl false)) (.cons (.bin .add (.fld 0 3 (.var 0)) (.tup (.cons (.glb 4) .nil))) .nil))))))
  .nil)))⟩
def f_closed : Fn := ⟨2, 4, (.cons (.ite (.cmp .nin (.glb 4) (.fld 0 3 (.var 1)))
  (.cons (.ret (.var 1))
  .nil)
  .nil)
  (.cons (.asg (.tup (.cons (.nam 2) (.cons (.nam 3) .nil))) (.call false 28 (.cons (.var 0) (.cons (.fld 0 3 (.var 1)) (.cons (.mth false 0 13 (.var 1) .nil) (.cons (.cst (.int 1)) .nil))))))
  (.cons (.ret (.call false 18 (.cons (.var 1) (.cons (.var 3) (.cons (.cst (.bl true)) (.cons (.sl (.var 2) .none (.some (.neg (.cst (.int 1))))) .nil))))))
  .nil)))⟩
def f_percent : Fn := ⟨2, 3, (.cons (.asg (.nam 2) (.cst .non))
  (.cons (.ite (.and (.cons (.val (.call false 27 (.cons (.var 1) .nil))) (.cons (.cmp .isin (.ix (.ix (.fld 0 3 (.var 1)) (.neg (.cst (.int 1)))) (.cst (.int 1))) (.cst (.str [43, 45]))) .nil)))
  (.cons (.asg (.nam 2) (.ix (.ix (.fld 0 3 (.var 1)) (.neg (.cst (.int 1)))) (.cst (.int 0))))
  .nil)
  .nil)
  (.cons (.ret (.call false 18 (.cons (.var 1) (.cons (.call false 25 (.cons (.var 0) (.cons (.var 2) (.cons (.mth false 0 13 (.var 1) .nil) .nil)))) (.cons (.cst (.bl true)) (.cons (.fld 0 3 (.var 1)) .nil))))))
  .nil)))⟩
def f_ordered : Fn := ⟨3, 5, (.cons (.ite (.cmp .isin (.var 2) (.cst (.str [48, 49, 50, 51, 52, 53, 54, 55, 56, 57, 46])))
  (.cons (.asg (.nam 3) (.ite (.cmp .is (.fld 0 0 (.var 1)) (.cst .non)) (.call false 21 (.cons (.var 2) .nil)) (.call false 20 (.cons (.var 0) (.cons (.fld 0 0 (.var 1)) (.cons (.var 2) .nil))))))
  (.cons (.ret (.call false 19 (.cons (.var 1) (.cons (.var 3) (.cons (.fld 0 3 (.var 1)) .nil)))))
  .nil))
  .nil)
  (.cons (.ite (.cmp .isin (.var 2) (.cst (.str [43, 45, 42, 47])))
  (.cons (.ret (.call false 29 (.cons (.var 0) (.cons (.var 1) (.cons (.var 2) .nil)))))
  .nil)
  .nil)
  (.cons (.ite (.cmp .eq (.var 2) (.cst (.str [61])))
  (.cons (.ret (.call false 30 (.cons (.var 0) (.cons (.var 1) .nil))))
  .nil)
  .nil)
  (.cons (.ite (.cmp .eq (.var 2) (.cst (.str [78])))
  (.cons (.asg (.nam 4) (.call false 22 (.cons (.var 1) .nil)))
  (.cons (.ret (.ite (.cmp .is (.fld 0 0 (.var 4)) (.cst .non)) (.call false 18 (.cons (.var 4) (.cons (.fld 0 1 (.var 4)) (.cons (.cst (.bl true)) (.cons (.fld 0 3 (.var 4)) .nil))))) (.var 4)))
  .nil))
  .nil)
  (.cons (.ite (.cmp .eq (.var 2) (.cst (.str [66])))
  (.cons (.ret (.call false 18 (.cons (.var 1) (.cons (.glb 3) (.cons (.cst (.bl false)) (.cons (.fld 0 3 (.var 1)) .nil))))))
  .nil)
  .nil)
  (.cons (.ite (.cmp .eq (.var 2) (.cst (.str [80])))
  (.cons (.ret (.call false 33 (.cons (.var 0) (.cons (.var 1) .nil))))
  .nil)
  .nil)
  (.cons (.ite (.cmp .eq (.var 2) (.cst (.str [82])))
  (.cons (.ret (.call false 18 (.cons (.var 1) (.cons (.fld 0 5 (.var 1)) (.cons (.cst (.bl true)) (.cons (.fld 0 3 (.var 1)) .nil))))))
  .nil)
  .nil)
  (.cons (.ite (.and (.cons (.cmp .eq (.ix (.var 0) (.cst (.int 0))) (.cst (.str [114, 97, 110, 107]))) (.cons (.cmp .eq (.var 2) (.cst (.str [40]))) .nil)))
  (.cons (.ret (.call false 31 (.cons (.var 1) .nil)))
  .nil)
  .nil)
  (.cons (.ite (.and (.cons (.cmp .eq (.ix (.var 0) (.cst (.int 0))) (.cst (.str [114, 97, 110, 107]))) (.cons (.cmp .eq (.var 2) (.cst (.str [41]))) .nil)))
  (.cons (.ret (.call false 32 (.cons (.var 0) (.cons (.var 1) .nil))))
  .nil)
  .nil)
  (.cons (.ret (.var 1))
  .nil))))))))))⟩
def f_lifted : Fn := ⟨1, 1, (.cons (.ret (.bin .add (.tup (.cons (.mth false 0 13 (.var 0) .nil) .nil)) (.sl (.fld 0 3 (.var 0)) .none (.some (.cst (.int 2))))))
  .nil)⟩
def f_typed_on : Fn := ⟨3, 3, (.cons (.ite (.cmp .isn (.fld 0 0 (.var 1)) (.cst .non))
  (.cons (.ret (.call false 19 (.cons (.var 1) (.cons (.call false 20 (.cons (.var 0) (.cons (.fld 0 0 (.var 1)) (.cons (.var 2) .nil)))) (.cons (.fld 0 3 (.var 1)) .nil)))))
  .nil)
  .nil)
  (.cons (.ret (.call false 19 (.cons (.var 1) (.cons (.call false 21 (.cons (.var 2) .nil)) (.cons (.ite (.val (.fld 0 2 (.var 1))) (.call false 35 (.cons (.var 1) .nil)) (.fld 0 3 (.var 1))) .nil)))))
  .nil))⟩
def f_recalled : Fn := ⟨1, 2, (.cons (.asg (.nam 1) (.ite (.or (.cons (.val (.fld 0 2 (.var 0))) (.cons (.cmp .isn (.fld 0 0 (.var 0)) (.cst .non)) .nil))) (.call false 35 (.cons (.var 0) .nil)) (.fld 0 3 (.var 0))))
  (.cons (.ret (.call false 18 (.cons (.var 0) (.cons (.fld 0 5 (.var 0)) (.cons (.cst (.bl true)) (.cons (.var 1) .nil))))))
  .nil))⟩
def f_piled : Fn := ⟨3, 6, (.cons (.asg (.tup (.cons (.nam 3) (.cons (.nam 4) (.cons (.nam 5) .nil)))) (.fld 0 3 (.var 1)))
  (.cons (.ite (.cmp .isin (.var 2) (.cst (.str [48, 49, 50, 51, 52, 53, 54, 55, 56, 57, 46])))
  (.cons (.ret (.call false 36 (.cons (.var 0) (.cons (.var 1) (.cons (.var 2) .nil)))))
  .nil)
  .nil)
  (.cons (.ite (.cmp .isin (.var 2) (.cst (.str [43, 45, 42, 47])))
  (.cons (.ret (.call false 18 (.cons (.var 1) (.cons (.call false 8 (.cons (.var 2) (.cons (.var 3) (.cons (.mth false 0 13 (.var 1) .nil) (.cons (.ix (.var 0) (.cst (.int 1))) .nil))))) (.cons (.cst (.bl true)) (.cons (.tup (.cons (.var 4) (.cons (.var 5) (.cons (.var 5) .nil)))) .nil))))))
  .nil)
  .nil)
  (.cons (.ite (.cmp .eq (.var 2) (.cst (.str [69])))
  (.cons (.ret (.call false 18 (.cons (.var 1) (.cons (.mth false 0 13 (.var 1) .nil) (.cons (.cst (.bl false)) (.cons (.call false 35 (.cons (.var 1) .nil)) .nil))))))
  .nil)
  .nil)
  (.cons (.ite (.cmp .eq (.var 2) (.cst (.str [88])))
  (.cons (.ret (.call false 18 (.cons (.var 1) (.cons (.var 3) (.cons (.cst (.bl true)) (.cons (.tup (.cons (.mth false 0 13 (.var 1) .nil) (.cons (.var 4) (.cons (.var 5) .nil)))) .nil))))))
  .nil)
  .nil)
  (.cons (.ite (.cmp .eq (.var 2) (.cst (.str [68])))
  (.cons (.ret (.call false 18 (.cons (.var 1) (.cons (.var 3) (.cons (.cst (.bl true)) (.cons (.tup (.cons (.var 4) (.cons (.var 5) (.cons (.mth false 0 13 (.var 1) .nil) .nil)))) .nil))))))
  .nil)
  .nil)
  (.cons (.ite (.cmp .eq (.var 2) (.cst (.str [78])))
  (.cons (.ret (.call false 22 (.cons (.var 1) .nil)))
  .nil)
  .nil)
  (.cons (.ite (.cmp .eq (.var 2) (.cst (.str [66])))
  (.cons (.ret (.call false 18 (.cons (.var 1) (.cons (.glb 3) (.cons (.cst (.bl false)) (.cons (.fld 0 3 (.var 1)) .nil))))))
  .nil)
  .nil)
  (.cons (.ite (.cmp .eq (.var 2) (.cst (.str [80])))
  (.cons (.ret (.call false 18 (.cons (.var 1) (.cons (.call false 25 (.cons (.var 0) (.cons (.var 3) (.cons (.mth false 0 13 (.var 1) .nil) .nil)))) (.cons (.cst (.bl true)) (.cons (.fld 0 3 (.var 1)) .nil))))))
  .nil)
  .nil)
  (.cons (.ret (.ite (.cmp .eq (.var 2) (.cst (.str [82]))) (.call false 37 (.cons (.var 1) .nil)) (.var 1)))
  .nil))))))))))⟩
def f_stand_behind : Fn := ⟨3, 3, (.cons (.ite (.cmp .eq (.var 2) (.cst (.str [67])))
  (.cons (.ret (.call false 16 (.cons (.var 0) (.cons (.fld 0 5 (.var 1)) .nil))))
  .nil)
  .nil)
  (.cons (.ite (.cmp .eq (.fld 0 6 (.var 1)) (.cst (.str [102, 97, 117, 108, 116])))
  (.cons (.ret (.var 1))
  .nil)
  .nil)
  (.cons (.ite (.cmp .eq (.var 2) (.cst (.str [77])))
  (.cons (.ret (.call false 23 (.cons (.var 0) (.cons (.var 1) .nil))))
  .nil)
  .nil)
  (.cons (.ite (.cmp .eq (.var 2) (.cst (.str [90])))
  (.cons (.ret (.call false 24 (.cons (.var 1) .nil)))
  .nil)
  .nil)
  (.cons (.ite (.cmp .eq (.ix (.var 0) (.cst (.int 0))) (.cst (.str [112, 105, 108, 101])))
  (.cons (.ret (.call false 38 (.cons (.var 0) (.cons (.var 1) (.cons (.var 2) .nil)))))
  .nil)
  .nil)
  (.cons (.ret (.call false 34 (.cons (.var 0) (.cons (.var 1) (.cons (.var 2) .nil)))))
  .nil))))))⟩
def f_Reckoner_init : Fn := ⟨2, 2, (.cons (.expr (.call false 2 (.cons (.var 1) .nil)))
  (.cons (.setf 1 0 (.var 0) (.var 1))
  (.cons (.setf 1 1 (.var 0) (.call false 16 (.cons (.var 1) (.cons (.glb 3) .nil))))
  .nil)))⟩
def f_Reckoner_press : Fn := ⟨2, 2, (.cons (.ite (.not (.val (.call false 3 (.cons (.var 1) .nil))))
  (.cons (.raise 2)
  .nil)
  .nil)
  (.cons (.setf 1 1 (.var 0) (.call false 39 (.cons (.fld 1 0 (.var 0)) (.cons (.fld 1 1 (.var 0)) (.cons (.var 1) .nil)))))
  (.cons (.ret (.mth false 0 14 (.fld 1 1 (.var 0)) .nil))
  .nil)))⟩
def f_Reckoner_shown : Fn := ⟨1, 1, (.cons (.ret (.mth false 0 14 (.fld 1 1 (.var 0)) .nil))
  .nil)⟩
def f_Reckoner_memory : Fn := ⟨1, 1, (.cons (.ret (.call false 10 (.cons (.fld 0 5 (.fld 1 1 (.var 0))) .nil)))
  .nil)⟩
def f_Reckoner_waiting : Fn := ⟨1, 3, (.cons (.ite (.cmp .eq (.ix (.fld 1 0 (.var 0)) (.cst (.int 0))) (.cst (.str [112, 105, 108, 101])))
  (.cons (.ret (.lc false [1] (.nam 1) (.seq (.fld 0 3 (.fld 1 1 (.var 0)))) .none (.call false 10 (.cons (.var 1) .nil))))
  .nil)
  .nil)
  (.cons (.ret (.lc false [2] (.nam 2) (.seq (.fld 0 3 (.fld 1 1 (.var 0)))) .none (.ite (.cmp .eq (.var 2) (.glb 4)) (.cst (.str [40])) (.bin .add (.call false 10 (.cons (.ix (.var 2) (.cst (.int 0))) .nil)) (.ix (.var 2) (.cst (.int 1)))))))
  .nil))⟩
def f_played : Fn := ⟨2, 5, (.cons (.expr (.call false 5 (.cons (.var 0) (.cons (.var 1) .nil))))
  (.cons (.asg (.nam 2) (.call false 16 (.cons (.var 0) (.cons (.glb 3) .nil))))
  (.cons (.asg (.nam 3) (.lst true .nil))
  (.cons (.loop (.nam 4) (.seq (.var 1))
  (.cons (.asg (.nam 2) (.call false 39 (.cons (.var 0) (.cons (.var 2) (.cons (.var 4) .nil)))))
  (.cons (.expr (.bm .append (.var 3) (.cons (.mth false 0 14 (.var 2) .nil) .nil)))
  .nil)))
  (.cons (.ret (.var 3))
  .nil)))))⟩
def f__law_cell : Fn := ⟨2, 2, (.cons (.ite (.cmp .lt (.var 1) (.blt .len (.cons (.var 0) .nil)))
  (.cons (.ret (.ix (.var 0) (.var 1)))
  .nil)
  .nil)
  (.cons (.ret (.cst (.int 0)))
  .nil))⟩
def f__law_mix : Fn := ⟨3, 3, (.cons (.ret (.bin .mod (.bin .mod (.bin .pow (.bin .mod (.bin .mul (.var 0) (.cst (.int 48271))) (.var 1)) (.cst (.int 3))) (.var 1)) (.var 2)))
  .nil)⟩
def f__law_seed : Fn := ⟨2, 2, (.cons (.ret (.bin .mod (.bin .pow (.bin .mod (.bin .add (.bin .add (.bin .mul (.var 0) (.cst (.int 1103515245))) (.bin .mul (.cst (.int 7919)) (.var 1))) (.cst (.int 12345))) (.cst (.int 2147483647))) (.cst (.int 5))) (.cst (.int 2147483647))))
  .nil)⟩
def f__law_pick : Fn := ⟨2, 2, (.cons (.ret (.bin .mod (.bin .fdiv (.var 0) (.cst (.int 97))) (.var 1)))
  .nil)⟩
def f__law_make : Fn := ⟨1, 1, (.cons (.ret (.tup (.cons (.ix (.lst false (.cons (.cst (.str [99, 104, 97, 105, 110])) (.cons (.cst (.str [114, 97, 110, 107])) (.cons (.cst (.str [112, 105, 108, 101])) .nil)))) (.bin .mod (.var 0) (.cst (.int 3)))) (.cons (.bin .add (.cst (.int 3)) (.bin .mod (.bin .fdiv (.var 0) (.cst (.int 3))) (.cst (.int 6)))) .nil))))
  .nil)⟩
def f__law_fraction : Fn := ⟨1, 3, (.cons (.asg (.nam 1) (.repl (.var 0) 46 []))
  (.cons (.asg (.nam 2) (.ite (.cmp .isin (.cst (.str [46])) (.var 0)) (.blt .int (.cons (.bin .add (.cst (.str [49])) (.bin .mul (.cst (.str [48])) (.bin .sub (.bin .sub (.blt .len (.cons (.var 0) .nil)) (.bm .index (.var 0) (.cons (.cst (.str [46])) .nil))) (.cst (.int 1))))) .nil)) (.cst (.int 1))))
  (.cons (.ret (.tup (.cons (.blt .int (.cons (.var 1) .nil)) (.cons (.var 2) .nil))))
  .nil)))⟩
def f__law_cut : Fn := ⟨3, 9, (.cons (.asg (.nam 3) (.ite (.cmp .ne (.cmp .lt (.var 0) (.cst (.int 0))) (.cmp .lt (.var 1) (.cst (.int 0)))) (.cst (.str [45])) (.cst (.str []))))
  (.cons (.asg (.tup (.cons (.nam 4) (.cons (.nam 5) .nil))) (.tup (.cons (.bin .fdiv (.blt .abs (.cons (.var 0) .nil)) (.blt .abs (.cons (.var 1) .nil))) (.cons (.bin .mod (.blt .abs (.cons (.var 0) .nil)) (.blt .abs (.cons (.var 1) .nil))) .nil))))
  (.cons (.asg (.nam 6) (.blt .str (.cons (.var 4) .nil)))
  (.cons (.ite (.cmp .gt (.blt .len (.cons (.var 6) .nil)) (.var 2))
  (.cons (.ret (.cst .non))
  .nil)
  .nil)
  (.cons (.asg (.nam 7) (.cst (.str [])))
  (.cons (.whl (.cmp .lt (.blt .len (.cons (.bin .add (.var 6) (.var 7)) .nil)) (.var 2))
  (.cons (.asg (.nam 7) (.bin .add (.var 7) (.blt .str (.cons (.bin .fdiv (.bin .mul (.var 5) (.cst (.int 10))) (.blt .abs (.cons (.var 1) .nil))) .nil))))
  (.cons (.asg (.nam 5) (.bin .mod (.bin .mul (.var 5) (.cst (.int 10))) (.blt .abs (.cons (.var 1) .nil))))
  .nil)))
  (.cons (.asg (.nam 7) (.bm .rstrip (.var 7) (.cons (.cst (.str [48])) .nil)))
  (.cons (.asg (.nam 8) (.ite (.cmp .ne (.var 7) (.cst (.str []))) (.bin .add (.bin .add (.var 6) (.cst (.str [46]))) (.var 7)) (.var 6)))
  (.cons (.ret (.ite (.cmp .eq (.var 8) (.cst (.str [48]))) (.var 8) (.bin .add (.var 3) (.var 8))))
  .nil)))))))))⟩
def f__law_operate : Fn := ⟨4, 8, (.cons (.asg (.tup (.cons (.tup (.cons (.nam 4) (.cons (.nam 5) .nil))) (.cons (.tup (.cons (.nam 6) (.cons (.nam 7) .nil))) .nil))) (.tup (.cons (.call false 122 (.cons (.var 1) .nil)) (.cons (.call false 122 (.cons (.var 2) .nil)) .nil))))
  (.cons (.ite (.cmp .eq (.var 0) (.cst (.str [47])))
  (.cons (.ret (.ite (.cmp .eq (.var 6) (.cst (.int 0))) (.cst .non) (.call false 123 (.cons (.bin .mul (.var 4) (.var 7)) (.cons (.bin .mul (.var 5) (.var 6)) (.cons (.var 3) .nil))))))
  .nil)
  .nil)
  (.cons (.ite (.cmp .eq (.var 0) (.cst (.str [42])))
  (.cons (.ret (.call false 123 (.cons (.bin .mul (.var 4) (.var 6)) (.cons (.bin .mul (.var 5) (.var 7)) (.cons (.var 3) .nil)))))
  .nil)
  .nil)
  (.cons (.ret (.call false 123 (.cons (.ite (.cmp .eq (.var 0) (.cst (.str [43]))) (.bin .add (.bin .mul (.var 4) (.var 7)) (.bin .mul (.var 6) (.var 5))) (.bin .sub (.bin .mul (.var 4) (.var 7)) (.bin .mul (.var 6) (.var 5)))) (.cons (.bin .mul (.var 5) (.var 7)) (.cons (.var 3) .nil)))))
  .nil))))⟩
def f__law_start : Fn := ⟨2, 3, (.cons (.asg (.nam 2) (.dct [[116, 121, 112, 101, 100], [110, 117, 109, 98, 101, 114], [103, 105, 118, 101, 110], [119, 97, 105, 116], [108, 97, 115, 116], [109, 101, 109, 111, 114, 121], [119, 111, 114, 100]] (.cons (.cst .non) (.cons (.cst (.str [48])) (.cons (.cst (.bl false)) (.cons (.lst true .nil) (.cons (.cst .non) (.cons (.var 1) (.cons (.cst (.str [])) .nil)))))))))
  (.cons (.asg (.sub (.var 2) (.cst (.str [112, 105, 108, 101]))) (.lst false (.cons (.cst (.str [48])) (.cons (.cst (.str [48])) (.cons (.cst (.str [48])) .nil)))))
  (.cons (.asg (.sub (.var 2) (.cst (.str [109, 97, 107, 101]))) (.var 0))
  (.cons (.ret (.var 2))
  .nil))))⟩
def f__law_now : Fn := ⟨1, 3, (.cons (.ite (.cmp .is (.ix (.var 0) (.cst (.str [116, 121, 112, 101, 100]))) (.cst .non))
  (.cons (.ret (.ix (.var 0) (.cst (.str [110, 117, 109, 98, 101, 114]))))
  .nil)
  .nil)
  (.cons (.asg (.tup (.cons (.nam 1) (.cons (.nam 2) .nil))) (.call false 122 (.cons (.ite (.cmp .eq (.sl (.ix (.var 0) (.cst (.str [116, 121, 112, 101, 100]))) (.some (.neg (.cst (.int 1)))) .none) (.cst (.str [46]))) (.bm .rstrip (.ix (.var 0) (.cst (.str [116, 121, 112, 101, 100]))) (.cons (.cst (.str [46])) .nil)) (.ix (.var 0) (.cst (.str [116, 121, 112, 101, 100])))) .nil)))
  (.cons (.ret (.call false 123 (.cons (.var 1) (.cons (.var 2) (.cons (.cst (.int 9)) .nil)))))
  .nil)))⟩
def f__law_shown : Fn := ⟨1, 1, (.cons (.ite (.cmp .eq (.ix (.var 0) (.cst (.str [119, 111, 114, 100]))) (.cst (.str [102, 97, 117, 108, 116])))
  (.cons (.ret (.cst (.str [69])))
  .nil)
  .nil)
  (.cons (.ret (.ite (.cmp .is (.ix (.var 0) (.cst (.str [116, 121, 112, 101, 100]))) (.cst .non)) (.ix (.var 0) (.cst (.str [110, 117, 109, 98, 101, 114]))) (.ix (.var 0) (.cst (.str [116, 121, 112, 101, 100])))))
  .nil))⟩
def f__law_put : Fn := ⟨3, 3, (.cons (.asg (.sub (.var 0) (.cst (.str [116, 121, 112, 101, 100]))) (.cst .non))
  (.cons (.ite (.cmp .is (.var 1) (.cst .non))
  (.cons (.asg (.tup (.cons (.sub (.var 0) (.cst (.str [110, 117, 109, 98, 101, 114]))) (.cons (.sub (.var 0) (.cst (.str [119, 111, 114, 100]))) .nil))) (.tup (.cons (.cst (.str [48])) (.cons (.cst (.str [102, 97, 117, 108, 116])) .nil))))
  (.cons (.ret (.cst (.bl false)))
  .nil))
  .nil)
  (.cons (.asg (.tup (.cons (.sub (.var 0) (.cst (.str [110, 117, 109, 98, 101, 114]))) (.cons (.sub (.var 0) (.cst (.str [103, 105, 118, 101, 110]))) (.cons (.sub (.var 0) (.cst (.str [119, 111, 114, 100]))) .nil)))) (.tup (.cons (.var 1) (.cons (.var 2) (.cons (.cst (.str [])) .nil)))))
  (.cons (.ret (.cst (.bl true)))
  .nil))))⟩
def f__law_type : Fn := ⟨2, 5, (.cons (.asg (.tup (.cons (.nam 2) (.cons (.nam 3) .nil))) (.tup (.cons (.ix (.var 0) (.cst (.str [116, 121, 112, 101, 100]))) (.cons (.ix (.ix (.var 0) (.cst (.str [109, 97, 107, 101]))) (.cst (.int 1))) .nil))))
  (.cons (.ite (.cmp .is (.var 2) (.cst .non))
  (.cons (.ite (.and (.cons (.cmp .eq (.ix (.ix (.var 0) (.cst (.str [109, 97, 107, 101]))) (.cst (.int 0))) (.cst (.str [112, 105, 108, 101]))) (.cons (.val (.ix (.var 0) (.cst (.str [103, 105, 118, 101, 110])))) .nil)))
  (.cons (.asg (.sub (.var 0) (.cst (.str [112, 105, 108, 101]))) (.bin .add (.lst false (.cons (.ix (.var 0) (.cst (.str [110, 117, 109, 98, 101, 114]))) .nil)) (.sl (.ix (.var 0) (.cst (.str [112, 105, 108, 101]))) .none (.some (.cst (.int 2))))))
  .nil)
  .nil)
  (.cons (.asg (.sub (.var 0) (.cst (.str [116, 121, 112, 101, 100]))) (.ite (.cmp .eq (.var 1) (.cst (.str [46]))) (.cst (.str [48, 46])) (.var 1)))
  .nil))
  (.cons (.ite (.cmp .eq (.var 1) (.cst (.str [46])))
  (.cons (.asg (.sub (.var 0) (.cst (.str [116, 121, 112, 101, 100]))) (.bin .add (.var 2) (.bin .mul (.var 1) (.blt .int (.cons (.cmp .nin (.cst (.str [46])) (.var 2)) .nil)))))
  .nil)
  (.cons (.ite (.cmp .isin (.var 2) (.tup (.cons (.cst (.str [48])) (.cons (.cst (.str [45, 48])) .nil))))
  (.cons (.asg (.sub (.var 0) (.cst (.str [116, 121, 112, 101, 100]))) (.bin .add (.sl (.var 2) .none (.some (.neg (.cst (.int 1))))) (.var 1)))
  .nil)
  (.cons (.ite (.cmp .lt (.blt .len (.cons (.lc false [4] (.nam 4) (.seq (.var 2)) (.some (.cmp .isin (.var 4) (.cst (.str [48, 49, 50, 51, 52, 53, 54, 55, 56, 57])))) (.var 4)) .nil)) (.var 3))
  (.cons (.asg (.sub (.var 0) (.cst (.str [116, 121, 112, 101, 100]))) (.bin .add (.var 2) (.var 1)))
  .nil)
  .nil)
  .nil))
  .nil))
  .nil))
  (.cons (.asg (.tup (.cons (.sub (.var 0) (.cst (.str [103, 105, 118, 101, 110]))) (.cons (.sub (.var 0) (.cst (.str [119, 111, 114, 100]))) .nil))) (.tup (.cons (.cst (.bl true)) (.cons (.cst (.str [])) .nil))))
  .nil)))⟩
def f__law_ranks : Fn := ⟨2, 2, (.cons (.ret (.ite (.and (.cons (.cmp .eq (.ix (.var 0) (.cst (.int 0))) (.cst (.str [114, 97, 110, 107]))) (.cons (.cmp .isin (.var 1) (.tup (.cons (.cst (.str [42])) (.cons (.cst (.str [47])) .nil)))) .nil))) (.cst (.int 2)) (.cst (.int 1))))
  .nil)⟩
def f__law_back : Fn := ⟨4, 4, (.cons (.whl (.and (.cons (.cmp .ne (.var 1) (.lst false .nil)) (.cons (.cmp .ne (.ix (.var 1) (.neg (.cst (.int 1)))) (.cst (.str [40]))) (.cons (.cmp .isn (.var 2) (.cst .non)) (.cons (.cmp .ge (.call false 130 (.cons (.ix (.var 0) (.cst (.str [109, 97, 107, 101]))) (.cons (.ix (.ix (.var 1) (.neg (.cst (.int 1)))) (.cst (.int 1))) .nil))) (.var 3)) .nil)))))
  (.cons (.asg (.nam 2) (.call false 124 (.cons (.ix (.ix (.var 1) (.neg (.cst (.int 1)))) (.cst (.int 1))) (.cons (.ix (.ix (.var 1) (.neg (.cst (.int 1)))) (.cst (.int 0))) (.cons (.var 2) (.cons (.ix (.ix (.var 0) (.cst (.str [109, 97, 107, 101]))) (.cst (.int 1))) .nil))))))
  (.cons (.asg (.nam 1) (.sl (.var 1) .none (.some (.neg (.cst (.int 1))))))
  .nil)))
  (.cons (.ret (.tup (.cons (.var 1) (.cons (.var 2) .nil))))
  .nil))⟩
def f__law_order : Fn := ⟨2, 11, (.cons (.asg (.tup (.cons (.nam 2) (.cons (.nam 3) (.cons (.nam 4) .nil)))) (.tup (.cons (.call false 126 (.cons (.var 0) .nil)) (.cons (.ix (.var 0) (.cst (.str [119, 97, 105, 116]))) (.cons (.ix (.ix (.var 0) (.cst (.str [109, 97, 107, 101]))) (.cst (.int 1))) .nil)))))
  (.cons (.asg (.nam 5) (.and (.cons (.cmp .ne (.var 3) (.lst false .nil)) (.cons (.cmp .ne (.ix (.var 3) (.neg (.cst (.int 1)))) (.cst (.str [40]))) .nil))))
  (.cons (.ite (.cmp .isin (.var 1) (.cst (.str [43, 45, 42, 47])))
  (.cons (.ite (.and (.cons (.val (.var 5)) (.cons (.not (.val (.ix (.var 0) (.cst (.str [103, 105, 118, 101, 110]))))) .nil)))
  (.cons (.asg (.tup (.cons (.nam 2) (.cons (.nam 3) .nil))) (.tup (.cons (.ix (.ix (.var 3) (.neg (.cst (.int 1)))) (.cst (.int 0))) (.cons (.sl (.var 3) .none (.some (.neg (.cst (.int 1))))) .nil))))
  .nil)
  .nil)
  (.cons (.asg (.tup (.cons (.nam 3) (.cons (.nam 2) .nil))) (.call false 131 (.cons (.var 0) (.cons (.var 3) (.cons (.var 2) (.cons (.call false 130 (.cons (.ix (.var 0) (.cst (.str [109, 97, 107, 101]))) (.cons (.var 1) .nil))) .nil))))))
  (.cons (.ite (.val (.call false 128 (.cons (.var 0) (.cons (.var 2) (.cons (.cst (.bl false)) .nil)))))
  (.cons (.asg (.sub (.var 0) (.cst (.str [119, 97, 105, 116]))) (.bin .add (.var 3) (.lst false (.cons (.tup (.cons (.var 2) (.cons (.var 1) .nil))) .nil))))
  .nil)
  .nil)
  .nil)))
  (.cons (.ite (.cmp .eq (.var 1) (.cst (.str [61])))
  (.cons (.expr (.call false 133 (.cons (.var 0) (.cons (.var 2) .nil))))
  .nil)
  (.cons (.ite (.cmp .eq (.var 1) (.cst (.str [80])))
  (.cons (.asg (.nam 6) (.ite (.and (.cons (.val (.var 5)) (.cons (.cmp .isin (.ix (.ix (.var 3) (.neg (.cst (.int 1)))) (.cst (.int 1))) (.cst (.str [43, 45]))) .nil))) (.ix (.ix (.var 3) (.neg (.cst (.int 1)))) (.cst (.int 0))) (.cst (.str [49]))))
  (.cons (.asg (.tup (.cons (.tup (.cons (.nam 7) (.cons (.nam 8) .nil))) (.cons (.tup (.cons (.nam 9) (.cons (.nam 10) .nil))) .nil))) (.tup (.cons (.call false 122 (.cons (.var 6) .nil)) (.cons (.call false 122 (.cons (.var 2) .nil)) .nil))))
  (.cons (.expr (.call false 128 (.cons (.var 0) (.cons (.call false 123 (.cons (.bin .mul (.var 7) (.var 9)) (.cons (.bin .mul (.bin .mul (.var 8) (.var 10)) (.cst (.int 100))) (.cons (.var 4) .nil)))) (.cons (.cst (.bl true)) .nil)))))
  .nil)))
  (.cons (.ite (.and (.cons (.cmp .eq (.ix (.ix (.var 0) (.cst (.str [109, 97, 107, 101]))) (.cst (.int 0))) (.cst (.str [114, 97, 110, 107]))) (.cons (.cmp .eq (.var 1) (.cst (.str [40]))) .nil)))
  (.cons (.ite (.cmp .eq (.ix (.var 0) (.cst (.str [119, 111, 114, 100]))) (.cst (.str [101, 110, 100, 101, 100])))
  (.cons (.asg (.sub (.var 0) (.cst (.str [103, 105, 118, 101, 110]))) (.cst (.bl false)))
  .nil)
  .nil)
  (.cons (.ite (.and (.cons (.not (.val (.ix (.var 0) (.cst (.str [103, 105, 118, 101, 110]))))) (.cons (.cmp .lt (.bm .count (.var 3) (.cons (.cst (.str [40])) .nil)) (.cst (.int 4))) .nil)))
  (.cons (.expr (.call false 128 (.cons (.var 0) (.cons (.cst (.str [48])) (.cons (.cst (.bl false)) .nil)))))
  (.cons (.asg (.sub (.var 0) (.cst (.str [119, 97, 105, 116]))) (.bin .add (.var 3) (.lst false (.cons (.cst (.str [40])) .nil))))
  .nil))
  .nil)
  .nil))
  (.cons (.ite (.and (.cons (.cmp .eq (.ix (.ix (.var 0) (.cst (.str [109, 97, 107, 101]))) (.cst (.int 0))) (.cst (.str [114, 97, 110, 107]))) (.cons (.cmp .eq (.var 1) (.cst (.str [41]))) (.cons (.cmp .isin (.cst (.str [40])) (.var 3)) .nil))))
  (.cons (.asg (.tup (.cons (.nam 3) (.cons (.nam 2) .nil))) (.call false 131 (.cons (.var 0) (.cons (.var 3) (.cons (.var 2) (.cons (.cst (.int 1)) .nil))))))
  (.cons (.ite (.val (.call false 128 (.cons (.var 0) (.cons (.var 2) (.cons (.cst (.bl true)) .nil)))))
  (.cons (.asg (.sub (.var 0) (.cst (.str [119, 97, 105, 116]))) (.sl (.var 3) .none (.some (.neg (.cst (.int 1))))))
  .nil)
  .nil)
  .nil))
  .nil)
  .nil))
  .nil))
  .nil))
  .nil))
  .nil)))⟩
def f__law_end : Fn := ⟨2, 7, (.cons (.asg (.nam 2) (.lc false [6] (.nam 6) (.seq (.ix (.var 0) (.cst (.str [119, 97, 105, 116])))) (.some (.cmp .ne (.var 6) (.cst (.str [40])))) (.var 6)))
  (.cons (.asg (.nam 3) (.ix (.var 0) (.cst (.str [108, 97, 115, 116]))))
  (.cons (.ite (.cmp .ne (.var 2) (.lst false .nil))
  (.cons (.asg (.nam 3) (.tup (.cons (.ix (.ix (.var 2) (.neg (.cst (.int 1)))) (.cst (.int 1))) (.cons (.var 1) .nil))))
  .nil)
  (.cons (.ite (.cmp .isn (.var 3) (.cst .non))
  (.cons (.asg (.nam 1) (.call false 124 (.cons (.ix (.var 3) (.cst (.int 0))) (.cons (.var 1) (.cons (.ix (.var 3) (.cst (.int 1))) (.cons (.ix (.ix (.var 0) (.cst (.str [109, 97, 107, 101]))) (.cst (.int 1))) .nil))))))
  .nil)
  .nil)
  .nil))
  (.cons (.loop (.tup (.cons (.nam 4) (.cons (.nam 5) .nil))) (.seq (.rev (.var 2)))
  (.cons (.asg (.nam 1) (.ite (.cmp .is (.var 1) (.cst .non)) (.cst .non) (.call false 124 (.cons (.var 5) (.cons (.var 4) (.cons (.var 1) (.cons (.ix (.ix (.var 0) (.cst (.str [109, 97, 107, 101]))) (.cst (.int 1))) .nil)))))))
  .nil))
  (.cons (.ite (.val (.call false 128 (.cons (.var 0) (.cons (.var 1) (.cons (.cst (.bl true)) .nil)))))
  (.cons (.asg (.tup (.cons (.sub (.var 0) (.cst (.str [119, 97, 105, 116]))) (.cons (.sub (.var 0) (.cst (.str [108, 97, 115, 116]))) (.cons (.sub (.var 0) (.cst (.str [119, 111, 114, 100]))) .nil)))) (.tup (.cons (.lst false .nil) (.cons (.var 3) (.cons (.cst (.str [101, 110, 100, 101, 100])) .nil)))))
  .nil)
  .nil)
  .nil)))))⟩
def f__law_pile : Fn := ⟨2, 9, (.cons (.asg (.tup (.cons (.nam 2) (.cons (.nam 3) (.cons (.nam 4) .nil)))) (.tup (.cons (.call false 126 (.cons (.var 0) .nil)) (.cons (.ix (.var 0) (.cst (.str [112, 105, 108, 101]))) (.cons (.ix (.ix (.var 0) (.cst (.str [109, 97, 107, 101]))) (.cst (.int 1))) .nil)))))
  (.cons (.ite (.cmp .isin (.var 1) (.cst (.str [43, 45, 42, 47])))
  (.cons (.ite (.val (.call false 128 (.cons (.var 0) (.cons (.call false 124 (.cons (.var 1) (.cons (.ix (.var 3) (.cst (.int 0))) (.cons (.var 2) (.cons (.var 4) .nil))))) (.cons (.cst (.bl true)) .nil)))))
  (.cons (.asg (.sub (.var 0) (.cst (.str [112, 105, 108, 101]))) (.lst false (.cons (.ix (.var 3) (.cst (.int 1))) (.cons (.ix (.var 3) (.cst (.int 2))) (.cons (.ix (.var 3) (.cst (.int 2))) .nil)))))
  .nil)
  .nil)
  .nil)
  (.cons (.ite (.cmp .eq (.var 1) (.cst (.str [69])))
  (.cons (.asg (.sub (.var 0) (.cst (.str [112, 105, 108, 101]))) (.bin .add (.lst false (.cons (.var 2) .nil)) (.sl (.var 3) .none (.some (.cst (.int 2))))))
  (.cons (.expr (.call false 128 (.cons (.var 0) (.cons (.var 2) (.cons (.cst (.bl false)) .nil)))))
  .nil))
  (.cons (.ite (.cmp .isin (.var 1) (.cst (.str [88, 68])))
  (.cons (.asg (.sub (.var 0) (.cst (.str [112, 105, 108, 101]))) (.ite (.cmp .eq (.var 1) (.cst (.str [88]))) (.lst false (.cons (.var 2) (.cons (.ix (.var 3) (.cst (.int 1))) (.cons (.ix (.var 3) (.cst (.int 2))) .nil)))) (.lst false (.cons (.ix (.var 3) (.cst (.int 1))) (.cons (.ix (.var 3) (.cst (.int 2))) (.cons (.var 2) .nil))))))
  (.cons (.expr (.call false 128 (.cons (.var 0) (.cons (.ix (.var 3) (.cst (.int 0))) (.cons (.cst (.bl true)) .nil)))))
  .nil))
  (.cons (.ite (.cmp .eq (.var 1) (.cst (.str [80])))
  (.cons (.asg (.tup (.cons (.tup (.cons (.nam 5) (.cons (.nam 6) .nil))) (.cons (.tup (.cons (.nam 7) (.cons (.nam 8) .nil))) .nil))) (.tup (.cons (.call false 122 (.cons (.ix (.var 3) (.cst (.int 0))) .nil)) (.cons (.call false 122 (.cons (.var 2) .nil)) .nil))))
  (.cons (.expr (.call false 128 (.cons (.var 0) (.cons (.call false 123 (.cons (.bin .mul (.var 5) (.var 7)) (.cons (.bin .mul (.bin .mul (.var 6) (.var 8)) (.cst (.int 100))) (.cons (.var 4) .nil)))) (.cons (.cst (.bl true)) .nil)))))
  .nil))
  .nil)
  .nil))
  .nil))
  .nil))
  .nil))⟩
def f__law_key : Fn := ⟨2, 9, (.cons (.ite (.cmp .eq (.var 1) (.cst (.str [67])))
  (.cons (.expr (.bm .update (.var 0) (.cons (.call false 125 (.cons (.ix (.var 0) (.cst (.str [109, 97, 107, 101]))) (.cons (.ix (.var 0) (.cst (.str [109, 101, 109, 111, 114, 121]))) .nil))) .nil)))
  .nil)
  (.cons (.ite (.cmp .ne (.ix (.var 0) (.cst (.str [119, 111, 114, 100]))) (.cst (.str [102, 97, 117, 108, 116])))
  (.cons (.asg (.tup (.cons (.nam 2) (.cons (.nam 3) .nil))) (.tup (.cons (.call false 126 (.cons (.var 0) .nil)) (.cons (.cmp .eq (.ix (.ix (.var 0) (.cst (.str [109, 97, 107, 101]))) (.cst (.int 0))) (.cst (.str [112, 105, 108, 101]))) .nil))))
  (.cons (.ite (.cmp .isin (.var 1) (.cst (.str [48, 49, 50, 51, 52, 53, 54, 55, 56, 57, 46])))
  (.cons (.expr (.call false 129 (.cons (.var 0) (.cons (.var 1) .nil))))
  .nil)
  (.cons (.ite (.cmp .eq (.var 1) (.cst (.str [77])))
  (.cons (.asg (.nam 4) (.call false 124 (.cons (.cst (.str [43])) (.cons (.ix (.var 0) (.cst (.str [109, 101, 109, 111, 114, 121]))) (.cons (.var 2) (.cons (.ix (.ix (.var 0) (.cst (.str [109, 97, 107, 101]))) (.cst (.int 1))) .nil))))))
  (.cons (.asg (.nam 5) (.ix (.var 0) (.cst (.str [119, 111, 114, 100]))))
  (.cons (.ite (.val (.call false 128 (.cons (.var 0) (.cons (.ite (.cmp .is (.var 4) (.cst .non)) (.cst .non) (.var 2)) (.cons (.or (.cons (.ix (.var 0) (.cst (.str [103, 105, 118, 101, 110]))) (.cons (.var 3) .nil))) .nil)))))
  (.cons (.asg (.tup (.cons (.sub (.var 0) (.cst (.str [109, 101, 109, 111, 114, 121]))) (.cons (.sub (.var 0) (.cst (.str [119, 111, 114, 100]))) .nil))) (.tup (.cons (.var 4) (.cons (.var 5) .nil))))
  .nil)
  .nil)
  .nil)))
  (.cons (.ite (.cmp .eq (.var 1) (.cst (.str [90])))
  (.cons (.asg (.sub (.var 0) (.cst (.str [109, 101, 109, 111, 114, 121]))) (.cst (.str [48])))
  .nil)
  (.cons (.ite (.and (.cons (.cmp .eq (.var 1) (.cst (.str [78]))) (.cons (.cmp .isn (.ix (.var 0) (.cst (.str [116, 121, 112, 101, 100]))) (.cst .non)) .nil)))
  (.cons (.asg (.nam 6) (.ix (.var 0) (.cst (.str [116, 121, 112, 101, 100]))))
  (.cons (.asg (.sub (.var 0) (.cst (.str [116, 121, 112, 101, 100]))) (.ite (.cmp .eq (.sl (.var 6) .none (.some (.cst (.int 1)))) (.cst (.str [45]))) (.sl (.var 6) (.some (.cst (.int 1))) .none) (.bin .add (.cst (.str [45])) (.var 6))))
  .nil))
  (.cons (.ite (.cmp .eq (.var 1) (.cst (.str [78])))
  (.cons (.asg (.tup (.cons (.nam 7) (.cons (.nam 8) .nil))) (.call false 122 (.cons (.var 2) .nil)))
  (.cons (.expr (.call false 128 (.cons (.var 0) (.cons (.call false 123 (.cons (.neg (.var 7)) (.cons (.var 8) (.cons (.cst (.int 9)) .nil)))) (.cons (.or (.cons (.ix (.var 0) (.cst (.str [103, 105, 118, 101, 110]))) (.cons (.not (.var 3)) .nil))) .nil)))))
  .nil))
  (.cons (.ite (.cmp .eq (.var 1) (.cst (.str [66])))
  (.cons (.expr (.call false 128 (.cons (.var 0) (.cons (.cst (.str [48])) (.cons (.cst (.bl false)) .nil)))))
  .nil)
  (.cons (.ite (.cmp .eq (.var 1) (.cst (.str [82])))
  (.cons (.ite (.and (.cons (.val (.var 3)) (.cons (.val (.ix (.var 0) (.cst (.str [103, 105, 118, 101, 110])))) .nil)))
  (.cons (.asg (.sub (.var 0) (.cst (.str [112, 105, 108, 101]))) (.bin .add (.lst false (.cons (.var 2) .nil)) (.sl (.ix (.var 0) (.cst (.str [112, 105, 108, 101]))) .none (.some (.cst (.int 2))))))
  .nil)
  .nil)
  (.cons (.expr (.call false 128 (.cons (.var 0) (.cons (.ix (.var 0) (.cst (.str [109, 101, 109, 111, 114, 121]))) (.cons (.cst (.bl true)) .nil)))))
  .nil))
  (.cons (.ite (.val (.var 3))
  (.cons (.expr (.call false 134 (.cons (.var 0) (.cons (.var 1) .nil))))
  .nil)
  (.cons (.expr (.call false 132 (.cons (.var 0) (.cons (.var 1) .nil))))
  .nil))
  .nil))
  .nil))
  .nil))
  .nil))
  .nil))
  .nil))
  .nil))
  .nil))
  .nil)
  .nil))
  (.cons (.ret (.call false 127 (.cons (.var 0) .nil)))
  .nil))⟩
def f__law_row : Fn := ⟨2, 5, (.cons (.asg (.nam 2) (.lst false (.cons (.cst (.str [48, 49, 50, 51, 52, 53, 54, 55, 56, 57, 46, 43, 45, 42, 47, 61, 40, 41, 78, 66, 67, 80, 77, 82, 90, 69, 88, 68])) (.cons (.cst (.str [49, 50, 51, 52, 53, 46, 43, 45, 42, 47, 61, 40, 41])) (.cons (.cst (.str [48, 49, 50, 51, 52, 53, 54, 55, 56, 57, 46, 46, 46, 46, 46, 43, 45, 42, 47, 61, 61, 61, 61, 80, 78, 82])) (.cons (.cst (.str [49, 50, 51, 46, 69, 69, 69, 43, 45, 42, 47, 88, 68, 82, 66, 78, 80])) .nil))))))
  (.cons (.asg (.nam 3) (.ix (.var 2) (.bin .mod (.bin .fdiv (.var 0) (.cst (.int 5))) (.cst (.int 4)))))
  (.cons (.ret (.bm .join (.cst (.str [])) (.cons (.lc false [4] (.nam 4) (.rng1 (.var 1)) .none (.ix (.var 3) (.call false 120 (.cons (.call false 119 (.cons (.var 0) (.cons (.var 4) .nil))) (.cons (.blt .len (.cons (.var 3) .nil)) .nil))))) .nil)))
  .nil)))⟩
def f_Stand_told : Fn := ⟨1, 1, (.cons (.ret (.tup (.cons (.fld 0 0 (.var 0)) (.cons (.fld 0 1 (.var 0)) (.cons (.fld 0 2 (.var 0)) (.cons (.fld 0 3 (.var 0)) (.cons (.fld 0 4 (.var 0)) (.cons (.fld 0 5 (.var 0)) (.cons (.fld 0 6 (.var 0)) .nil)))))))))
  .nil)⟩
def f__law_typed : Fn := ⟨2, 4, (.cons (.asg (.nam 2) (.cst (.str [])))
  (.cons (.loop (.nam 3) (.seq (.bm .strip (.var 0) (.cons (.cst (.str [78])) .nil)))
  (.cons (.ite (.cmp .eq (.var 2) (.cst (.str [])))
  (.cons (.asg (.nam 2) (.ite (.cmp .eq (.var 3) (.cst (.str [46]))) (.cst (.str [48, 46])) (.var 3)))
  .nil)
  (.cons (.ite (.cmp .eq (.var 3) (.cst (.str [46])))
  (.cons (.asg (.nam 2) (.bin .add (.var 2) (.bin .mul (.var 3) (.blt .int (.cons (.cmp .nin (.cst (.str [46])) (.var 2)) .nil)))))
  .nil)
  (.cons (.ite (.cmp .eq (.var 2) (.cst (.str [48])))
  (.cons (.asg (.nam 2) (.var 3))
  .nil)
  (.cons (.ite (.cmp .lt (.blt .len (.cons (.repl (.var 2) 46 []) .nil)) (.var 1))
  (.cons (.asg (.nam 2) (.bin .add (.var 2) (.var 3)))
  .nil)
  .nil)
  .nil))
  .nil))
  .nil))
  .nil))
  (.cons (.asg (.nam 2) (.ite (.cmp .eq (.sl (.var 2) (.some (.neg (.cst (.int 1)))) .none) (.cst (.str [46]))) (.sl (.var 2) .none (.some (.neg (.cst (.int 1))))) (.var 2)))
  (.cons (.ret (.ite (.cmp .eq (.sl (.var 0) (.some (.neg (.cst (.int 1)))) .none) (.cst (.str [78]))) (.bin .add (.cst (.str [45])) (.var 2)) (.var 2)))
  .nil))))⟩
def f__law_sum : Fn := ⟨3, 6, (.cons (.ite (.or (.cons (.cmp .eq (.var 1) (.cst (.int 1))) (.cons (.cmp .eq (.bin .mod (.bin .fdiv (.var 0) (.cst (.int 5))) (.cst (.int 7))) (.cst (.int 0))) .nil)))
  (.cons (.asg (.nam 3) (.sl (.blt .str (.cons (.bin .mod (.bin .fdiv (.var 0) (.cst (.int 7))) (.ix (.lst false (.cons (.cst (.int 10)) (.cons (.cst (.int 100)) (.cons (.cst (.int 1000)) (.cons (.cst (.int 100000000)) .nil))))) (.bin .mod (.bin .fdiv (.var 0) (.cst (.int 11))) (.cst (.int 4))))) .nil)) .none (.some (.var 2))))
  (.cons (.ite (.and (.cons (.cmp .eq (.bin .mod (.bin .fdiv (.var 0) (.cst (.int 13))) (.cst (.int 3))) (.cst (.int 0))) (.cons (.cmp .lt (.blt .len (.cons (.var 3) .nil)) (.var 2)) .nil)))
  (.cons (.asg (.nam 3) (.bin .add (.bin .add (.var 3) (.cst (.str [46]))) (.blt .str (.cons (.bin .mod (.bin .fdiv (.var 0) (.cst (.int 17))) (.ix (.lst false (.cons (.cst (.int 10)) (.cons (.cst (.int 100)) .nil))) (.blt .int (.cons (.cmp .gt (.bin .sub (.var 2) (.blt .len (.cons (.var 3) .nil))) (.cst (.int 1))) .nil)))) .nil))))
  .nil)
  .nil)
  (.cons (.ret (.tup (.cons (.cst (.str [110, 117, 109])) (.cons (.var 3) .nil))))
  .nil)))
  .nil)
  (.cons (.asg (.nam 4) (.call false 140 (.cons (.call false 119 (.cons (.var 0) (.cons (.cst (.int 1)) .nil))) (.cons (.ix (.lst false (.cons (.cst (.int 1)) (.cons (.bin .sub (.var 1) (.cst (.int 1))) (.cons (.bin .sub (.var 1) (.cst (.int 1))) .nil)))) (.bin .mod (.bin .fdiv (.var 0) (.cst (.int 23))) (.cst (.int 3)))) (.cons (.var 2) .nil)))))
  (.cons (.asg (.nam 5) (.call false 140 (.cons (.call false 119 (.cons (.var 0) (.cons (.cst (.int 2)) .nil))) (.cons (.ix (.lst false (.cons (.bin .sub (.var 1) (.cst (.int 1))) (.cons (.bin .sub (.var 1) (.cst (.int 1))) (.cons (.cst (.int 1)) .nil)))) (.bin .mod (.bin .fdiv (.var 0) (.cst (.int 23))) (.cst (.int 3)))) (.cons (.var 2) .nil)))))
  (.cons (.ret (.tup (.cons (.ix (.cst (.str [43, 45, 42, 47])) (.bin .mod (.bin .fdiv (.var 0) (.cst (.int 19))) (.cst (.int 4)))) (.cons (.var 4) (.cons (.var 5) .nil)))))
  .nil))))⟩
def f__law_worth : Fn := ⟨2, 6, (.cons (.ite (.cmp .eq (.ix (.var 0) (.cst (.int 0))) (.cst (.str [110, 117, 109])))
  (.cons (.asg (.tup (.cons (.nam 2) (.cons (.nam 3) .nil))) (.call false 122 (.cons (.ix (.var 0) (.cst (.int 1))) .nil)))
  (.cons (.ret (.call false 123 (.cons (.var 2) (.cons (.var 3) (.cons (.cst (.int 9)) .nil)))))
  .nil))
  .nil)
  (.cons (.asg (.tup (.cons (.nam 4) (.cons (.nam 5) .nil))) (.tup (.cons (.call false 141 (.cons (.ix (.var 0) (.cst (.int 1))) (.cons (.var 1) .nil))) (.cons (.call false 141 (.cons (.ix (.var 0) (.cst (.int 2))) (.cons (.var 1) .nil))) .nil))))
  (.cons (.ret (.ite (.or (.cons (.cmp .is (.var 4) (.cst .non)) (.cons (.cmp .is (.var 5) (.cst .non)) .nil))) (.cst .non) (.call false 124 (.cons (.ix (.var 0) (.cst (.int 0))) (.cons (.var 4) (.cons (.var 5) (.cons (.var 1) .nil)))))))
  .nil)))⟩
def f__law_parts : Fn := ⟨1, 1, (.cons (.ret (.ite (.cmp .eq (.ix (.var 0) (.cst (.int 0))) (.cst (.str [110, 117, 109]))) (.cst (.int 1)) (.bin .add (.bin .add (.cst (.int 1)) (.call false 143 (.cons (.ix (.var 0) (.cst (.int 1))) .nil))) (.call false 143 (.cons (.ix (.var 0) (.cst (.int 2))) .nil)))))
  .nil)⟩
def f__law_around : Fn := ⟨2, 7, (.cons (.ite (.cmp .eq (.ix (.var 0) (.cst (.int 0))) (.cst (.str [110, 117, 109])))
  (.cons (.ret (.tup (.cons (.ix (.var 0) (.cst (.int 1))) (.cons (.cst (.int 0)) .nil))))
  .nil)
  .nil)
  (.cons (.asg (.nam 2) (.lst true .nil))
  (.cons (.loop (.nam 3) (.seq (.tup (.cons (.cst (.int 1)) (.cons (.cst (.int 2)) .nil))))
  (.cons (.asg (.tup (.cons (.nam 4) (.cons (.nam 5) .nil))) (.call false 149 (.cons (.ix (.var 0) (.var 3)) (.cons (.call false 119 (.cons (.var 1) (.cons (.var 3) .nil))) .nil))))
  (.cons (.asg (.nam 6) (.and (.cons (.cmp .ne (.ix (.ix (.var 0) (.var 3)) (.cst (.int 0))) (.cst (.str [110, 117, 109]))) (.cons (.cmp .ge (.cmp .isin (.ix (.ix (.var 0) (.var 3)) (.cst (.int 0))) (.cst (.str [43, 45]))) (.cmp .isin (.ix (.var 0) (.cst (.int 0))) (.cst (.str [43, 45])))) (.cons (.or (.cons (.cmp .eq (.var 3) (.cst (.int 2))) (.cons (.cmp .isin (.ix (.var 0) (.cst (.int 0))) (.cst (.str [42, 47]))) .nil))) .nil)))))
  (.cons (.ite (.or (.cons (.val (.var 6)) (.cons (.cmp .eq (.bin .mod (.bin .fdiv (.var 1) (.ix (.lst false (.cons (.cst (.int 5)) (.cons (.cst (.int 7)) .nil))) (.bin .sub (.var 3) (.cst (.int 1))))) (.cst (.int 3))) (.cst (.int 0))) .nil)))
  (.cons (.asg (.tup (.cons (.nam 4) (.cons (.nam 5) .nil))) (.tup (.cons (.bin .add (.bin .add (.cst (.str [40])) (.var 4)) (.cst (.str [41]))) (.cons (.bin .add (.var 5) (.cst (.int 1))) .nil))))
  .nil)
  .nil)
  (.cons (.expr (.bm .append (.var 2) (.cons (.tup (.cons (.var 4) (.cons (.var 5) .nil))) .nil)))
  .nil)))))
  (.cons (.ret (.tup (.cons (.bin .add (.bin .add (.ix (.ix (.var 2) (.cst (.int 0))) (.cst (.int 0))) (.ix (.var 0) (.cst (.int 0)))) (.ix (.ix (.var 2) (.cst (.int 1))) (.cst (.int 0)))) (.cons (.blt .max (.cons (.ix (.ix (.var 2) (.cst (.int 0))) (.cst (.int 1))) (.cons (.ix (.ix (.var 2) (.cst (.int 1))) (.cst (.int 1))) .nil))) .nil))))
  .nil))))⟩
def f_look_sought : Fn := ⟨2, 2, (.cons (.ite (.or (.cons (.not (.val (.call false 4 (.cons (.var 0) .nil)))) (.cons (.not (.val (.var 0))) (.cons (.cmp .ne (.blt .list (.cons (.var 0) .nil)) (.blt .srtset (.cons (.var 0) .nil))) .nil))))
  (.cons (.raise 2)
  .nil)
  .nil)
  (.cons (.ite (.not (.val (.call false 0 (.cons (.var 1) (.cons (.cst (.int 0)) (.cons (.glb 6) .nil))))))
  (.cons (.raise 4)
  .nil)
  .nil)
  .nil))⟩
def f_rows_for : Fn := ⟨3, 10, (.cons (.expr (.call false 2 (.cons (.var 0) .nil)))
  (.cons (.expr (.call false 50 (.cons (.var 1) (.cons (.ite (.val (.isi (.var 2) .list)) (.blt .len (.cons (.var 2) .nil)) (.cst .non)) .nil))))
  (.cons (.asg (.nam 3) (.lst false (.cons (.tup (.cons (.cst (.str [])) (.cons (.call false 16 (.cons (.var 0) (.cons (.glb 3) .nil))) .nil))) .nil)))
  (.cons (.loop (.nam 4) (.seq (.var 2))
  (.cons (.asg (.nam 5) (.lst true .nil))
  (.cons (.loop (.tup (.cons (.nam 6) (.cons (.nam 7) .nil))) (.seq (.var 3))
  (.cons (.loop (.nam 8) (.seq (.var 1))
  (.cons (.asg (.nam 9) (.call false 39 (.cons (.var 0) (.cons (.var 7) (.cons (.var 8) .nil)))))
  (.cons (.ite (.cmp .eq (.mth false 0 14 (.var 9) .nil) (.var 4))
  (.cons (.expr (.bm .append (.var 5) (.cons (.tup (.cons (.bin .add (.var 6) (.var 8)) (.cons (.var 9) .nil))) .nil)))
  .nil)
  .nil)
  .nil)))
  .nil))
  (.cons (.asg (.nam 3) (.var 5))
  (.cons (.ite (.cmp .gt (.blt .len (.cons (.var 3) .nil)) (.glb 10))
  (.cons (.raise 6)
  .nil)
  .nil)
  .nil)))))
  (.cons (.ret (.lc false [6, 7] (.tup (.cons (.nam 6) (.cons (.nam 7) .nil))) (.seq (.var 3)) .none (.var 6)))
  .nil)))))⟩
def f__law_longer : Fn := ⟨2, 5, (.cons (.asg (.nam 2) (.lst false .nil))
  (.cons (.loop (.nam 3) (.seq (.var 0))
  (.cons (.asg (.nam 2) (.bin .add (.var 2) (.lc false [4] (.nam 4) (.seq (.var 1)) .none (.bin .add (.var 3) (.var 4)))))
  .nil))
  (.cons (.ret (.var 2))
  .nil)))⟩
def f__law_rows_word : Fn := ⟨3, 4, (.cons (.asg (.nam 3) (.cst (.str [])))
  (.cons (.tri (.cons (.expr (.call false 71 (.cons (.var 0) (.cons (.var 1) (.cons (.var 2) .nil)))))
  .nil) [(1, 3, (.str [109, 97, 107, 101])), (2, 3, (.str [107, 101, 121])), (4, 3, (.str [99, 111, 117, 110, 116])), (6, 3, (.str [109, 97, 110, 121]))])
  (.cons (.ret (.var 3))
  .nil)))⟩
def f_is_tape : Fn := ⟨2, 3, (.cons (.ite (.or (.cons (.cmp .eq (.var 1) (.cst (.int 0))) (.cons (.not (.val (.isi (.var 0) .tuple))) (.cons (.cmp .gt (.blt .len (.cons (.var 0) .nil)) (.glb 11)) .nil))))
  (.cons (.ret (.cst (.bl false)))
  .nil)
  .nil)
  (.cons (.ret (.not (.lc false [2] (.nam 2) (.seq (.var 0)) (.some (.and (.cons (.not (.val (.call false 3 (.cons (.var 2) .nil)))) (.cons (.not (.val (.call false 73 (.cons (.var 2) (.cons (.var 1) .nil))))) .nil)))) (.var 2))))
  .nil))⟩
def f_is_pair : Fn := ⟨2, 2, (.cons (.ite (.or (.cons (.not (.val (.isi (.var 0) .tuple))) (.cons (.cmp .ne (.blt .len (.cons (.var 0) .nil)) (.cst (.int 2))) (.cons (.not (.val (.call false 0 (.cons (.ix (.var 0) (.cst (.int 0))) (.cons (.cst (.int 0)) (.cons (.cst (.int 9)) .nil)))))) .nil))))
  (.cons (.ret (.cst (.bl false)))
  .nil)
  .nil)
  (.cons (.ret (.call false 72 (.cons (.ix (.var 0) (.cst (.int 1))) (.cons (.bin .sub (.var 1) (.cst (.int 1))) .nil))))
  .nil))⟩
def f_look_tape : Fn := ⟨1, 1, (.cons (.ite (.not (.val (.call false 72 (.cons (.var 0) (.cons (.glb 12) .nil)))))
  (.cons (.raise 8)
  .nil)
  .nil)
  .nil)⟩
def f_keys_of : Fn := ⟨1, 3, (.cons (.asg (.nam 1) (.cst (.str [])))
  (.cons (.loop (.nam 2) (.seq (.var 0))
  (.cons (.asg (.nam 1) (.bin .add (.var 1) (.ite (.val (.isi (.var 2) .tuple)) (.bin .mul (.call false 75 (.cons (.ix (.var 2) (.cst (.int 1))) .nil)) (.ix (.var 2) (.cst (.int 0)))) (.var 2))))
  .nil))
  (.cons (.ret (.sl (.var 1) .none (.some (.bin .add (.glb 2) (.cst (.int 1))))))
  .nil)))⟩
def f_row_of : Fn := ⟨1, 2, (.cons (.expr (.call false 74 (.cons (.var 0) .nil)))
  (.cons (.asg (.nam 1) (.call false 75 (.cons (.var 0) .nil)))
  (.cons (.ite (.cmp .gt (.blt .len (.cons (.var 1) .nil)) (.glb 2))
  (.cons (.raise 6)
  .nil)
  .nil)
  (.cons (.ret (.var 1))
  .nil))))⟩
def f_text_of_tape : Fn := ⟨1, 3, (.cons (.asg (.nam 1) (.cst (.str [])))
  (.cons (.loop (.nam 2) (.seq (.var 0))
  (.cons (.asg (.nam 1) (.bin .add (.var 1) (.ite (.val (.isi (.var 2) .tuple)) (.bin .add (.bin .add (.bin .add (.bin .add (.cst (.str [123])) (.blt .str (.cons (.ix (.var 2) (.cst (.int 0))) .nil))) (.cst (.str [58]))) (.call false 77 (.cons (.ix (.var 2) (.cst (.int 1))) .nil))) (.cst (.str [125]))) (.var 2))))
  .nil))
  (.cons (.ret (.var 1))
  .nil)))⟩
def f_tape_text : Fn := ⟨1, 1, (.cons (.expr (.call false 74 (.cons (.var 0) .nil)))
  (.cons (.ret (.call false 77 (.cons (.var 0) .nil)))
  .nil))⟩
def f_read_from : Fn := ⟨3, 6, (.cons (.asg (.nam 3) (.tup .nil))
  (.cons (.whl (.and (.cons (.cmp .lt (.var 1) (.blt .len (.cons (.var 0) .nil))) (.cons (.cmp .ne (.ix (.var 0) (.var 1)) (.cst (.str [125]))) .nil)))
  (.cons (.ite (.cmp .eq (.ix (.var 0) (.var 1)) (.cst (.str [123])))
  (.cons (.ite (.or (.cons (.cmp .eq (.var 2) (.cst (.int 1))) (.cons (.cmp .eq (.sl (.var 0) (.some (.bin .add (.var 1) (.cst (.int 1)))) (.some (.bin .add (.var 1) (.cst (.int 2))))) (.cst (.str []))) (.cons (.cmp .nin (.ix (.var 0) (.bin .add (.var 1) (.cst (.int 1)))) (.cst (.str [48, 49, 50, 51, 52, 53, 54, 55, 56, 57]))) (.cons (.cmp .ne (.sl (.var 0) (.some (.bin .add (.var 1) (.cst (.int 2)))) (.some (.bin .add (.var 1) (.cst (.int 3))))) (.cst (.str [58]))) .nil)))))
  (.cons (.raise 9)
  .nil)
  .nil)
  (.cons (.asg (.tup (.cons (.nam 4) (.cons (.nam 5) .nil))) (.call false 79 (.cons (.var 0) (.cons (.bin .add (.var 1) (.cst (.int 3))) (.cons (.bin .sub (.var 2) (.cst (.int 1))) .nil)))))
  (.cons (.ite (.cmp .ne (.sl (.var 0) (.some (.var 5)) (.some (.bin .add (.var 5) (.cst (.int 1))))) (.cst (.str [125])))
  (.cons (.raise 9)
  .nil)
  .nil)
  (.cons (.asg (.nam 3) (.bin .add (.var 3) (.tup (.cons (.tup (.cons (.blt .int (.cons (.ix (.var 0) (.bin .add (.var 1) (.cst (.int 1)))) .nil)) (.cons (.var 4) .nil))) .nil))))
  (.cons (.asg (.nam 1) (.bin .add (.var 5) (.cst (.int 1))))
  .nil)))))
  (.cons (.asg (.nam 3) (.bin .add (.var 3) (.tup (.cons (.ix (.var 0) (.var 1)) .nil))))
  (.cons (.aug 1 .add (.cst (.int 1)))
  .nil)))
  .nil))
  (.cons (.ret (.tup (.cons (.var 3) (.cons (.var 1) .nil))))
  .nil)))⟩
def f_read_tape : Fn := ⟨1, 3, (.cons (.ite (.not (.val (.isi (.var 0) .str)))
  (.cons (.raise 9)
  .nil)
  .nil)
  (.cons (.asg (.tup (.cons (.nam 1) (.cons (.nam 2) .nil))) (.call false 79 (.cons (.var 0) (.cons (.cst (.int 0)) (.cons (.glb 12) .nil)))))
  (.cons (.ite (.or (.cons (.cmp .ne (.var 2) (.blt .len (.cons (.var 0) .nil))) (.cons (.not (.val (.call false 72 (.cons (.var 1) (.cons (.glb 12) .nil))))) .nil)))
  (.cons (.raise 9)
  .nil)
  .nil)
  (.cons (.ret (.var 1))
  .nil))))⟩
def f_runs_of : Fn := ⟨1, 4, (.cons (.ite (.not (.val (.call false 4 (.cons (.var 0) .nil))))
  (.cons (.raise 2)
  .nil)
  .nil)
  (.cons (.asg (.nam 1) (.lst true .nil))
  (.cons (.asg (.nam 2) (.cst (.int 0)))
  (.cons (.whl (.cmp .lt (.var 2) (.blt .len (.cons (.var 0) .nil)))
  (.cons (.asg (.nam 3) (.cst (.int 1)))
  (.cons (.whl (.and (.cons (.cmp .lt (.var 3) (.cst (.int 9))) (.cons (.cmp .eq (.sl (.var 0) (.some (.bin .add (.var 2) (.var 3))) (.some (.bin .add (.bin .add (.var 2) (.var 3)) (.cst (.int 1))))) (.ix (.var 0) (.var 2))) .nil)))
  (.cons (.aug 3 .add (.cst (.int 1)))
  .nil))
  (.cons (.expr (.bm .append (.var 1) (.cons (.ite (.cmp .eq (.var 3) (.cst (.int 1))) (.ix (.var 0) (.var 2)) (.tup (.cons (.var 3) (.cons (.tup (.cons (.ix (.var 0) (.var 2)) .nil)) .nil)))) .nil)))
  (.cons (.aug 2 .add (.var 3))
  .nil)))))
  (.cons (.ite (.cmp .gt (.blt .len (.cons (.var 1) .nil)) (.glb 11))
  (.cons (.raise 6)
  .nil)
  .nil)
  (.cons (.ret (.blt .tuple (.cons (.var 1) .nil)))
  .nil))))))⟩
def f_look_short : Fn := ⟨2, 2, (.cons (.expr (.call false 2 (.cons (.var 0) .nil)))
  (.cons (.ite (.or (.cons (.not (.val (.call false 4 (.cons (.var 1) .nil)))) (.cons (.cmp .gt (.blt .len (.cons (.var 1) .nil)) (.glb 13)) .nil)))
  (.cons (.raise 2)
  .nil)
  .nil)
  .nil))⟩
def f_stand_by : Fn := ⟨2, 4, (.cons (.asg (.nam 2) (.call false 16 (.cons (.var 0) (.cons (.glb 3) .nil))))
  (.cons (.loop (.nam 3) (.seq (.var 1))
  (.cons (.asg (.nam 2) (.call false 39 (.cons (.var 0) (.cons (.var 2) (.cons (.var 3) .nil)))))
  .nil))
  (.cons (.ret (.var 2))
  .nil)))⟩
def f_seen_of : Fn := ⟨2, 5, (.cons (.ite (.cmp .eq (.ix (.var 0) (.cst (.int 0))) (.cst (.str [112, 105, 108, 101])))
  (.cons (.asg (.nam 2) (.lc false [3] (.nam 3) (.seq (.fld 0 3 (.var 1))) .none (.call false 10 (.cons (.var 3) .nil))))
  .nil)
  (.cons (.asg (.nam 2) (.lc false [4] (.nam 4) (.seq (.fld 0 3 (.var 1))) .none (.ite (.cmp .eq (.var 4) (.glb 4)) (.cst (.str [40])) (.bin .add (.call false 10 (.cons (.ix (.var 4) (.cst (.int 0))) .nil)) (.ix (.var 4) (.cst (.int 1)))))))
  .nil))
  (.cons (.ret (.tup (.cons (.mth false 0 14 (.var 1) .nil) (.cons (.call false 10 (.cons (.fld 0 5 (.var 1)) .nil)) (.cons (.var 2) .nil)))))
  .nil))⟩
def f_seen_with_one : Fn := ⟨2, 3, (.cons (.ret (.bin .add (.lst false (.cons (.call false 84 (.cons (.var 0) (.cons (.var 1) .nil))) .nil)) (.lc false [2] (.nam 2) (.seq (.glb 1)) .none (.call false 84 (.cons (.var 0) (.cons (.call false 39 (.cons (.var 0) (.cons (.var 1) (.cons (.var 2) .nil)))) .nil))))))
  .nil)⟩
def f_alike : Fn := ⟨3, 3, (.cons (.expr (.call false 82 (.cons (.var 0) (.cons (.var 1) .nil))))
  (.cons (.expr (.call false 82 (.cons (.var 0) (.cons (.var 2) .nil))))
  (.cons (.ret (.cmp .eq (.call false 85 (.cons (.var 0) (.cons (.call false 83 (.cons (.var 0) (.cons (.var 1) .nil))) .nil))) (.call false 85 (.cons (.var 0) (.cons (.call false 83 (.cons (.var 0) (.cons (.var 2) .nil))) .nil)))))
  .nil)))⟩
def f_needless_keys : Fn := ⟨2, 4, (.cons (.expr (.call false 82 (.cons (.var 0) (.cons (.var 1) .nil))))
  (.cons (.asg (.nam 2) (.call false 85 (.cons (.var 0) (.cons (.call false 83 (.cons (.var 0) (.cons (.var 1) .nil))) .nil))))
  (.cons (.ret (.lc false [3] (.nam 3) (.rng1 (.blt .len (.cons (.var 1) .nil))) (.some (.cmp .eq (.call false 85 (.cons (.var 0) (.cons (.call false 83 (.cons (.var 0) (.cons (.bin .add (.sl (.var 1) .none (.some (.var 3))) (.sl (.var 1) (.some (.bin .add (.var 3) (.cst (.int 1)))) .none)) .nil))) .nil))) (.var 2))) (.var 3)))
  .nil)))⟩
def f_lean : Fn := ⟨2, 6, (.cons (.expr (.call false 82 (.cons (.var 0) (.cons (.var 1) .nil))))
  (.cons (.asg (.nam 2) (.call false 85 (.cons (.var 0) (.cons (.call false 83 (.cons (.var 0) (.cons (.var 1) .nil))) .nil))))
  (.cons (.asg (.nam 3) (.cst (.str [])))
  (.cons (.loop (.tup (.cons (.nam 4) (.cons (.nam 5) .nil))) (.enum (.var 1))
  (.cons (.ite (.cmp .ne (.call false 85 (.cons (.var 0) (.cons (.call false 83 (.cons (.var 0) (.cons (.bin .add (.var 3) (.sl (.var 1) (.some (.bin .add (.var 4) (.cst (.int 1)))) .none)) .nil))) .nil))) (.var 2))
  (.cons (.asg (.nam 3) (.bin .add (.var 3) (.var 5)))
  .nil)
  .nil)
  .nil))
  (.cons (.ret (.var 3))
  .nil)))))⟩
def f_idling : Fn := ⟨2, 5, (.cons (.expr (.call false 82 (.cons (.var 0) (.cons (.var 1) .nil))))
  (.cons (.asg (.nam 2) (.call false 83 (.cons (.var 0) (.cons (.var 1) .nil))))
  (.cons (.asg (.nam 3) (.call false 85 (.cons (.var 0) (.cons (.var 2) .nil))))
  (.cons (.ret (.bm .join (.cst (.str [])) (.cons (.lc false [4] (.nam 4) (.seq (.blt .sorted (.cons (.glb 1) .nil))) (.some (.cmp .eq (.call false 85 (.cons (.var 0) (.cons (.call false 39 (.cons (.var 0) (.cons (.var 2) (.cons (.var 4) .nil)))) .nil))) (.var 3))) (.var 4)) .nil)))
  .nil))))⟩
def f_all_makes : Fn := ⟨0, 3, (.cons (.asg (.nam 0) (.lst true .nil))
  (.cons (.loop (.nam 1) (.seq (.blt .sorted (.cons (.glb 0) .nil)))
  (.cons (.expr (.bm .extend (.var 0) (.cons (.lc false [2] (.nam 2) (.rng2 (.glb 14) (.bin .add (.glb 15) (.cst (.int 1)))) .none (.tup (.cons (.var 1) (.cons (.var 2) .nil)))) .nil)))
  .nil))
  (.cons (.ret (.var 0))
  .nil)))⟩
def f_look_keys : Fn := ⟨1, 1, (.cons (.ite (.not (.val (.call false 4 (.cons (.var 0) .nil))))
  (.cons (.raise 2)
  .nil)
  .nil)
  .nil)⟩
def f_shown_by_all : Fn := ⟨1, 2, (.cons (.expr (.call false 91 (.cons (.var 0) .nil)))
  (.cons (.ret (.lc false [1] (.nam 1) (.seq (.call false 90 .nil)) .none (.mth false 0 14 (.call false 83 (.cons (.var 1) (.cons (.var 0) .nil))) .nil)))
  .nil))⟩
def f_lots : Fn := ⟨1, 5, (.cons (.asg (.nam 1) (.call false 92 (.cons (.var 0) .nil)))
  (.cons (.asg (.nam 2) (.dct [] .nil))
  (.cons (.loop (.tup (.cons (.nam 3) (.cons (.nam 4) .nil))) (.zip (.call false 90 .nil) (.var 1))
  (.cons (.asg (.sub (.var 2) (.var 4)) (.bin .add (.bm .get (.var 2) (.cons (.var 4) (.cons (.lst false .nil) .nil))) (.lst false (.cons (.var 3) .nil))))
  .nil))
  (.cons (.ret (.blt .srtvals (.cons (.var 2) .nil)))
  .nil))))⟩
def f_enough_places : Fn := ⟨2, 4, (.cons (.ite (.or (.cons (.not (.val (.isi (.var 0) .str))) (.cons (.cmp .nin (.var 0) (.glb 0)) .nil)))
  (.cons (.raise 1)
  .nil)
  .nil)
  (.cons (.expr (.call false 91 (.cons (.var 1) .nil)))
  (.cons (.asg (.nam 2) (.glb 15))
  (.cons (.asg (.nam 3) (.mth false 0 14 (.call false 83 (.cons (.tup (.cons (.var 0) (.cons (.glb 15) .nil))) (.cons (.var 1) .nil))) .nil))
  (.cons (.whl (.and (.cons (.cmp .gt (.var 2) (.glb 14)) (.cons (.cmp .eq (.mth false 0 14 (.call false 83 (.cons (.tup (.cons (.var 0) (.cons (.bin .sub (.var 2) (.cst (.int 1))) .nil))) (.cons (.var 1) .nil))) .nil) (.var 3)) .nil)))
  (.cons (.aug 2 .sub (.cst (.int 1)))
  .nil))
  (.cons (.ret (.var 2))
  .nil))))))⟩
def f_is_typed : Fn := ⟨2, 4, (.cons (.ite (.or (.cons (.not (.val (.isi (.var 0) .str))) (.cons (.val (.lc false [3] (.nam 3) (.seq (.var 0)) (.some (.cmp .nin (.var 3) (.cst (.str [48, 49, 50, 51, 52, 53, 54, 55, 56, 57, 46])))) (.var 3))) .nil)))
  (.cons (.ret (.cst (.bl false)))
  .nil)
  .nil)
  (.cons (.asg (.nam 2) (.bm .split (.var 0) (.cons (.cst (.str [46])) .nil)))
  (.cons (.ite (.or (.cons (.cmp .gt (.blt .len (.cons (.var 2) .nil)) (.cst (.int 2))) (.cons (.cmp .isin (.cst (.str [])) (.var 2)) (.cons (.not (.chn .le .le (.cst (.int 1)) (.blt .len (.cons (.bm .join (.cst (.str [])) (.cons (.var 2) .nil)) .nil)) (.var 1))) .nil))))
  (.cons (.ret (.cst (.bl false)))
  .nil)
  .nil)
  (.cons (.ret (.or (.cons (.cmp .eq (.ix (.var 2) (.cst (.int 0))) (.cst (.str [48]))) (.cons (.cmp .ne (.ix (.ix (.var 2) (.cst (.int 0))) (.cst (.int 0))) (.cst (.str [48]))) .nil))))
  .nil))))⟩
def f_parts_left : Fn := ⟨4, 4, (.cons (.ite (.or (.cons (.cmp .eq (.var 2) (.cst (.int 0))) (.cons (.cmp .gt (.var 3) (.glb 9)) (.cons (.not (.val (.isi (.var 0) .tuple))) (.cons (.cmp .nin (.blt .len (.cons (.var 0) .nil)) (.tup (.cons (.cst (.int 2)) (.cons (.cst (.int 3)) .nil)))) .nil)))))
  (.cons (.ret (.neg (.cst (.int 1))))
  .nil)
  .nil)
  (.cons (.ite (.cmp .eq (.blt .len (.cons (.var 0) .nil)) (.cst (.int 2)))
  (.cons (.ret (.ite (.and (.cons (.val (.call false 56 (.cons (.ix (.var 0) (.cst (.int 0))) (.cons (.tup (.cons (.cst (.str [110, 117, 109])) .nil)) .nil)))) (.cons (.val (.call false 54 (.cons (.ix (.var 0) (.cst (.int 1))) (.cons (.var 1) .nil)))) .nil))) (.bin .sub (.var 2) (.cst (.int 1))) (.neg (.cst (.int 1)))))
  .nil)
  .nil)
  (.cons (.ite (.not (.val (.call false 56 (.cons (.ix (.var 0) (.cst (.int 0))) (.cons (.tup (.cons (.cst (.str [43])) (.cons (.cst (.str [45])) (.cons (.cst (.str [42])) (.cons (.cst (.str [47])) .nil))))) .nil)))))
  (.cons (.ret (.neg (.cst (.int 1))))
  .nil)
  .nil)
  (.cons (.asg (.nam 2) (.call false 55 (.cons (.ix (.var 0) (.cst (.int 1))) (.cons (.var 1) (.cons (.bin .sub (.var 2) (.cst (.int 1))) (.cons (.bin .add (.var 3) (.cst (.int 1))) .nil))))))
  (.cons (.ret (.ite (.cmp .lt (.var 2) (.cst (.int 0))) (.neg (.cst (.int 1))) (.call false 55 (.cons (.ix (.var 0) (.cst (.int 2))) (.cons (.var 1) (.cons (.var 2) (.cons (.bin .add (.var 3) (.cst (.int 1))) .nil)))))))
  .nil)))))⟩
def f_is_word : Fn := ⟨2, 2, (.cons (.ret (.and (.cons (.isi (.var 0) .str) (.cons (.cmp .isin (.var 0) (.var 1)) .nil))))
  .nil)⟩
def f_look_sum : Fn := ⟨2, 2, (.cons (.expr (.call false 2 (.cons (.var 0) .nil)))
  (.cons (.ite (.cmp .lt (.call false 55 (.cons (.var 1) (.cons (.ix (.var 0) (.cst (.int 1))) (.cons (.glb 8) (.cons (.cst (.int 1)) .nil))))) (.cst (.int 0)))
  (.cons (.raise 3)
  .nil)
  .nil)
  .nil))⟩
def f_worth_of : Fn := ⟨2, 4, (.cons (.ite (.cmp .eq (.ix (.var 1) (.cst (.int 0))) (.cst (.str [110, 117, 109])))
  (.cons (.ret (.call false 11 (.cons (.ix (.var 1) (.cst (.int 1))) .nil)))
  .nil)
  .nil)
  (.cons (.asg (.tup (.cons (.nam 2) (.cons (.nam 3) .nil))) (.tup (.cons (.call false 58 (.cons (.var 0) (.cons (.ix (.var 1) (.cst (.int 1))) .nil))) (.cons (.call false 58 (.cons (.var 0) (.cons (.ix (.var 1) (.cst (.int 2))) .nil))) .nil))))
  (.cons (.ite (.or (.cons (.cmp .is (.var 2) (.cst .non)) (.cons (.cmp .is (.var 3) (.cst .non)) .nil)))
  (.cons (.ret (.cst .non))
  .nil)
  .nil)
  (.cons (.ret (.call false 8 (.cons (.ix (.var 1) (.cst (.int 0))) (.cons (.var 2) (.cons (.var 3) (.cons (.ix (.var 0) (.cst (.int 1))) .nil))))))
  .nil))))⟩
def f_divisor : Fn := ⟨2, 2, (.cons (.asg (.tup (.cons (.nam 0) (.cons (.nam 1) .nil))) (.tup (.cons (.blt .abs (.cons (.var 0) .nil)) (.cons (.blt .abs (.cons (.var 1) .nil)) .nil))))
  (.cons (.whl (.cmp .gt (.var 1) (.cst (.int 0)))
  (.cons (.asg (.tup (.cons (.nam 0) (.cons (.nam 1) .nil))) (.tup (.cons (.var 1) (.cons (.bin .mod (.var 0) (.var 1)) .nil))))
  .nil))
  (.cons (.ret (.var 0))
  .nil)))⟩
def f_made : Fn := ⟨2, 3, (.cons (.ite (.cmp .lt (.var 1) (.cst (.int 0)))
  (.cons (.asg (.tup (.cons (.nam 0) (.cons (.nam 1) .nil))) (.tup (.cons (.bin .sub (.cst (.int 0)) (.var 0)) (.cons (.bin .sub (.cst (.int 0)) (.var 1)) .nil))))
  .nil)
  .nil)
  (.cons (.asg (.nam 2) (.call false 95 (.cons (.var 0) (.cons (.var 1) .nil))))
  (.cons (.ret (.tup (.cons (.bin .fdiv (.var 0) (.var 2)) (.cons (.bin .fdiv (.var 1) (.var 2)) .nil))))
  .nil)))⟩
def f_reckoned : Fn := ⟨1, 4, (.cons (.ite (.cmp .eq (.ix (.var 0) (.cst (.int 0))) (.cst (.str [110, 117, 109])))
  (.cons (.asg (.nam 1) (.call false 11 (.cons (.ix (.var 0) (.cst (.int 1))) .nil)))
  (.cons (.ret (.call false 96 (.cons (.ix (.var 1) (.cst (.int 0))) (.cons (.call false 6 (.cons (.ix (.var 1) (.cst (.int 1))) .nil)) .nil))))
  .nil))
  .nil)
  (.cons (.asg (.tup (.cons (.nam 2) (.cons (.nam 3) .nil))) (.tup (.cons (.call false 97 (.cons (.ix (.var 0) (.cst (.int 1))) .nil)) (.cons (.call false 97 (.cons (.ix (.var 0) (.cst (.int 2))) .nil)) .nil))))
  (.cons (.ite (.or (.cons (.cmp .is (.var 2) (.cst .non)) (.cons (.cmp .is (.var 3) (.cst .non)) .nil)))
  (.cons (.ret (.cst .non))
  .nil)
  .nil)
  (.cons (.ite (.cmp .eq (.ix (.var 0) (.cst (.int 0))) (.cst (.str [43])))
  (.cons (.ret (.call false 96 (.cons (.bin .add (.bin .mul (.ix (.var 2) (.cst (.int 0))) (.ix (.var 3) (.cst (.int 1)))) (.bin .mul (.ix (.var 3) (.cst (.int 0))) (.ix (.var 2) (.cst (.int 1))))) (.cons (.bin .mul (.ix (.var 2) (.cst (.int 1))) (.ix (.var 3) (.cst (.int 1)))) .nil))))
  .nil)
  .nil)
  (.cons (.ite (.cmp .eq (.ix (.var 0) (.cst (.int 0))) (.cst (.str [45])))
  (.cons (.ret (.call false 96 (.cons (.bin .sub (.bin .mul (.ix (.var 2) (.cst (.int 0))) (.ix (.var 3) (.cst (.int 1)))) (.bin .mul (.ix (.var 3) (.cst (.int 0))) (.ix (.var 2) (.cst (.int 1))))) (.cons (.bin .mul (.ix (.var 2) (.cst (.int 1))) (.ix (.var 3) (.cst (.int 1)))) .nil))))
  .nil)
  .nil)
  (.cons (.ite (.cmp .eq (.ix (.var 0) (.cst (.int 0))) (.cst (.str [42])))
  (.cons (.ret (.call false 96 (.cons (.bin .mul (.ix (.var 2) (.cst (.int 0))) (.ix (.var 3) (.cst (.int 0)))) (.cons (.bin .mul (.ix (.var 2) (.cst (.int 1))) (.ix (.var 3) (.cst (.int 1)))) .nil))))
  .nil)
  .nil)
  (.cons (.ret (.ite (.cmp .eq (.ix (.var 3) (.cst (.int 0))) (.cst (.int 0))) (.cst .non) (.call false 96 (.cons (.bin .mul (.ix (.var 2) (.cst (.int 0))) (.ix (.var 3) (.cst (.int 1)))) (.cons (.bin .mul (.ix (.var 2) (.cst (.int 1))) (.ix (.var 3) (.cst (.int 0)))) .nil)))))
  .nil)))))))⟩
def f_look_eight : Fn := ⟨1, 1, (.cons (.expr (.call false 57 (.cons (.tup (.cons (.ix (.glb 0) (.cst (.int 0))) (.cons (.glb 15) .nil))) (.cons (.var 0) .nil))))
  .nil)⟩
def f_exact_worth : Fn := ⟨1, 1, (.cons (.expr (.call false 98 (.cons (.var 0) .nil)))
  (.cons (.ret (.call false 97 (.cons (.var 0) .nil)))
  .nil))⟩
def f_lost : Fn := ⟨2, 4, (.cons (.ite (.cmp .lt (.call false 55 (.cons (.var 1) (.cons (.ix (.var 0) (.cst (.int 1))) (.cons (.glb 8) (.cons (.cst (.int 1)) .nil))))) (.cst (.int 0)))
  (.cons (.ret (.cst .non))
  .nil)
  .nil)
  (.cons (.asg (.tup (.cons (.nam 2) (.cons (.nam 3) .nil))) (.tup (.cons (.call false 97 (.cons (.var 1) .nil)) (.cons (.call false 58 (.cons (.var 0) (.cons (.var 1) .nil))) .nil))))
  (.cons (.ite (.or (.cons (.cmp .is (.var 2) (.cst .non)) (.cons (.cmp .is (.var 3) (.cst .non)) .nil)))
  (.cons (.ret (.cst .non))
  .nil)
  .nil)
  (.cons (.ret (.call false 96 (.cons (.bin .sub (.bin .mul (.ix (.var 2) (.cst (.int 0))) (.call false 6 (.cons (.ix (.var 3) (.cst (.int 1))) .nil))) (.bin .mul (.ix (.var 3) (.cst (.int 0))) (.ix (.var 2) (.cst (.int 1))))) (.cons (.bin .mul (.ix (.var 2) (.cst (.int 1))) (.call false 6 (.cons (.ix (.var 3) (.cst (.int 1))) .nil))) .nil))))
  .nil))))⟩
def f_loss : Fn := ⟨2, 2, (.cons (.expr (.call false 2 (.cons (.var 0) .nil)))
  (.cons (.expr (.call false 98 (.cons (.var 1) .nil)))
  (.cons (.ret (.call false 100 (.cons (.var 0) (.cons (.var 1) .nil))))
  .nil)))⟩
def f_is_exact : Fn := ⟨2, 2, (.cons (.ret (.cmp .eq (.call false 101 (.cons (.var 0) (.cons (.var 1) .nil))) (.tup (.cons (.cst (.int 0)) (.cons (.cst (.int 1)) .nil)))))
  .nil)⟩
def f_least_exact : Fn := ⟨2, 4, (.cons (.ite (.or (.cons (.not (.val (.isi (.var 0) .str))) (.cons (.cmp .nin (.var 0) (.glb 0)) .nil)))
  (.cons (.raise 1)
  .nil)
  .nil)
  (.cons (.expr (.call false 98 (.cons (.var 1) .nil)))
  (.cons (.asg (.nam 2) (.lc false [3] (.nam 3) (.rng2 (.glb 14) (.bin .add (.glb 15) (.cst (.int 1)))) (.some (.cmp .eq (.call false 100 (.cons (.tup (.cons (.var 0) (.cons (.var 3) .nil))) (.cons (.var 1) .nil))) (.tup (.cons (.cst (.int 0)) (.cons (.cst (.int 1)) .nil))))) (.var 3)))
  (.cons (.ret (.blt .minD (.cons (.var 2) .nil)))
  .nil))))⟩
def f_memories : Fn := ⟨2, 5, (.cons (.expr (.call false 5 (.cons (.var 0) (.cons (.var 1) .nil))))
  (.cons (.asg (.nam 2) (.call false 16 (.cons (.var 0) (.cons (.glb 3) .nil))))
  (.cons (.asg (.nam 3) (.lst true .nil))
  (.cons (.loop (.nam 4) (.seq (.var 1))
  (.cons (.asg (.nam 2) (.call false 39 (.cons (.var 0) (.cons (.var 2) (.cons (.var 4) .nil)))))
  (.cons (.expr (.bm .append (.var 3) (.cons (.call false 10 (.cons (.fld 0 5 (.var 2)) .nil)) .nil)))
  .nil)))
  (.cons (.ret (.var 3))
  .nil)))))⟩
def f_faults : Fn := ⟨2, 4, (.cons (.ret (.lc false [2, 3] (.tup (.cons (.nam 2) (.cons (.nam 3) .nil))) (.enum (.call false 45 (.cons (.var 0) (.cons (.var 1) .nil)))) (.some (.cmp .eq (.var 3) (.cst (.str [69])))) (.var 2)))
  .nil)⟩
def f_stills : Fn := ⟨2, 5, (.cons (.asg (.nam 2) (.call false 45 (.cons (.var 0) (.cons (.var 1) .nil))))
  (.cons (.ret (.lc false [3, 4] (.tup (.cons (.nam 3) (.cons (.nam 4) .nil))) (.enum (.var 2)) (.some (.cmp .eq (.var 4) (.ix (.bin .add (.lst false (.cons (.cst (.str [48])) .nil)) (.var 2)) (.var 3)))) (.var 3)))
  .nil))⟩
def f_tally : Fn := ⟨2, 4, (.cons (.asg (.nam 2) (.call false 45 (.cons (.var 0) (.cons (.var 1) .nil))))
  (.cons (.ret (.lc false [3] (.nam 3) (.seq (.blt .srtset (.cons (.var 2) .nil))) .none (.tup (.cons (.var 3) (.cons (.bm .count (.var 2) (.cons (.var 3) .nil)) .nil)))))
  .nil))⟩
def f_Player_init : Fn := ⟨2, 2, (.cons (.expr (.call false 2 (.cons (.var 1) .nil)))
  (.cons (.setf 2 0 (.var 0) (.var 1))
  (.cons (.setf 2 1 (.var 0) (.lst true (.cons (.call true 16 (.cons (.var 1) (.cons (.glb 3) .nil))) .nil)))
  (.cons (.setf 2 2 (.var 0) (.cst (.str [])))
  (.cons (.setf 2 3 (.var 0) (.cst (.str [])))
  .nil)))))⟩
def f_Player_row : Fn := ⟨1, 1, (.cons (.ret (.fld 2 2 (.var 0)))
  .nil)⟩
def f_Player_shown : Fn := ⟨1, 1, (.cons (.ret (.ix (.call false 84 (.cons (.fld 2 0 (.var 0)) (.cons (.ix (.fld 2 1 (.var 0)) (.neg (.cst (.int 1)))) .nil))) (.cst (.int 0))))
  .nil)⟩
def f_Player_memory : Fn := ⟨1, 1, (.cons (.ret (.ix (.call false 84 (.cons (.fld 2 0 (.var 0)) (.cons (.ix (.fld 2 1 (.var 0)) (.neg (.cst (.int 1)))) .nil))) (.cst (.int 1))))
  .nil)⟩
def f__law_some_tape : Fn := ⟨2, 7, (.cons (.asg (.nam 2) (.cst (.str [48, 49, 50, 51, 52, 53, 54, 55, 56, 57, 46, 43, 45, 42, 47, 61, 40, 41, 78, 66, 67, 80, 77, 82, 90, 69, 88, 68])))
  (.cons (.asg (.nam 3) (.tup .nil))
  (.cons (.loop (.nam 4) (.rng1 (.bin .mod (.bin .fdiv (.var 0) (.cst (.int 7))) (.ix (.lst false (.cons (.cst (.int 5)) (.cons (.cst (.int 13)) (.cons (.cst (.int 4)) .nil)))) (.bin .mod (.bin .fdiv (.var 0) (.cst (.int 5))) (.cst (.int 3))))))
  (.cons (.asg (.nam 5) (.call false 119 (.cons (.var 0) (.cons (.var 4) .nil))))
  (.cons (.ite (.and (.cons (.cmp .gt (.var 1) (.cst (.int 1))) (.cons (.cmp .eq (.bin .mod (.bin .fdiv (.var 5) (.cst (.int 11))) (.cst (.int 3))) (.cst (.int 0))) .nil)))
  (.cons (.asg (.nam 6) (.bin .mod (.bin .fdiv (.var 5) (.cst (.int 101))) (.ix (.lst false (.cons (.cst (.int 3)) (.cons (.cst (.int 10)) .nil))) (.bin .mod (.bin .fdiv (.var 5) (.cst (.int 13))) (.cst (.int 2))))))
  (.cons (.asg (.nam 3) (.bin .add (.var 3) (.tup (.cons (.tup (.cons (.var 6) (.cons (.call false 155 (.cons (.call false 119 (.cons (.var 5) (.cons (.cst (.int 9)) .nil))) (.cons (.bin .sub (.var 1) (.cst (.int 1))) .nil))) .nil))) .nil))))
  .nil))
  (.cons (.asg (.nam 3) (.bin .add (.var 3) (.tup (.cons (.ix (.var 2) (.bin .mod (.bin .fdiv (.var 5) (.cst (.int 101))) (.cst (.int 28)))) .nil))))
  .nil))
  .nil)))
  (.cons (.ret (.sl (.var 3) .none (.some (.cst (.int 12)))))
  .nil))))⟩
def f__law_keys_in : Fn := ⟨1, 5, (.cons (.asg (.nam 1) (.cst (.str [])))
  (.cons (.loop (.nam 2) (.seq (.var 0))
  (.cons (.ite (.val (.isi (.var 2) .tuple))
  (.cons (.asg (.nam 3) (.call false 156 (.cons (.ix (.var 2) (.cst (.int 1))) .nil)))
  (.cons (.loop (.nam 4) (.rng1 (.ix (.var 2) (.cst (.int 0))))
  (.cons (.asg (.nam 1) (.sl (.bin .add (.var 1) (.var 3)) .none (.some (.cst (.int 61)))))
  .nil))
  .nil))
  (.cons (.asg (.nam 1) (.sl (.bin .add (.var 1) (.var 2)) .none (.some (.cst (.int 61)))))
  .nil))
  .nil))
  (.cons (.ret (.var 1))
  .nil)))⟩
def f__law_tape_text : Fn := ⟨1, 3, (.cons (.asg (.nam 1) (.cst (.str [])))
  (.cons (.loop (.nam 2) (.seq (.var 0))
  (.cons (.ite (.val (.isi (.var 2) .tuple))
  (.cons (.asg (.nam 1) (.bin .add (.bin .add (.bin .add (.bin .add (.bin .add (.var 1) (.cst (.str [123]))) (.ix (.cst (.str [48, 49, 50, 51, 52, 53, 54, 55, 56, 57])) (.ix (.var 2) (.cst (.int 0))))) (.cst (.str [58]))) (.call false 157 (.cons (.ix (.var 2) (.cst (.int 1))) .nil))) (.cst (.str [125]))))
  .nil)
  (.cons (.asg (.nam 1) (.bin .add (.var 1) (.var 2)))
  .nil))
  .nil))
  (.cons (.ret (.var 1))
  .nil)))⟩
def f__law_tape_read : Fn := ⟨1, 2, (.cons (.tri (.cons (.asg (.nam 1) (.call false 157 (.cons (.call false 80 (.cons (.var 0) .nil)) .nil)))
  .nil) [(9, 1, (.str [110, 111, 110, 101]))])
  (.cons (.ret (.var 1))
  .nil))⟩
def f__law_runs_in : Fn := ⟨1, 4, (.cons (.asg (.nam 1) (.tup .nil))
  (.cons (.asg (.nam 2) (.var 0))
  (.cons (.whl (.cmp .ne (.var 2) (.cst (.str [])))
  (.cons (.asg (.nam 3) (.cst (.int 1)))
  (.cons (.whl (.and (.cons (.cmp .lt (.var 3) (.cst (.int 9))) (.cons (.cmp .lt (.var 3) (.blt .len (.cons (.var 2) .nil))) (.cons (.cmp .eq (.ix (.var 2) (.var 3)) (.ix (.var 2) (.cst (.int 0)))) .nil))))
  (.cons (.asg (.nam 3) (.bin .add (.var 3) (.cst (.int 1))))
  .nil))
  (.cons (.asg (.nam 1) (.bin .add (.var 1) (.ite (.cmp .eq (.var 3) (.cst (.int 1))) (.tup (.cons (.ix (.var 2) (.cst (.int 0))) .nil)) (.tup (.cons (.tup (.cons (.var 3) (.cons (.tup (.cons (.ix (.var 2) (.cst (.int 0))) .nil)) .nil))) .nil)))))
  (.cons (.asg (.nam 2) (.sl (.var 2) (.some (.var 3)) .none))
  .nil)))))
  (.cons (.ret (.var 1))
  .nil))))⟩
def f__law_many_caught : Fn := ⟨4, 5, (.cons (.asg (.nam 4) (.cst (.str [])))
  (.cons (.tri (.cons (.expr (.call false 161 (.cons (.var 0) (.cons (.var 1) (.cons (.var 2) (.cons (.var 3) .nil))))))
  .nil) [(1, 4, (.str [109, 97, 107, 101])), (2, 4, (.str [107, 101, 121])), (3, 4, (.str [115, 117, 109])), (6, 4, (.str [109, 97, 110, 121])), (8, 4, (.str [116, 97, 112, 101])), (9, 4, (.str [116, 101, 120, 116]))])
  (.cons (.ret (.var 4))
  .nil)))⟩
def f__law_many_asked : Fn := ⟨4, 4, (.cons (.ite (.cmp .eq (.var 0) (.cst (.int 0)))
  (.cons (.ret (.call false 76 (.cons (.var 1) .nil)))
  .nil)
  .nil)
  (.cons (.ite (.cmp .eq (.var 0) (.cst (.int 1)))
  (.cons (.ret (.call false 78 (.cons (.var 1) .nil)))
  .nil)
  .nil)
  (.cons (.ite (.cmp .eq (.var 0) (.cst (.int 2)))
  (.cons (.ret (.call false 80 (.cons (.var 1) .nil)))
  .nil)
  .nil)
  (.cons (.ite (.cmp .eq (.var 0) (.cst (.int 3)))
  (.cons (.ret (.call false 81 (.cons (.var 1) .nil)))
  .nil)
  .nil)
  (.cons (.ite (.cmp .eq (.var 0) (.cst (.int 4)))
  (.cons (.ret (.call false 92 (.cons (.var 1) .nil)))
  .nil)
  .nil)
  (.cons (.ite (.cmp .eq (.var 0) (.cst (.int 5)))
  (.cons (.ret (.call false 93 (.cons (.var 1) .nil)))
  .nil)
  .nil)
  (.cons (.ite (.cmp .eq (.var 0) (.cst (.int 6)))
  (.cons (.ret (.call false 99 (.cons (.var 1) .nil)))
  .nil)
  .nil)
  (.cons (.ite (.cmp .eq (.var 0) (.cst (.int 7)))
  (.cons (.ret (.call false 86 (.cons (.var 1) (.cons (.var 2) (.cons (.var 3) .nil)))))
  .nil)
  .nil)
  (.cons (.ret (.call false 162 (.cons (.var 0) (.cons (.var 1) (.cons (.var 2) .nil)))))
  .nil)))))))))⟩
def f__law_many_more : Fn := ⟨3, 3, (.cons (.ite (.cmp .eq (.var 0) (.cst (.int 8)))
  (.cons (.ret (.call false 87 (.cons (.var 1) (.cons (.var 2) .nil))))
  .nil)
  .nil)
  (.cons (.ite (.cmp .eq (.var 0) (.cst (.int 9)))
  (.cons (.ret (.call false 88 (.cons (.var 1) (.cons (.var 2) .nil))))
  .nil)
  .nil)
  (.cons (.ite (.cmp .eq (.var 0) (.cst (.int 10)))
  (.cons (.ret (.call false 89 (.cons (.var 1) (.cons (.var 2) .nil))))
  .nil)
  .nil)
  (.cons (.ite (.cmp .eq (.var 0) (.cst (.int 11)))
  (.cons (.ret (.call false 104 (.cons (.var 1) (.cons (.var 2) .nil))))
  .nil)
  .nil)
  (.cons (.ite (.cmp .eq (.var 0) (.cst (.int 12)))
  (.cons (.ret (.call false 105 (.cons (.var 1) (.cons (.var 2) .nil))))
  .nil)
  .nil)
  (.cons (.ite (.cmp .eq (.var 0) (.cst (.int 13)))
  (.cons (.ret (.call false 106 (.cons (.var 1) (.cons (.var 2) .nil))))
  .nil)
  .nil)
  (.cons (.ite (.cmp .eq (.var 0) (.cst (.int 14)))
  (.cons (.ret (.call false 107 (.cons (.var 1) (.cons (.var 2) .nil))))
  .nil)
  .nil)
  (.cons (.ret (.call false 163 (.cons (.var 0) (.cons (.var 1) (.cons (.var 2) .nil)))))
  .nil))))))))⟩
def f__law_many_last : Fn := ⟨3, 3, (.cons (.ite (.cmp .eq (.var 0) (.cst (.int 15)))
  (.cons (.ret (.call false 94 (.cons (.var 1) (.cons (.var 2) .nil))))
  .nil)
  .nil)
  (.cons (.ite (.cmp .eq (.var 0) (.cst (.int 16)))
  (.cons (.ret (.call false 102 (.cons (.var 1) (.cons (.var 2) .nil))))
  .nil)
  .nil)
  (.cons (.ite (.cmp .eq (.var 0) (.cst (.int 17)))
  (.cons (.ret (.call false 101 (.cons (.var 1) (.cons (.var 2) .nil))))
  .nil)
  .nil)
  (.cons (.ret (.ite (.cmp .eq (.var 0) (.cst (.int 18))) (.call false 103 (.cons (.var 1) (.cons (.var 2) .nil))) (.mk true 2 (.cons (.var 1) .nil))))
  .nil))))⟩
def f__law_told_of : Fn := ⟨2, 4, (.cons (.asg (.nam 2) (.mk true 1 (.cons (.var 0) .nil)))
  (.cons (.loop (.nam 3) (.seq (.var 1))
  (.cons (.expr (.mth false 1 41 (.var 2) (.cons (.var 3) .nil)))
  .nil))
  (.cons (.ret (.tup (.cons (.mth false 1 42 (.var 2) .nil) (.cons (.mth false 1 43 (.var 2) .nil) (.cons (.mth false 1 44 (.var 2) .nil) .nil)))))
  .nil)))⟩
def f__law_told_more : Fn := ⟨2, 3, (.cons (.ret (.bin .add (.lst false (.cons (.call false 164 (.cons (.var 0) (.cons (.var 1) .nil))) .nil)) (.lc false [2] (.nam 2) (.seq (.cst (.str [48, 49, 50, 51, 52, 53, 54, 55, 56, 57, 46, 43, 45, 42, 47, 61, 40, 41, 78, 66, 67, 80, 77, 82, 90, 69, 88, 68]))) .none (.call false 164 (.cons (.var 0) (.cons (.bin .add (.var 1) (.var 2)) .nil))))))
  .nil)⟩
def f_Player_press : Fn := ⟨2, 2, (.cons (.ite (.not (.val (.call false 3 (.cons (.var 1) .nil))))
  (.cons (.raise 2)
  .nil)
  .nil)
  (.cons (.ite (.cmp .eq (.blt .len (.cons (.fld 2 2 (.var 0)) .nil)) (.glb 2))
  (.cons (.raise 6)
  .nil)
  .nil)
  (.cons (.setf 2 3 (.var 0) (.cst (.str [])))
  (.cons (.ret (.mth false 2 110 (.var 0) (.cons (.var 1) .nil)))
  .nil))))⟩
def f_Player_go : Fn := ⟨2, 2, (.cons (.expr (.bm .append (.fld 2 1 (.var 0)) (.cons (.call false 39 (.cons (.fld 2 0 (.var 0)) (.cons (.ix (.fld 2 1 (.var 0)) (.neg (.cst (.int 1)))) (.cons (.var 1) .nil)))) .nil)))
  (.cons (.setf 2 2 (.var 0) (.bin .add (.fld 2 2 (.var 0)) (.var 1)))
  (.cons (.ret (.mth false 2 114 (.var 0) .nil))
  .nil)))⟩
def f_Player_waiting : Fn := ⟨1, 1, (.cons (.ret (.ix (.call false 84 (.cons (.fld 2 0 (.var 0)) (.cons (.ix (.fld 2 1 (.var 0)) (.neg (.cst (.int 1)))) .nil))) (.cst (.int 2))))
  .nil)⟩
def f_parting : Fn := ⟨3, 6, (.cons (.expr (.call false 2 (.cons (.var 0) .nil)))
  (.cons (.expr (.call false 5 (.cons (.var 1) (.cons (.var 2) .nil))))
  (.cons (.loop (.tup (.cons (.nam 3) (.cons (.tup (.cons (.nam 4) (.cons (.nam 5) .nil))) .nil))) (.enzip (.call false 45 (.cons (.var 0) (.cons (.var 2) .nil))) (.call false 45 (.cons (.var 1) (.cons (.var 2) .nil))))
  (.cons (.ite (.cmp .ne (.var 4) (.var 5))
  (.cons (.ret (.var 3))
  .nil)
  .nil)
  .nil))
  (.cons (.ret (.cst .non))
  .nil))))⟩
def f__law_flat : Fn := ⟨1, 3, (.cons (.asg (.nam 1) (.lst false .nil))
  (.cons (.loop (.nam 2) (.seq (.var 0))
  (.cons (.asg (.nam 1) (.bin .add (.var 1) (.var 2)))
  .nil))
  (.cons (.ret (.var 1))
  .nil)))⟩
def f_worth : Fn := ⟨2, 3, (.cons (.expr (.call false 57 (.cons (.var 0) (.cons (.var 1) .nil))))
  (.cons (.asg (.nam 2) (.call false 58 (.cons (.var 0) (.cons (.var 1) .nil))))
  (.cons (.ret (.ite (.cmp .is (.var 2) (.cst .non)) (.cst (.str [69])) (.call false 10 (.cons (.var 2) .nil))))
  .nil)))⟩
def f__law_gcd : Fn := ⟨2, 2, (.cons (.asg (.tup (.cons (.nam 0) (.cons (.nam 1) .nil))) (.tup (.cons (.blt .abs (.cons (.var 0) .nil)) (.cons (.blt .abs (.cons (.var 1) .nil)) .nil))))
  (.cons (.whl (.cmp .gt (.var 1) (.cst (.int 0)))
  (.cons (.asg (.tup (.cons (.nam 0) (.cons (.nam 1) .nil))) (.tup (.cons (.var 1) (.cons (.bin .mod (.var 0) (.var 1)) .nil))))
  .nil))
  (.cons (.ret (.var 0))
  .nil)))⟩
def f__law_share : Fn := ⟨2, 3, (.cons (.ite (.cmp .lt (.var 1) (.cst (.int 0)))
  (.cons (.asg (.tup (.cons (.nam 0) (.cons (.nam 1) .nil))) (.tup (.cons (.bin .sub (.cst (.int 0)) (.var 0)) (.cons (.bin .sub (.cst (.int 0)) (.var 1)) .nil))))
  .nil)
  .nil)
  (.cons (.asg (.nam 2) (.call false 167 (.cons (.var 0) (.cons (.var 1) .nil))))
  (.cons (.ret (.tup (.cons (.bin .fdiv (.var 0) (.var 2)) (.cons (.bin .fdiv (.var 1) (.var 2)) .nil))))
  .nil)))⟩
def f__law_exact : Fn := ⟨1, 6, (.cons (.ite (.cmp .eq (.ix (.var 0) (.cst (.int 0))) (.cst (.str [110, 117, 109])))
  (.cons (.asg (.tup (.cons (.nam 1) (.cons (.nam 2) .nil))) (.call false 122 (.cons (.ix (.var 0) (.cst (.int 1))) .nil)))
  (.cons (.ret (.call false 168 (.cons (.var 1) (.cons (.var 2) .nil))))
  .nil))
  .nil)
  (.cons (.asg (.tup (.cons (.nam 3) (.cons (.nam 4) .nil))) (.tup (.cons (.call false 169 (.cons (.ix (.var 0) (.cst (.int 1))) .nil)) (.cons (.call false 169 (.cons (.ix (.var 0) (.cst (.int 2))) .nil)) .nil))))
  (.cons (.ite (.or (.cons (.cmp .is (.var 3) (.cst .non)) (.cons (.cmp .is (.var 4) (.cst .non)) (.cons (.and (.cons (.cmp .eq (.ix (.var 0) (.cst (.int 0))) (.cst (.str [47]))) (.cons (.cmp .eq (.ix (.var 4) (.cst (.int 0))) (.cst (.int 0))) .nil))) .nil))))
  (.cons (.ret (.cst .non))
  .nil)
  .nil)
  (.cons (.ite (.cmp .isin (.ix (.var 0) (.cst (.int 0))) (.tup (.cons (.cst (.str [43])) (.cons (.cst (.str [45])) .nil))))
  (.cons (.asg (.nam 5) (.ite (.cmp .eq (.ix (.var 0) (.cst (.int 0))) (.cst (.str [43]))) (.cst (.int 1)) (.neg (.cst (.int 1)))))
  (.cons (.ret (.call false 168 (.cons (.bin .add (.bin .mul (.ix (.var 3) (.cst (.int 0))) (.ix (.var 4) (.cst (.int 1)))) (.bin .mul (.bin .mul (.var 5) (.ix (.var 4) (.cst (.int 0)))) (.ix (.var 3) (.cst (.int 1))))) (.cons (.bin .mul (.ix (.var 3) (.cst (.int 1))) (.ix (.var 4) (.cst (.int 1)))) .nil))))
  .nil))
  .nil)
  (.cons (.ite (.cmp .eq (.ix (.var 0) (.cst (.int 0))) (.cst (.str [42])))
  (.cons (.ret (.call false 168 (.cons (.bin .mul (.ix (.var 3) (.cst (.int 0))) (.ix (.var 4) (.cst (.int 0)))) (.cons (.bin .mul (.ix (.var 3) (.cst (.int 1))) (.ix (.var 4) (.cst (.int 1)))) .nil))))
  .nil)
  .nil)
  (.cons (.ret (.call false 168 (.cons (.bin .mul (.ix (.var 3) (.cst (.int 0))) (.ix (.var 4) (.cst (.int 1)))) (.cons (.bin .mul (.ix (.var 3) (.cst (.int 1))) (.ix (.var 4) (.cst (.int 0)))) .nil))))
  .nil))))))⟩
def f__law_few_sum : Fn := ⟨2, 3, (.cons (.asg (.nam 2) (.call false 140 (.cons (.var 0) (.cons (.cst (.int 3)) (.cons (.var 1) .nil)))))
  (.cons (.ret (.ite (.cmp .lt (.call false 143 (.cons (.var 2) .nil)) (.cst (.int 16))) (.var 2) (.tup (.cons (.cst (.str [110, 117, 109])) (.cons (.cst (.str [55])) .nil)))))
  .nil))⟩
def f__law_is_for : Fn := ⟨2, 3, (.cons (.ite (.cmp .eq (.ix (.var 0) (.cst (.int 0))) (.cst (.str [110, 117, 109])))
  (.cons (.ret (.cmp .le (.blt .len (.cons (.lc false [2] (.nam 2) (.seq (.ix (.var 0) (.cst (.int 1)))) (.some (.cmp .ne (.var 2) (.cst (.str [46])))) (.var 2)) .nil)) (.var 1)))
  .nil)
  .nil)
  (.cons (.ret (.and (.cons (.call false 171 (.cons (.ix (.var 0) (.cst (.int 1))) (.cons (.var 1) .nil))) (.cons (.call false 171 (.cons (.ix (.var 0) (.cst (.int 2))) (.cons (.var 1) .nil))) .nil))))
  .nil))⟩
def f__law_number_text : Fn := ⟨1, 4, (.cons (.asg (.nam 1) (.ite (.cmp .eq (.sl (.var 0) .none (.some (.cst (.int 1)))) (.cst (.str [45]))) (.neg (.cst (.int 1))) (.cst (.int 1))))
  (.cons (.asg (.tup (.cons (.nam 2) (.cons (.nam 3) .nil))) (.call false 122 (.cons (.ite (.cmp .lt (.var 1) (.cst (.int 0))) (.sl (.var 0) (.some (.cst (.int 1))) .none) (.var 0)) .nil)))
  (.cons (.ret (.call false 168 (.cons (.bin .mul (.var 1) (.var 2)) (.cons (.var 3) .nil))))
  .nil)))⟩
def f_Player_undo : Fn := ⟨1, 1, (.cons (.ite (.cmp .eq (.fld 2 2 (.var 0)) (.cst (.str [])))
  (.cons (.raise 10)
  .nil)
  .nil)
  (.cons (.expr (.bm .pop (.fld 2 1 (.var 0)) .nil))
  (.cons (.setf 2 3 (.var 0) (.bin .add (.fld 2 3 (.var 0)) (.ix (.fld 2 2 (.var 0)) (.neg (.cst (.int 1))))))
  (.cons (.setf 2 2 (.var 0) (.sl (.fld 2 2 (.var 0)) .none (.some (.neg (.cst (.int 1))))))
  (.cons (.ret (.ix (.fld 2 3 (.var 0)) (.neg (.cst (.int 1)))))
  .nil)))))⟩
def f_Player_redo : Fn := ⟨1, 2, (.cons (.ite (.cmp .eq (.fld 2 3 (.var 0)) (.cst (.str [])))
  (.cons (.raise 10)
  .nil)
  .nil)
  (.cons (.asg (.nam 1) (.ix (.fld 2 3 (.var 0)) (.neg (.cst (.int 1)))))
  (.cons (.setf 2 3 (.var 0) (.sl (.fld 2 3 (.var 0)) .none (.some (.neg (.cst (.int 1))))))
  (.cons (.expr (.mth false 2 110 (.var 0) (.cons (.var 1) .nil)))
  (.cons (.ret (.var 1))
  .nil)))))⟩
def f__law_play_deed : Fn := ⟨2, 3, (.cons (.tri (.cons (.ite (.cmp .eq (.var 1) (.cst (.str [117, 110, 100, 111])))
  (.cons (.asg (.nam 2) (.mth false 2 111 (.var 0) .nil))
  .nil)
  (.cons (.ite (.cmp .eq (.var 1) (.cst (.str [114, 101, 100, 111])))
  (.cons (.asg (.nam 2) (.mth false 2 112 (.var 0) .nil))
  .nil)
  (.cons (.asg (.nam 2) (.mth false 2 109 (.var 0) (.cons (.var 1) .nil)))
  .nil))
  .nil))
  .nil) [(2, 2, (.str [107, 101, 121])), (6, 2, (.str [109, 97, 110, 121])), (10, 2, (.str [100, 101, 101, 100]))])
  (.cons (.ret (.var 2))
  .nil))⟩
def f__law_play_drawn : Fn := ⟨1, 3, (.cons (.asg (.nam 1) (.cst (.str [48, 49, 50, 51, 52, 53, 54, 55, 56, 57, 46, 43, 45, 42, 47, 61, 40, 41, 78, 66, 67, 80, 77, 82, 90, 69, 88, 68, 49, 50, 51, 43, 45, 42, 61, 77])))
  (.cons (.asg (.nam 2) (.bin .mod (.bin .fdiv (.var 0) (.cst (.int 5))) (.cst (.int 9))))
  (.cons (.ite (.cmp .lt (.var 2) (.cst (.int 6)))
  (.cons (.ret (.ix (.var 1) (.bin .mod (.bin .fdiv (.var 0) (.cst (.int 101))) (.cst (.int 36)))))
  .nil)
  .nil)
  (.cons (.ret (.ix (.lst false (.cons (.cst (.str [117, 110, 100, 111])) (.cons (.cst (.str [114, 101, 100, 111])) (.cons (.ix (.lst false (.cons (.cst .non) (.cons (.cst (.str [])) (.cons (.cst (.str [49, 50])) (.cons (.cst (.str [101])) (.cons (.cst (.int 1)) (.cons (.tup (.cons (.cst (.str [49])) .nil)) .nil))))))) (.bin .mod (.bin .fdiv (.var 0) (.cst (.int 101))) (.cst (.int 6)))) .nil)))) (.bin .sub (.var 2) (.cst (.int 6)))))
  .nil))))⟩
end Kr
/-! KrN: what the program's numbers do. -/
namespace Kr
section
variable {G : Tab} {C : Cl} {l : Sl} {S : Sto} {keep : Bool}
theorem call1 (f : Nat) (a : D) : callW C keep f [.d a] S = leave keep S (C f [.d a] []) := rfl
theorem call2 (f : Nat) (a b : D) : callW C keep f [.d a, .d b] S = leave keep S (C f [.d a, .d b] []) := rfl
theorem call3 (f : Nat) (a b c : D) : callW C keep f [.d a, .d b, .d c] S = leave keep S (C f [.d a, .d b, .d c] []) := rfl
theorem call4 (f : Nat) (a b c d : D) : callW C keep f [.d a, .d b, .d c, .d d] S = leave keep S (C f [.d a, .d b, .d c, .d d] []) := rfl
theorem call5 (f : Nat) (a b c d e : D) : callW C keep f [.d a, .d b, .d c, .d d, .d e] S = leave keep S (C f [.d a, .d b, .d c, .d d, .d e] []) := rfl
end
/-- the core of the program is in the table -/
structure Core (G : Tab) : Prop where
  glN : G.glb 3 = some (.tup [.int 0, .int 0])
  glO : G.glb 4 = some (.tup [.str [40]])
  glM : G.glb 5 = some (.int 4)
  ini : G.ini 0 = some 12
  tens : G.fn 6 = some f_tens
  cut_number : G.fn 7 = some f_cut_number
  operation : G.fn 8 = some f_operation
  hundredth : G.fn 9 = some f_hundredth
  text_of : G.fn 10 = some f_text_of
  number_of : G.fn 11 = some f_number_of
  init : G.fn 12 = some f_Stand_init
  now : G.fn 13 = some f_Stand_now
  shown : G.fn 14 = some f_Stand_shown
  first_stand : G.fn 16 = some f_first_stand
  at_fault : G.fn 17 = some f_at_fault
  with_number : G.fn 18 = some f_with_number
  with_typed : G.fn 19 = some f_with_typed
  longer : G.fn 20 = some f_longer
  begun : G.fn 21 = some f_begun
  sign_turned : G.fn 22 = some f_sign_turned
  stored : G.fn 23 = some f_stored
  emptied : G.fn 24 = some f_emptied
  part_of : G.fn 25 = some f_part_of
  rank_of : G.fn 26 = some f_rank_of
  is_op : G.fn 27 = some f_is_op
  reduced : G.fn 28 = some f_reduced
  operated : G.fn 29 = some f_operated
  equalled : G.fn 30 = some f_equalled
  opened : G.fn 31 = some f_opened
  closed : G.fn 32 = some f_closed
  percent : G.fn 33 = some f_percent
  ordered : G.fn 34 = some f_ordered
  lifted : G.fn 35 = some f_lifted
  typed_on : G.fn 36 = some f_typed_on
  recalled : G.fn 37 = some f_recalled
  piled : G.fn 38 = some f_piled
  behind : G.fn 39 = some f_stand_behind
/-! figures -/
theorem natF_fuel : ∀ (n k : Nat), n ≤ k → natF k n = natF n n := by
  intro n
  induction n using Nat.strongRecOn with
  | ind n ih =>
    intro k h
    cases n with
    | zero =>
      cases k with
      | zero => rfl
      | succ k => rfl
    | succ n =>
      cases k with
      | zero => omega
      | succ k =>
        show (if n + 1 < 10 then [48 + (n + 1)] else natF k ((n + 1) / 10) ++ [48 + (n + 1) % 10]) = (if n + 1 < 10 then [48 + (n + 1)] else natF n ((n + 1) / 10) ++ [48 + (n + 1) % 10])
        by_cases c : n + 1 < 10
        · rw [if_pos c, if_pos c]
        · rw [if_neg c, if_neg c, ih ((n + 1) / 10) (by omega) k (by omega), ih ((n + 1) / 10) (by omega) n (by omega)]
theorem natT_small {n : Nat} (h : n < 10) : natT n = [48 + n] := by
  unfold natT
  cases n with
  | zero => rfl
  | succ n =>
    show (if n + 1 < 10 then [48 + (n + 1)] else _) = _
    rw [if_pos h]
theorem natT_step {n : Nat} (h : 10 ≤ n) : natT n = natT (n / 10) ++ [48 + n % 10] := by
  unfold natT
  cases n with
  | zero => omega
  | succ n =>
    show (if n + 1 < 10 then [48 + (n + 1)] else natF n ((n + 1) / 10) ++ [48 + (n + 1) % 10]) = _
    rw [if_neg (by omega), natF_fuel ((n + 1) / 10) n (by omega)]
theorem natT_len : ∀ (n p : Nat), 0 < p → n < 10 ^ p → (natT n).length ≤ p := by
  intro n
  induction n using Nat.strongRecOn with
  | ind n ih =>
    intro p hp h
    by_cases c : n < 10
    · rw [natT_small c]; exact hp
    · rw [natT_step (by omega), List.length_append]
      cases p with
      | zero => omega
      | succ p =>
        have h2 : n < 10 ^ p * 10 := by rw [← Nat.pow_succ]; exact h
        have hp2 : 0 < p := by
          cases p with
          | zero => omega
          | succ p => omega
        have := ih (n / 10) (by omega) p hp2 (by omega)
        simp only [List.length_cons, List.length_nil]
        omega
theorem natT_lt : ∀ (n : Nat), n < 10 ^ (natT n).length := by
  intro n
  induction n using Nat.strongRecOn with
  | ind n ih =>
    by_cases c : n < 10
    · rw [natT_small c]; exact c
    · rw [natT_step (by omega), List.length_append]
      have := ih (n / 10) (by omega)
      show n < 10 ^ ((natT (n / 10)).length + 1)
      rw [Nat.pow_succ]
      omega
theorem natT_pos (n : Nat) : 0 < (natT n).length := by
  by_cases c : n < 10
  · rw [natT_small c]; exact Nat.zero_lt_one
  · rw [natT_step (by omega), List.length_append]; exact Nat.lt_of_lt_of_le Nat.zero_lt_one (Nat.le_add_left _ _)
theorem intT_nat (n : Nat) : intT (n : Int) = natT n := rfl
theorem log_small {n : Nat} (h : n < 2 ^ 200) : n.log2 < 1900 := by
  by_cases c : n = 0
  · subst c; decide
  · have := (Nat.log2_lt c).mpr h
    omega
theorem big_of {i : Int} (h : i.natAbs < 2 ^ 200) : big i = true := by
  unfold big
  exact decide_eq_true (by have := log_small h; omega)
theorem readN_rep : ∀ (n a : Nat), readN (List.replicate n 48) a = some (a * 10 ^ n)
  | 0, a => by rw [Nat.pow_zero, Nat.mul_one]; rfl
  | n + 1, a => by
    show (if 48 ≤ 48 ∧ 48 ≤ 57 then readN (List.replicate n 48) (10 * a + (48 - 48)) else none) = _
    rw [if_pos (by omega), readN_rep n, Nat.pow_succ]
    congr 1
    rw [Nat.sub_self, Nat.add_zero, Nat.mul_comm 10 a, Nat.mul_assoc, Nat.mul_comm 10]
theorem rep_flat (n c : Nat) : (List.replicate n [c]).flatten = List.replicate n c := by
  induction n with
  | zero => rfl
  | succ n ih => rw [List.replicate_succ, List.flatten_cons, ih]; rfl
theorem run_tens {G : Tab} (hc : Core G) (k : Nat) {n : Int} (h0 : 0 ≤ n) (h1 : n ≤ 100) : run G (k + 1) 6 [.d (.int n)] [] = .ok (.d (.int ((10 ^ n.toNat : Nat) : Int))) [] := by
  rw [run_fn hc.tens rfl (by decide)]
  simp -implicitDefEqProofs only [bnd_ok, bnd_ex, sts_ok, sts_ex, sqs_nx, sqs_ret, sqs_ex, cnd_t, cnd_f, of_some, asd_ok, asd_ex, e_cst, e_var, rd_eq, rdO_ok, e_glb, glO_ok, e_bin, e_neg, e_cmp, chK_t, chK_f, e_chn, e_and, e_or, and_one, and_more, or_one, or_more, e_not, e_ite, e_call, mkI_some, e_mk, e_mth, e_blt, e_isi, e_bm, e_repl, e_fld, e_ix, e_sl, e_tup, e_lst, a_nil, a_cons, o_none, o_some, t_val, t_cmp, t_chn, t_and, t_or, t_not, tand_nil, tand_cons, tor_nil, tor_cons, g_nam, g_tup, gs_nil, gs_cons, s_expr, s_asg, s_setf, s_aug, augL_ok, s_ret, s_retN, s_ite, s_raise, b_nil, b_cons, fin_nx, fin_ret, fin_ex, o2, lk, looks, leave_d, leave_ex, dats_nil, dats_cons, fld_d, ix_d, call1, call2, call3, call4, call5, setL, List.getElem?_cons_zero, List.getElem?_cons_succ, Option.map_some, Option.bind_some, List.length_cons, List.length_nil, List.set_cons_zero, List.set_cons_succ, Nat.reduceAdd, Nat.reduceLT, Nat.reduceSub, reduceIte, decide_true, decide_false, List.map_cons, List.map_nil, List.cons_append, List.nil_append, List.replicate_succ, List.replicate_zero, Nat.lt_add_one, Nat.zero_lt_succ, Nat.zero_lt_one, f_tens]
  have e1 : evBin .mul (.str [48]) (.int n) = some (.str (List.replicate n.toNat 48)) := by
    show (if -1000000 ≤ n ∧ n ≤ 1000000 ∧ [48].length ≤ 10 then some (D.str (repT n [48])) else none) = _
    rw [if_pos ⟨by omega, by omega, by decide⟩]
    unfold repT
    rw [rep_flat]
  have e2 : evBin .add (.str [49]) (.str (List.replicate n.toNat 48)) = some (.str (49 :: List.replicate n.toNat 48)) := by
    show (if [49].length + (List.replicate n.toNat 48).length ≤ sz then some (D.str ([49] ++ List.replicate n.toNat 48)) else none) = _
    rw [if_pos (by rw [List.length_replicate]; show 1 + n.toNat ≤ 16777216; omega)]
    rfl
  have e3 : evBi .int [.str (49 :: List.replicate n.toNat 48)] = some (.int ((10 ^ n.toNat : Nat) : Int)) := by
    show (if (49 :: List.replicate n.toNat 48).length ≤ 600 then (readI (49 :: List.replicate n.toNat 48)).map D.int else none) = _
    rw [if_pos (by rw [List.length_cons, List.length_replicate]; omega)]
    have : readI (49 :: List.replicate n.toNat 48) = some ((10 ^ n.toNat : Nat) : Int) := by
      show (readN (List.replicate n.toNat 48) (10 * 0 + (49 - 48))).map (fun (n : Nat) => (n : Int)) = _
      rw [readN_rep, Nat.mul_zero, Nat.zero_add]
      show some (((49 - 48) * 10 ^ n.toNat : Nat) : Int) = _
      rw [show 49 - 48 = 1 from rfl, Nat.one_mul]
    rw [this]; rfl
  simp only [e1, e2, e3, bnd_ok, bnd_ex, sts_ok, sts_ex, sqs_nx, sqs_ret, sqs_ex, cnd_t, cnd_f, of_some, asd_ok, asd_ex, e_cst, e_var, rd_eq, rdO_ok, e_glb, glO_ok, e_bin, e_neg, e_cmp, chK_t, chK_f, e_chn, e_and, e_or, and_one, and_more, or_one, or_more, e_not, e_ite, e_call, mkI_some, e_mk, e_mth, e_blt, e_isi, e_bm, e_repl, e_fld, e_ix, e_sl, e_tup, e_lst, a_nil, a_cons, o_none, o_some, t_val, t_cmp, t_chn, t_and, t_or, t_not, tand_nil, tand_cons, tor_nil, tor_cons, g_nam, g_tup, gs_nil, gs_cons, s_expr, s_asg, s_setf, s_aug, augL_ok, s_ret, s_retN, s_ite, s_raise, b_nil, b_cons, fin_nx, fin_ret, fin_ex, o2, lk, looks, leave_d, leave_ex, dats_nil, dats_cons, fld_d, ix_d, call1, call2, call3, call4, call5, setL, List.getElem?_cons_zero, List.getElem?_cons_succ, Option.map_some, Option.bind_some, List.length_cons, List.length_nil, List.set_cons_zero, List.set_cons_succ, Nat.reduceAdd, Nat.reduceLT, Nat.reduceSub, reduceIte, decide_true, decide_false, List.map_cons, List.map_nil, List.cons_append, List.nil_append, List.replicate_succ, List.replicate_zero, Nat.lt_add_one, Nat.zero_lt_succ, Nat.zero_lt_one]
/-! a number: figures, and how many behind the point -/
structure Nm where
  n : Int
  b : Nat
  deriving DecidableEq
def Nm.D (x : Nm) : D := .tup [.int x.n, .int x.b]
def Nm.ok (x : Nm) : Prop := x.n.natAbs < 10 ^ 8 ∧ x.b ≤ 7
def nm0 : Nm := ⟨0, 0⟩
theorem nm0_ok : nm0.ok := by unfold Nm.ok nm0; decide
def oD : Option Nm → D
  | none => .non
  | some x => x.D
def strip0 : Nat → Nat → Nat × Nat
  | 0, f => (f, 0)
  | b + 1, f => if f % 10 = 0 then strip0 b (f / 10) else (f, b + 1)
theorem strip0_le : ∀ (b f : Nat), (strip0 b f).1 ≤ f ∧ (strip0 b f).2 ≤ b
  | 0, f => ⟨Nat.le_refl _, Nat.le_refl _⟩
  | b + 1, f => by
    unfold strip0
    by_cases c : f % 10 = 0
    · rw [if_pos c]
      have := strip0_le b (f / 10)
      omega
    · rw [if_neg c]
      exact ⟨Nat.le_refl _, Nat.le_refl _⟩
/-- up / down, cut to so many figures -/
def cutN (up down : Int) (p : Nat) : Option Nm :=
  if 10 ^ p ≤ up.natAbs / down.natAbs then none else
  let r := strip0 (p - (natT (up.natAbs / down.natAbs)).length) (up.natAbs * 10 ^ (p - (natT (up.natAbs / down.natAbs)).length) / down.natAbs)
  some ⟨if 0 ≤ (if down < 0 then -up else up) then (r.1 : Int) else -(r.1 : Int), r.2⟩
theorem cutN_ok {up down : Int} {p : Nat} (hp : 3 ≤ p ∧ p ≤ 8) (hd : down ≠ 0) {x : Nm} (h : cutN up down p = some x) : x.n.natAbs < 10 ^ p ∧ x.b < p := by
  unfold cutN at h
  split at h
  · cases h
  · rename_i c
    injection h with h
    subst h
    have hL := natT_lt (up.natAbs / down.natAbs)
    have hlen := natT_len (up.natAbs / down.natAbs) p (by omega) (by omega)
    have hpos := natT_pos (up.natAbs / down.natAbs)
    have hs := strip0_le (p - (natT (up.natAbs / down.natAbs)).length) (up.natAbs * 10 ^ (p - (natT (up.natAbs / down.natAbs)).length) / down.natAbs)
    have hdn : 0 < down.natAbs := by omega
    have hf : up.natAbs * 10 ^ (p - (natT (up.natAbs / down.natAbs)).length) / down.natAbs < 10 ^ p := by
      rw [Nat.div_lt_iff_lt_mul hdn]
      have e : 10 ^ p = 10 ^ (natT (up.natAbs / down.natAbs)).length * 10 ^ (p - (natT (up.natAbs / down.natAbs)).length) := by
        rw [← Nat.pow_add]; congr 1; omega
      rw [e, Nat.mul_right_comm]
      refine Nat.mul_lt_mul_of_pos_right ?_ (Nat.pow_pos (by omega))
      rw [← Nat.div_lt_iff_lt_mul hdn]
      exact hL
    generalize strip0 (p - (natT (up.natAbs / down.natAbs)).length) (up.natAbs * 10 ^ (p - (natT (up.natAbs / down.natAbs)).length) / down.natAbs) = r at hs
    generalize (if down < 0 then -up else up) = us
    refine ⟨?_, by show r.2 < p; omega⟩
    show (if 0 ≤ us then (r.1 : Int) else -(r.1 : Int)).natAbs < _
    split
    · rw [Int.natAbs_natCast]; omega
    · rw [Int.natAbs_neg, Int.natAbs_natCast]; omega
theorem pow_le8 {p : Nat} (h : p ≤ 8) : 10 ^ p ≤ 10 ^ 8 := Nat.pow_le_pow_right (by omega) h
theorem cutN_nm {up down : Int} {p : Nat} (hp : 3 ≤ p ∧ p ≤ 8) (hd : down ≠ 0) {x : Nm} (h : cutN up down p = some x) : x.ok := by
  have := cutN_ok hp hd h
  have := pow_le8 hp.2
  exact ⟨by omega, by omega⟩
theorem abs_eq (i : Int) : (if i < 0 then -i else i) = (i.natAbs : Int) := by split <;> omega
theorem cmp_int (i j : Int) : evCmp .lt (.int i) (.int j) = some (decide (i < j)) ∧ evCmp .le (.int i) (.int j) = some (decide (i ≤ j)) ∧ evCmp .gt (.int i) (.int j) = some (decide (j < i)) ∧ evCmp .ge (.int i) (.int j) = some (decide (j ≤ i)) ∧ evCmp .eq (.int i) (.int j) = some (i == j) ∧ evCmp .ne (.int i) (.int j) = some (!(i == j)) := ⟨rfl, rfl, rfl, rfl, rfl, rfl⟩
theorem cmp_lt (i j : Int) : evCmp .lt (.int i) (.int j) = some (decide (i < j)) := rfl
theorem cmp_le (i j : Int) : evCmp .le (.int i) (.int j) = some (decide (i ≤ j)) := rfl
theorem cmp_gt (i j : Int) : evCmp .gt (.int i) (.int j) = some (decide (j < i)) := rfl
theorem cmp_ge (i j : Int) : evCmp .ge (.int i) (.int j) = some (decide (j ≤ i)) := rfl
theorem cmp_eqi (i j : Int) : evCmp .eq (.int i) (.int j) = some (i == j) := rfl
theorem cmp_nei (i j : Int) : evCmp .ne (.int i) (.int j) = some (!(i == j)) := rfl
theorem cmp_eqs (x y : Tx) : evCmp .eq (.str x) (.str y) = some (x == y) := rfl
theorem cmp_nes (x y : Tx) : evCmp .ne (.str x) (.str y) = some (!(x == y)) := rfl
theorem bin_add (i j : Int) : evBin .add (.int i) (.int j) = some (.int (i + j)) := rfl
theorem bin_sub (i j : Int) : evBin .sub (.int i) (.int j) = some (.int (i - j)) := rfl
theorem bin_mul {i j : Int} (h : i.natAbs < 2 ^ 200) (h2 : j.natAbs < 2 ^ 200) : evBin .mul (.int i) (.int j) = some (.int (i * j)) := by
  show (if mulOk i j then some (D.int (i * j)) else none) = _
  have : mulOk i j = true := by
    unfold mulOk
    rw [big_of h, big_of h2]
    simp
  rw [this]; rfl
theorem bin_div {i j : Int} (h : 0 < j) (h2 : j.natAbs < 2 ^ 200) : evBin .fdiv (.int i) (.int j) = some (.int (i / j)) := by
  show (if 0 < j ∧ big j = true then some (D.int (i / j)) else none) = _
  rw [if_pos ⟨h, big_of h2⟩]
theorem bin_mod {i j : Int} (h : 0 < j) : evBin .mod (.int i) (.int j) = some (.int (i % j)) := by
  show (if 0 < j then some (D.int (i % j)) else none) = _
  rw [if_pos h]
theorem bi_str (n : Nat) (h : n < 2 ^ 200) : evBi .str [.int (n : Int)] = some (.str (natT n)) := by
  show (if (n : Int).natAbs.log2 < 1900 then some (D.str (intT (n : Int))) else none) = _
  rw [if_pos (by rw [Int.natAbs_natCast]; exact log_small h)]
  rfl
theorem bi_len {x : Tx} (h : x.length ≤ sz) : evBi .len [.str x] = some (.int x.length) := by
  show (if x.length ≤ sz then some (D.int x.length) else none) = _
  rw [if_pos h]
theorem bi_abs (i : Int) : evBi .abs [.int i] = some (.int (i.natAbs : Int)) := by
  show some (D.int (if i < 0 then -i else i)) = _
  rw [abs_eq]
theorem natT_sz {n : Nat} (h : n < 10 ^ 30) : (natT n).length ≤ sz := by
  have := natT_len n 30 (by omega) h
  show _ ≤ 16777216
  omega
/-- the noughts at the end -/
theorem cut_loop {G : Tab} {C : Cl} (u d p w : W) (S : Sto) : ∀ (b f k : Nat), b < k →
    evWhile (evT G C (.and (.cons (.cmp .gt (.var 4) (.cst (.int 0))) (.cons (.cmp .eq (.bin .mod (.var 5) (.cst (.int 10))) (.cst (.int 0))) .nil))))
      (evB G C (.cons (.asg (.nam 5) (.bin .fdiv (.var 5) (.cst (.int 10)))) (.cons (.aug 4 .sub (.cst (.int 1))) .nil))) k [some u, some d, some p, some w, some (.d (.int (b : Int))), some (.d (.int (f : Int)))] S =
    .nx [some u, some d, some p, some w, some (.d (.int ((strip0 b f).2 : Int))), some (.d (.int ((strip0 b f).1 : Int)))] S := by
  intro b
  induction b with
  | zero =>
    intro f k hk
    cases k with
    | zero => omega
    | succ k =>
      unfold evWhile
      simp -implicitDefEqProofs only [bnd_ok, bnd_ex, sts_ok, sts_ex, sqs_nx, sqs_ret, sqs_ex, cnd_t, cnd_f, of_some, asd_ok, asd_ex, e_cst, e_var, rd_eq, rdO_ok, e_glb, glO_ok, e_bin, e_neg, e_cmp, chK_t, chK_f, e_chn, e_and, e_or, and_one, and_more, or_one, or_more, e_not, e_ite, e_call, mkI_some, e_mk, e_mth, e_blt, e_isi, e_bm, e_repl, e_fld, e_ix, e_sl, e_tup, e_lst, a_nil, a_cons, o_none, o_some, t_val, t_cmp, t_chn, t_and, t_or, t_not, tand_nil, tand_cons, tor_nil, tor_cons, g_nam, g_tup, gs_nil, gs_cons, s_expr, s_asg, s_setf, s_aug, augL_ok, s_ret, s_retN, s_ite, s_raise, b_nil, b_cons, fin_nx, fin_ret, fin_ex, o2, lk, looks, leave_d, leave_ex, dats_nil, dats_cons, fld_d, ix_d, call1, call2, call3, call4, call5, setL, List.getElem?_cons_zero, List.getElem?_cons_succ, Option.map_some, Option.bind_some, List.length_cons, List.length_nil, List.set_cons_zero, List.set_cons_succ, Nat.reduceAdd, Nat.reduceLT, Nat.reduceSub, reduceIte, decide_true, decide_false, List.map_cons, List.map_nil, List.cons_append, List.nil_append, List.replicate_succ, List.replicate_zero, Nat.lt_add_one, Nat.zero_lt_succ, Nat.zero_lt_one, cmp_gt]
      rfl
  | succ b ih =>
    intro f k hk
    cases k with
    | zero => omega
    | succ k =>
      unfold evWhile
      have e1 : evBin .mod (.int (f : Int)) (.int 10) = some (.int ((f % 10 : Nat) : Int)) := by
        rw [bin_mod (by omega)]; rfl
      have e2 : evBin .fdiv (.int (f : Int)) (.int 10) = some (.int ((f / 10 : Nat) : Int)) := by
        rw [bin_div (by omega) (Nat.lt_of_lt_of_le (by decide : 10 < 2 ^ 64) (Nat.pow_le_pow_right (by omega) (by omega)))]; rfl
      have e0 : decide ((0 : Int) < ((b + 1 : Nat) : Int)) = true := decide_eq_true (by omega)
      simp -implicitDefEqProofs only [bnd_ok, bnd_ex, sts_ok, sts_ex, sqs_nx, sqs_ret, sqs_ex, cnd_t, cnd_f, of_some, asd_ok, asd_ex, e_cst, e_var, rd_eq, rdO_ok, e_glb, glO_ok, e_bin, e_neg, e_cmp, chK_t, chK_f, e_chn, e_and, e_or, and_one, and_more, or_one, or_more, e_not, e_ite, e_call, mkI_some, e_mk, e_mth, e_blt, e_isi, e_bm, e_repl, e_fld, e_ix, e_sl, e_tup, e_lst, a_nil, a_cons, o_none, o_some, t_val, t_cmp, t_chn, t_and, t_or, t_not, tand_nil, tand_cons, tor_nil, tor_cons, g_nam, g_tup, gs_nil, gs_cons, s_expr, s_asg, s_setf, s_aug, augL_ok, s_ret, s_retN, s_ite, s_raise, b_nil, b_cons, fin_nx, fin_ret, fin_ex, o2, lk, looks, leave_d, leave_ex, dats_nil, dats_cons, fld_d, ix_d, call1, call2, call3, call4, call5, setL, List.getElem?_cons_zero, List.getElem?_cons_succ, Option.map_some, Option.bind_some, List.length_cons, List.length_nil, List.set_cons_zero, List.set_cons_succ, Nat.reduceAdd, Nat.reduceLT, Nat.reduceSub, reduceIte, decide_true, decide_false, List.map_cons, List.map_nil, List.cons_append, List.nil_append, List.replicate_succ, List.replicate_zero, Nat.lt_add_one, Nat.zero_lt_succ, Nat.zero_lt_one, cmp_gt, e0, cmp_eqi, e1]
      by_cases c : f % 10 = 0
      · rw [c]
        have e3 : intOp .sub (.int ((b + 1 : Nat) : Int)) (.int 1) = some (.int (b : Int)) := by
          show some (D.int (((b + 1 : Nat) : Int) - 1)) = _
          congr 2
          omega
        simp -implicitDefEqProofs only [bnd_ok, bnd_ex, sts_ok, sts_ex, sqs_nx, sqs_ret, sqs_ex, cnd_t, cnd_f, of_some, asd_ok, asd_ex, e_cst, e_var, rd_eq, rdO_ok, e_glb, glO_ok, e_bin, e_neg, e_cmp, chK_t, chK_f, e_chn, e_and, e_or, and_one, and_more, or_one, or_more, e_not, e_ite, e_call, mkI_some, e_mk, e_mth, e_blt, e_isi, e_bm, e_repl, e_fld, e_ix, e_sl, e_tup, e_lst, a_nil, a_cons, o_none, o_some, t_val, t_cmp, t_chn, t_and, t_or, t_not, tand_nil, tand_cons, tor_nil, tor_cons, g_nam, g_tup, gs_nil, gs_cons, s_expr, s_asg, s_setf, s_aug, augL_ok, s_ret, s_retN, s_ite, s_raise, b_nil, b_cons, fin_nx, fin_ret, fin_ex, o2, lk, looks, leave_d, leave_ex, dats_nil, dats_cons, fld_d, ix_d, call1, call2, call3, call4, call5, setL, List.getElem?_cons_zero, List.getElem?_cons_succ, Option.map_some, Option.bind_some, List.length_cons, List.length_nil, List.set_cons_zero, List.set_cons_succ, Nat.reduceAdd, Nat.reduceLT, Nat.reduceSub, reduceIte, decide_true, decide_false, List.map_cons, List.map_nil, List.cons_append, List.nil_append, List.replicate_succ, List.replicate_zero, Nat.lt_add_one, Nat.zero_lt_succ, Nat.zero_lt_one, e2, augK, e3, RE.st]
        show evWhile _ _ k _ S = _
        rw [ih (f / 10) k (by omega)]
        have : strip0 (b + 1) f = strip0 b (f / 10) := by
          show (if f % 10 = 0 then strip0 b (f / 10) else (f, b + 1)) = _
          rw [if_pos c]
        rw [this]
      · have e3 : (((f % 10 : Nat) : Int) == 0) = false := by
          rw [beq_eq_false_iff_ne]; omega
        rw [e3]
        simp -implicitDefEqProofs only [bnd_ok, bnd_ex, sts_ok, sts_ex, sqs_nx, sqs_ret, sqs_ex, cnd_t, cnd_f, of_some, asd_ok, asd_ex, e_cst, e_var, rd_eq, rdO_ok, e_glb, glO_ok, e_bin, e_neg, e_cmp, chK_t, chK_f, e_chn, e_and, e_or, and_one, and_more, or_one, or_more, e_not, e_ite, e_call, mkI_some, e_mk, e_mth, e_blt, e_isi, e_bm, e_repl, e_fld, e_ix, e_sl, e_tup, e_lst, a_nil, a_cons, o_none, o_some, t_val, t_cmp, t_chn, t_and, t_or, t_not, tand_nil, tand_cons, tor_nil, tor_cons, g_nam, g_tup, gs_nil, gs_cons, s_expr, s_asg, s_setf, s_aug, augL_ok, s_ret, s_retN, s_ite, s_raise, b_nil, b_cons, fin_nx, fin_ret, fin_ex, o2, lk, looks, leave_d, leave_ex, dats_nil, dats_cons, fld_d, ix_d, call1, call2, call3, call4, call5, setL, List.getElem?_cons_zero, List.getElem?_cons_succ, Option.map_some, Option.bind_some, List.length_cons, List.length_nil, List.set_cons_zero, List.set_cons_succ, Nat.reduceAdd, Nat.reduceLT, Nat.reduceSub, reduceIte, decide_true, decide_false, List.map_cons, List.map_nil, List.cons_append, List.nil_append, List.replicate_succ, List.replicate_zero, Nat.lt_add_one, Nat.zero_lt_succ, Nat.zero_lt_one, RE.st]
        have : strip0 (b + 1) f = (f, b + 1) := by unfold strip0; rw [if_neg c]
        rw [this]
        rfl
end Kr
namespace Kr
theorem run_cut {G : Tab} (hc : Core G) (k : Nat) {up down : Int} {p : Nat} (hp : 3 ≤ p ∧ p ≤ 8) (hu : up.natAbs < 10 ^ 18) (hd : down ≠ 0) (hd2 : down.natAbs < 10 ^ 18) :
    run G (k + 2) 7 [.d (.int up), .d (.int down), .d (.int (p : Int))] [] = .ok (.d (oD (cutN up down p))) [] := by
  rw [run_fn hc.cut_number rfl (by decide)]
  have P18 : 10 ^ 18 < 2 ^ 200 := by decide
  -- the signs
  have h1 : evB G (run G (k + 1)) f_cut_number.body ([W.d (.int up), .d (.int down), .d (.int (p : Int))].map some ++ List.replicate (f_cut_number.ns - f_cut_number.np) none) [] =
      evB G (run G (k + 1)) (match f_cut_number.body with | .cons _ s => s | s => s) [some (.d (.int (if down < 0 then -up else up))), some (.d (.int (down.natAbs : Int))), some (.d (.int (p : Int))), none, none, none] [] := by
    simp only [f_cut_number]
    rw [b_cons]
    by_cases c : down < 0
    · have e : (-down : Int) = (down.natAbs : Int) := by omega
      simp -implicitDefEqProofs only [bnd_ok, bnd_ex, sts_ok, sts_ex, sqs_nx, sqs_ret, sqs_ex, cnd_t, cnd_f, of_some, asd_ok, asd_ex, e_cst, e_var, rd_eq, rdO_ok, e_glb, glO_ok, e_bin, e_neg, e_cmp, chK_t, chK_f, e_chn, e_and, e_or, and_one, and_more, or_one, or_more, e_not, e_ite, e_call, mkI_some, e_mk, e_mth, e_blt, e_isi, e_bm, e_repl, e_fld, e_ix, e_sl, e_tup, e_lst, a_nil, a_cons, o_none, o_some, t_val, t_cmp, t_chn, t_and, t_or, t_not, tand_nil, tand_cons, tor_nil, tor_cons, g_nam, g_tup, gs_nil, gs_cons, s_expr, s_asg, s_setf, s_aug, augL_ok, s_ret, s_retN, s_ite, s_raise, b_nil, b_cons, fin_nx, fin_ret, fin_ex, o2, lk, looks, leave_d, leave_ex, dats_nil, dats_cons, fld_d, ix_d, call1, call2, call3, call4, call5, setL, List.getElem?_cons_zero, List.getElem?_cons_succ, Option.map_some, Option.bind_some, List.length_cons, List.length_nil, List.set_cons_zero, List.set_cons_succ, Nat.reduceAdd, Nat.reduceLT, Nat.reduceSub, reduceIte, decide_true, decide_false, List.map_cons, List.map_nil, List.cons_append, List.nil_append, List.replicate_succ, List.replicate_zero, Nat.lt_add_one, Nat.zero_lt_succ, Nat.zero_lt_one, cmp_lt, decide_eq_true c, if_pos c, sz, Nat.reduceLeDiff, e]
    · have e : (down : Int) = (down.natAbs : Int) := by omega
      simp -implicitDefEqProofs only [bnd_ok, bnd_ex, sts_ok, sts_ex, sqs_nx, sqs_ret, sqs_ex, cnd_t, cnd_f, of_some, asd_ok, asd_ex, e_cst, e_var, rd_eq, rdO_ok, e_glb, glO_ok, e_bin, e_neg, e_cmp, chK_t, chK_f, e_chn, e_and, e_or, and_one, and_more, or_one, or_more, e_not, e_ite, e_call, mkI_some, e_mk, e_mth, e_blt, e_isi, e_bm, e_repl, e_fld, e_ix, e_sl, e_tup, e_lst, a_nil, a_cons, o_none, o_some, t_val, t_cmp, t_chn, t_and, t_or, t_not, tand_nil, tand_cons, tor_nil, tor_cons, g_nam, g_tup, gs_nil, gs_cons, s_expr, s_asg, s_setf, s_aug, augL_ok, s_ret, s_retN, s_ite, s_raise, b_nil, b_cons, fin_nx, fin_ret, fin_ex, o2, lk, looks, leave_d, leave_ex, dats_nil, dats_cons, fld_d, ix_d, call1, call2, call3, call4, call5, setL, List.getElem?_cons_zero, List.getElem?_cons_succ, Option.map_some, Option.bind_some, List.length_cons, List.length_nil, List.set_cons_zero, List.set_cons_succ, Nat.reduceAdd, Nat.reduceLT, Nat.reduceSub, reduceIte, decide_true, decide_false, List.map_cons, List.map_nil, List.cons_append, List.nil_append, List.replicate_succ, List.replicate_zero, Nat.lt_add_one, Nat.zero_lt_succ, Nat.zero_lt_one, cmp_lt, decide_eq_false c, if_neg c, ← e]
  rw [h1]
  simp only [f_cut_number]
  generalize hus : (if down < 0 then -up else up) = us
  have hun : us.natAbs = up.natAbs := by rw [← hus]; split <;> omega
  have hdn : 0 < down.natAbs := by omega
  have e1 : evBin .fdiv (.int (us.natAbs : Int)) (.int (down.natAbs : Int)) = some (.int ((up.natAbs / down.natAbs : Nat) : Int)) := by
    rw [bin_div (by omega) (by rw [Int.natAbs_natCast]; omega), hun]; rfl
  have t1 := run_tens hc k (n := (p : Int)) (by omega) (by omega)
  rw [Int.toNat_natCast] at t1
  have hw : up.natAbs / down.natAbs < 10 ^ 18 := Nat.lt_of_le_of_lt (Nat.div_le_self _ _) hu
  have hw30 : up.natAbs / down.natAbs < 10 ^ 30 := by omega
  have hw2 : up.natAbs / down.natAbs < 2 ^ 200 := by omega
  simp -implicitDefEqProofs only [bnd_ok, bnd_ex, sts_ok, sts_ex, sqs_nx, sqs_ret, sqs_ex, cnd_t, cnd_f, of_some, asd_ok, asd_ex, e_cst, e_var, rd_eq, rdO_ok, e_glb, glO_ok, e_bin, e_neg, e_cmp, chK_t, chK_f, e_chn, e_and, e_or, and_one, and_more, or_one, or_more, e_not, e_ite, e_call, mkI_some, e_mk, e_mth, e_blt, e_isi, e_bm, e_repl, e_fld, e_ix, e_sl, e_tup, e_lst, a_nil, a_cons, o_none, o_some, t_val, t_cmp, t_chn, t_and, t_or, t_not, tand_nil, tand_cons, tor_nil, tor_cons, g_nam, g_tup, gs_nil, gs_cons, s_expr, s_asg, s_setf, s_aug, augL_ok, s_ret, s_retN, s_ite, s_raise, b_nil, b_cons, fin_nx, fin_ret, fin_ex, o2, lk, looks, leave_d, leave_ex, dats_nil, dats_cons, fld_d, ix_d, call1, call2, call3, call4, call5, setL, List.getElem?_cons_zero, List.getElem?_cons_succ, Option.map_some, Option.bind_some, List.length_cons, List.length_nil, List.set_cons_zero, List.set_cons_succ, Nat.reduceAdd, Nat.reduceLT, Nat.reduceSub, reduceIte, decide_true, decide_false, List.map_cons, List.map_nil, List.cons_append, List.nil_append, List.replicate_succ, List.replicate_zero, Nat.lt_add_one, Nat.zero_lt_succ, Nat.zero_lt_one, bi_abs, e1, t1, cmp_ge]
  unfold cutN
  by_cases c : 10 ^ p ≤ up.natAbs / down.natAbs
  · have c' : (((10 ^ p : Nat) : Int) ≤ ((up.natAbs / down.natAbs : Nat) : Int)) := by omega
    simp -implicitDefEqProofs only [bnd_ok, bnd_ex, sts_ok, sts_ex, sqs_nx, sqs_ret, sqs_ex, cnd_t, cnd_f, of_some, asd_ok, asd_ex, e_cst, e_var, rd_eq, rdO_ok, e_glb, glO_ok, e_bin, e_neg, e_cmp, chK_t, chK_f, e_chn, e_and, e_or, and_one, and_more, or_one, or_more, e_not, e_ite, e_call, mkI_some, e_mk, e_mth, e_blt, e_isi, e_bm, e_repl, e_fld, e_ix, e_sl, e_tup, e_lst, a_nil, a_cons, o_none, o_some, t_val, t_cmp, t_chn, t_and, t_or, t_not, tand_nil, tand_cons, tor_nil, tor_cons, g_nam, g_tup, gs_nil, gs_cons, s_expr, s_asg, s_setf, s_aug, augL_ok, s_ret, s_retN, s_ite, s_raise, b_nil, b_cons, fin_nx, fin_ret, fin_ex, o2, lk, looks, leave_d, leave_ex, dats_nil, dats_cons, fld_d, ix_d, call1, call2, call3, call4, call5, setL, List.getElem?_cons_zero, List.getElem?_cons_succ, Option.map_some, Option.bind_some, List.length_cons, List.length_nil, List.set_cons_zero, List.set_cons_succ, Nat.reduceAdd, Nat.reduceLT, Nat.reduceSub, reduceIte, decide_true, decide_false, List.map_cons, List.map_nil, List.cons_append, List.nil_append, List.replicate_succ, List.replicate_zero, Nat.lt_add_one, Nat.zero_lt_succ, Nat.zero_lt_one, decide_eq_true c', if_pos c]
    rfl
  · have c' : ¬ (((10 ^ p : Nat) : Int) ≤ ((up.natAbs / down.natAbs : Nat) : Int)) := by omega
    have hlen := natT_len (up.natAbs / down.natAbs) p (by omega) (by omega)
    generalize hL : (natT (up.natAbs / down.natAbs)).length = L at hlen
    have e2 : ((p : Int) - ((L : Nat) : Int)) = ((p - L : Nat) : Int) := by omega
    have t2 := run_tens hc k (n := ((p - L : Nat) : Int)) (by omega) (by omega)
    rw [Int.toNat_natCast] at t2
    have hpl : 10 ^ (p - L) ≤ 10 ^ 8 := Nat.pow_le_pow_right (by omega) (by omega)
    have e3 : evBin .mul (.int (us.natAbs : Int)) (.int ((10 ^ (p - L) : Nat) : Int)) = some (.int ((up.natAbs * 10 ^ (p - L) : Nat) : Int)) := by
      rw [bin_mul (by rw [Int.natAbs_natCast]; omega) (by rw [Int.natAbs_natCast]; omega), hun]; rfl
    have e4 : evBin .fdiv (.int ((up.natAbs * 10 ^ (p - L) : Nat) : Int)) (.int (down.natAbs : Int)) = some (.int ((up.natAbs * 10 ^ (p - L) / down.natAbs : Nat) : Int)) := by
      rw [bin_div (by omega) (by rw [Int.natAbs_natCast]; omega)]; rfl
    simp -implicitDefEqProofs only [bnd_ok, bnd_ex, sts_ok, sts_ex, sqs_nx, sqs_ret, sqs_ex, cnd_t, cnd_f, of_some, asd_ok, asd_ex, e_cst, e_var, rd_eq, rdO_ok, e_glb, glO_ok, e_bin, e_neg, e_cmp, chK_t, chK_f, e_chn, e_and, e_or, and_one, and_more, or_one, or_more, e_not, e_ite, e_call, mkI_some, e_mk, e_mth, e_blt, e_isi, e_bm, e_repl, e_fld, e_ix, e_sl, e_tup, e_lst, a_nil, a_cons, o_none, o_some, t_val, t_cmp, t_chn, t_and, t_or, t_not, tand_nil, tand_cons, tor_nil, tor_cons, g_nam, g_tup, gs_nil, gs_cons, s_expr, s_asg, s_setf, s_aug, augL_ok, s_ret, s_retN, s_ite, s_raise, b_nil, b_cons, fin_nx, fin_ret, fin_ex, o2, lk, looks, leave_d, leave_ex, dats_nil, dats_cons, fld_d, ix_d, call1, call2, call3, call4, call5, setL, List.getElem?_cons_zero, List.getElem?_cons_succ, Option.map_some, Option.bind_some, List.length_cons, List.length_nil, List.set_cons_zero, List.set_cons_succ, Nat.reduceAdd, Nat.reduceLT, Nat.reduceSub, reduceIte, decide_true, decide_false, List.map_cons, List.map_nil, List.cons_append, List.nil_append, List.replicate_succ, List.replicate_zero, Nat.lt_add_one, Nat.zero_lt_succ, Nat.zero_lt_one, decide_eq_false c', if_neg c, bi_str _ hw2, bi_len (natT_sz hw30), hL, bin_sub, e2, t2, bi_abs, e3, e4]
    rw [s_whl, cut_loop _ _ _ _ _ (p - L) (up.natAbs * 10 ^ (p - L) / down.natAbs) 100000 (by omega)]
    generalize strip0 (p - L) (up.natAbs * 10 ^ (p - L) / down.natAbs) = r
    simp -implicitDefEqProofs only [bnd_ok, bnd_ex, sts_ok, sts_ex, sqs_nx, sqs_ret, sqs_ex, cnd_t, cnd_f, of_some, asd_ok, asd_ex, e_cst, e_var, rd_eq, rdO_ok, e_glb, glO_ok, e_bin, e_neg, e_cmp, chK_t, chK_f, e_chn, e_and, e_or, and_one, and_more, or_one, or_more, e_not, e_ite, e_call, mkI_some, e_mk, e_mth, e_blt, e_isi, e_bm, e_repl, e_fld, e_ix, e_sl, e_tup, e_lst, a_nil, a_cons, o_none, o_some, t_val, t_cmp, t_chn, t_and, t_or, t_not, tand_nil, tand_cons, tor_nil, tor_cons, g_nam, g_tup, gs_nil, gs_cons, s_expr, s_asg, s_setf, s_aug, augL_ok, s_ret, s_retN, s_ite, s_raise, b_nil, b_cons, fin_nx, fin_ret, fin_ex, o2, lk, looks, leave_d, leave_ex, dats_nil, dats_cons, fld_d, ix_d, call1, call2, call3, call4, call5, setL, List.getElem?_cons_zero, List.getElem?_cons_succ, Option.map_some, Option.bind_some, List.length_cons, List.length_nil, List.set_cons_zero, List.set_cons_succ, Nat.reduceAdd, Nat.reduceLT, Nat.reduceSub, reduceIte, decide_true, decide_false, List.map_cons, List.map_nil, List.cons_append, List.nil_append, List.replicate_succ, List.replicate_zero, Nat.lt_add_one, Nat.zero_lt_succ, Nat.zero_lt_one, cmp_ge]
    by_cases c2 : 0 ≤ us
    · simp -implicitDefEqProofs only [bnd_ok, bnd_ex, sts_ok, sts_ex, sqs_nx, sqs_ret, sqs_ex, cnd_t, cnd_f, of_some, asd_ok, asd_ex, e_cst, e_var, rd_eq, rdO_ok, e_glb, glO_ok, e_bin, e_neg, e_cmp, chK_t, chK_f, e_chn, e_and, e_or, and_one, and_more, or_one, or_more, e_not, e_ite, e_call, mkI_some, e_mk, e_mth, e_blt, e_isi, e_bm, e_repl, e_fld, e_ix, e_sl, e_tup, e_lst, a_nil, a_cons, o_none, o_some, t_val, t_cmp, t_chn, t_and, t_or, t_not, tand_nil, tand_cons, tor_nil, tor_cons, g_nam, g_tup, gs_nil, gs_cons, s_expr, s_asg, s_setf, s_aug, augL_ok, s_ret, s_retN, s_ite, s_raise, b_nil, b_cons, fin_nx, fin_ret, fin_ex, o2, lk, looks, leave_d, leave_ex, dats_nil, dats_cons, fld_d, ix_d, call1, call2, call3, call4, call5, setL, List.getElem?_cons_zero, List.getElem?_cons_succ, Option.map_some, Option.bind_some, List.length_cons, List.length_nil, List.set_cons_zero, List.set_cons_succ, Nat.reduceAdd, Nat.reduceLT, Nat.reduceSub, reduceIte, decide_true, decide_false, List.map_cons, List.map_nil, List.cons_append, List.nil_append, List.replicate_succ, List.replicate_zero, Nat.lt_add_one, Nat.zero_lt_succ, Nat.zero_lt_one, decide_eq_true c2, sz, Nat.reduceLeDiff]
      rw [hus, if_pos c2]
      rfl
    · simp -implicitDefEqProofs only [bnd_ok, bnd_ex, sts_ok, sts_ex, sqs_nx, sqs_ret, sqs_ex, cnd_t, cnd_f, of_some, asd_ok, asd_ex, e_cst, e_var, rd_eq, rdO_ok, e_glb, glO_ok, e_bin, e_neg, e_cmp, chK_t, chK_f, e_chn, e_and, e_or, and_one, and_more, or_one, or_more, e_not, e_ite, e_call, mkI_some, e_mk, e_mth, e_blt, e_isi, e_bm, e_repl, e_fld, e_ix, e_sl, e_tup, e_lst, a_nil, a_cons, o_none, o_some, t_val, t_cmp, t_chn, t_and, t_or, t_not, tand_nil, tand_cons, tor_nil, tor_cons, g_nam, g_tup, gs_nil, gs_cons, s_expr, s_asg, s_setf, s_aug, augL_ok, s_ret, s_retN, s_ite, s_raise, b_nil, b_cons, fin_nx, fin_ret, fin_ex, o2, lk, looks, leave_d, leave_ex, dats_nil, dats_cons, fld_d, ix_d, call1, call2, call3, call4, call5, setL, List.getElem?_cons_zero, List.getElem?_cons_succ, Option.map_some, Option.bind_some, List.length_cons, List.length_nil, List.set_cons_zero, List.set_cons_succ, Nat.reduceAdd, Nat.reduceLT, Nat.reduceSub, reduceIte, decide_true, decide_false, List.map_cons, List.map_nil, List.cons_append, List.nil_append, List.replicate_succ, List.replicate_zero, Nat.lt_add_one, Nat.zero_lt_succ, Nat.zero_lt_one, decide_eq_false c2, sz, Nat.reduceLeDiff]
      rw [hus, if_neg c2]
      rfl

/-- what an operation makes of two numbers -/
def opN (o : Nat) (x y : Nm) (p : Nat) : Option Nm :=
  if o = 43 then cutN (x.n * ((10 ^ y.b : Nat) : Int) + y.n * ((10 ^ x.b : Nat) : Int)) ((10 ^ (x.b + y.b) : Nat) : Int) p
  else if o = 45 then cutN (x.n * ((10 ^ y.b : Nat) : Int) - y.n * ((10 ^ x.b : Nat) : Int)) ((10 ^ (x.b + y.b) : Nat) : Int) p
  else if o = 42 then cutN (x.n * y.n) ((10 ^ (x.b + y.b) : Nat) : Int) p
  else if y.n = 0 then none
  else cutN (x.n * ((10 ^ y.b : Nat) : Int)) (y.n * ((10 ^ x.b : Nat) : Int)) p
theorem pow7 {b : Nat} (h : b ≤ 7) : 10 ^ b ≤ 10 ^ 7 := Nat.pow_le_pow_right (by omega) h
theorem mul_abs {a : Int} {b : Nat} {A B : Nat} (h : a.natAbs < A) (h2 : b ≤ B) (hB : 0 < B) : (a * (b : Int)).natAbs < A * B := by
  rw [Int.natAbs_mul, Int.natAbs_natCast]
  exact Nat.lt_of_le_of_lt (Nat.mul_le_mul_left _ h2) (Nat.mul_lt_mul_of_pos_right h hB)
theorem prod_abs {a b : Int} {A : Nat} (h : a.natAbs < A) (h2 : b.natAbs < A) : (a * b).natAbs < A * A := by
  rw [Int.natAbs_mul]
  exact Nat.mul_lt_mul'' h h2
theorem beq1 (a b : Nat) : (([a] : Tx) == [b]) = decide (a = b) := by
  by_cases h : a = b
  · subst h; simp
  · rw [decide_eq_false h, beq_eq_false_iff_ne]
    intro e
    injection e with e _
    exact h e
theorem ix_t0 (a b : D) : ixD (.tup [a, b]) (.int 0) = some a := rfl
theorem ix_t1 (a b : D) : ixD (.tup [a, b]) (.int 1) = some b := rfl
theorem run_op {G : Tab} (hc : Core G) (k : Nat) {o : Nat} {x y : Nm} {p : Nat} (hp : 3 ≤ p ∧ p ≤ 8) (hx : x.ok) (hy : y.ok) :
    run G (k + 3) 8 [.d (.str [o]), .d x.D, .d y.D, .d (.int (p : Int))] [] = .ok (.d (oD (opN o x y p))) [] := by
  obtain ⟨hx1, hx2⟩ := hx
  obtain ⟨hy1, hy2⟩ := hy
  have px := pow7 hx2
  have py := pow7 hy2
  have tx := run_tens hc (k + 1) (n := (x.b : Int)) (by omega) (by omega)
  have ty := run_tens hc (k + 1) (n := (y.b : Int)) (by omega) (by omega)
  have txy := run_tens hc (k + 1) (n := ((x.b : Int) + (y.b : Int))) (by omega) (by omega)
  rw [Int.toNat_natCast] at tx ty
  have exy : ((x.b : Int) + (y.b : Int)).toNat = x.b + y.b := by omega
  rw [exy] at txy
  have pxy : 10 ^ (x.b + y.b) ≤ 10 ^ 14 := Nat.pow_le_pow_right (by omega) (by omega)
  have pxy0 : 0 < 10 ^ (x.b + y.b) := Nat.pow_pos (by omega)
  have px0 : 0 < 10 ^ x.b := Nat.pow_pos (by omega)
  have a1 : (x.n * ((10 ^ y.b : Nat) : Int)).natAbs < 10 ^ 8 * 10 ^ 7 := mul_abs hx1 py (by decide)
  have a2 : (y.n * ((10 ^ x.b : Nat) : Int)).natAbs < 10 ^ 8 * 10 ^ 7 := mul_abs hy1 px (by decide)
  have a3 : (x.n * y.n).natAbs < 10 ^ 8 * 10 ^ 8 := prod_abs hx1 hy1
  have b1 : evBin .mul (.int x.n) (.int ((10 ^ y.b : Nat) : Int)) = some (.int (x.n * ((10 ^ y.b : Nat) : Int))) := bin_mul (by omega) (by rw [Int.natAbs_natCast]; omega)
  have b2 : evBin .mul (.int y.n) (.int ((10 ^ x.b : Nat) : Int)) = some (.int (y.n * ((10 ^ x.b : Nat) : Int))) := bin_mul (by omega) (by rw [Int.natAbs_natCast]; omega)
  have b3 : evBin .mul (.int x.n) (.int y.n) = some (.int (x.n * y.n)) := bin_mul (by omega) (by omega)
  rw [run_fn hc.operation rfl (by decide)]
  simp -implicitDefEqProofs only [bnd_ok, bnd_ex, sts_ok, sts_ex, sqs_nx, sqs_ret, sqs_ex, cnd_t, cnd_f, of_some, asd_ok, asd_ex, e_cst, e_var, rd_eq, rdO_ok, e_glb, glO_ok, e_bin, e_neg, e_cmp, chK_t, chK_f, e_chn, e_and, e_or, and_one, and_more, or_one, or_more, e_not, e_ite, e_call, mkI_some, e_mk, e_mth, e_blt, e_isi, e_bm, e_repl, e_fld, e_ix, e_sl, e_tup, e_lst, a_nil, a_cons, o_none, o_some, t_val, t_cmp, t_chn, t_and, t_or, t_not, tand_nil, tand_cons, tor_nil, tor_cons, g_nam, g_tup, gs_nil, gs_cons, s_expr, s_asg, s_setf, s_aug, augL_ok, s_ret, s_retN, s_ite, s_raise, b_nil, b_cons, fin_nx, fin_ret, fin_ex, o2, lk, looks, leave_d, leave_ex, dats_nil, dats_cons, fld_d, ix_d, call1, call2, call3, call4, call5, setL, List.getElem?_cons_zero, List.getElem?_cons_succ, Option.map_some, Option.bind_some, List.length_cons, List.length_nil, List.set_cons_zero, List.set_cons_succ, Nat.reduceAdd, Nat.reduceLT, Nat.reduceSub, reduceIte, decide_true, decide_false, List.map_cons, List.map_nil, List.cons_append, List.nil_append, List.replicate_succ, List.replicate_zero, Nat.lt_add_one, Nat.zero_lt_succ, Nat.zero_lt_one, f_operation, Nm.D, ix_t0, ix_t1, tx, ty, txy, bin_add, b1, b2, sz, Nat.reduceLeDiff, cmp_eqs, beq1]
  unfold opN
  by_cases c1 : o = 43
  · have q := run_cut hc k (up := x.n * ((10 ^ y.b : Nat) : Int) + y.n * ((10 ^ x.b : Nat) : Int)) (down := ((10 ^ (x.b + y.b) : Nat) : Int)) hp (by omega) (by omega) (by rw [Int.natAbs_natCast]; omega)
    simp -implicitDefEqProofs only [bnd_ok, bnd_ex, sts_ok, sts_ex, sqs_nx, sqs_ret, sqs_ex, cnd_t, cnd_f, of_some, asd_ok, asd_ex, e_cst, e_var, rd_eq, rdO_ok, e_glb, glO_ok, e_bin, e_neg, e_cmp, chK_t, chK_f, e_chn, e_and, e_or, and_one, and_more, or_one, or_more, e_not, e_ite, e_call, mkI_some, e_mk, e_mth, e_blt, e_isi, e_bm, e_repl, e_fld, e_ix, e_sl, e_tup, e_lst, a_nil, a_cons, o_none, o_some, t_val, t_cmp, t_chn, t_and, t_or, t_not, tand_nil, tand_cons, tor_nil, tor_cons, g_nam, g_tup, gs_nil, gs_cons, s_expr, s_asg, s_setf, s_aug, augL_ok, s_ret, s_retN, s_ite, s_raise, b_nil, b_cons, fin_nx, fin_ret, fin_ex, o2, lk, looks, leave_d, leave_ex, dats_nil, dats_cons, fld_d, ix_d, call1, call2, call3, call4, call5, setL, List.getElem?_cons_zero, List.getElem?_cons_succ, Option.map_some, Option.bind_some, List.length_cons, List.length_nil, List.set_cons_zero, List.set_cons_succ, Nat.reduceAdd, Nat.reduceLT, Nat.reduceSub, reduceIte, decide_true, decide_false, List.map_cons, List.map_nil, List.cons_append, List.nil_append, List.replicate_succ, List.replicate_zero, Nat.lt_add_one, Nat.zero_lt_succ, Nat.zero_lt_one, decide_eq_true c1, if_pos c1, bin_add, q]
  · by_cases c2 : o = 45
    · have q := run_cut hc k (up := x.n * ((10 ^ y.b : Nat) : Int) - y.n * ((10 ^ x.b : Nat) : Int)) (down := ((10 ^ (x.b + y.b) : Nat) : Int)) hp (by omega) (by omega) (by rw [Int.natAbs_natCast]; omega)
      simp -implicitDefEqProofs only [bnd_ok, bnd_ex, sts_ok, sts_ex, sqs_nx, sqs_ret, sqs_ex, cnd_t, cnd_f, of_some, asd_ok, asd_ex, e_cst, e_var, rd_eq, rdO_ok, e_glb, glO_ok, e_bin, e_neg, e_cmp, chK_t, chK_f, e_chn, e_and, e_or, and_one, and_more, or_one, or_more, e_not, e_ite, e_call, mkI_some, e_mk, e_mth, e_blt, e_isi, e_bm, e_repl, e_fld, e_ix, e_sl, e_tup, e_lst, a_nil, a_cons, o_none, o_some, t_val, t_cmp, t_chn, t_and, t_or, t_not, tand_nil, tand_cons, tor_nil, tor_cons, g_nam, g_tup, gs_nil, gs_cons, s_expr, s_asg, s_setf, s_aug, augL_ok, s_ret, s_retN, s_ite, s_raise, b_nil, b_cons, fin_nx, fin_ret, fin_ex, o2, lk, looks, leave_d, leave_ex, dats_nil, dats_cons, fld_d, ix_d, call1, call2, call3, call4, call5, setL, List.getElem?_cons_zero, List.getElem?_cons_succ, Option.map_some, Option.bind_some, List.length_cons, List.length_nil, List.set_cons_zero, List.set_cons_succ, Nat.reduceAdd, Nat.reduceLT, Nat.reduceSub, reduceIte, decide_true, decide_false, List.map_cons, List.map_nil, List.cons_append, List.nil_append, List.replicate_succ, List.replicate_zero, Nat.lt_add_one, Nat.zero_lt_succ, Nat.zero_lt_one, decide_eq_false c1, if_neg c1, decide_eq_true c2, if_pos c2, cmp_eqs, beq1, bin_sub, q]
    · by_cases c3 : o = 42
      · have q := run_cut hc k (up := x.n * y.n) (down := ((10 ^ (x.b + y.b) : Nat) : Int)) hp (by omega) (by omega) (by rw [Int.natAbs_natCast]; omega)
        simp -implicitDefEqProofs only [bnd_ok, bnd_ex, sts_ok, sts_ex, sqs_nx, sqs_ret, sqs_ex, cnd_t, cnd_f, of_some, asd_ok, asd_ex, e_cst, e_var, rd_eq, rdO_ok, e_glb, glO_ok, e_bin, e_neg, e_cmp, chK_t, chK_f, e_chn, e_and, e_or, and_one, and_more, or_one, or_more, e_not, e_ite, e_call, mkI_some, e_mk, e_mth, e_blt, e_isi, e_bm, e_repl, e_fld, e_ix, e_sl, e_tup, e_lst, a_nil, a_cons, o_none, o_some, t_val, t_cmp, t_chn, t_and, t_or, t_not, tand_nil, tand_cons, tor_nil, tor_cons, g_nam, g_tup, gs_nil, gs_cons, s_expr, s_asg, s_setf, s_aug, augL_ok, s_ret, s_retN, s_ite, s_raise, b_nil, b_cons, fin_nx, fin_ret, fin_ex, o2, lk, looks, leave_d, leave_ex, dats_nil, dats_cons, fld_d, ix_d, call1, call2, call3, call4, call5, setL, List.getElem?_cons_zero, List.getElem?_cons_succ, Option.map_some, Option.bind_some, List.length_cons, List.length_nil, List.set_cons_zero, List.set_cons_succ, Nat.reduceAdd, Nat.reduceLT, Nat.reduceSub, reduceIte, decide_true, decide_false, List.map_cons, List.map_nil, List.cons_append, List.nil_append, List.replicate_succ, List.replicate_zero, Nat.lt_add_one, Nat.zero_lt_succ, Nat.zero_lt_one, decide_eq_false c1, if_neg c1, decide_eq_false c2, if_neg c2, decide_eq_true c3, if_pos c3, cmp_eqs, beq1, ix_t0, ix_t1, b3, q]
      · by_cases c4 : y.n = 0
        · have c4' : (y.n == 0) = true := by rw [c4]; rfl
          simp -implicitDefEqProofs only [bnd_ok, bnd_ex, sts_ok, sts_ex, sqs_nx, sqs_ret, sqs_ex, cnd_t, cnd_f, of_some, asd_ok, asd_ex, e_cst, e_var, rd_eq, rdO_ok, e_glb, glO_ok, e_bin, e_neg, e_cmp, chK_t, chK_f, e_chn, e_and, e_or, and_one, and_more, or_one, or_more, e_not, e_ite, e_call, mkI_some, e_mk, e_mth, e_blt, e_isi, e_bm, e_repl, e_fld, e_ix, e_sl, e_tup, e_lst, a_nil, a_cons, o_none, o_some, t_val, t_cmp, t_chn, t_and, t_or, t_not, tand_nil, tand_cons, tor_nil, tor_cons, g_nam, g_tup, gs_nil, gs_cons, s_expr, s_asg, s_setf, s_aug, augL_ok, s_ret, s_retN, s_ite, s_raise, b_nil, b_cons, fin_nx, fin_ret, fin_ex, o2, lk, looks, leave_d, leave_ex, dats_nil, dats_cons, fld_d, ix_d, call1, call2, call3, call4, call5, setL, List.getElem?_cons_zero, List.getElem?_cons_succ, Option.map_some, Option.bind_some, List.length_cons, List.length_nil, List.set_cons_zero, List.set_cons_succ, Nat.reduceAdd, Nat.reduceLT, Nat.reduceSub, reduceIte, decide_true, decide_false, List.map_cons, List.map_nil, List.cons_append, List.nil_append, List.replicate_succ, List.replicate_zero, Nat.lt_add_one, Nat.zero_lt_succ, Nat.zero_lt_one, decide_eq_false c1, if_neg c1, decide_eq_false c2, if_neg c2, decide_eq_false c3, if_neg c3, if_pos c4, cmp_eqs, beq1, ix_t0, ix_t1, cmp_eqi, c4']
          rfl
        · have c4' : (y.n == 0) = false := beq_eq_false_iff_ne.mpr c4
          have d0 : y.n * ((10 ^ x.b : Nat) : Int) ≠ 0 := Int.mul_ne_zero c4 (by omega)
          have q := run_cut hc k (up := x.n * ((10 ^ y.b : Nat) : Int)) (down := y.n * ((10 ^ x.b : Nat) : Int)) hp (by omega) d0 (by omega)
          simp -implicitDefEqProofs only [bnd_ok, bnd_ex, sts_ok, sts_ex, sqs_nx, sqs_ret, sqs_ex, cnd_t, cnd_f, of_some, asd_ok, asd_ex, e_cst, e_var, rd_eq, rdO_ok, e_glb, glO_ok, e_bin, e_neg, e_cmp, chK_t, chK_f, e_chn, e_and, e_or, and_one, and_more, or_one, or_more, e_not, e_ite, e_call, mkI_some, e_mk, e_mth, e_blt, e_isi, e_bm, e_repl, e_fld, e_ix, e_sl, e_tup, e_lst, a_nil, a_cons, o_none, o_some, t_val, t_cmp, t_chn, t_and, t_or, t_not, tand_nil, tand_cons, tor_nil, tor_cons, g_nam, g_tup, gs_nil, gs_cons, s_expr, s_asg, s_setf, s_aug, augL_ok, s_ret, s_retN, s_ite, s_raise, b_nil, b_cons, fin_nx, fin_ret, fin_ex, o2, lk, looks, leave_d, leave_ex, dats_nil, dats_cons, fld_d, ix_d, call1, call2, call3, call4, call5, setL, List.getElem?_cons_zero, List.getElem?_cons_succ, Option.map_some, Option.bind_some, List.length_cons, List.length_nil, List.set_cons_zero, List.set_cons_succ, Nat.reduceAdd, Nat.reduceLT, Nat.reduceSub, reduceIte, decide_true, decide_false, List.map_cons, List.map_nil, List.cons_append, List.nil_append, List.replicate_succ, List.replicate_zero, Nat.lt_add_one, Nat.zero_lt_succ, Nat.zero_lt_one, decide_eq_false c1, if_neg c1, decide_eq_false c2, if_neg c2, decide_eq_false c3, if_neg c3, if_neg c4, cmp_eqs, beq1, ix_t0, ix_t1, cmp_eqi, c4', q]
theorem opN_ok {o : Nat} {x y z : Nm} {p : Nat} (hp : 3 ≤ p ∧ p ≤ 8) (h : opN o x y p = some z) : z.ok := by
  have h0 : ∀ b : Nat, ((10 ^ b : Nat) : Int) ≠ 0 := fun b => by have := Nat.pow_pos (n := b) (show 0 < 10 by omega); omega
  unfold opN at h
  split at h
  · exact cutN_nm hp (h0 _) h
  · split at h
    · exact cutN_nm hp (h0 _) h
    · split at h
      · exact cutN_nm hp (h0 _) h
      · split at h
        · cases h
        · rename_i c
          exact cutN_nm hp (Int.mul_ne_zero c (h0 _)) h
/-- the hundredth part of a product -/
def hunN (x y : Nm) (p : Nat) : Option Nm := cutN (x.n * y.n) (100 * ((10 ^ (x.b + y.b) : Nat) : Int)) p
theorem hunN_ok {x y z : Nm} {p : Nat} (hp : 3 ≤ p ∧ p ≤ 8) (h : hunN x y p = some z) : z.ok := by
  refine cutN_nm hp ?_ h
  have := Nat.pow_pos (n := x.b + y.b) (show 0 < 10 by omega)
  omega
theorem run_hun {G : Tab} (hc : Core G) (k : Nat) {x y : Nm} {p : Nat} (hp : 3 ≤ p ∧ p ≤ 8) (hx : x.ok) (hy : y.ok) :
    run G (k + 3) 9 [.d x.D, .d y.D, .d (.int (p : Int))] [] = .ok (.d (oD (hunN x y p))) [] := by
  obtain ⟨hx1, hx2⟩ := hx
  obtain ⟨hy1, hy2⟩ := hy
  have txy := run_tens hc (k + 1) (n := ((x.b : Int) + (y.b : Int))) (by omega) (by omega)
  have exy : ((x.b : Int) + (y.b : Int)).toNat = x.b + y.b := by omega
  rw [exy] at txy
  have pxy : 10 ^ (x.b + y.b) ≤ 10 ^ 14 := Nat.pow_le_pow_right (by omega) (by omega)
  have pxy0 : 0 < 10 ^ (x.b + y.b) := Nat.pow_pos (by omega)
  have a3 : (x.n * y.n).natAbs < 10 ^ 8 * 10 ^ 8 := prod_abs hx1 hy1
  have b3 : evBin .mul (.int x.n) (.int y.n) = some (.int (x.n * y.n)) := bin_mul (by omega) (by omega)
  have b4 : evBin .mul (.int 100) (.int ((10 ^ (x.b + y.b) : Nat) : Int)) = some (.int (100 * ((10 ^ (x.b + y.b) : Nat) : Int))) := bin_mul (by decide) (by rw [Int.natAbs_natCast]; omega)
  have q := run_cut hc k (up := x.n * y.n) (down := 100 * ((10 ^ (x.b + y.b) : Nat) : Int)) hp (by omega) (by omega) (by omega)
  rw [run_fn hc.hundredth rfl (by decide)]
  simp -implicitDefEqProofs only [bnd_ok, bnd_ex, sts_ok, sts_ex, sqs_nx, sqs_ret, sqs_ex, cnd_t, cnd_f, of_some, asd_ok, asd_ex, e_cst, e_var, rd_eq, rdO_ok, e_glb, glO_ok, e_bin, e_neg, e_cmp, chK_t, chK_f, e_chn, e_and, e_or, and_one, and_more, or_one, or_more, e_not, e_ite, e_call, mkI_some, e_mk, e_mth, e_blt, e_isi, e_bm, e_repl, e_fld, e_ix, e_sl, e_tup, e_lst, a_nil, a_cons, o_none, o_some, t_val, t_cmp, t_chn, t_and, t_or, t_not, tand_nil, tand_cons, tor_nil, tor_cons, g_nam, g_tup, gs_nil, gs_cons, s_expr, s_asg, s_setf, s_aug, augL_ok, s_ret, s_retN, s_ite, s_raise, b_nil, b_cons, fin_nx, fin_ret, fin_ex, o2, lk, looks, leave_d, leave_ex, dats_nil, dats_cons, fld_d, ix_d, call1, call2, call3, call4, call5, setL, List.getElem?_cons_zero, List.getElem?_cons_succ, Option.map_some, Option.bind_some, List.length_cons, List.length_nil, List.set_cons_zero, List.set_cons_succ, Nat.reduceAdd, Nat.reduceLT, Nat.reduceSub, reduceIte, decide_true, decide_false, List.map_cons, List.map_nil, List.cons_append, List.nil_append, List.replicate_succ, List.replicate_zero, Nat.lt_add_one, Nat.zero_lt_succ, Nat.zero_lt_one, f_hundredth, Nm.D, ix_t0, ix_t1, txy, bin_add, b3, b4, q]
  rfl
/-- a number written -/
def figN (x : Nm) : Tx := rjustT ((x.b : Int) + 1) 48 (natT x.n.natAbs)
def textN (x : Nm) : Tx := (if x.n < 0 then [45] else []) ++ (if x.b = 0 then figN x else (figN x).take ((figN x).length - x.b) ++ ([46] ++ (figN x).drop ((figN x).length - x.b)))
theorem figN_len (x : Nm) (h : x.ok) : x.b + 1 ≤ (figN x).length ∧ (figN x).length ≤ 30 := by
  unfold figN rjustT
  have := natT_len x.n.natAbs 8 (by omega) h.1
  have := h.2
  rw [List.length_append, List.length_replicate]
  omega
theorem cut_to {x : Tx} {b : Nat} (h : b ≤ x.length) (h0 : 0 < b) : cut x none (some (-(b : Int))) = x.take (x.length - b) := by
  unfold cut cutAt
  dsimp only
  rw [if_pos (by omega)]
  have : (-(b : Int) + (x.length : Int)).toNat = x.length - b := by omega
  rw [this, List.drop_zero, Nat.sub_zero]
theorem cut_from {x : Tx} {b : Nat} (h : b ≤ x.length) (h0 : 0 < b) : cut x (some (-(b : Int))) none = x.drop (x.length - b) := by
  unfold cut cutAt
  dsimp only
  rw [if_pos (by omega)]
  have : (-(b : Int) + (x.length : Int)).toNat = x.length - b := by omega
  rw [this]
  exact List.take_of_length_le (by rw [List.length_drop]; omega)
theorem add_str {x y : Tx} (h : x.length + y.length ≤ 1000) : evBin .add (.str x) (.str y) = some (.str (x ++ y)) := by
  show (if x.length + y.length ≤ sz then some (D.str (x ++ y)) else none) = _
  rw [if_pos (by show _ ≤ 16777216; omega)]
theorem slD_str {x : Tx} (h : x.length ≤ 1000) (lo hi : Option Int) : slD (.str x) lo hi = some (.str (cut x lo hi)) := by
  show (if x.length ≤ sz then some (D.str (cut x lo hi)) else none) = _
  rw [if_pos (by show _ ≤ 16777216; omega)]
theorem rcv_str (m : Me) (S : Sto) (x : Tx) (h : m ≠ .append) (h2 : m ≠ .count) : rcv m S (.d (.str x)) = true := by
  cases m <;> first
    | rfl
    | exact absurd rfl h
    | exact absurd rfl h2
theorem run_text {G : Tab} (hc : Core G) (k : Nat) {x : Nm} (hx : x.ok) : run G (k + 1) 10 [.d x.D] [] = .ok (.d (.str (textN x))) [] := by
  have hl := figN_len x hx
  obtain ⟨hx1, hx2⟩ := hx
  have hn := natT_len x.n.natAbs 8 (by omega) hx1
  rw [run_fn hc.text_of rfl (by decide)]
  have e2 : evBm .rjust [] (.d (.str (natT x.n.natAbs))) [.d (.int ((x.b : Int) + 1)), .d (.str [48])] = .ok (.d (.str (figN x))) [] := by
    show RE.of [] ((if (natT x.n.natAbs).length ≤ sz ∧ -1000000 ≤ ((x.b : Int) + 1) ∧ ((x.b : Int) + 1) ≤ 1000000 then some (D.str (rjustT ((x.b : Int) + 1) 48 (natT x.n.natAbs))) else none).map W.d) = _
    rw [if_pos ⟨by show _ ≤ 16777216; omega, by omega, by omega⟩]
    rfl
  have h0 : evE G (run G k) (.ite (.cmp .lt (.ix (.var 0) (.cst (.int 0))) (.cst (.int 0))) (.cst (.str [45])) (.cst (.str []))) [some (.d x.D), none, none] [] = .ok (.d (.str (if x.n < 0 then [45] else []))) [] := by
    by_cases c : x.n < 0
    · simp -implicitDefEqProofs only [bnd_ok, bnd_ex, sts_ok, sts_ex, sqs_nx, sqs_ret, sqs_ex, cnd_t, cnd_f, of_some, asd_ok, asd_ex, e_cst, e_var, rd_eq, rdO_ok, e_glb, glO_ok, e_bin, e_neg, e_cmp, chK_t, chK_f, e_chn, e_and, e_or, and_one, and_more, or_one, or_more, e_not, e_ite, e_call, mkI_some, e_mk, e_mth, e_blt, e_isi, e_bm, e_repl, e_fld, e_ix, e_sl, e_tup, e_lst, a_nil, a_cons, o_none, o_some, t_val, t_cmp, t_chn, t_and, t_or, t_not, tand_nil, tand_cons, tor_nil, tor_cons, g_nam, g_tup, gs_nil, gs_cons, s_expr, s_asg, s_setf, s_aug, augL_ok, s_ret, s_retN, s_ite, s_raise, b_nil, b_cons, fin_nx, fin_ret, fin_ex, o2, lk, looks, leave_d, leave_ex, dats_nil, dats_cons, fld_d, ix_d, call1, call2, call3, call4, call5, setL, List.getElem?_cons_zero, List.getElem?_cons_succ, Option.map_some, Option.bind_some, List.length_cons, List.length_nil, List.set_cons_zero, List.set_cons_succ, Nat.reduceAdd, Nat.reduceLT, Nat.reduceSub, reduceIte, decide_true, decide_false, List.map_cons, List.map_nil, List.cons_append, List.nil_append, List.replicate_succ, List.replicate_zero, Nat.lt_add_one, Nat.zero_lt_succ, Nat.zero_lt_one, Nm.D, ix_t0, cmp_lt, decide_eq_true c, if_pos c]
    · simp -implicitDefEqProofs only [bnd_ok, bnd_ex, sts_ok, sts_ex, sqs_nx, sqs_ret, sqs_ex, cnd_t, cnd_f, of_some, asd_ok, asd_ex, e_cst, e_var, rd_eq, rdO_ok, e_glb, glO_ok, e_bin, e_neg, e_cmp, chK_t, chK_f, e_chn, e_and, e_or, and_one, and_more, or_one, or_more, e_not, e_ite, e_call, mkI_some, e_mk, e_mth, e_blt, e_isi, e_bm, e_repl, e_fld, e_ix, e_sl, e_tup, e_lst, a_nil, a_cons, o_none, o_some, t_val, t_cmp, t_chn, t_and, t_or, t_not, tand_nil, tand_cons, tor_nil, tor_cons, g_nam, g_tup, gs_nil, gs_cons, s_expr, s_asg, s_setf, s_aug, augL_ok, s_ret, s_retN, s_ite, s_raise, b_nil, b_cons, fin_nx, fin_ret, fin_ex, o2, lk, looks, leave_d, leave_ex, dats_nil, dats_cons, fld_d, ix_d, call1, call2, call3, call4, call5, setL, List.getElem?_cons_zero, List.getElem?_cons_succ, Option.map_some, Option.bind_some, List.length_cons, List.length_nil, List.set_cons_zero, List.set_cons_succ, Nat.reduceAdd, Nat.reduceLT, Nat.reduceSub, reduceIte, decide_true, decide_false, List.map_cons, List.map_nil, List.cons_append, List.nil_append, List.replicate_succ, List.replicate_zero, Nat.lt_add_one, Nat.zero_lt_succ, Nat.zero_lt_one, Nm.D, ix_t0, cmp_lt, decide_eq_false c, if_neg c]
  simp only [f_text_of, List.map_cons, List.map_nil, List.cons_append, List.nil_append, Nat.reduceSub, List.replicate_succ, List.replicate_zero]
  rw [b_cons, s_asg, h0]
  generalize hsg : (if x.n < 0 then ([45] : Tx) else []) = sg
  have lsg : sg.length ≤ 1 := by rw [← hsg]; split <;> decide
  simp -implicitDefEqProofs only [bnd_ok, bnd_ex, sts_ok, sts_ex, sqs_nx, sqs_ret, sqs_ex, cnd_t, cnd_f, of_some, asd_ok, asd_ex, e_cst, e_var, rd_eq, rdO_ok, e_glb, glO_ok, e_bin, e_neg, e_cmp, chK_t, chK_f, e_chn, e_and, e_or, and_one, and_more, or_one, or_more, e_not, e_ite, e_call, mkI_some, e_mk, e_mth, e_blt, e_isi, e_bm, e_repl, e_fld, e_ix, e_sl, e_tup, e_lst, a_nil, a_cons, o_none, o_some, t_val, t_cmp, t_chn, t_and, t_or, t_not, tand_nil, tand_cons, tor_nil, tor_cons, g_nam, g_tup, gs_nil, gs_cons, s_expr, s_asg, s_setf, s_aug, augL_ok, s_ret, s_retN, s_ite, s_raise, b_nil, b_cons, fin_nx, fin_ret, fin_ex, o2, lk, looks, leave_d, leave_ex, dats_nil, dats_cons, fld_d, ix_d, call1, call2, call3, call4, call5, setL, List.getElem?_cons_zero, List.getElem?_cons_succ, Option.map_some, Option.bind_some, List.length_cons, List.length_nil, List.set_cons_zero, List.set_cons_succ, Nat.reduceAdd, Nat.reduceLT, Nat.reduceSub, reduceIte, decide_true, decide_false, List.map_cons, List.map_nil, List.cons_append, List.nil_append, List.replicate_succ, List.replicate_zero, Nat.lt_add_one, Nat.zero_lt_succ, Nat.zero_lt_one, Nm.D, ix_t0, ix_t1, bi_abs, bi_str _ (Nat.lt_trans hx1 (by decide)), rcv_str _ _ _ (by decide : Me.rjust ≠ .append) (by decide), bin_add, e2, cmp_eqi]
  unfold textN
  rw [hsg]
  by_cases c : x.b = 0
  · have c' : (((x.b : Nat) : Int) == 0) = true := by rw [c]; rfl
    simp -implicitDefEqProofs only [bnd_ok, bnd_ex, sts_ok, sts_ex, sqs_nx, sqs_ret, sqs_ex, cnd_t, cnd_f, of_some, asd_ok, asd_ex, e_cst, e_var, rd_eq, rdO_ok, e_glb, glO_ok, e_bin, e_neg, e_cmp, chK_t, chK_f, e_chn, e_and, e_or, and_one, and_more, or_one, or_more, e_not, e_ite, e_call, mkI_some, e_mk, e_mth, e_blt, e_isi, e_bm, e_repl, e_fld, e_ix, e_sl, e_tup, e_lst, a_nil, a_cons, o_none, o_some, t_val, t_cmp, t_chn, t_and, t_or, t_not, tand_nil, tand_cons, tor_nil, tor_cons, g_nam, g_tup, gs_nil, gs_cons, s_expr, s_asg, s_setf, s_aug, augL_ok, s_ret, s_retN, s_ite, s_raise, b_nil, b_cons, fin_nx, fin_ret, fin_ex, o2, lk, looks, leave_d, leave_ex, dats_nil, dats_cons, fld_d, ix_d, call1, call2, call3, call4, call5, setL, List.getElem?_cons_zero, List.getElem?_cons_succ, Option.map_some, Option.bind_some, List.length_cons, List.length_nil, List.set_cons_zero, List.set_cons_succ, Nat.reduceAdd, Nat.reduceLT, Nat.reduceSub, reduceIte, decide_true, decide_false, List.map_cons, List.map_nil, List.cons_append, List.nil_append, List.replicate_succ, List.replicate_zero, Nat.lt_add_one, Nat.zero_lt_succ, Nat.zero_lt_one, c', add_str (x := sg) (y := figN x) (by omega), if_pos c]
  · have c' : (((x.b : Nat) : Int) == 0) = false := by rw [beq_eq_false_iff_ne]; omega
    have q1 := cut_to (x := figN x) (b := x.b) (by omega) (by omega)
    have q2 := cut_from (x := figN x) (b := x.b) (by omega) (by omega)
    have l1 : ((figN x).take ((figN x).length - x.b)).length ≤ 30 := by rw [List.length_take]; omega
    have l2 : ((figN x).drop ((figN x).length - x.b)).length ≤ 30 := by rw [List.length_drop]; omega
    have p1 := add_str (x := sg) (y := (figN x).take ((figN x).length - x.b)) (by omega)
    have p2 := add_str (x := sg ++ (figN x).take ((figN x).length - x.b)) (y := [46]) (by rw [List.length_append]; show _ + 1 ≤ _; omega)
    have p3 := add_str (x := sg ++ (figN x).take ((figN x).length - x.b) ++ [46]) (y := (figN x).drop ((figN x).length - x.b)) (by rw [List.length_append, List.length_append]; show _ + 1 + _ ≤ _; omega)
    simp -implicitDefEqProofs only [bnd_ok, bnd_ex, sts_ok, sts_ex, sqs_nx, sqs_ret, sqs_ex, cnd_t, cnd_f, of_some, asd_ok, asd_ex, e_cst, e_var, rd_eq, rdO_ok, e_glb, glO_ok, e_bin, e_neg, e_cmp, chK_t, chK_f, e_chn, e_and, e_or, and_one, and_more, or_one, or_more, e_not, e_ite, e_call, mkI_some, e_mk, e_mth, e_blt, e_isi, e_bm, e_repl, e_fld, e_ix, e_sl, e_tup, e_lst, a_nil, a_cons, o_none, o_some, t_val, t_cmp, t_chn, t_and, t_or, t_not, tand_nil, tand_cons, tor_nil, tor_cons, g_nam, g_tup, gs_nil, gs_cons, s_expr, s_asg, s_setf, s_aug, augL_ok, s_ret, s_retN, s_ite, s_raise, b_nil, b_cons, fin_nx, fin_ret, fin_ex, o2, lk, looks, leave_d, leave_ex, dats_nil, dats_cons, fld_d, ix_d, call1, call2, call3, call4, call5, setL, List.getElem?_cons_zero, List.getElem?_cons_succ, Option.map_some, Option.bind_some, List.length_cons, List.length_nil, List.set_cons_zero, List.set_cons_succ, Nat.reduceAdd, Nat.reduceLT, Nat.reduceSub, reduceIte, decide_true, decide_false, List.map_cons, List.map_nil, List.cons_append, List.nil_append, List.replicate_succ, List.replicate_zero, Nat.lt_add_one, Nat.zero_lt_succ, Nat.zero_lt_one, c', if_neg c, ix_t1, slD_str (x := figN x) (by omega), q1, q2, p1, p2, p3]
    simp only [List.append_assoc, List.cons_append, List.nil_append]
end Kr
/-! KrQ: what is typed; stands. -/
namespace Kr
structure Tp where
  ng : Bool
  ip : Tx
  fp : Option Tx
def Tp.fr (t : Tp) : Tx := t.fp.getD []
def Tp.body (t : Tp) : Tx := match t.fp with
  | none => t.ip
  | some f => t.ip ++ 46 :: f
def Tp.sg (t : Tp) : Tx := if t.ng then [45] else []
def Tp.tx (t : Tp) : Tx := t.sg ++ t.body
def digs (x : Tx) : Prop := ∀ c ∈ x, 48 ≤ c ∧ c ≤ 57
structure Tp.ok (p : Nat) (t : Tp) : Prop where
  ne : t.ip ≠ []
  di : digs t.ip
  df : digs t.fr
  le : t.ip.length + t.fr.length ≤ p
def valT (x : Tx) : Nat := x.foldl (fun a c => 10 * a + (c - 48)) 0
theorem readN_dig : ∀ (x : Tx) (a : Nat), digs x → readN x a = some (x.foldl (fun a c => 10 * a + (c - 48)) a)
  | [], a, _ => rfl
  | c :: r, a, h => by
    have hc := h c (List.mem_cons_self ..)
    show (if 48 ≤ c ∧ c ≤ 57 then readN r (10 * a + (c - 48)) else none) = _
    rw [if_pos hc, readN_dig r _ fun d hd => h d (List.mem_cons_of_mem _ hd)]
    rfl
theorem fold_lt : ∀ (x : Tx) (a n : Nat), digs x → a < 10 ^ n → x.foldl (fun a c => 10 * a + (c - 48)) a < 10 ^ (n + x.length)
  | [], a, n, _, h => h
  | c :: r, a, n, hd, h => by
    have hc := hd c (List.mem_cons_self ..)
    have := fold_lt r (10 * a + (c - 48)) (n + 1) (fun d q => hd d (List.mem_cons_of_mem _ q)) (by rw [Nat.pow_succ]; omega)
    rw [List.length_cons, Nat.add_comm r.length 1, ← Nat.add_assoc]
    exact this
theorem valT_lt {x : Tx} (h : digs x) : valT x < 10 ^ x.length := by
  have := fold_lt x 0 0 h (by decide)
  rw [Nat.zero_add] at this
  exact this
theorem digs_app {x y : Tx} (h : digs x) (h2 : digs y) : digs (x ++ y) := fun c hc => (List.mem_append.mp hc).elim (h c) (h2 c)
theorem rstrip_mem {cs x : Tx} {c : Nat} (h : c ∈ rstripT cs x) : c ∈ x := by
  unfold rstripT at h
  have := List.mem_reverse.mp h
  exact List.mem_reverse.mp ((List.dropWhile_sublist _).subset this)
theorem rstrip_len (cs x : Tx) : (rstripT cs x).length ≤ x.length := by
  unfold rstripT
  rw [List.length_reverse]
  have := (List.dropWhile_sublist (l := x.reverse) cs.contains).length_le
  rw [List.length_reverse] at this
  exact this
/-- the number of a text as it is typed -/
def numT (t : Tp) : Nm := ⟨(if t.ng then -1 else 1) * ((valT (t.ip ++ rstripT [48] t.fr) : Nat) : Int), (rstripT [48] t.fr).length⟩
theorem numT_ok {p : Nat} {t : Tp} (hp : p ≤ 8) (h : t.ok p) : (numT t).ok := by
  have hr : digs (rstripT [48] t.fr) := fun c hc => h.df c (rstrip_mem hc)
  have hv := valT_lt (digs_app h.di hr)
  have hl := rstrip_len [48] t.fr
  have hi : 0 < t.ip.length := List.length_pos_iff.mpr h.ne
  have := h.le
  rw [List.length_append] at hv
  have h8 : 10 ^ (t.ip.length + (rstripT [48] t.fr).length) ≤ 10 ^ 8 := Nat.pow_le_pow_right (by omega) (by omega)
  refine ⟨?_, by show (rstripT [48] t.fr).length ≤ 7; omega⟩
  show ((if t.ng then -1 else 1) * ((valT (t.ip ++ rstripT [48] t.fr) : Nat) : Int)).natAbs < _
  rw [Int.natAbs_mul, Int.natAbs_natCast]
  split
  · show 1 * _ < _; omega
  · show 1 * _ < _; omega
theorem drop_none {cs x : Tx} (h : ∀ c ∈ x, cs.contains c = false) : x.dropWhile cs.contains = x := by
  cases x with
  | nil => rfl
  | cons a r => rw [List.dropWhile_cons_of_neg]; rw [h a (List.mem_cons_self ..)]; exact Bool.false_ne_true
theorem rstrip_none {cs x : Tx} (h : ∀ c ∈ x, cs.contains c = false) : rstripT cs x = x := by
  unfold rstripT
  rw [drop_none fun c hc => h c (List.mem_reverse.mp hc), List.reverse_reverse]
theorem body_mem {p : Nat} {t : Tp} (h : t.ok p) {c : Nat} (hc : c ∈ t.body) : 46 ≤ c ∧ c ≤ 57 := by
  unfold Tp.body at hc
  have hd := h.df
  unfold Tp.fr at hd
  cases e : t.fp with
  | none => rw [e] at hc; have := h.di c hc; omega
  | some f =>
    rw [e] at hc hd
    rcases List.mem_append.mp hc with hc | hc
    · have := h.di c hc; omega
    · rcases List.mem_cons.mp hc with hc | hc
      · omega
      · have := hd c hc; omega
theorem body_no {p : Nat} {t : Tp} (h : t.ok p) : ∀ c ∈ t.body, ([45] : Tx).contains c = false := fun c hc => by
  have := body_mem h hc
  rw [List.contains_cons, List.contains_nil, Bool.or_false, beq_eq_false_iff_ne]
  omega
theorem strip_tx {p : Nat} {t : Tp} (h : t.ok p) : stripT [45] t.tx = t.body := by
  unfold stripT lstripT Tp.tx Tp.sg
  cases t.ng with
  | false => rw [if_neg Bool.false_ne_true, List.nil_append, drop_none (body_no h), rstrip_none (body_no h)]
  | true =>
    rw [if_pos rfl]
    show rstripT [45] ((45 :: t.body).dropWhile ([45] : Tx).contains) = _
    rw [List.dropWhile_cons_of_pos (by decide), drop_none (body_no h), rstrip_none (body_no h)]
theorem split_no : ∀ {x : Tx}, (∀ c ∈ x, c ≠ 46) → splitT 46 x = [x]
  | [], _ => rfl
  | a :: r, h => by
    unfold splitT
    rw [if_neg (h a (List.mem_cons_self ..)), split_no fun c hc => h c (List.mem_cons_of_mem _ hc)]
theorem split_one : ∀ {x y : Tx}, (∀ c ∈ x, c ≠ 46) → splitT 46 (x ++ 46 :: y) = x :: splitT 46 y
  | [], y, _ => by
    show (if 46 = 46 then [] :: splitT 46 y else match splitT 46 y with
      | p :: ps => (46 :: p) :: ps
      | [] => [[46]]) = _
    rw [if_pos rfl]
  | a :: r, y, h => by
    show (if a = 46 then [] :: splitT 46 (r ++ 46 :: y) else match splitT 46 (r ++ 46 :: y) with
      | p :: ps => (a :: p) :: ps
      | [] => [[a]]) = _
    rw [if_neg (h a (List.mem_cons_self ..)), split_one fun c hc => h c (List.mem_cons_of_mem _ hc)]
theorem digs_no {x : Tx} (h : digs x) : ∀ c ∈ x, c ≠ 46 := fun c hc => by have := h c hc; omega
theorem split_body {p : Nat} {t : Tp} (h : t.ok p) : splitT 46 t.body = (match t.fp with
    | none => [t.ip]
    | some f => [t.ip, f]) := by
  unfold Tp.body
  have hd := h.df
  unfold Tp.fr at hd
  cases e : t.fp with
  | none => exact split_no (digs_no h.di)
  | some f =>
    rw [e] at hd
    have hd : digs f := hd
    dsimp only
    rw [split_one (digs_no h.di), split_no (digs_no hd)]
theorem take1 {p : Nat} {t : Tp} (h : t.ok p) : (t.tx.take 1 == ([45] : Tx)) = t.ng := by
  unfold Tp.tx Tp.sg
  cases e : t.ng with
  | true => rw [if_pos rfl]; rfl
  | false =>
    rw [if_neg Bool.false_ne_true, List.nil_append, beq_eq_false_iff_ne]
    intro q
    have hm : (45 : Nat) ∈ t.body := by
      have : (45 : Nat) ∈ t.body.take 1 := by rw [q]; exact List.mem_cons_self ..
      exact List.mem_of_mem_take this
    have := body_mem h hm
    omega
theorem tx_len {p : Nat} {t : Tp} (hp : p ≤ 8) (h : t.ok p) : t.tx.length ≤ 10 := by
  have := h.le
  unfold Tp.tx Tp.sg Tp.body
  unfold Tp.fr at this
  rw [List.length_append]
  cases e : t.fp with
  | none =>
    rw [e] at this
    dsimp only [Option.getD, List.length_nil] at this ⊢
    split <;> simp only [List.length_cons, List.length_nil] <;> omega
  | some f =>
    rw [e] at this
    dsimp only [Option.getD] at this ⊢
    rw [List.length_append, List.length_cons]
    split <;> simp only [List.length_cons, List.length_nil] <;> omega
theorem body_len {p : Nat} {t : Tp} (hp : p ≤ 8) (h : t.ok p) : t.body.length ≤ 10 := by
  have := tx_len hp h
  unfold Tp.tx at this
  rw [List.length_append] at this
  omega
theorem cut_take (x : Tx) (n : Nat) : cut x none (some (n : Int)) = x.take n := by
  unfold cut cutAt
  dsimp only
  rw [if_neg (by omega), Int.toNat_natCast, List.drop_zero, Nat.sub_zero]
  by_cases c : n ≤ x.length
  · rw [Nat.min_eq_left c]
  · rw [Nat.min_eq_right (by omega), List.take_of_length_le (Nat.le_refl _), List.take_of_length_le (by omega)]
theorem cut_drop (x : Tx) (n : Nat) : cut x (some (n : Int)) none = x.drop n := by
  unfold cut cutAt
  dsimp only
  rw [if_neg (by omega), Int.toNat_natCast]
  by_cases c : n ≤ x.length
  · rw [Nat.min_eq_left c]
    exact List.take_of_length_le (by rw [List.length_drop]; exact Nat.le_refl _)
  · rw [Nat.min_eq_right (by omega), Nat.sub_self, List.take_zero, List.drop_eq_nil_of_le (by omega)]
theorem me_strip {S : Sto} {x y : Tx} (h : x.length ≤ 1000) : evBm .strip S (.d (.str x)) [.d (.str y)] = .ok (.d (.str (stripT y x))) S := by
  show RE.of S ((if x.length ≤ sz then some (D.str (stripT y x)) else none).map W.d) = _
  rw [if_pos (by show _ ≤ 16777216; omega)]
  rfl
theorem me_rstrip {S : Sto} {x y : Tx} (h : x.length ≤ 1000) : evBm .rstrip S (.d (.str x)) [.d (.str y)] = .ok (.d (.str (rstripT y x))) S := by
  show RE.of S ((if x.length ≤ sz then some (D.str (rstripT y x)) else none).map W.d) = _
  rw [if_pos (by show _ ≤ 16777216; omega)]
  rfl
theorem me_split {S : Sto} {x : Tx} {c : Nat} (h : x.length ≤ 1000) : evBm .split S (.d (.str x)) [.d (.str [c])] = .ok (.d (.lst ((splitT c x).map .str))) S := by
  show RE.of S ((if x.length + 2 ≤ sz then some (D.lst ((splitT c x).map .str)) else none).map W.d) = _
  rw [if_pos (by show _ ≤ 16777216; omega)]
  rfl
theorem bi_lenl (x : List D) : evBi .len [.lst x] = some (.int x.length) := rfl
theorem bi_len' {x : Tx} (h : x.length ≤ 1000) : evBi .len [.str x] = some (.int x.length) := bi_len (by show _ ≤ 16777216; omega)
theorem bi_int {x : Tx} (hd : digs x) (hn : x ≠ []) (h : x.length ≤ 100) : evBi .int [.str x] = some (.int (valT x : Nat)) := by
  show (if x.length ≤ 600 then (readI x).map D.int else none) = _
  rw [if_pos (by omega)]
  have : readI x = some ((valT x : Nat) : Int) := by
    cases x with
    | nil => exact absurd rfl hn
    | cons c r =>
      have hc := hd c (List.mem_cons_self ..)
      show (if c = 45 then _ else (readN (c :: r) 0).map fun (n : Nat) => (n : Int)) = _
      rw [if_neg (by omega), readN_dig _ _ hd]
      rfl
  rw [this]
  rfl
theorem ix_l0 (a : D) (x : List D) : ixD (.lst (a :: x)) (.int 0) = some a := by
  show ixAt (a :: x) 0 = _
  unfold ixAt
  rw [if_pos (by omega), if_pos (by rw [List.length_cons]; omega)]
  rfl
theorem ix_l1 (a b : D) (x : List D) : ixD (.lst (a :: b :: x)) (.int 1) = some b := by
  show ixAt (a :: b :: x) 1 = _
  unfold ixAt
  rw [if_pos (by omega), if_pos (by rw [List.length_cons, List.length_cons]; omega)]
  rfl
theorem run_num {G : Tab} (hc : Core G) (k : Nat) {p : Nat} {t : Tp} (hp : p ≤ 8) (h : t.ok p) : run G (k + 1) 11 [.d (.str t.tx)] [] = .ok (.d (numT t).D) [] := by
  rw [run_fn hc.number_of rfl (by decide)]
  have hl := tx_len hp h
  have hb := body_len hp h
  have e0 : cut t.tx none (some 1) = t.tx.take 1 := cut_take t.tx 1
  have h0 : evE G (run G k) (.ite (.cmp .eq (.sl (.var 0) .none (.some (.cst (.int 1)))) (.cst (.str [45]))) (.neg (.cst (.int 1))) (.cst (.int 1))) [some (.d (.str t.tx)), none, none, none] [] = .ok (.d (.int (if t.ng then -1 else 1))) [] := by
    cases c : t.ng with
    | true => simp -implicitDefEqProofs only [bnd_ok, bnd_ex, sts_ok, sts_ex, sqs_nx, sqs_ret, sqs_ex, cnd_t, cnd_f, of_some, asd_ok, asd_ex, e_cst, e_var, rd_eq, rdO_ok, e_glb, glO_ok, e_bin, e_neg, e_cmp, chK_t, chK_f, e_chn, e_and, e_or, and_one, and_more, or_one, or_more, e_not, e_ite, e_call, mkI_some, e_mk, e_mth, e_blt, e_isi, e_bm, e_repl, e_fld, e_ix, e_sl, e_tup, e_lst, a_nil, a_cons, o_none, o_some, t_val, t_cmp, t_chn, t_and, t_or, t_not, tand_nil, tand_cons, tor_nil, tor_cons, g_nam, g_tup, gs_nil, gs_cons, s_expr, s_asg, s_setf, s_aug, augL_ok, s_ret, s_retN, s_ite, s_raise, b_nil, b_cons, fin_nx, fin_ret, fin_ex, o2, lk, looks, leave_d, leave_ex, dats_nil, dats_cons, fld_d, ix_d, call1, call2, call3, call4, call5, setL, List.getElem?_cons_zero, List.getElem?_cons_succ, Option.map_some, Option.bind_some, List.length_cons, List.length_nil, List.set_cons_zero, List.set_cons_succ, Nat.reduceAdd, Nat.reduceLT, Nat.reduceSub, reduceIte, decide_true, decide_false, List.map_cons, List.map_nil, List.cons_append, List.nil_append, List.replicate_succ, List.replicate_zero, Nat.lt_add_one, Nat.zero_lt_succ, Nat.zero_lt_one, slD_str (x := t.tx) (by omega), e0, cmp_eqs, take1 h, c]
    | false => simp -implicitDefEqProofs only [bnd_ok, bnd_ex, sts_ok, sts_ex, sqs_nx, sqs_ret, sqs_ex, cnd_t, cnd_f, of_some, asd_ok, asd_ex, e_cst, e_var, rd_eq, rdO_ok, e_glb, glO_ok, e_bin, e_neg, e_cmp, chK_t, chK_f, e_chn, e_and, e_or, and_one, and_more, or_one, or_more, e_not, e_ite, e_call, mkI_some, e_mk, e_mth, e_blt, e_isi, e_bm, e_repl, e_fld, e_ix, e_sl, e_tup, e_lst, a_nil, a_cons, o_none, o_some, t_val, t_cmp, t_chn, t_and, t_or, t_not, tand_nil, tand_cons, tor_nil, tor_cons, g_nam, g_tup, gs_nil, gs_cons, s_expr, s_asg, s_setf, s_aug, augL_ok, s_ret, s_retN, s_ite, s_raise, b_nil, b_cons, fin_nx, fin_ret, fin_ex, o2, lk, looks, leave_d, leave_ex, dats_nil, dats_cons, fld_d, ix_d, call1, call2, call3, call4, call5, setL, List.getElem?_cons_zero, List.getElem?_cons_succ, Option.map_some, Option.bind_some, List.length_cons, List.length_nil, List.set_cons_zero, List.set_cons_succ, Nat.reduceAdd, Nat.reduceLT, Nat.reduceSub, reduceIte, decide_true, decide_false, List.map_cons, List.map_nil, List.cons_append, List.nil_append, List.replicate_succ, List.replicate_zero, Nat.lt_add_one, Nat.zero_lt_succ, Nat.zero_lt_one, slD_str (x := t.tx) (by omega), e0, cmp_eqs, take1 h, c, Bool.false_eq_true]
  simp only [f_number_of, List.map_cons, List.map_nil, List.cons_append, List.nil_append, Nat.reduceSub, List.replicate_succ, List.replicate_zero]
  rw [b_cons, s_asg, h0]
  generalize hsg : (if t.ng then (-1 : Int) else 1) = sg
  have asg : sg.natAbs < 2 ^ 200 := by rw [← hsg]; split <;> decide
  have hr : digs (rstripT [48] t.fr) := fun c q => h.df c (rstrip_mem q)
  have hrl := rstrip_len [48] t.fr
  have hle := h.le
  have hni : t.ip ++ rstripT [48] t.fr ≠ [] := fun e => h.ne (List.append_eq_nil_iff.mp e).1
  have hnl : (t.ip ++ rstripT [48] t.fr).length ≤ 100 := by rw [List.length_append]; omega
  have hv := valT_lt (digs_app h.di hr)
  have h8 : 10 ^ (t.ip ++ rstripT [48] t.fr).length ≤ 10 ^ 8 := Nat.pow_le_pow_right (by omega) (by rw [List.length_append]; omega)
  have m1 := bin_mul (i := sg) (j := ((valT (t.ip ++ rstripT [48] t.fr) : Nat) : Int)) asg (by rw [Int.natAbs_natCast]; omega)
  have a1 := add_str (x := t.ip) (y := rstripT [48] t.fr) (by omega)
  have b1 := bi_int (digs_app h.di hr) hni hnl
  simp -implicitDefEqProofs only [bnd_ok, bnd_ex, sts_ok, sts_ex, sqs_nx, sqs_ret, sqs_ex, cnd_t, cnd_f, of_some, asd_ok, asd_ex, e_cst, e_var, rd_eq, rdO_ok, e_glb, glO_ok, e_bin, e_neg, e_cmp, chK_t, chK_f, e_chn, e_and, e_or, and_one, and_more, or_one, or_more, e_not, e_ite, e_call, mkI_some, e_mk, e_mth, e_blt, e_isi, e_bm, e_repl, e_fld, e_ix, e_sl, e_tup, e_lst, a_nil, a_cons, o_none, o_some, t_val, t_cmp, t_chn, t_and, t_or, t_not, tand_nil, tand_cons, tor_nil, tor_cons, g_nam, g_tup, gs_nil, gs_cons, s_expr, s_asg, s_setf, s_aug, augL_ok, s_ret, s_retN, s_ite, s_raise, b_nil, b_cons, fin_nx, fin_ret, fin_ex, o2, lk, looks, leave_d, leave_ex, dats_nil, dats_cons, fld_d, ix_d, call1, call2, call3, call4, call5, setL, List.getElem?_cons_zero, List.getElem?_cons_succ, Option.map_some, Option.bind_some, List.length_cons, List.length_nil, List.set_cons_zero, List.set_cons_succ, Nat.reduceAdd, Nat.reduceLT, Nat.reduceSub, reduceIte, decide_true, decide_false, List.map_cons, List.map_nil, List.cons_append, List.nil_append, List.replicate_succ, List.replicate_zero, Nat.lt_add_one, Nat.zero_lt_succ, Nat.zero_lt_one, rcv_str _ _ _ (by decide : Me.strip ≠ .append) (by decide), rcv_str _ _ _ (by decide : Me.split ≠ .append) (by decide), rcv_str _ _ _ (by decide : Me.rstrip ≠ .append) (by decide), me_strip (x := t.tx) (by omega), strip_tx h, me_split (x := t.body) (by omega), split_body h, bi_lenl]
  unfold numT
  rw [hsg]
  cases e : t.fp with
  | none =>
    have ef : t.fr = [] := by unfold Tp.fr; rw [e]; rfl
    rw [ef] at m1 a1 b1
    simp -implicitDefEqProofs only [bnd_ok, bnd_ex, sts_ok, sts_ex, sqs_nx, sqs_ret, sqs_ex, cnd_t, cnd_f, of_some, asd_ok, asd_ex, e_cst, e_var, rd_eq, rdO_ok, e_glb, glO_ok, e_bin, e_neg, e_cmp, chK_t, chK_f, e_chn, e_and, e_or, and_one, and_more, or_one, or_more, e_not, e_ite, e_call, mkI_some, e_mk, e_mth, e_blt, e_isi, e_bm, e_repl, e_fld, e_ix, e_sl, e_tup, e_lst, a_nil, a_cons, o_none, o_some, t_val, t_cmp, t_chn, t_and, t_or, t_not, tand_nil, tand_cons, tor_nil, tor_cons, g_nam, g_tup, gs_nil, gs_cons, s_expr, s_asg, s_setf, s_aug, augL_ok, s_ret, s_retN, s_ite, s_raise, b_nil, b_cons, fin_nx, fin_ret, fin_ex, o2, lk, looks, leave_d, leave_ex, dats_nil, dats_cons, fld_d, ix_d, call1, call2, call3, call4, call5, setL, List.getElem?_cons_zero, List.getElem?_cons_succ, Option.map_some, Option.bind_some, List.length_cons, List.length_nil, List.set_cons_zero, List.set_cons_succ, Nat.reduceAdd, Nat.reduceLT, Nat.reduceSub, reduceIte, decide_true, decide_false, List.map_cons, List.map_nil, List.cons_append, List.nil_append, List.replicate_succ, List.replicate_zero, Nat.lt_add_one, Nat.zero_lt_succ, Nat.zero_lt_one, bi_lenl, cmp_eqi, show (((0 + 1 : Nat) : Int) == 2) = false from rfl, rcv_str _ _ _ (by decide : Me.rstrip ≠ .append) (by decide), me_rstrip (x := []) (by decide), ix_l0, a1, b1, m1, ef, bi_len' (x := rstripT [48] []) (by decide), sz, Nat.reduceLeDiff]
    rfl
  | some f =>
    have ef : t.fr = f := by unfold Tp.fr; rw [e]; rfl
    rw [ef] at m1 a1 b1 hrl hle
    simp -implicitDefEqProofs only [bnd_ok, bnd_ex, sts_ok, sts_ex, sqs_nx, sqs_ret, sqs_ex, cnd_t, cnd_f, of_some, asd_ok, asd_ex, e_cst, e_var, rd_eq, rdO_ok, e_glb, glO_ok, e_bin, e_neg, e_cmp, chK_t, chK_f, e_chn, e_and, e_or, and_one, and_more, or_one, or_more, e_not, e_ite, e_call, mkI_some, e_mk, e_mth, e_blt, e_isi, e_bm, e_repl, e_fld, e_ix, e_sl, e_tup, e_lst, a_nil, a_cons, o_none, o_some, t_val, t_cmp, t_chn, t_and, t_or, t_not, tand_nil, tand_cons, tor_nil, tor_cons, g_nam, g_tup, gs_nil, gs_cons, s_expr, s_asg, s_setf, s_aug, augL_ok, s_ret, s_retN, s_ite, s_raise, b_nil, b_cons, fin_nx, fin_ret, fin_ex, o2, lk, looks, leave_d, leave_ex, dats_nil, dats_cons, fld_d, ix_d, call1, call2, call3, call4, call5, setL, List.getElem?_cons_zero, List.getElem?_cons_succ, Option.map_some, Option.bind_some, List.length_cons, List.length_nil, List.set_cons_zero, List.set_cons_succ, Nat.reduceAdd, Nat.reduceLT, Nat.reduceSub, reduceIte, decide_true, decide_false, List.map_cons, List.map_nil, List.cons_append, List.nil_append, List.replicate_succ, List.replicate_zero, Nat.lt_add_one, Nat.zero_lt_succ, Nat.zero_lt_one, bi_lenl, cmp_eqi, show (((2 : Nat) : Int) == 2) = true from rfl, rcv_str _ _ _ (by decide : Me.rstrip ≠ .append) (by decide), me_rstrip (x := f) (by omega), ix_l0, ix_l1, a1, b1, m1, ef, bi_len' (x := rstripT [48] f) (by omega), sz, Nat.reduceLeDiff]
    rfl
end Kr
/-! KrQ2: stands, and what the keys of all manners do. -/
namespace Kr
inductive Mn where | chain | rank | pile
  deriving DecidableEq
def Mn.tx : Mn → Tx
  | .chain => [99, 104, 97, 105, 110]
  | .rank => [114, 97, 110, 107]
  | .pile => [112, 105, 108, 101]
structure Mk where
  mn : Mn
  pl : Nat
def Mk.D (m : Mk) : D := .tup [.str m.mn.tx, .int (m.pl : Int)]
def Mk.ok (m : Mk) : Prop := 3 ≤ m.pl ∧ m.pl ≤ 8
inductive Itm where | opn | op (x : Nm) (o : Nat)
  deriving DecidableEq
def Itm.D : Itm → D
  | .opn => .tup [.str [40]]
  | .op x o => .tup [x.D, .str [o]]
def Itm.ok : Itm → Prop
  | .opn => True
  | .op x o => x.ok ∧ o < 128
/-- what waits, the last one first; or the pile -/
inductive Pd where | ord (r : List Itm) | pil (a b c : Nm)
  deriving DecidableEq
def Pd.D : Pd → D
  | .ord r => .tup (r.reverse.map Itm.D)
  | .pil a b c => .tup [a.D, b.D, c.D]
inductive Wd where | no | fault | ended
  deriving DecidableEq
def Wd.tx : Wd → Tx
  | .no => []
  | .fault => [102, 97, 117, 108, 116]
  | .ended => [101, 110, 100, 101, 100]
structure Sd where
  ty : Option Tp
  nu : Nm
  gv : Bool
  pd : Pd
  la : Option (Nat × Nm)
  kp : Nm
  wd : Wd
def tyD : Option Tp → D
  | none => .non
  | some t => .str t.tx
def laD : Option (Nat × Nm) → D
  | none => .non
  | some (o, x) => .tup [.str [o], x.D]
def Sd.D (s : Sd) : D := .ins 0 [tyD s.ty, s.nu.D, .bl s.gv, s.pd.D, laD s.la, s.kp.D, .str s.wd.tx]
def Pd.ok (m : Mk) (n : Nat) : Pd → Prop
  | .ord r => m.mn ≠ .pile ∧ r.length ≤ n ∧ ∀ i ∈ r, i.ok
  | .pil a b c => m.mn = .pile ∧ a.ok ∧ b.ok ∧ c.ok
structure Sd.ok (m : Mk) (n : Nat) (s : Sd) : Prop where
  ty : ∀ t, s.ty = some t → t.ok m.pl
  nu : s.nu.ok
  pd : s.pd.ok m n
  la : ∀ o x, s.la = some (o, x) → x.ok
  kp : s.kp.ok
theorem Pd.ok.mono {m : Mk} {n n' : Nat} {p : Pd} (h : p.ok m n) (hn : n ≤ n') : p.ok m n' := by
  cases p with
  | ord r => exact ⟨h.1, Nat.le_trans h.2.1 hn, h.2.2⟩
  | pil a b c => exact h
theorem Sd.ok.mono {m : Mk} {n n' : Nat} {s : Sd} (h : s.ok m n) (hn : n ≤ n') : s.ok m n' := ⟨h.ty, h.nu, h.pd.mono hn, h.la, h.kp⟩
/-! the functions -/
def Sd.now (s : Sd) : Nm := match s.ty with
  | none => s.nu
  | some t => numT t
def Sd.shown (s : Sd) : Tx := if s.wd = .fault then [69] else match s.ty with
  | none => textN s.nu
  | some t => t.tx
def pd0 (m : Mk) : Pd := if m.mn = .pile then .pil nm0 nm0 nm0 else .ord []
def firstS (m : Mk) (x : Nm) : Sd := ⟨none, nm0, false, pd0 m, none, x, .no⟩
def atF (s : Sd) : Sd := ⟨none, nm0, false, s.pd, s.la, s.kp, .fault⟩
def wN (s : Sd) (n : Option Nm) (g : Bool) (p : Pd) : Sd := match n with
  | none => atF s
  | some x => ⟨none, x, g, p, s.la, s.kp, .no⟩
def wT (s : Sd) (t : Tp) (p : Pd) : Sd := ⟨some t, nm0, true, p, s.la, s.kp, .no⟩
def lonT (p : Nat) (t : Tp) (c : Nat) : Tp :=
  if c = 46 then (match t.fp with
    | none => ⟨t.ng, t.ip, some []⟩
    | some _ => t)
  else if t.ip = [48] ∧ t.fp = none then ⟨t.ng, [c], none⟩
  else if t.ip.length + t.fr.length = p then t
  else match t.fp with
    | none => ⟨t.ng, t.ip ++ [c], none⟩
    | some f => ⟨t.ng, t.ip, some (f ++ [c])⟩
def begT (c : Nat) : Tp := if c = 46 then ⟨false, [48], some []⟩ else ⟨false, [c], none⟩
def turnS (s : Sd) : Sd := match s.ty with
  | some t => wT s ⟨!t.ng, t.ip, t.fp⟩ s.pd
  | none => wN s (some ⟨-s.nu.n, s.nu.b⟩) s.gv s.pd
def stoS (m : Mk) (s : Sd) : Sd := match opN 43 s.kp s.now m.pl with
  | none => atF s
  | some y => ⟨none, s.now, s.gv || decide (m.mn = .pile), s.pd, s.la, y, s.wd⟩
def empS (s : Sd) : Sd := ⟨s.ty, s.nu, s.gv, s.pd, s.la, nm0, s.wd⟩
def parN (m : Mk) (one : Option Nm) (other : Nm) : Option Nm := hunN (one.getD ⟨1, 0⟩) other m.pl
/-! invariants -/
theorem Sd.ok.now_ok {m : Mk} {n : Nat} {s : Sd} (hm : m.ok) (h : s.ok m n) : s.now.ok := by
  unfold Sd.now
  cases e : s.ty with
  | none => exact h.nu
  | some t => exact numT_ok hm.2 (h.ty t e)
theorem pd0_ok (m : Mk) (n : Nat) : (pd0 m).ok m n := by
  unfold pd0
  by_cases c : m.mn = .pile
  · rw [if_pos c]; exact ⟨c, nm0_ok, nm0_ok, nm0_ok⟩
  · rw [if_neg c]; exact ⟨c, Nat.zero_le _, fun i h => absurd h List.not_mem_nil⟩
theorem firstS_ok (m : Mk) (n : Nat) {x : Nm} (h : x.ok) : (firstS m x).ok m n := ⟨fun _ e => (nomatch e), nm0_ok, pd0_ok m n, fun _ _ e => (nomatch e), h⟩
theorem atF_ok {m : Mk} {n : Nat} {s : Sd} (h : s.ok m n) : (atF s).ok m n := ⟨fun _ e => (nomatch e), nm0_ok, h.pd, h.la, h.kp⟩
theorem wN_ok {m : Mk} {n n' : Nat} {s : Sd} {x : Option Nm} {g : Bool} {p : Pd} (h : s.ok m n) (hn : n ≤ n') (hx : ∀ y, x = some y → y.ok) (hp : (x ≠ none → p.ok m n')) : (wN s x g p).ok m n' := by
  cases x with
  | none => exact (atF_ok h).mono hn
  | some y => exact ⟨fun _ e => (nomatch e), hx y rfl, hp (fun e => nomatch e), h.la, h.kp⟩
theorem wT_ok {m : Mk} {n n' : Nat} {s : Sd} {t : Tp} {p : Pd} (h : s.ok m n) (ht : t.ok m.pl) (hp : p.ok m n') : (wT s t p).ok m n' := ⟨fun _ e => by injection e with e; rw [← e]; exact ht, nm0_ok, hp, h.la, h.kp⟩
def isDp (c : Nat) : Bool := ([48, 49, 50, 51, 52, 53, 54, 55, 56, 57, 46] : Tx).contains c
theorem isDp_iff {c : Nat} (h : isDp c = true) : c = 46 ∨ (48 ≤ c ∧ c ≤ 57) := by
  unfold isDp at h
  simp only [List.contains_cons, List.contains_nil, Bool.or_eq_true, beq_iff_eq, Bool.or_false] at h
  omega
theorem begT_ok {p c : Nat} (hp : 3 ≤ p) (h : isDp c = true) : (begT c).ok p := by
  unfold begT
  by_cases e : c = 46
  · rw [if_pos e]
    exact ⟨fun q => (nomatch q), fun d hd => by rw [List.mem_singleton.mp hd]; omega, fun d hd => absurd hd List.not_mem_nil, by show 1 + 0 ≤ p; omega⟩
  · rw [if_neg e]
    have := isDp_iff h
    exact ⟨fun q => (nomatch q), fun d hd => by rw [List.mem_singleton.mp hd]; omega, fun d hd => absurd hd List.not_mem_nil, by show 1 + 0 ≤ p; omega⟩
theorem lonT_ok {p c : Nat} {t : Tp} (ht : t.ok p) (h : isDp c = true) : (lonT p t c).ok p := by
  have hd := isDp_iff h
  have hi : 0 < t.ip.length := List.length_pos_iff.mpr ht.ne
  have hle := ht.le
  have hdf := ht.df
  unfold Tp.fr at hle hdf
  unfold lonT
  split
  · split
    · rename_i e
      rw [e] at hle
      exact ⟨ht.ne, ht.di, fun d q => absurd q List.not_mem_nil, hle⟩
    · exact ht
  · rename_i c1
    have hc : 48 ≤ c ∧ c ≤ 57 := by omega
    split
    · exact ⟨fun q => (nomatch q), fun d q => by rw [List.mem_singleton.mp q]; exact hc, fun d q => absurd q List.not_mem_nil, by show 1 + 0 ≤ p; omega⟩
    · split
      · exact ht
      · rename_i c3
        unfold Tp.fr at c3
        split
        · rename_i e
          rw [e] at hle c3
          have hle : t.ip.length + 0 ≤ p := hle
          have c3 : ¬ t.ip.length + 0 = p := c3
          exact ⟨fun q => ht.ne (List.append_eq_nil_iff.mp q).1, digs_app ht.di fun d q => by rw [List.mem_singleton.mp q]; exact hc, fun d q => absurd q List.not_mem_nil, by show (t.ip ++ [c]).length + 0 ≤ p; rw [List.length_append]; show _ + 1 + 0 ≤ p; omega⟩
        · rename_i f e
          rw [e] at hle c3 hdf
          have hle : t.ip.length + f.length ≤ p := hle
          have c3 : ¬ t.ip.length + f.length = p := c3
          exact ⟨ht.ne, ht.di, digs_app hdf fun d q => by rw [List.mem_singleton.mp q]; exact hc, by show t.ip.length + (f ++ [c]).length ≤ p; rw [List.length_append]; show _ + (_ + 1) ≤ p; omega⟩
theorem turnS_ok {m : Mk} {n : Nat} {s : Sd} (h : s.ok m n) : (turnS s).ok m n := by
  unfold turnS
  cases e : s.ty with
  | some t =>
    have := h.ty t e
    exact wT_ok h ⟨this.ne, this.di, this.df, this.le⟩ h.pd
  | none => exact wN_ok h (Nat.le_refl _) (fun y q => by injection q with q; rw [← q]; exact ⟨by show (-s.nu.n).natAbs < _; rw [Int.natAbs_neg]; exact h.nu.1, h.nu.2⟩) fun _ => h.pd
theorem stoS_ok {m : Mk} {n : Nat} {s : Sd} (hm : m.ok) (h : s.ok m n) : (stoS m s).ok m n := by
  unfold stoS
  cases e : opN 43 s.kp s.now m.pl with
  | none => exact atF_ok h
  | some y => exact ⟨fun _ q => (nomatch q), h.now_ok hm, h.pd, h.la, opN_ok hm e⟩
theorem empS_ok {m : Mk} {n : Nat} {s : Sd} (h : s.ok m n) : (empS s).ok m n := ⟨h.ty, h.nu, h.pd, h.la, nm0_ok⟩
theorem parN_ok {m : Mk} {one : Option Nm} {other z : Nm} (hm : m.ok) (h : parN m one other = some z) : z.ok := hunN_ok hm h
/-! the program's defs -/
theorem mk_st {G : Tab} (hc : Core G) (k : Nat) (S : Sto) (a b c d e f g : D) : mkW (run G (k + 1)) false 0 12 [.d a, .d b, .d c, .d d, .d e, .d f, .d g] S = .ok (.d (.ins 0 [a, b, c, d, e, f, g])) S := by
  have : run G (k + 1) 12 (.r 0 :: [.d a, .d b, .d c, .d d, .d e, .d f, .d g]) [.ins 0 []] = .ok (.d .non) [.ins 0 [.d a, .d b, .d c, .d d, .d e, .d f, .d g]] := by
    rw [run_fn hc.init rfl (by decide)]
    rfl
  unfold mkW
  rw [this]
  rfl
theorem cmp_is (x : D) : evCmp .is x .non = some (isNon x) := rfl
theorem cmp_isn (x : D) : evCmp .isn x .non = some (!isNon x) := rfl
theorem cls_d (S : Sto) (xs : List D) : decide (clsOf S (.d (.ins 0 xs)) = some 0) = true := rfl
theorem cls_d1 (S : Sto) (xs : List D) : decide (clsOf S (.d (.ins 1 xs)) = some 1) = true := rfl
theorem ty_non (t : Option Tp) : isNon (tyD t) = t.isNone := by cases t <;> rfl
theorem la_non (t : Option (Nat × Nm)) : isNon (laD t) = t.isNone := by
  cases t with
  | none => rfl
  | some p => rfl
theorem nn_str (x : Tx) : isNon (.str x) = false := rfl
theorem nn_tup (x : List D) : isNon (.tup x) = false := rfl
theorem nn_non : isNon .non = true := rfl
theorem fs0 (S : Sto) (s : Sd) : evFld 0 0 S (.d s.D) = .ok (.d (tyD s.ty)) S := rfl
theorem fs1 (S : Sto) (s : Sd) : evFld 0 1 S (.d s.D) = .ok (.d s.nu.D) S := rfl
theorem fs2 (S : Sto) (s : Sd) : evFld 0 2 S (.d s.D) = .ok (.d (.bl s.gv)) S := rfl
theorem fs3 (S : Sto) (s : Sd) : evFld 0 3 S (.d s.D) = .ok (.d s.pd.D) S := rfl
theorem fs4 (S : Sto) (s : Sd) : evFld 0 4 S (.d s.D) = .ok (.d (laD s.la)) S := rfl
theorem fs5 (S : Sto) (s : Sd) : evFld 0 5 S (.d s.D) = .ok (.d s.kp.D) S := rfl
theorem fs6 (S : Sto) (s : Sd) : evFld 0 6 S (.d s.D) = .ok (.d (.str s.wd.tx)) S := rfl
theorem cls_s (S : Sto) (s : Sd) : decide (clsOf S (.d s.D) = some 0) = true := rfl
theorem im0 (m : Mk) : ixD m.D (.int 0) = some (.str m.mn.tx) := rfl
theorem im1 (m : Mk) : ixD m.D (.int 1) = some (.int (m.pl : Int)) := rfl
theorem in0 (x : Nm) : ixD x.D (.int 0) = some (.int x.n) := rfl
theorem in1 (x : Nm) : ixD x.D (.int 1) = some (.int (x.b : Int)) := rfl
theorem oD_non (x : Option Nm) : isNon (oD x) = x.isNone := by cases x <;> rfl
theorem Nm_non (x : Nm) : isNon x.D = false := rfl
theorem wd_eq (w : Wd) : (w.tx == ([102, 97, 117, 108, 116] : Tx)) = decide (w = .fault) := by cases w <;> rfl
theorem wd_eq2 (w : Wd) : (w.tx == ([101, 110, 100, 101, 100] : Tx)) = decide (w = .ended) := by cases w <;> rfl
theorem mn_pile (m : Mn) : (m.tx == ([112, 105, 108, 101] : Tx)) = decide (m = .pile) := by cases m <;> rfl
theorem mn_rank (m : Mn) : (m.tx == ([114, 97, 110, 107] : Tx)) = decide (m = .rank) := by cases m <;> rfl
theorem run_now {G : Tab} (hc : Core G) (k : Nat) {m : Mk} {n : Nat} {s : Sd} (hm : m.ok) (h : s.ok m n) : run G (k + 2) 13 [.d s.D] [] = .ok (.d s.now.D) [] := by
  rw [run_fn hc.now rfl (by decide)]
  unfold Sd.now
  cases e : s.ty with
  | none => simp -implicitDefEqProofs only [bnd_ok, bnd_ex, sts_ok, sts_ex, sqs_nx, sqs_ret, sqs_ex, cnd_t, cnd_f, of_some, asd_ok, asd_ex, e_cst, e_var, rd_eq, rdO_ok, e_glb, glO_ok, e_bin, e_neg, e_cmp, chK_t, chK_f, e_chn, e_and, e_or, and_one, and_more, or_one, or_more, e_not, e_ite, e_call, mkI_some, e_mk, e_mth, e_blt, e_isi, e_bm, e_repl, e_fld, e_ix, e_sl, e_tup, e_lst, a_nil, a_cons, o_none, o_some, t_val, t_cmp, t_chn, t_and, t_or, t_not, tand_nil, tand_cons, tor_nil, tor_cons, g_nam, g_tup, gs_nil, gs_cons, s_expr, s_asg, s_setf, s_aug, augL_ok, s_ret, s_retN, s_ite, s_raise, b_nil, b_cons, fin_nx, fin_ret, fin_ex, o2, lk, looks, leave_d, leave_ex, dats_nil, dats_cons, fld_d, ix_d, call1, call2, call3, call4, call5, setL, List.getElem?_cons_zero, List.getElem?_cons_succ, Option.map_some, Option.bind_some, List.length_cons, List.length_nil, List.set_cons_zero, List.set_cons_succ, Nat.reduceAdd, Nat.reduceLT, Nat.reduceSub, reduceIte, decide_true, decide_false, List.map_cons, List.map_nil, List.cons_append, List.nil_append, List.replicate_succ, List.replicate_zero, Nat.lt_add_one, Nat.zero_lt_succ, Nat.zero_lt_one, f_Stand_now, Sd.D, e, tyD, cmp_is, isNon]
  | some t =>
    have q := run_num hc k hm.2 (h.ty t e)
    simp -implicitDefEqProofs only [bnd_ok, bnd_ex, sts_ok, sts_ex, sqs_nx, sqs_ret, sqs_ex, cnd_t, cnd_f, of_some, asd_ok, asd_ex, e_cst, e_var, rd_eq, rdO_ok, e_glb, glO_ok, e_bin, e_neg, e_cmp, chK_t, chK_f, e_chn, e_and, e_or, and_one, and_more, or_one, or_more, e_not, e_ite, e_call, mkI_some, e_mk, e_mth, e_blt, e_isi, e_bm, e_repl, e_fld, e_ix, e_sl, e_tup, e_lst, a_nil, a_cons, o_none, o_some, t_val, t_cmp, t_chn, t_and, t_or, t_not, tand_nil, tand_cons, tor_nil, tor_cons, g_nam, g_tup, gs_nil, gs_cons, s_expr, s_asg, s_setf, s_aug, augL_ok, s_ret, s_retN, s_ite, s_raise, b_nil, b_cons, fin_nx, fin_ret, fin_ex, o2, lk, looks, leave_d, leave_ex, dats_nil, dats_cons, fld_d, ix_d, call1, call2, call3, call4, call5, setL, List.getElem?_cons_zero, List.getElem?_cons_succ, Option.map_some, Option.bind_some, List.length_cons, List.length_nil, List.set_cons_zero, List.set_cons_succ, Nat.reduceAdd, Nat.reduceLT, Nat.reduceSub, reduceIte, decide_true, decide_false, List.map_cons, List.map_nil, List.cons_append, List.nil_append, List.replicate_succ, List.replicate_zero, Nat.lt_add_one, Nat.zero_lt_succ, Nat.zero_lt_one, f_Stand_now, Sd.D, e, tyD, cmp_is, isNon, q]
theorem run_shown {G : Tab} (hc : Core G) (k : Nat) {m : Mk} {n : Nat} {s : Sd} (h : s.ok m n) : run G (k + 2) 14 [.d s.D] [] = .ok (.d (.str s.shown)) [] := by
  rw [run_fn hc.shown rfl (by decide)]
  unfold Sd.shown
  by_cases c : s.wd = .fault
  · simp -implicitDefEqProofs only [bnd_ok, bnd_ex, sts_ok, sts_ex, sqs_nx, sqs_ret, sqs_ex, cnd_t, cnd_f, of_some, asd_ok, asd_ex, e_cst, e_var, rd_eq, rdO_ok, e_glb, glO_ok, e_bin, e_neg, e_cmp, chK_t, chK_f, e_chn, e_and, e_or, and_one, and_more, or_one, or_more, e_not, e_ite, e_call, mkI_some, e_mk, e_mth, e_blt, e_isi, e_bm, e_repl, e_fld, e_ix, e_sl, e_tup, e_lst, a_nil, a_cons, o_none, o_some, t_val, t_cmp, t_chn, t_and, t_or, t_not, tand_nil, tand_cons, tor_nil, tor_cons, g_nam, g_tup, gs_nil, gs_cons, s_expr, s_asg, s_setf, s_aug, augL_ok, s_ret, s_retN, s_ite, s_raise, b_nil, b_cons, fin_nx, fin_ret, fin_ex, o2, lk, looks, leave_d, leave_ex, dats_nil, dats_cons, fld_d, ix_d, call1, call2, call3, call4, call5, setL, List.getElem?_cons_zero, List.getElem?_cons_succ, Option.map_some, Option.bind_some, List.length_cons, List.length_nil, List.set_cons_zero, List.set_cons_succ, Nat.reduceAdd, Nat.reduceLT, Nat.reduceSub, reduceIte, decide_true, decide_false, List.map_cons, List.map_nil, List.cons_append, List.nil_append, List.replicate_succ, List.replicate_zero, Nat.lt_add_one, Nat.zero_lt_succ, Nat.zero_lt_one, f_Stand_shown, Sd.D, cmp_eqs, wd_eq, decide_eq_true c, if_pos c]
  · rw [if_neg c]
    cases e : s.ty with
    | none =>
      have q := run_text hc k h.nu
      simp -implicitDefEqProofs only [bnd_ok, bnd_ex, sts_ok, sts_ex, sqs_nx, sqs_ret, sqs_ex, cnd_t, cnd_f, of_some, asd_ok, asd_ex, e_cst, e_var, rd_eq, rdO_ok, e_glb, glO_ok, e_bin, e_neg, e_cmp, chK_t, chK_f, e_chn, e_and, e_or, and_one, and_more, or_one, or_more, e_not, e_ite, e_call, mkI_some, e_mk, e_mth, e_blt, e_isi, e_bm, e_repl, e_fld, e_ix, e_sl, e_tup, e_lst, a_nil, a_cons, o_none, o_some, t_val, t_cmp, t_chn, t_and, t_or, t_not, tand_nil, tand_cons, tor_nil, tor_cons, g_nam, g_tup, gs_nil, gs_cons, s_expr, s_asg, s_setf, s_aug, augL_ok, s_ret, s_retN, s_ite, s_raise, b_nil, b_cons, fin_nx, fin_ret, fin_ex, o2, lk, looks, leave_d, leave_ex, dats_nil, dats_cons, fld_d, ix_d, call1, call2, call3, call4, call5, setL, List.getElem?_cons_zero, List.getElem?_cons_succ, Option.map_some, Option.bind_some, List.length_cons, List.length_nil, List.set_cons_zero, List.set_cons_succ, Nat.reduceAdd, Nat.reduceLT, Nat.reduceSub, reduceIte, decide_true, decide_false, List.map_cons, List.map_nil, List.cons_append, List.nil_append, List.replicate_succ, List.replicate_zero, Nat.lt_add_one, Nat.zero_lt_succ, Nat.zero_lt_one, f_Stand_shown, Sd.D, cmp_eqs, wd_eq, decide_eq_false c, e, tyD, cmp_is, isNon, q]
    | some t => simp -implicitDefEqProofs only [bnd_ok, bnd_ex, sts_ok, sts_ex, sqs_nx, sqs_ret, sqs_ex, cnd_t, cnd_f, of_some, asd_ok, asd_ex, e_cst, e_var, rd_eq, rdO_ok, e_glb, glO_ok, e_bin, e_neg, e_cmp, chK_t, chK_f, e_chn, e_and, e_or, and_one, and_more, or_one, or_more, e_not, e_ite, e_call, mkI_some, e_mk, e_mth, e_blt, e_isi, e_bm, e_repl, e_fld, e_ix, e_sl, e_tup, e_lst, a_nil, a_cons, o_none, o_some, t_val, t_cmp, t_chn, t_and, t_or, t_not, tand_nil, tand_cons, tor_nil, tor_cons, g_nam, g_tup, gs_nil, gs_cons, s_expr, s_asg, s_setf, s_aug, augL_ok, s_ret, s_retN, s_ite, s_raise, b_nil, b_cons, fin_nx, fin_ret, fin_ex, o2, lk, looks, leave_d, leave_ex, dats_nil, dats_cons, fld_d, ix_d, call1, call2, call3, call4, call5, setL, List.getElem?_cons_zero, List.getElem?_cons_succ, Option.map_some, Option.bind_some, List.length_cons, List.length_nil, List.set_cons_zero, List.set_cons_succ, Nat.reduceAdd, Nat.reduceLT, Nat.reduceSub, reduceIte, decide_true, decide_false, List.map_cons, List.map_nil, List.cons_append, List.nil_append, List.replicate_succ, List.replicate_zero, Nat.lt_add_one, Nat.zero_lt_succ, Nat.zero_lt_one, f_Stand_shown, Sd.D, cmp_eqs, wd_eq, decide_eq_false c, e, tyD, cmp_is, isNon]
theorem run_first {G : Tab} (hc : Core G) (k : Nat) (m : Mk) (x : Nm) : run G (k + 2) 16 [.d m.D, .d x.D] [] = .ok (.d (firstS m x).D) [] := by
  rw [run_fn hc.first_stand rfl (by decide)]
  have e3 : evBin .mul (.tup [.tup [.int 0, .int 0]]) (.int 3) = some (.tup [.tup [.int 0, .int 0], .tup [.int 0, .int 0], .tup [.int 0, .int 0]]) := by rfl
  unfold firstS pd0
  by_cases c : m.mn = .pile
  · simp -implicitDefEqProofs only [bnd_ok, bnd_ex, sts_ok, sts_ex, sqs_nx, sqs_ret, sqs_ex, cnd_t, cnd_f, of_some, asd_ok, asd_ex, e_cst, e_var, rd_eq, rdO_ok, e_glb, glO_ok, e_bin, e_neg, e_cmp, chK_t, chK_f, e_chn, e_and, e_or, and_one, and_more, or_one, or_more, e_not, e_ite, e_call, mkI_some, e_mk, e_mth, e_blt, e_isi, e_bm, e_repl, e_fld, e_ix, e_sl, e_tup, e_lst, a_nil, a_cons, o_none, o_some, t_val, t_cmp, t_chn, t_and, t_or, t_not, tand_nil, tand_cons, tor_nil, tor_cons, g_nam, g_tup, gs_nil, gs_cons, s_expr, s_asg, s_setf, s_aug, augL_ok, s_ret, s_retN, s_ite, s_raise, b_nil, b_cons, fin_nx, fin_ret, fin_ex, o2, lk, looks, leave_d, leave_ex, dats_nil, dats_cons, fld_d, ix_d, call1, call2, call3, call4, call5, setL, List.getElem?_cons_zero, List.getElem?_cons_succ, Option.map_some, Option.bind_some, List.length_cons, List.length_nil, List.set_cons_zero, List.set_cons_succ, Nat.reduceAdd, Nat.reduceLT, Nat.reduceSub, reduceIte, decide_true, decide_false, List.map_cons, List.map_nil, List.cons_append, List.nil_append, List.replicate_succ, List.replicate_zero, Nat.lt_add_one, Nat.zero_lt_succ, Nat.zero_lt_one, f_first_stand, Mk.D, ix_t0, cmp_eqs, mn_pile, decide_eq_true c, if_pos c, hc.glN, hc.ini, sz, Nat.reduceLeDiff, e3, mk_st hc k]
    rfl
  · simp -implicitDefEqProofs only [bnd_ok, bnd_ex, sts_ok, sts_ex, sqs_nx, sqs_ret, sqs_ex, cnd_t, cnd_f, of_some, asd_ok, asd_ex, e_cst, e_var, rd_eq, rdO_ok, e_glb, glO_ok, e_bin, e_neg, e_cmp, chK_t, chK_f, e_chn, e_and, e_or, and_one, and_more, or_one, or_more, e_not, e_ite, e_call, mkI_some, e_mk, e_mth, e_blt, e_isi, e_bm, e_repl, e_fld, e_ix, e_sl, e_tup, e_lst, a_nil, a_cons, o_none, o_some, t_val, t_cmp, t_chn, t_and, t_or, t_not, tand_nil, tand_cons, tor_nil, tor_cons, g_nam, g_tup, gs_nil, gs_cons, s_expr, s_asg, s_setf, s_aug, augL_ok, s_ret, s_retN, s_ite, s_raise, b_nil, b_cons, fin_nx, fin_ret, fin_ex, o2, lk, looks, leave_d, leave_ex, dats_nil, dats_cons, fld_d, ix_d, call1, call2, call3, call4, call5, setL, List.getElem?_cons_zero, List.getElem?_cons_succ, Option.map_some, Option.bind_some, List.length_cons, List.length_nil, List.set_cons_zero, List.set_cons_succ, Nat.reduceAdd, Nat.reduceLT, Nat.reduceSub, reduceIte, decide_true, decide_false, List.map_cons, List.map_nil, List.cons_append, List.nil_append, List.replicate_succ, List.replicate_zero, Nat.lt_add_one, Nat.zero_lt_succ, Nat.zero_lt_one, f_first_stand, Mk.D, ix_t0, cmp_eqs, mn_pile, decide_eq_false c, if_neg c, hc.glN, hc.ini, sz, Nat.zero_le, mk_st hc k]
    rfl
theorem run_atF {G : Tab} (hc : Core G) (k : Nat) (s : Sd) : run G (k + 2) 17 [.d s.D] [] = .ok (.d (atF s).D) [] := by
  rw [run_fn hc.at_fault rfl (by decide)]
  simp -implicitDefEqProofs only [bnd_ok, bnd_ex, sts_ok, sts_ex, sqs_nx, sqs_ret, sqs_ex, cnd_t, cnd_f, of_some, asd_ok, asd_ex, e_cst, e_var, rd_eq, rdO_ok, e_glb, glO_ok, e_bin, e_neg, e_cmp, chK_t, chK_f, e_chn, e_and, e_or, and_one, and_more, or_one, or_more, e_not, e_ite, e_call, mkI_some, e_mk, e_mth, e_blt, e_isi, e_bm, e_repl, e_fld, e_ix, e_sl, e_tup, e_lst, a_nil, a_cons, o_none, o_some, t_val, t_cmp, t_chn, t_and, t_or, t_not, tand_nil, tand_cons, tor_nil, tor_cons, g_nam, g_tup, gs_nil, gs_cons, s_expr, s_asg, s_setf, s_aug, augL_ok, s_ret, s_retN, s_ite, s_raise, b_nil, b_cons, fin_nx, fin_ret, fin_ex, o2, lk, looks, leave_d, leave_ex, dats_nil, dats_cons, fld_d, ix_d, call1, call2, call3, call4, call5, setL, List.getElem?_cons_zero, List.getElem?_cons_succ, Option.map_some, Option.bind_some, List.length_cons, List.length_nil, List.set_cons_zero, List.set_cons_succ, Nat.reduceAdd, Nat.reduceLT, Nat.reduceSub, reduceIte, decide_true, decide_false, List.map_cons, List.map_nil, List.cons_append, List.nil_append, List.replicate_succ, List.replicate_zero, Nat.lt_add_one, Nat.zero_lt_succ, Nat.zero_lt_one, f_at_fault, Sd.D, hc.glN, hc.ini, mk_st hc k]
  rfl
theorem run_wN {G : Tab} (hc : Core G) (k : Nat) (s : Sd) (x : Option Nm) (g : Bool) (p : Pd) : run G (k + 3) 18 [.d s.D, .d (oD x), .d (.bl g), .d p.D] [] = .ok (.d (wN s x g p).D) [] := by
  rw [run_fn hc.with_number rfl (by decide)]
  cases x with
  | none =>
    have q := run_atF hc k s
    simp -implicitDefEqProofs only [bnd_ok, bnd_ex, sts_ok, sts_ex, sqs_nx, sqs_ret, sqs_ex, cnd_t, cnd_f, of_some, asd_ok, asd_ex, e_cst, e_var, rd_eq, rdO_ok, e_glb, glO_ok, e_bin, e_neg, e_cmp, chK_t, chK_f, e_chn, e_and, e_or, and_one, and_more, or_one, or_more, e_not, e_ite, e_call, mkI_some, e_mk, e_mth, e_blt, e_isi, e_bm, e_repl, e_fld, e_ix, e_sl, e_tup, e_lst, a_nil, a_cons, o_none, o_some, t_val, t_cmp, t_chn, t_and, t_or, t_not, tand_nil, tand_cons, tor_nil, tor_cons, g_nam, g_tup, gs_nil, gs_cons, s_expr, s_asg, s_setf, s_aug, augL_ok, s_ret, s_retN, s_ite, s_raise, b_nil, b_cons, fin_nx, fin_ret, fin_ex, o2, lk, looks, leave_d, leave_ex, dats_nil, dats_cons, fld_d, ix_d, call1, call2, call3, call4, call5, setL, List.getElem?_cons_zero, List.getElem?_cons_succ, Option.map_some, Option.bind_some, List.length_cons, List.length_nil, List.set_cons_zero, List.set_cons_succ, Nat.reduceAdd, Nat.reduceLT, Nat.reduceSub, reduceIte, decide_true, decide_false, List.map_cons, List.map_nil, List.cons_append, List.nil_append, List.replicate_succ, List.replicate_zero, Nat.lt_add_one, Nat.zero_lt_succ, Nat.zero_lt_one, f_with_number, oD, cmp_is, isNon, q]
    rfl
  | some y =>
    simp -implicitDefEqProofs only [bnd_ok, bnd_ex, sts_ok, sts_ex, sqs_nx, sqs_ret, sqs_ex, cnd_t, cnd_f, of_some, asd_ok, asd_ex, e_cst, e_var, rd_eq, rdO_ok, e_glb, glO_ok, e_bin, e_neg, e_cmp, chK_t, chK_f, e_chn, e_and, e_or, and_one, and_more, or_one, or_more, e_not, e_ite, e_call, mkI_some, e_mk, e_mth, e_blt, e_isi, e_bm, e_repl, e_fld, e_ix, e_sl, e_tup, e_lst, a_nil, a_cons, o_none, o_some, t_val, t_cmp, t_chn, t_and, t_or, t_not, tand_nil, tand_cons, tor_nil, tor_cons, g_nam, g_tup, gs_nil, gs_cons, s_expr, s_asg, s_setf, s_aug, augL_ok, s_ret, s_retN, s_ite, s_raise, b_nil, b_cons, fin_nx, fin_ret, fin_ex, o2, lk, looks, leave_d, leave_ex, dats_nil, dats_cons, fld_d, ix_d, call1, call2, call3, call4, call5, setL, List.getElem?_cons_zero, List.getElem?_cons_succ, Option.map_some, Option.bind_some, List.length_cons, List.length_nil, List.set_cons_zero, List.set_cons_succ, Nat.reduceAdd, Nat.reduceLT, Nat.reduceSub, reduceIte, decide_true, decide_false, List.map_cons, List.map_nil, List.cons_append, List.nil_append, List.replicate_succ, List.replicate_zero, Nat.lt_add_one, Nat.zero_lt_succ, Nat.zero_lt_one, f_with_number, oD, cmp_is, Nm.D, isNon, Sd.D, hc.ini, mk_st hc (k + 1)]
    rfl
theorem run_wT {G : Tab} (hc : Core G) (k : Nat) (s : Sd) (t : Tp) (p : Pd) : run G (k + 2) 19 [.d s.D, .d (.str t.tx), .d p.D] [] = .ok (.d (wT s t p).D) [] := by
  rw [run_fn hc.with_typed rfl (by decide)]
  simp -implicitDefEqProofs only [bnd_ok, bnd_ex, sts_ok, sts_ex, sqs_nx, sqs_ret, sqs_ex, cnd_t, cnd_f, of_some, asd_ok, asd_ex, e_cst, e_var, rd_eq, rdO_ok, e_glb, glO_ok, e_bin, e_neg, e_cmp, chK_t, chK_f, e_chn, e_and, e_or, and_one, and_more, or_one, or_more, e_not, e_ite, e_call, mkI_some, e_mk, e_mth, e_blt, e_isi, e_bm, e_repl, e_fld, e_ix, e_sl, e_tup, e_lst, a_nil, a_cons, o_none, o_some, t_val, t_cmp, t_chn, t_and, t_or, t_not, tand_nil, tand_cons, tor_nil, tor_cons, g_nam, g_tup, gs_nil, gs_cons, s_expr, s_asg, s_setf, s_aug, augL_ok, s_ret, s_retN, s_ite, s_raise, b_nil, b_cons, fin_nx, fin_ret, fin_ex, o2, lk, looks, leave_d, leave_ex, dats_nil, dats_cons, fld_d, ix_d, call1, call2, call3, call4, call5, setL, List.getElem?_cons_zero, List.getElem?_cons_succ, Option.map_some, Option.bind_some, List.length_cons, List.length_nil, List.set_cons_zero, List.set_cons_succ, Nat.reduceAdd, Nat.reduceLT, Nat.reduceSub, reduceIte, decide_true, decide_false, List.map_cons, List.map_nil, List.cons_append, List.nil_append, List.replicate_succ, List.replicate_zero, Nat.lt_add_one, Nat.zero_lt_succ, Nat.zero_lt_one, f_with_typed, Sd.D, hc.glN, hc.ini, mk_st hc k]
  rfl
theorem run_beg {G : Tab} (hc : Core G) (k : Nat) (c : Nat) : run G (k + 1) 21 [.d (.str [c])] [] = .ok (.d (.str (begT c).tx)) [] := by
  rw [run_fn hc.begun rfl (by decide)]
  unfold begT
  by_cases e : c = 46
  · simp -implicitDefEqProofs only [bnd_ok, bnd_ex, sts_ok, sts_ex, sqs_nx, sqs_ret, sqs_ex, cnd_t, cnd_f, of_some, asd_ok, asd_ex, e_cst, e_var, rd_eq, rdO_ok, e_glb, glO_ok, e_bin, e_neg, e_cmp, chK_t, chK_f, e_chn, e_and, e_or, and_one, and_more, or_one, or_more, e_not, e_ite, e_call, mkI_some, e_mk, e_mth, e_blt, e_isi, e_bm, e_repl, e_fld, e_ix, e_sl, e_tup, e_lst, a_nil, a_cons, o_none, o_some, t_val, t_cmp, t_chn, t_and, t_or, t_not, tand_nil, tand_cons, tor_nil, tor_cons, g_nam, g_tup, gs_nil, gs_cons, s_expr, s_asg, s_setf, s_aug, augL_ok, s_ret, s_retN, s_ite, s_raise, b_nil, b_cons, fin_nx, fin_ret, fin_ex, o2, lk, looks, leave_d, leave_ex, dats_nil, dats_cons, fld_d, ix_d, call1, call2, call3, call4, call5, setL, List.getElem?_cons_zero, List.getElem?_cons_succ, Option.map_some, Option.bind_some, List.length_cons, List.length_nil, List.set_cons_zero, List.set_cons_succ, Nat.reduceAdd, Nat.reduceLT, Nat.reduceSub, reduceIte, decide_true, decide_false, List.map_cons, List.map_nil, List.cons_append, List.nil_append, List.replicate_succ, List.replicate_zero, Nat.lt_add_one, Nat.zero_lt_succ, Nat.zero_lt_one, f_begun, cmp_eqs, beq1, decide_eq_true e, if_pos e]
    rfl
  · simp -implicitDefEqProofs only [bnd_ok, bnd_ex, sts_ok, sts_ex, sqs_nx, sqs_ret, sqs_ex, cnd_t, cnd_f, of_some, asd_ok, asd_ex, e_cst, e_var, rd_eq, rdO_ok, e_glb, glO_ok, e_bin, e_neg, e_cmp, chK_t, chK_f, e_chn, e_and, e_or, and_one, and_more, or_one, or_more, e_not, e_ite, e_call, mkI_some, e_mk, e_mth, e_blt, e_isi, e_bm, e_repl, e_fld, e_ix, e_sl, e_tup, e_lst, a_nil, a_cons, o_none, o_some, t_val, t_cmp, t_chn, t_and, t_or, t_not, tand_nil, tand_cons, tor_nil, tor_cons, g_nam, g_tup, gs_nil, gs_cons, s_expr, s_asg, s_setf, s_aug, augL_ok, s_ret, s_retN, s_ite, s_raise, b_nil, b_cons, fin_nx, fin_ret, fin_ex, o2, lk, looks, leave_d, leave_ex, dats_nil, dats_cons, fld_d, ix_d, call1, call2, call3, call4, call5, setL, List.getElem?_cons_zero, List.getElem?_cons_succ, Option.map_some, Option.bind_some, List.length_cons, List.length_nil, List.set_cons_zero, List.set_cons_succ, Nat.reduceAdd, Nat.reduceLT, Nat.reduceSub, reduceIte, decide_true, decide_false, List.map_cons, List.map_nil, List.cons_append, List.nil_append, List.replicate_succ, List.replicate_zero, Nat.lt_add_one, Nat.zero_lt_succ, Nat.zero_lt_one, f_begun, cmp_eqs, beq1, decide_eq_false e, if_neg e]
    rfl
theorem cmp_in (x y : Tx) : evCmp .isin (.str x) (.str y) = some (infixT x y) := rfl
theorem sg_no (t : Tp) : (t.sg).contains 46 = false := by unfold Tp.sg; split <;> rfl
theorem con_app (c : Nat) : ∀ (x y : Tx), (x ++ y).contains c = (x.contains c || y.contains c)
  | [], y => by rw [List.nil_append, List.contains_nil, Bool.false_or]
  | a :: x, y => by rw [List.cons_append, List.contains_cons, List.contains_cons, con_app c x y, Bool.or_assoc]
theorem has_pt {p : Nat} {t : Tp} (h : t.ok p) : t.tx.contains 46 = t.fp.isSome := by
  unfold Tp.tx Tp.body
  rw [con_app, sg_no, Bool.false_or]
  have hi : t.ip.contains 46 = false := by
    cases q : t.ip.contains 46 with
    | false => rfl
    | true => exact absurd rfl (digs_no h.di 46 (List.contains_iff_mem.mp q))
  cases e : t.fp with
  | none => exact hi
  | some f =>
    dsimp only
    rw [con_app, hi, Bool.false_or, List.contains_cons]
    rfl
theorem body_0 {p : Nat} {t : Tp} (h : t.ok p) : (t.body == ([48] : Tx)) = decide (t.ip = [48] ∧ t.fp = none) := by
  unfold Tp.body
  cases e : t.fp with
  | none =>
    dsimp only
    by_cases c : t.ip = [48]
    · rw [decide_eq_true ⟨c, rfl⟩, c]; rfl
    · rw [decide_eq_false (fun q => c q.1), beq_eq_false_iff_ne]; exact c
  | some f =>
    rw [decide_eq_false (fun q => nomatch q.2), beq_eq_false_iff_ne]
    intro q
    have := congrArg List.length q
    rw [List.length_append, List.length_cons] at this
    have hi : 0 < t.ip.length := List.length_pos_iff.mpr h.ne
    have this : t.ip.length + (f.length + 1) = 1 := this
    omega
theorem repl_no : ∀ {x : Tx}, (∀ c ∈ x, c ≠ 46) → replT 46 [] x = x
  | [], _ => rfl
  | a :: r, h => by
    show (if a = 46 then [] else [a]) ++ replT 46 [] r = _
    rw [if_neg (h a (List.mem_cons_self ..)), repl_no fun c hc => h c (List.mem_cons_of_mem _ hc)]
    rfl
theorem repl_body {p : Nat} {t : Tp} (h : t.ok p) : replT 46 [] t.body = t.ip ++ t.fr := by
  unfold Tp.body Tp.fr
  have hd := h.df
  unfold Tp.fr at hd
  cases e : t.fp with
  | none =>
    dsimp only [Option.getD]
    rw [repl_no (digs_no h.di), List.append_nil]
  | some f =>
    rw [e] at hd
    have hd : digs f := hd
    dsimp only [Option.getD]
    have : replT 46 [] (t.ip ++ 46 :: f) = replT 46 [] t.ip ++ replT 46 [] (46 :: f) := List.flatMap_append
    rw [this, repl_no (digs_no h.di)]
    show t.ip ++ ((if 46 = 46 then [] else [46]) ++ replT 46 [] f) = _
    rw [if_pos rfl, List.nil_append, repl_no (digs_no hd)]
theorem ev_repl {x : Tx} (h : x.length ≤ 1000) (c : Nat) : evRepl c [] (.str x) = some (.str (replT c [] x)) := by
  show (if x.length ≤ 100000 ∧ ([] : Tx).length ≤ 10 then some (D.str (replT c [] x)) else none) = _
  rw [if_pos ⟨by omega, by decide⟩]
theorem cut_m1 {α : Type} (x : List α) (a : α) : cut (x ++ [a]) none (some (-1)) = x := by
  unfold cut cutAt
  dsimp only
  rw [if_pos (by omega), List.length_append]
  have : ((-1 : Int) + ((x.length + [a].length : Nat) : Int)).toNat = x.length := by show ((-1 : Int) + ((x.length + 1 : Nat) : Int)).toNat = _; omega
  rw [this, List.drop_zero, Nat.sub_zero, List.take_left]
theorem run_lon {G : Tab} (hc : Core G) (k : Nat) {m : Mk} {t : Tp} {c : Nat} (hm : m.ok) (h : t.ok m.pl) (hd : isDp c = true) : run G (k + 1) 20 [.d m.D, .d (.str t.tx), .d (.str [c])] [] = .ok (.d (.str (lonT m.pl t c).tx)) [] := by
  rw [run_fn hc.longer rfl (by decide)]
  have hl := tx_len hm.2 h
  have hb := body_len hm.2 h
  have ap := add_str (x := t.tx) (y := [c]) (by show _ + 1 ≤ _; omega)
  have key : ∀ u : Tp, u.sg = t.sg → u.body = t.body ++ [c] → u.tx = t.tx ++ [c] := fun u q1 q2 => by unfold Tp.tx; rw [q1, q2, List.append_assoc]
  unfold lonT
  by_cases e : c = 46
  · rw [if_pos e]
    have e' : infixT [46] t.tx = t.fp.isSome := by rw [infix_one, has_pt h]
    cases ef : t.fp with
    | some f => simp -implicitDefEqProofs only [bnd_ok, bnd_ex, sts_ok, sts_ex, sqs_nx, sqs_ret, sqs_ex, cnd_t, cnd_f, of_some, asd_ok, asd_ex, e_cst, e_var, rd_eq, rdO_ok, e_glb, glO_ok, e_bin, e_neg, e_cmp, chK_t, chK_f, e_chn, e_and, e_or, and_one, and_more, or_one, or_more, e_not, e_ite, e_call, mkI_some, e_mk, e_mth, e_blt, e_isi, e_bm, e_repl, e_fld, e_ix, e_sl, e_tup, e_lst, a_nil, a_cons, o_none, o_some, t_val, t_cmp, t_chn, t_and, t_or, t_not, tand_nil, tand_cons, tor_nil, tor_cons, g_nam, g_tup, gs_nil, gs_cons, s_expr, s_asg, s_setf, s_aug, augL_ok, s_ret, s_retN, s_ite, s_raise, b_nil, b_cons, fin_nx, fin_ret, fin_ex, o2, lk, looks, leave_d, leave_ex, dats_nil, dats_cons, fld_d, ix_d, call1, call2, call3, call4, call5, setL, List.getElem?_cons_zero, List.getElem?_cons_succ, Option.map_some, Option.bind_some, List.length_cons, List.length_nil, List.set_cons_zero, List.set_cons_succ, Nat.reduceAdd, Nat.reduceLT, Nat.reduceSub, reduceIte, decide_true, decide_false, List.map_cons, List.map_nil, List.cons_append, List.nil_append, List.replicate_succ, List.replicate_zero, Nat.lt_add_one, Nat.zero_lt_succ, Nat.zero_lt_one, f_longer, cmp_eqs, beq1, decide_eq_true e, cmp_in, e', ef, Option.isSome]
    | none =>
      simp -implicitDefEqProofs only [bnd_ok, bnd_ex, sts_ok, sts_ex, sqs_nx, sqs_ret, sqs_ex, cnd_t, cnd_f, of_some, asd_ok, asd_ex, e_cst, e_var, rd_eq, rdO_ok, e_glb, glO_ok, e_bin, e_neg, e_cmp, chK_t, chK_f, e_chn, e_and, e_or, and_one, and_more, or_one, or_more, e_not, e_ite, e_call, mkI_some, e_mk, e_mth, e_blt, e_isi, e_bm, e_repl, e_fld, e_ix, e_sl, e_tup, e_lst, a_nil, a_cons, o_none, o_some, t_val, t_cmp, t_chn, t_and, t_or, t_not, tand_nil, tand_cons, tor_nil, tor_cons, g_nam, g_tup, gs_nil, gs_cons, s_expr, s_asg, s_setf, s_aug, augL_ok, s_ret, s_retN, s_ite, s_raise, b_nil, b_cons, fin_nx, fin_ret, fin_ex, o2, lk, looks, leave_d, leave_ex, dats_nil, dats_cons, fld_d, ix_d, call1, call2, call3, call4, call5, setL, List.getElem?_cons_zero, List.getElem?_cons_succ, Option.map_some, Option.bind_some, List.length_cons, List.length_nil, List.set_cons_zero, List.set_cons_succ, Nat.reduceAdd, Nat.reduceLT, Nat.reduceSub, reduceIte, decide_true, decide_false, List.map_cons, List.map_nil, List.cons_append, List.nil_append, List.replicate_succ, List.replicate_zero, Nat.lt_add_one, Nat.zero_lt_succ, Nat.zero_lt_one, f_longer, cmp_eqs, beq1, decide_eq_true e, cmp_in, e', ef, Option.isSome, ap]
      rw [key ⟨t.ng, t.ip, some []⟩ rfl (by unfold Tp.body; rw [ef, e])]
  · rw [if_neg e]
    have ms := me_strip (S := []) (x := t.tx) (y := [45]) (by omega)
    rw [strip_tx h] at ms
    by_cases e2 : t.ip = [48] ∧ t.fp = none
    · rw [if_pos e2]
      have hb0 : t.body = [48] := by unfold Tp.body; rw [e2.2]; exact e2.1
      have et : t.tx = t.sg ++ [48] := by unfold Tp.tx; rw [hb0]
      have c1 : cut t.tx none (some (-1)) = t.sg := by rw [et, cut_m1]
      have lsg : t.sg.length ≤ 1 := by unfold Tp.sg; split <;> decide
      have ap2 := add_str (x := t.sg) (y := [c]) (by show _ + 1 ≤ _; omega)
      simp -implicitDefEqProofs only [bnd_ok, bnd_ex, sts_ok, sts_ex, sqs_nx, sqs_ret, sqs_ex, cnd_t, cnd_f, of_some, asd_ok, asd_ex, e_cst, e_var, rd_eq, rdO_ok, e_glb, glO_ok, e_bin, e_neg, e_cmp, chK_t, chK_f, e_chn, e_and, e_or, and_one, and_more, or_one, or_more, e_not, e_ite, e_call, mkI_some, e_mk, e_mth, e_blt, e_isi, e_bm, e_repl, e_fld, e_ix, e_sl, e_tup, e_lst, a_nil, a_cons, o_none, o_some, t_val, t_cmp, t_chn, t_and, t_or, t_not, tand_nil, tand_cons, tor_nil, tor_cons, g_nam, g_tup, gs_nil, gs_cons, s_expr, s_asg, s_setf, s_aug, augL_ok, s_ret, s_retN, s_ite, s_raise, b_nil, b_cons, fin_nx, fin_ret, fin_ex, o2, lk, looks, leave_d, leave_ex, dats_nil, dats_cons, fld_d, ix_d, call1, call2, call3, call4, call5, setL, List.getElem?_cons_zero, List.getElem?_cons_succ, Option.map_some, Option.bind_some, List.length_cons, List.length_nil, List.set_cons_zero, List.set_cons_succ, Nat.reduceAdd, Nat.reduceLT, Nat.reduceSub, reduceIte, decide_true, decide_false, List.map_cons, List.map_nil, List.cons_append, List.nil_append, List.replicate_succ, List.replicate_zero, Nat.lt_add_one, Nat.zero_lt_succ, Nat.zero_lt_one, f_longer, cmp_eqs, beq1, decide_eq_false e, rcv_str _ _ _ (by decide : Me.strip ≠ .append) (by decide), ms, body_0 h, decide_eq_true e2, slD_str (x := t.tx) (by omega), c1, ap2]
      rfl
    · rw [if_neg e2]
      have lr : (t.ip ++ t.fr).length ≤ 1000 := by rw [List.length_append]; have := h.le; have := hm.2; omega
      have bl := bi_len' (x := t.ip ++ t.fr) lr
      rw [List.length_append] at bl
      by_cases e3 : t.ip.length + t.fr.length = m.pl
      · rw [if_pos e3]
        have e3' : (((t.ip.length + t.fr.length : Nat) : Int) == ((m.pl : Nat) : Int)) = true := by rw [e3]; exact beq_self_eq_true _
        simp -implicitDefEqProofs only [bnd_ok, bnd_ex, sts_ok, sts_ex, sqs_nx, sqs_ret, sqs_ex, cnd_t, cnd_f, of_some, asd_ok, asd_ex, e_cst, e_var, rd_eq, rdO_ok, e_glb, glO_ok, e_bin, e_neg, e_cmp, chK_t, chK_f, e_chn, e_and, e_or, and_one, and_more, or_one, or_more, e_not, e_ite, e_call, mkI_some, e_mk, e_mth, e_blt, e_isi, e_bm, e_repl, e_fld, e_ix, e_sl, e_tup, e_lst, a_nil, a_cons, o_none, o_some, t_val, t_cmp, t_chn, t_and, t_or, t_not, tand_nil, tand_cons, tor_nil, tor_cons, g_nam, g_tup, gs_nil, gs_cons, s_expr, s_asg, s_setf, s_aug, augL_ok, s_ret, s_retN, s_ite, s_raise, b_nil, b_cons, fin_nx, fin_ret, fin_ex, o2, lk, looks, leave_d, leave_ex, dats_nil, dats_cons, fld_d, ix_d, call1, call2, call3, call4, call5, setL, List.getElem?_cons_zero, List.getElem?_cons_succ, Option.map_some, Option.bind_some, List.length_cons, List.length_nil, List.set_cons_zero, List.set_cons_succ, Nat.reduceAdd, Nat.reduceLT, Nat.reduceSub, reduceIte, decide_true, decide_false, List.map_cons, List.map_nil, List.cons_append, List.nil_append, List.replicate_succ, List.replicate_zero, Nat.lt_add_one, Nat.zero_lt_succ, Nat.zero_lt_one, f_longer, cmp_eqs, beq1, decide_eq_false e, rcv_str _ _ _ (by decide : Me.strip ≠ .append) (by decide), ms, body_0 h, decide_eq_false e2, ev_repl (x := t.body) (by omega), repl_body h, bl, Mk.D, ix_t1, cmp_eqi, e3']
      · rw [if_neg e3]
        have e3' : (((t.ip.length + t.fr.length : Nat) : Int) == ((m.pl : Nat) : Int)) = false := by rw [beq_eq_false_iff_ne]; omega
        simp -implicitDefEqProofs only [bnd_ok, bnd_ex, sts_ok, sts_ex, sqs_nx, sqs_ret, sqs_ex, cnd_t, cnd_f, of_some, asd_ok, asd_ex, e_cst, e_var, rd_eq, rdO_ok, e_glb, glO_ok, e_bin, e_neg, e_cmp, chK_t, chK_f, e_chn, e_and, e_or, and_one, and_more, or_one, or_more, e_not, e_ite, e_call, mkI_some, e_mk, e_mth, e_blt, e_isi, e_bm, e_repl, e_fld, e_ix, e_sl, e_tup, e_lst, a_nil, a_cons, o_none, o_some, t_val, t_cmp, t_chn, t_and, t_or, t_not, tand_nil, tand_cons, tor_nil, tor_cons, g_nam, g_tup, gs_nil, gs_cons, s_expr, s_asg, s_setf, s_aug, augL_ok, s_ret, s_retN, s_ite, s_raise, b_nil, b_cons, fin_nx, fin_ret, fin_ex, o2, lk, looks, leave_d, leave_ex, dats_nil, dats_cons, fld_d, ix_d, call1, call2, call3, call4, call5, setL, List.getElem?_cons_zero, List.getElem?_cons_succ, Option.map_some, Option.bind_some, List.length_cons, List.length_nil, List.set_cons_zero, List.set_cons_succ, Nat.reduceAdd, Nat.reduceLT, Nat.reduceSub, reduceIte, decide_true, decide_false, List.map_cons, List.map_nil, List.cons_append, List.nil_append, List.replicate_succ, List.replicate_zero, Nat.lt_add_one, Nat.zero_lt_succ, Nat.zero_lt_one, f_longer, cmp_eqs, beq1, decide_eq_false e, rcv_str _ _ _ (by decide : Me.strip ≠ .append) (by decide), ms, body_0 h, decide_eq_false e2, ev_repl (x := t.body) (by omega), repl_body h, bl, Mk.D, ix_t1, cmp_eqi, e3', ap]
        cases ef : t.fp with
        | none =>
          dsimp only
          rw [key ⟨t.ng, t.ip ++ [c], none⟩ rfl (by unfold Tp.body; rw [ef])]
        | some f =>
          dsimp only
          rw [key ⟨t.ng, t.ip, some (f ++ [c])⟩ rfl (by unfold Tp.body; rw [ef]; dsimp only; rw [List.append_assoc]; rfl)]
theorem run_turn {G : Tab} (hc : Core G) (k : Nat) {m : Mk} {n : Nat} {s : Sd} (hm : m.ok) (h : s.ok m n) : run G (k + 4) 22 [.d s.D] [] = .ok (.d (turnS s).D) [] := by
  rw [run_fn hc.sign_turned rfl (by decide)]
  unfold turnS
  cases e : s.ty with
  | some t =>
    have ht := h.ty t e
    have hl := tx_len hm.2 ht
    have e0 : cut t.tx none (some 1) = t.tx.take 1 := cut_take t.tx 1
    have e1 : cut t.tx (some 1) none = t.tx.drop 1 := cut_drop t.tx 1
    have q := run_wT hc (k + 1) s ⟨!t.ng, t.ip, t.fp⟩ s.pd
    cases c : t.ng with
    | true =>
      have e2 : t.tx.drop 1 = (Tp.mk (!t.ng) t.ip t.fp).tx := by
        have : t.tx = [45] ++ t.body := by unfold Tp.tx Tp.sg; rw [c]; rfl
        rw [this, c]; rfl
      have t1 : (t.tx.take 1 == ([45] : Tx)) = true := by rw [take1 ht, c]
      show _ = RE.ok (W.d (wT s ⟨!t.ng, t.ip, t.fp⟩ s.pd).D) []
      generalize (Tp.mk (!t.ng) t.ip t.fp) = u at e2 q ⊢
      simp -implicitDefEqProofs only [bnd_ok, bnd_ex, sts_ok, sts_ex, sqs_nx, sqs_ret, sqs_ex, cnd_t, cnd_f, of_some, asd_ok, asd_ex, e_cst, e_var, rd_eq, rdO_ok, e_glb, glO_ok, e_bin, e_neg, e_cmp, chK_t, chK_f, e_chn, e_and, e_or, and_one, and_more, or_one, or_more, e_not, e_ite, e_call, mkI_some, e_mk, e_mth, e_blt, e_isi, e_bm, e_repl, e_fld, e_ix, e_sl, e_tup, e_lst, a_nil, a_cons, o_none, o_some, t_val, t_cmp, t_chn, t_and, t_or, t_not, tand_nil, tand_cons, tor_nil, tor_cons, g_nam, g_tup, gs_nil, gs_cons, s_expr, s_asg, s_setf, s_aug, augL_ok, s_ret, s_retN, s_ite, s_raise, b_nil, b_cons, fin_nx, fin_ret, fin_ex, o2, lk, looks, leave_d, leave_ex, dats_nil, dats_cons, fld_d, ix_d, call1, call2, call3, call4, call5, setL, List.getElem?_cons_zero, List.getElem?_cons_succ, Option.map_some, Option.bind_some, List.length_cons, List.length_nil, List.set_cons_zero, List.set_cons_succ, Nat.reduceAdd, Nat.reduceLT, Nat.reduceSub, reduceIte, decide_true, decide_false, List.map_cons, List.map_nil, List.cons_append, List.nil_append, List.replicate_succ, List.replicate_zero, Nat.lt_add_one, Nat.zero_lt_succ, Nat.zero_lt_one, fs0, fs1, fs2, fs3, fs4, fs5, fs6, cls_s, im0, im1, in0, in1, cmp_is, cmp_isn, ty_non, la_non, oD_non, Nm_non, cmp_eqs, cmp_nes, beq1, wd_eq, wd_eq2, mn_pile, mn_rank, nn_str, nn_tup, nn_non, f_sign_turned, e, tyD, Option.isNone, Bool.not_false, slD_str (x := t.tx) (by omega), e0, e1, t1, e2, q]
    | false =>
      have e2 : [45] ++ t.tx = (Tp.mk (!t.ng) t.ip t.fp).tx := by
        have : t.tx = t.body := by unfold Tp.tx Tp.sg; rw [c]; rfl
        rw [this, c]; rfl
      have ap := add_str (x := [45]) (y := t.tx) (by show 1 + _ ≤ _; omega)
      rw [e2] at ap
      have t1 : (t.tx.take 1 == ([45] : Tx)) = false := by rw [take1 ht, c]
      show _ = RE.ok (W.d (wT s ⟨!t.ng, t.ip, t.fp⟩ s.pd).D) []
      generalize (Tp.mk (!t.ng) t.ip t.fp) = u at ap q ⊢
      simp -implicitDefEqProofs only [bnd_ok, bnd_ex, sts_ok, sts_ex, sqs_nx, sqs_ret, sqs_ex, cnd_t, cnd_f, of_some, asd_ok, asd_ex, e_cst, e_var, rd_eq, rdO_ok, e_glb, glO_ok, e_bin, e_neg, e_cmp, chK_t, chK_f, e_chn, e_and, e_or, and_one, and_more, or_one, or_more, e_not, e_ite, e_call, mkI_some, e_mk, e_mth, e_blt, e_isi, e_bm, e_repl, e_fld, e_ix, e_sl, e_tup, e_lst, a_nil, a_cons, o_none, o_some, t_val, t_cmp, t_chn, t_and, t_or, t_not, tand_nil, tand_cons, tor_nil, tor_cons, g_nam, g_tup, gs_nil, gs_cons, s_expr, s_asg, s_setf, s_aug, augL_ok, s_ret, s_retN, s_ite, s_raise, b_nil, b_cons, fin_nx, fin_ret, fin_ex, o2, lk, looks, leave_d, leave_ex, dats_nil, dats_cons, fld_d, ix_d, call1, call2, call3, call4, call5, setL, List.getElem?_cons_zero, List.getElem?_cons_succ, Option.map_some, Option.bind_some, List.length_cons, List.length_nil, List.set_cons_zero, List.set_cons_succ, Nat.reduceAdd, Nat.reduceLT, Nat.reduceSub, reduceIte, decide_true, decide_false, List.map_cons, List.map_nil, List.cons_append, List.nil_append, List.replicate_succ, List.replicate_zero, Nat.lt_add_one, Nat.zero_lt_succ, Nat.zero_lt_one, fs0, fs1, fs2, fs3, fs4, fs5, fs6, cls_s, im0, im1, in0, in1, cmp_is, cmp_isn, ty_non, la_non, oD_non, Nm_non, cmp_eqs, cmp_nes, beq1, wd_eq, wd_eq2, mn_pile, mn_rank, nn_str, nn_tup, nn_non, f_sign_turned, e, tyD, Option.isNone, Bool.not_false, slD_str (x := t.tx) (by omega), e0, t1, ap, q]
  | none =>
    have q := run_wN hc k s (some ⟨-s.nu.n, s.nu.b⟩) s.gv s.pd
    have fO : oD (some ⟨-s.nu.n, s.nu.b⟩) = .tup [.int (-s.nu.n), .int s.nu.b] := rfl
    rw [fO] at q
    simp -implicitDefEqProofs only [bnd_ok, bnd_ex, sts_ok, sts_ex, sqs_nx, sqs_ret, sqs_ex, cnd_t, cnd_f, of_some, asd_ok, asd_ex, e_cst, e_var, rd_eq, rdO_ok, e_glb, glO_ok, e_bin, e_neg, e_cmp, chK_t, chK_f, e_chn, e_and, e_or, and_one, and_more, or_one, or_more, e_not, e_ite, e_call, mkI_some, e_mk, e_mth, e_blt, e_isi, e_bm, e_repl, e_fld, e_ix, e_sl, e_tup, e_lst, a_nil, a_cons, o_none, o_some, t_val, t_cmp, t_chn, t_and, t_or, t_not, tand_nil, tand_cons, tor_nil, tor_cons, g_nam, g_tup, gs_nil, gs_cons, s_expr, s_asg, s_setf, s_aug, augL_ok, s_ret, s_retN, s_ite, s_raise, b_nil, b_cons, fin_nx, fin_ret, fin_ex, o2, lk, looks, leave_d, leave_ex, dats_nil, dats_cons, fld_d, ix_d, call1, call2, call3, call4, call5, setL, List.getElem?_cons_zero, List.getElem?_cons_succ, Option.map_some, Option.bind_some, List.length_cons, List.length_nil, List.set_cons_zero, List.set_cons_succ, Nat.reduceAdd, Nat.reduceLT, Nat.reduceSub, reduceIte, decide_true, decide_false, List.map_cons, List.map_nil, List.cons_append, List.nil_append, List.replicate_succ, List.replicate_zero, Nat.lt_add_one, Nat.zero_lt_succ, Nat.zero_lt_one, fs0, fs1, fs2, fs3, fs4, fs5, fs6, cls_s, im0, im1, in0, in1, cmp_is, cmp_isn, ty_non, la_non, oD_non, Nm_non, cmp_eqs, cmp_nes, beq1, wd_eq, wd_eq2, mn_pile, mn_rank, nn_str, nn_tup, nn_non, f_sign_turned, e, Option.isNone, Bool.not_true, sz, Nat.reduceLeDiff, q]
theorem run_sto {G : Tab} (hc : Core G) (k : Nat) {m : Mk} {n : Nat} {s : Sd} (hm : m.ok) (h : s.ok m n) : run G (k + 4) 23 [.d m.D, .d s.D] [] = .ok (.d (stoS m s).D) [] := by
  rw [run_fn hc.stored rfl (by decide)]
  have q1 := run_now hc (k + 1) hm h
  have q2 := run_op hc k (o := 43) hm h.kp (h.now_ok hm)
  have q3 := run_atF hc (k + 1) s
  unfold stoS
  cases e : opN 43 s.kp s.now m.pl with
  | none => simp -implicitDefEqProofs only [bnd_ok, bnd_ex, sts_ok, sts_ex, sqs_nx, sqs_ret, sqs_ex, cnd_t, cnd_f, of_some, asd_ok, asd_ex, e_cst, e_var, rd_eq, rdO_ok, e_glb, glO_ok, e_bin, e_neg, e_cmp, chK_t, chK_f, e_chn, e_and, e_or, and_one, and_more, or_one, or_more, e_not, e_ite, e_call, mkI_some, e_mk, e_mth, e_blt, e_isi, e_bm, e_repl, e_fld, e_ix, e_sl, e_tup, e_lst, a_nil, a_cons, o_none, o_some, t_val, t_cmp, t_chn, t_and, t_or, t_not, tand_nil, tand_cons, tor_nil, tor_cons, g_nam, g_tup, gs_nil, gs_cons, s_expr, s_asg, s_setf, s_aug, augL_ok, s_ret, s_retN, s_ite, s_raise, b_nil, b_cons, fin_nx, fin_ret, fin_ex, o2, lk, looks, leave_d, leave_ex, dats_nil, dats_cons, fld_d, ix_d, call1, call2, call3, call4, call5, setL, List.getElem?_cons_zero, List.getElem?_cons_succ, Option.map_some, Option.bind_some, List.length_cons, List.length_nil, List.set_cons_zero, List.set_cons_succ, Nat.reduceAdd, Nat.reduceLT, Nat.reduceSub, reduceIte, decide_true, decide_false, List.map_cons, List.map_nil, List.cons_append, List.nil_append, List.replicate_succ, List.replicate_zero, Nat.lt_add_one, Nat.zero_lt_succ, Nat.zero_lt_one, fs0, fs1, fs2, fs3, fs4, fs5, fs6, cls_s, im0, im1, in0, in1, cmp_is, cmp_isn, ty_non, la_non, oD_non, Nm_non, cmp_eqs, cmp_nes, beq1, wd_eq, wd_eq2, mn_pile, mn_rank, nn_str, nn_tup, nn_non, f_stored, q1, q2, e, Option.isNone, q3]
  | some y =>
    cases g : s.gv with
    | true =>
      simp -implicitDefEqProofs only [bnd_ok, bnd_ex, sts_ok, sts_ex, sqs_nx, sqs_ret, sqs_ex, cnd_t, cnd_f, of_some, asd_ok, asd_ex, e_cst, e_var, rd_eq, rdO_ok, e_glb, glO_ok, e_bin, e_neg, e_cmp, chK_t, chK_f, e_chn, e_and, e_or, and_one, and_more, or_one, or_more, e_not, e_ite, e_call, mkI_some, e_mk, e_mth, e_blt, e_isi, e_bm, e_repl, e_fld, e_ix, e_sl, e_tup, e_lst, a_nil, a_cons, o_none, o_some, t_val, t_cmp, t_chn, t_and, t_or, t_not, tand_nil, tand_cons, tor_nil, tor_cons, g_nam, g_tup, gs_nil, gs_cons, s_expr, s_asg, s_setf, s_aug, augL_ok, s_ret, s_retN, s_ite, s_raise, b_nil, b_cons, fin_nx, fin_ret, fin_ex, o2, lk, looks, leave_d, leave_ex, dats_nil, dats_cons, fld_d, ix_d, call1, call2, call3, call4, call5, setL, List.getElem?_cons_zero, List.getElem?_cons_succ, Option.map_some, Option.bind_some, List.length_cons, List.length_nil, List.set_cons_zero, List.set_cons_succ, Nat.reduceAdd, Nat.reduceLT, Nat.reduceSub, reduceIte, decide_true, decide_false, List.map_cons, List.map_nil, List.cons_append, List.nil_append, List.replicate_succ, List.replicate_zero, Nat.lt_add_one, Nat.zero_lt_succ, Nat.zero_lt_one, fs0, fs1, fs2, fs3, fs4, fs5, fs6, cls_s, im0, im1, in0, in1, cmp_is, cmp_isn, ty_non, la_non, oD_non, Nm_non, cmp_eqs, cmp_nes, beq1, wd_eq, wd_eq2, mn_pile, mn_rank, nn_str, nn_tup, nn_non, f_stored, q1, q2, e, Option.isNone, g, hc.ini, mk_st hc (k + 2), Bool.true_or]
      rfl
    | false =>
      simp -implicitDefEqProofs only [bnd_ok, bnd_ex, sts_ok, sts_ex, sqs_nx, sqs_ret, sqs_ex, cnd_t, cnd_f, of_some, asd_ok, asd_ex, e_cst, e_var, rd_eq, rdO_ok, e_glb, glO_ok, e_bin, e_neg, e_cmp, chK_t, chK_f, e_chn, e_and, e_or, and_one, and_more, or_one, or_more, e_not, e_ite, e_call, mkI_some, e_mk, e_mth, e_blt, e_isi, e_bm, e_repl, e_fld, e_ix, e_sl, e_tup, e_lst, a_nil, a_cons, o_none, o_some, t_val, t_cmp, t_chn, t_and, t_or, t_not, tand_nil, tand_cons, tor_nil, tor_cons, g_nam, g_tup, gs_nil, gs_cons, s_expr, s_asg, s_setf, s_aug, augL_ok, s_ret, s_retN, s_ite, s_raise, b_nil, b_cons, fin_nx, fin_ret, fin_ex, o2, lk, looks, leave_d, leave_ex, dats_nil, dats_cons, fld_d, ix_d, call1, call2, call3, call4, call5, setL, List.getElem?_cons_zero, List.getElem?_cons_succ, Option.map_some, Option.bind_some, List.length_cons, List.length_nil, List.set_cons_zero, List.set_cons_succ, Nat.reduceAdd, Nat.reduceLT, Nat.reduceSub, reduceIte, decide_true, decide_false, List.map_cons, List.map_nil, List.cons_append, List.nil_append, List.replicate_succ, List.replicate_zero, Nat.lt_add_one, Nat.zero_lt_succ, Nat.zero_lt_one, fs0, fs1, fs2, fs3, fs4, fs5, fs6, cls_s, im0, im1, in0, in1, cmp_is, cmp_isn, ty_non, la_non, oD_non, Nm_non, cmp_eqs, cmp_nes, beq1, wd_eq, wd_eq2, mn_pile, mn_rank, nn_str, nn_tup, nn_non, f_stored, q1, q2, e, Option.isNone, g, hc.ini, mk_st hc (k + 2), Bool.false_or]
      rfl
theorem run_emp {G : Tab} (hc : Core G) (k : Nat) (s : Sd) : run G (k + 2) 24 [.d s.D] [] = .ok (.d (empS s).D) [] := by
  rw [run_fn hc.emptied rfl (by decide)]
  simp -implicitDefEqProofs only [bnd_ok, bnd_ex, sts_ok, sts_ex, sqs_nx, sqs_ret, sqs_ex, cnd_t, cnd_f, of_some, asd_ok, asd_ex, e_cst, e_var, rd_eq, rdO_ok, e_glb, glO_ok, e_bin, e_neg, e_cmp, chK_t, chK_f, e_chn, e_and, e_or, and_one, and_more, or_one, or_more, e_not, e_ite, e_call, mkI_some, e_mk, e_mth, e_blt, e_isi, e_bm, e_repl, e_fld, e_ix, e_sl, e_tup, e_lst, a_nil, a_cons, o_none, o_some, t_val, t_cmp, t_chn, t_and, t_or, t_not, tand_nil, tand_cons, tor_nil, tor_cons, g_nam, g_tup, gs_nil, gs_cons, s_expr, s_asg, s_setf, s_aug, augL_ok, s_ret, s_retN, s_ite, s_raise, b_nil, b_cons, fin_nx, fin_ret, fin_ex, o2, lk, looks, leave_d, leave_ex, dats_nil, dats_cons, fld_d, ix_d, call1, call2, call3, call4, call5, setL, List.getElem?_cons_zero, List.getElem?_cons_succ, Option.map_some, Option.bind_some, List.length_cons, List.length_nil, List.set_cons_zero, List.set_cons_succ, Nat.reduceAdd, Nat.reduceLT, Nat.reduceSub, reduceIte, decide_true, decide_false, List.map_cons, List.map_nil, List.cons_append, List.nil_append, List.replicate_succ, List.replicate_zero, Nat.lt_add_one, Nat.zero_lt_succ, Nat.zero_lt_one, fs0, fs1, fs2, fs3, fs4, fs5, fs6, cls_s, im0, im1, in0, in1, cmp_is, cmp_isn, ty_non, la_non, oD_non, Nm_non, cmp_eqs, cmp_nes, beq1, wd_eq, wd_eq2, mn_pile, mn_rank, nn_str, nn_tup, nn_non, f_emptied, hc.glN, hc.ini, mk_st hc k]
  rfl
theorem run_par {G : Tab} (hc : Core G) (k : Nat) {m : Mk} {x : Option Nm} {y : Nm} (hm : m.ok) (hx : ∀ z, x = some z → z.ok) (hy : y.ok) : run G (k + 4) 25 [.d m.D, .d (oD x), .d y.D] [] = .ok (.d (oD (parN m x y))) [] := by
  rw [run_fn hc.part_of rfl (by decide)]
  unfold parN
  cases x with
  | none =>
    have q := run_hun hc k (x := ⟨1, 0⟩) (y := y) hm (by unfold Nm.ok; decide) hy
    have e : (Nm.mk 1 0).D = .tup [.int 1, .int 0] := rfl
    rw [e] at q
    simp -implicitDefEqProofs only [bnd_ok, bnd_ex, sts_ok, sts_ex, sqs_nx, sqs_ret, sqs_ex, cnd_t, cnd_f, of_some, asd_ok, asd_ex, e_cst, e_var, rd_eq, rdO_ok, e_glb, glO_ok, e_bin, e_neg, e_cmp, chK_t, chK_f, e_chn, e_and, e_or, and_one, and_more, or_one, or_more, e_not, e_ite, e_call, mkI_some, e_mk, e_mth, e_blt, e_isi, e_bm, e_repl, e_fld, e_ix, e_sl, e_tup, e_lst, a_nil, a_cons, o_none, o_some, t_val, t_cmp, t_chn, t_and, t_or, t_not, tand_nil, tand_cons, tor_nil, tor_cons, g_nam, g_tup, gs_nil, gs_cons, s_expr, s_asg, s_setf, s_aug, augL_ok, s_ret, s_retN, s_ite, s_raise, b_nil, b_cons, fin_nx, fin_ret, fin_ex, o2, lk, looks, leave_d, leave_ex, dats_nil, dats_cons, fld_d, ix_d, call1, call2, call3, call4, call5, setL, List.getElem?_cons_zero, List.getElem?_cons_succ, Option.map_some, Option.bind_some, List.length_cons, List.length_nil, List.set_cons_zero, List.set_cons_succ, Nat.reduceAdd, Nat.reduceLT, Nat.reduceSub, reduceIte, decide_true, decide_false, List.map_cons, List.map_nil, List.cons_append, List.nil_append, List.replicate_succ, List.replicate_zero, Nat.lt_add_one, Nat.zero_lt_succ, Nat.zero_lt_one, fs0, fs1, fs2, fs3, fs4, fs5, fs6, cls_s, im0, im1, in0, in1, cmp_is, cmp_isn, ty_non, la_non, oD_non, Nm_non, cmp_eqs, cmp_nes, beq1, wd_eq, wd_eq2, mn_pile, mn_rank, nn_str, nn_tup, nn_non, f_part_of, Option.isNone, sz, Nat.reduceLeDiff, q]
    rfl
  | some z =>
    have q := run_hun hc k (x := z) (y := y) hm (hx z rfl) hy
    have nz : oD (some z) = z.D := rfl
    simp -implicitDefEqProofs only [bnd_ok, bnd_ex, sts_ok, sts_ex, sqs_nx, sqs_ret, sqs_ex, cnd_t, cnd_f, of_some, asd_ok, asd_ex, e_cst, e_var, rd_eq, rdO_ok, e_glb, glO_ok, e_bin, e_neg, e_cmp, chK_t, chK_f, e_chn, e_and, e_or, and_one, and_more, or_one, or_more, e_not, e_ite, e_call, mkI_some, e_mk, e_mth, e_blt, e_isi, e_bm, e_repl, e_fld, e_ix, e_sl, e_tup, e_lst, a_nil, a_cons, o_none, o_some, t_val, t_cmp, t_chn, t_and, t_or, t_not, tand_nil, tand_cons, tor_nil, tor_cons, g_nam, g_tup, gs_nil, gs_cons, s_expr, s_asg, s_setf, s_aug, augL_ok, s_ret, s_retN, s_ite, s_raise, b_nil, b_cons, fin_nx, fin_ret, fin_ex, o2, lk, looks, leave_d, leave_ex, dats_nil, dats_cons, fld_d, ix_d, call1, call2, call3, call4, call5, setL, List.getElem?_cons_zero, List.getElem?_cons_succ, Option.map_some, Option.bind_some, List.length_cons, List.length_nil, List.set_cons_zero, List.set_cons_succ, Nat.reduceAdd, Nat.reduceLT, Nat.reduceSub, reduceIte, decide_true, decide_false, List.map_cons, List.map_nil, List.cons_append, List.nil_append, List.replicate_succ, List.replicate_zero, Nat.lt_add_one, Nat.zero_lt_succ, Nat.zero_lt_one, fs0, fs1, fs2, fs3, fs4, fs5, fs6, cls_s, im0, im1, in0, in1, cmp_is, cmp_isn, ty_non, la_non, oD_non, Nm_non, cmp_eqs, cmp_nes, beq1, wd_eq, wd_eq2, mn_pile, mn_rank, nn_str, nn_tup, nn_non, f_part_of, Option.isNone, nz, q]
    rfl
end Kr
/-! KrQ3: reckoners that go by order. -/
namespace Kr
def Itm.isO : Itm → Bool
  | .opn => true
  | .op _ _ => false
def rankN (m : Mk) (o : Nat) : Int := if m.mn = .rank ∧ ([42, 47] : Tx).contains o = true then 2 else 1
def headOp : List Itm → Bool
  | .op _ _ :: _ => true
  | _ => false
def redN (m : Mk) (le : Int) : List Itm → Option Nm → List Itm × Option Nm
  | .op x o :: r, some y => if le ≤ rankN m o then redN m le r (opN o x y m.pl) else (.op x o :: r, some y)
  | r, y => (r, y)
def lastOp : List Itm → Option Nat
  | [] => none
  | .op _ o :: _ => some o
  | .opn :: r => lastOp r
def eqL (m : Mk) : List Itm → Option Nm → Option Nm
  | _, none => none
  | [], some y => some y
  | .op x o :: r, some y => eqL m r (opN o x y m.pl)
  | .opn :: r, some y => eqL m r (some y)
def opSt (g : Bool) (r : List Itm) (x : Nm) : Nm × List Itm := match g, r with
  | false, .op y _ :: r' => (y, r')
  | _, _ => (x, r)
def operS (m : Mk) (s : Sd) (r : List Itm) (o : Nat) : Sd :=
  match redN m (rankN m o) (opSt s.gv r s.now).2 (some (opSt s.gv r s.now).1) with
  | (_, none) => atF s
  | (r2, some y) => wN s (some y) false (.ord (.op y o :: r2))
def eqY (m : Mk) (s : Sd) (r : List Itm) : Option Nm := match lastOp r with
    | some _ => some s.now
    | none => (match s.la with
      | some (o, x) => opN o s.now x m.pl
      | none => some s.now)
def eqLa (s : Sd) (r : List Itm) : Option (Nat × Nm) := match lastOp r with
    | some o => some (o, s.now)
    | none => s.la
def eqS (m : Mk) (s : Sd) (r : List Itm) : Sd :=
  match eqL m r (eqY m s r) with
  | none => atF s
  | some y => ⟨none, y, true, .ord [], eqLa s r, s.kp, .ended⟩
def opnS (s : Sd) (r : List Itm) : Sd :=
  if s.wd = .ended then wN s (some nm0) false (.ord [.opn])
  else if s.gv = true ∨ r.countP Itm.isO = 4 then s
  else wN s (some nm0) false (.ord (.opn :: r))
def clsS (m : Mk) (s : Sd) (r : List Itm) : Sd :=
  if r.any Itm.isO then (let q := redN m 1 r (some s.now); wN s q.2 true (.ord q.1.tail)) else s
def percB : List Itm → Option Nm
  | .op x o :: _ => if ([43, 45] : Tx).contains o then some x else none
  | _ => none
def percS (m : Mk) (s : Sd) (r : List Itm) : Sd := wN s (parN m (percB r) s.now) true s.pd
def isOpk (c : Nat) : Bool := ([43, 45, 42, 47] : Tx).contains c
def ordS (m : Mk) (s : Sd) (r : List Itm) (c : Nat) : Sd :=
  if isDp c then wT s (match s.ty with
    | none => begT c
    | some t => lonT m.pl t c) s.pd
  else if isOpk c then operS m s r c
  else if c = 61 then eqS m s r
  else if c = 78 then (match (turnS s).ty with
    | none => wN (turnS s) (some (turnS s).nu) true (turnS s).pd
    | some _ => turnS s)
  else if c = 66 then wN s (some nm0) false s.pd
  else if c = 80 then percS m s r
  else if c = 82 then wN s (some s.kp) true s.pd
  else if m.mn = .rank ∧ c = 40 then opnS s r
  else if m.mn = .rank ∧ c = 41 then clsS m s r
  else s
/-! the pending tuple -/
theorem pdD_cons (i : Itm) (r : List Itm) : (Pd.ord (i :: r)).D = .tup (r.reverse.map Itm.D ++ [i.D]) := by
  show D.tup ((i :: r).reverse.map Itm.D) = _
  rw [List.reverse_cons, List.map_append]
  rfl
theorem ix_m1 {xs : List D} {a : D} : ixAt (xs ++ [a]) (-1) = some a := by
  unfold ixAt
  rw [if_neg (by omega), if_pos (by rw [List.length_append]; show -((xs.length + 1 : Nat) : Int) ≤ -1; omega)]
  have : ((-1 : Int) + ((xs ++ [a]).length : Int)).toNat = xs.length := by
    rw [List.length_append]; show ((-1 : Int) + ((xs.length + 1 : Nat) : Int)).toNat = _; omega
  rw [this, List.getElem?_append_right (Nat.le_refl _), Nat.sub_self]
  rfl
theorem pd_last (i : Itm) (r : List Itm) : ixD (Pd.ord (i :: r)).D (.int (-1)) = some i.D := by
  rw [pdD_cons]; exact ix_m1
theorem pd_init (i : Itm) (r : List Itm) : slD (Pd.ord (i :: r)).D none (some (-1)) = some (Pd.ord r).D := by
  rw [pdD_cons]
  show some (D.tup (cut _ none (some (-1)))) = _
  rw [cut_m1]; rfl
theorem pd_init_t (r : List Itm) : slD (Pd.ord r).D none (some (-1)) = some (Pd.ord r.tail).D := by
  cases r with
  | nil => rfl
  | cons i r => exact pd_init i r
theorem pd_tru (r : List Itm) : truD (Pd.ord r).D = some (!r.isEmpty) := by
  cases r with
  | nil => rfl
  | cons i r =>
    rw [pdD_cons]
    show some (!(r.reverse.map Itm.D ++ [i.D]).isEmpty) = _
    cases r.reverse.map Itm.D <;> rfl
theorem pd_bool (r : List Itm) : evBi .bool [(Pd.ord r).D] = some (.bl (!r.isEmpty)) := by
  cases r with
  | nil => rfl
  | cons i r =>
    rw [pdD_cons]
    show some (D.bl (!(r.reverse.map Itm.D ++ [i.D]).isEmpty)) = _
    cases r.reverse.map Itm.D <;> rfl
theorem pd_app {r : List Itm} (i : Itm) (h : r.length ≤ 100000) : evBin .add (Pd.ord r).D (.tup [i.D]) = some (Pd.ord (i :: r)).D := by
  rw [pdD_cons]
  show (if (r.reverse.map Itm.D).length + [i.D].length ≤ sz then some (D.tup (r.reverse.map Itm.D ++ [i.D])) else none) = _
  rw [if_pos (by rw [List.length_map, List.length_reverse]; show _ + 1 ≤ 16777216; omega)]
theorem io0 (x : Nm) (o : Nat) : ixD (Itm.op x o).D (.int 0) = some x.D := rfl
theorem io1 (x : Nm) (o : Nat) : ixD (Itm.op x o).D (.int 1) = some (.str [o]) := rfl
theorem ne_opn (i : Itm) : evCmp .ne i.D (.tup [.str [40]]) = some (!i.isO) := by cases i <;> rfl
theorem eq_opn (i : Itm) : evCmp .eq i.D (.tup [.str [40]]) = some i.isO := by cases i <;> rfl
theorem deq_opn (i : Itm) : D.eq i.D (.tup [.str [40]]) = i.isO := by cases i <;> rfl
theorem flat_itm (i : Itm) : D.flat 19 i.D = true := by cases i <;> rfl
theorem flats_pd : ∀ (r : List Itm), D.flats 20 (r.map Itm.D) = true
  | [] => by unfold List.map; rfl
  | i :: r => by
    show (D.flat 20 i.D && D.flats 20 (r.map Itm.D)) = true
    rw [flats_pd r]
    cases i <;> rfl
theorem any_pd (r : List Itm) : (r.reverse.map Itm.D).any (fun z => D.eq z (.tup [.str [40]])) = r.any Itm.isO := by
  rw [List.any_map, List.any_reverse]
  congr 1
  funext i
  exact deq_opn i
theorem nin_opn (r : List Itm) : evCmp .nin (.tup [.str [40]]) (Pd.ord r).D = some (!(r.any Itm.isO)) := by
  show (evIn (.tup [.str [40]]) (.tup (r.reverse.map Itm.D))).map (!·) = _
  unfold evIn
  dsimp only
  rw [flats_pd, any_pd]
  rfl
theorem cnt_opn (S : Sto) (r : List Itm) : evBm .count S (.d (Pd.ord r).D) [.d (.tup [.str [40]])] = .ok (.d (.int (r.countP Itm.isO))) S := by
  show RE.of S ((if (D.flat 20 (.tup [.str [40]]) && D.flats 20 (r.reverse.map Itm.D)) = true then some (D.int ((r.reverse.map Itm.D).countP fun z => D.eq z (.tup [.str [40]]))) else none).map W.d) = _
  rw [flats_pd, show (D.flat 20 (.tup [.str [40]]) && true) = true from rfl, if_pos rfl]
  have : (r.reverse.map Itm.D).countP (fun z => D.eq z (.tup [.str [40]])) = r.countP Itm.isO := by
    rw [List.countP_map, List.countP_reverse]
    congr 1
    funext i
    exact deq_opn i
  rw [this]
  rfl
theorem rcv_cnt (S : Sto) (r : List Itm) : rcv .count S (.d (Pd.ord r).D) = true := rfl
/-! comprehensions over data, the store as it is -/
theorem turn_keep {g : W → Sl → Sto → RS} {t : Sl → Sto → RE Bool} {e : Sl → Sto → RE W} {l l' : Sl} {x : W} {acc : List D} {S S1 S2 S3 : Sto} {y : D} (h1 : g x l S = .nx l' S1) (h2 : t l' S1 = .ok true S2) (h3 : e l' S2 = .ok (.d y) S3) (hl : acc.length < 100000) : lcTurn g t e l x acc S = .ok (acc ++ [y]) S3 := by
  unfold lcTurn
  rw [h1]; dsimp only
  rw [h2]; dsimp only
  rw [h3]; dsimp only
  rw [if_pos (by show _ < 16777216; omega)]
theorem turn_skip {g : W → Sl → Sto → RS} {t : Sl → Sto → RE Bool} {e : Sl → Sto → RE W} {l l' : Sl} {x : W} {acc : List D} {S S1 S2 : Sto} (h1 : g x l S = .nx l' S1) (h2 : t l' S1 = .ok false S2) : lcTurn g t e l x acc S = .ok acc S2 := by
  unfold lcTurn
  rw [h1]; dsimp only
  rw [h2]
theorem evLc_data {u : W → List D → Sto → RE (List D)} {f : D → Option D} {S : Sto} : ∀ (xs : List D) (acc : List D), (∀ x ∈ xs, ∀ acc : List D, acc.length < 100000 → u (.d x) acc S = .ok (acc ++ (f x).toList) S) → acc.length + xs.length ≤ 100000 →
    evLc u (xs.map .d) acc S = .ok (acc ++ xs.filterMap f) S
  | [], acc, _, _ => by show RE.ok acc S = .ok (acc ++ []) S; rw [List.append_nil]
  | x :: xs, acc, h, hl => by
    rw [List.length_cons] at hl
    show (u (.d x) acc S).bind (fun acc S => evLc u (xs.map .d) acc S) = _
    rw [h x (List.mem_cons_self ..) acc (by omega)]
    show evLc u (xs.map .d) (acc ++ (f x).toList) S = _
    rw [evLc_data xs _ (fun y hy => h y (List.mem_cons_of_mem _ hy)) (by rw [List.length_append]; cases f x <;> simp <;> omega)]
    rw [List.filterMap_cons, List.append_assoc]
    cases f x <;> rfl
/-! the defs -/
theorem run_rank {G : Tab} (hc : Core G) (k : Nat) (m : Mk) (o : Nat) : run G (k + 1) 26 [.d m.D, .d (.str [o])] [] = .ok (.d (.int (rankN m o))) [] := by
  rw [run_fn hc.rank_of rfl (by decide)]
  unfold rankN
  by_cases c : m.mn = .rank
  · cases e : ([42, 47] : Tx).contains o with
    | true =>
      rw [if_pos ⟨c, rfl⟩]
      simp -implicitDefEqProofs only [bnd_ok, bnd_ex, sts_ok, sts_ex, sqs_nx, sqs_ret, sqs_ex, cnd_t, cnd_f, of_some, asd_ok, asd_ex, e_cst, e_var, rd_eq, rdO_ok, e_glb, glO_ok, e_bin, e_neg, e_cmp, chK_t, chK_f, e_chn, e_and, e_or, and_one, and_more, or_one, or_more, e_not, e_ite, e_call, mkI_some, e_mk, e_mth, e_blt, e_isi, e_bm, e_repl, e_fld, e_ix, e_sl, e_tup, e_lst, a_nil, a_cons, o_none, o_some, t_val, t_cmp, t_chn, t_and, t_or, t_not, tand_nil, tand_cons, tor_nil, tor_cons, g_nam, g_tup, gs_nil, gs_cons, s_expr, s_asg, s_setf, s_aug, augL_ok, s_ret, s_retN, s_ite, s_raise, b_nil, b_cons, fin_nx, fin_ret, fin_ex, o2, lk, looks, leave_d, leave_ex, dats_nil, dats_cons, fld_d, ix_d, call1, call2, call3, call4, call5, setL, List.getElem?_cons_zero, List.getElem?_cons_succ, Option.map_some, Option.bind_some, List.length_cons, List.length_nil, List.set_cons_zero, List.set_cons_succ, Nat.reduceAdd, Nat.reduceLT, Nat.reduceSub, reduceIte, decide_true, decide_false, List.map_cons, List.map_nil, List.cons_append, List.nil_append, List.replicate_succ, List.replicate_zero, Nat.lt_add_one, Nat.zero_lt_succ, Nat.zero_lt_one, fs0, fs1, fs2, fs3, fs4, fs5, fs6, cls_s, im0, im1, in0, in1, cmp_is, cmp_isn, ty_non, la_non, oD_non, Nm_non, cmp_eqs, cmp_nes, beq1, wd_eq, wd_eq2, mn_pile, mn_rank, nn_str, nn_tup, nn_non, f_rank_of, decide_eq_true c, cmp_in, infix_one, e]
    | false =>
      rw [if_neg (fun q => Bool.false_ne_true q.2)]
      simp -implicitDefEqProofs only [bnd_ok, bnd_ex, sts_ok, sts_ex, sqs_nx, sqs_ret, sqs_ex, cnd_t, cnd_f, of_some, asd_ok, asd_ex, e_cst, e_var, rd_eq, rdO_ok, e_glb, glO_ok, e_bin, e_neg, e_cmp, chK_t, chK_f, e_chn, e_and, e_or, and_one, and_more, or_one, or_more, e_not, e_ite, e_call, mkI_some, e_mk, e_mth, e_blt, e_isi, e_bm, e_repl, e_fld, e_ix, e_sl, e_tup, e_lst, a_nil, a_cons, o_none, o_some, t_val, t_cmp, t_chn, t_and, t_or, t_not, tand_nil, tand_cons, tor_nil, tor_cons, g_nam, g_tup, gs_nil, gs_cons, s_expr, s_asg, s_setf, s_aug, augL_ok, s_ret, s_retN, s_ite, s_raise, b_nil, b_cons, fin_nx, fin_ret, fin_ex, o2, lk, looks, leave_d, leave_ex, dats_nil, dats_cons, fld_d, ix_d, call1, call2, call3, call4, call5, setL, List.getElem?_cons_zero, List.getElem?_cons_succ, Option.map_some, Option.bind_some, List.length_cons, List.length_nil, List.set_cons_zero, List.set_cons_succ, Nat.reduceAdd, Nat.reduceLT, Nat.reduceSub, reduceIte, decide_true, decide_false, List.map_cons, List.map_nil, List.cons_append, List.nil_append, List.replicate_succ, List.replicate_zero, Nat.lt_add_one, Nat.zero_lt_succ, Nat.zero_lt_one, fs0, fs1, fs2, fs3, fs4, fs5, fs6, cls_s, im0, im1, in0, in1, cmp_is, cmp_isn, ty_non, la_non, oD_non, Nm_non, cmp_eqs, cmp_nes, beq1, wd_eq, wd_eq2, mn_pile, mn_rank, nn_str, nn_tup, nn_non, f_rank_of, decide_eq_true c, cmp_in, infix_one, e]
  · rw [if_neg (fun q => c q.1)]
    simp -implicitDefEqProofs only [bnd_ok, bnd_ex, sts_ok, sts_ex, sqs_nx, sqs_ret, sqs_ex, cnd_t, cnd_f, of_some, asd_ok, asd_ex, e_cst, e_var, rd_eq, rdO_ok, e_glb, glO_ok, e_bin, e_neg, e_cmp, chK_t, chK_f, e_chn, e_and, e_or, and_one, and_more, or_one, or_more, e_not, e_ite, e_call, mkI_some, e_mk, e_mth, e_blt, e_isi, e_bm, e_repl, e_fld, e_ix, e_sl, e_tup, e_lst, a_nil, a_cons, o_none, o_some, t_val, t_cmp, t_chn, t_and, t_or, t_not, tand_nil, tand_cons, tor_nil, tor_cons, g_nam, g_tup, gs_nil, gs_cons, s_expr, s_asg, s_setf, s_aug, augL_ok, s_ret, s_retN, s_ite, s_raise, b_nil, b_cons, fin_nx, fin_ret, fin_ex, o2, lk, looks, leave_d, leave_ex, dats_nil, dats_cons, fld_d, ix_d, call1, call2, call3, call4, call5, setL, List.getElem?_cons_zero, List.getElem?_cons_succ, Option.map_some, Option.bind_some, List.length_cons, List.length_nil, List.set_cons_zero, List.set_cons_succ, Nat.reduceAdd, Nat.reduceLT, Nat.reduceSub, reduceIte, decide_true, decide_false, List.map_cons, List.map_nil, List.cons_append, List.nil_append, List.replicate_succ, List.replicate_zero, Nat.lt_add_one, Nat.zero_lt_succ, Nat.zero_lt_one, fs0, fs1, fs2, fs3, fs4, fs5, fs6, cls_s, im0, im1, in0, in1, cmp_is, cmp_isn, ty_non, la_non, oD_non, Nm_non, cmp_eqs, cmp_nes, beq1, wd_eq, wd_eq2, mn_pile, mn_rank, nn_str, nn_tup, nn_non, f_rank_of, decide_eq_false c]
theorem run_isop {G : Tab} (hc : Core G) (k : Nat) {s : Sd} {r : List Itm} (e : s.pd = .ord r) : run G (k + 1) 27 [.d s.D] [] = .ok (.d (.bl (headOp r))) [] := by
  rw [run_fn hc.is_op rfl (by decide)]
  cases r with
  | nil => simp -implicitDefEqProofs only [bnd_ok, bnd_ex, sts_ok, sts_ex, sqs_nx, sqs_ret, sqs_ex, cnd_t, cnd_f, of_some, asd_ok, asd_ex, e_cst, e_var, rd_eq, rdO_ok, e_glb, glO_ok, e_bin, e_neg, e_cmp, chK_t, chK_f, e_chn, e_and, e_or, and_one, and_more, or_one, or_more, e_not, e_ite, e_call, mkI_some, e_mk, e_mth, e_blt, e_isi, e_bm, e_repl, e_fld, e_ix, e_sl, e_tup, e_lst, a_nil, a_cons, o_none, o_some, t_val, t_cmp, t_chn, t_and, t_or, t_not, tand_nil, tand_cons, tor_nil, tor_cons, g_nam, g_tup, gs_nil, gs_cons, s_expr, s_asg, s_setf, s_aug, augL_ok, s_ret, s_retN, s_ite, s_raise, b_nil, b_cons, fin_nx, fin_ret, fin_ex, o2, lk, looks, leave_d, leave_ex, dats_nil, dats_cons, fld_d, ix_d, call1, call2, call3, call4, call5, setL, List.getElem?_cons_zero, List.getElem?_cons_succ, Option.map_some, Option.bind_some, List.length_cons, List.length_nil, List.set_cons_zero, List.set_cons_succ, Nat.reduceAdd, Nat.reduceLT, Nat.reduceSub, reduceIte, decide_true, decide_false, List.map_cons, List.map_nil, List.cons_append, List.nil_append, List.replicate_succ, List.replicate_zero, Nat.lt_add_one, Nat.zero_lt_succ, Nat.zero_lt_one, fs0, fs1, fs2, fs3, fs4, fs5, fs6, cls_s, im0, im1, in0, in1, cmp_is, cmp_isn, ty_non, la_non, oD_non, Nm_non, cmp_eqs, cmp_nes, beq1, wd_eq, wd_eq2, mn_pile, mn_rank, nn_str, nn_tup, nn_non, f_is_op, e, pd_bool, List.isEmpty, Bool.not_true, headOp]
  | cons i r =>
    cases i <;> simp -implicitDefEqProofs only [bnd_ok, bnd_ex, sts_ok, sts_ex, sqs_nx, sqs_ret, sqs_ex, cnd_t, cnd_f, of_some, asd_ok, asd_ex, e_cst, e_var, rd_eq, rdO_ok, e_glb, glO_ok, e_bin, e_neg, e_cmp, chK_t, chK_f, e_chn, e_and, e_or, and_one, and_more, or_one, or_more, e_not, e_ite, e_call, mkI_some, e_mk, e_mth, e_blt, e_isi, e_bm, e_repl, e_fld, e_ix, e_sl, e_tup, e_lst, a_nil, a_cons, o_none, o_some, t_val, t_cmp, t_chn, t_and, t_or, t_not, tand_nil, tand_cons, tor_nil, tor_cons, g_nam, g_tup, gs_nil, gs_cons, s_expr, s_asg, s_setf, s_aug, augL_ok, s_ret, s_retN, s_ite, s_raise, b_nil, b_cons, fin_nx, fin_ret, fin_ex, o2, lk, looks, leave_d, leave_ex, dats_nil, dats_cons, fld_d, ix_d, call1, call2, call3, call4, call5, setL, List.getElem?_cons_zero, List.getElem?_cons_succ, Option.map_some, Option.bind_some, List.length_cons, List.length_nil, List.set_cons_zero, List.set_cons_succ, Nat.reduceAdd, Nat.reduceLT, Nat.reduceSub, reduceIte, decide_true, decide_false, List.map_cons, List.map_nil, List.cons_append, List.nil_append, List.replicate_succ, List.replicate_zero, Nat.lt_add_one, Nat.zero_lt_succ, Nat.zero_lt_one, fs0, fs1, fs2, fs3, fs4, fs5, fs6, cls_s, im0, im1, in0, in1, cmp_is, cmp_isn, ty_non, la_non, oD_non, Nm_non, cmp_eqs, cmp_nes, beq1, wd_eq, wd_eq2, mn_pile, mn_rank, nn_str, nn_tup, nn_non, f_is_op, e, pd_bool, List.isEmpty, Bool.not_false, pd_last, hc.glO, ne_opn, Itm.isO, Bool.not_true, headOp]
theorem redN_ok {m : Mk} {le : Int} (hm : m.ok) : ∀ {r : List Itm} {y : Option Nm}, (∀ i ∈ r, i.ok) → (∀ z, y = some z → z.ok) → (∀ i ∈ (redN m le r y).1, i.ok) ∧ (∀ z, (redN m le r y).2 = some z → z.ok) ∧ (redN m le r y).1.length ≤ r.length
  | [], y, h1, h2 => by
    cases y <;> exact ⟨h1, h2, Nat.le_refl _⟩
  | .opn :: r, y, h1, h2 => by
    cases y <;> exact ⟨h1, h2, Nat.le_refl _⟩
  | .op x o :: r, none, h1, h2 => ⟨h1, h2, Nat.le_refl _⟩
  | .op x o :: r, some y, h1, h2 => by
    unfold redN
    by_cases c : le ≤ rankN m o
    · rw [if_pos c]
      have := redN_ok (le := le) hm (r := r) (y := opN o x y m.pl) (fun i hi => h1 i (List.mem_cons_of_mem _ hi)) (fun z e => opN_ok hm e)
      exact ⟨this.1, this.2.1, Nat.le_succ_of_le this.2.2⟩
    · rw [if_neg c]
      exact ⟨h1, h2, Nat.le_refl _⟩
theorem isn_oD (y : Option Nm) : evCmp .isn (oD y) .non = some y.isSome := by cases y <;> rfl
theorem red_loop {G : Tab} (hc : Core G) (k : Nat) {m : Mk} (hm : m.ok) (le : Int) (S : Sto) : ∀ (r : List Itm) (y : Option Nm) (f : Nat), r.length < f → (∀ i ∈ r, i.ok) → (∀ z, y = some z → z.ok) →
    evWhile (evT G (run G (k + 3)) (match f_reduced.body with | .cons (.whl t _) _ => t | _ => .and .nil)) (evB G (run G (k + 3)) (match f_reduced.body with | .cons (.whl _ b) _ => b | _ => .nil)) f
      [some (.d m.D), some (.d (Pd.ord r).D), some (.d (oD y)), some (.d (.int le))] S =
    .nx [some (.d m.D), some (.d (Pd.ord (redN m le r y).1).D), some (.d (oD (redN m le r y).2)), some (.d (.int le))] S := by
  intro r
  induction r with
  | nil =>
    intro y f hf _ _
    cases f with
    | zero => omega
    | succ f =>
      have : redN m le [] y = ([], y) := by cases y <;> rfl
      rw [this]
      unfold evWhile
      simp -implicitDefEqProofs only [bnd_ok, bnd_ex, sts_ok, sts_ex, sqs_nx, sqs_ret, sqs_ex, cnd_t, cnd_f, of_some, asd_ok, asd_ex, e_cst, e_var, rd_eq, rdO_ok, e_glb, glO_ok, e_bin, e_neg, e_cmp, chK_t, chK_f, e_chn, e_and, e_or, and_one, and_more, or_one, or_more, e_not, e_ite, e_call, mkI_some, e_mk, e_mth, e_blt, e_isi, e_bm, e_repl, e_fld, e_ix, e_sl, e_tup, e_lst, a_nil, a_cons, o_none, o_some, t_val, t_cmp, t_chn, t_and, t_or, t_not, tand_nil, tand_cons, tor_nil, tor_cons, g_nam, g_tup, gs_nil, gs_cons, s_expr, s_asg, s_setf, s_aug, augL_ok, s_ret, s_retN, s_ite, s_raise, b_nil, b_cons, fin_nx, fin_ret, fin_ex, o2, lk, looks, leave_d, leave_ex, dats_nil, dats_cons, fld_d, ix_d, call1, call2, call3, call4, call5, setL, List.getElem?_cons_zero, List.getElem?_cons_succ, Option.map_some, Option.bind_some, List.length_cons, List.length_nil, List.set_cons_zero, List.set_cons_succ, Nat.reduceAdd, Nat.reduceLT, Nat.reduceSub, reduceIte, decide_true, decide_false, List.map_cons, List.map_nil, List.cons_append, List.nil_append, List.replicate_succ, List.replicate_zero, Nat.lt_add_one, Nat.zero_lt_succ, Nat.zero_lt_one, f_reduced, pd_tru, List.isEmpty, Bool.not_true, RE.st]
      simp
  | cons i r ih =>
    intro y f hf hi hy
    cases f with
    | zero => omega
    | succ f =>
      unfold evWhile
      cases i with
      | opn =>
        have : redN m le (.opn :: r) y = (.opn :: r, y) := by cases y <;> rfl
        rw [this]
        simp -implicitDefEqProofs only [bnd_ok, bnd_ex, sts_ok, sts_ex, sqs_nx, sqs_ret, sqs_ex, cnd_t, cnd_f, of_some, asd_ok, asd_ex, e_cst, e_var, rd_eq, rdO_ok, e_glb, glO_ok, e_bin, e_neg, e_cmp, chK_t, chK_f, e_chn, e_and, e_or, and_one, and_more, or_one, or_more, e_not, e_ite, e_call, mkI_some, e_mk, e_mth, e_blt, e_isi, e_bm, e_repl, e_fld, e_ix, e_sl, e_tup, e_lst, a_nil, a_cons, o_none, o_some, t_val, t_cmp, t_chn, t_and, t_or, t_not, tand_nil, tand_cons, tor_nil, tor_cons, g_nam, g_tup, gs_nil, gs_cons, s_expr, s_asg, s_setf, s_aug, augL_ok, s_ret, s_retN, s_ite, s_raise, b_nil, b_cons, fin_nx, fin_ret, fin_ex, o2, lk, looks, leave_d, leave_ex, dats_nil, dats_cons, fld_d, ix_d, call1, call2, call3, call4, call5, setL, List.getElem?_cons_zero, List.getElem?_cons_succ, Option.map_some, Option.bind_some, List.length_cons, List.length_nil, List.set_cons_zero, List.set_cons_succ, Nat.reduceAdd, Nat.reduceLT, Nat.reduceSub, reduceIte, decide_true, decide_false, List.map_cons, List.map_nil, List.cons_append, List.nil_append, List.replicate_succ, List.replicate_zero, Nat.lt_add_one, Nat.zero_lt_succ, Nat.zero_lt_one, f_reduced, pd_tru, List.isEmpty, Bool.not_false, pd_last, hc.glO, ne_opn, Itm.isO, Bool.not_true, RE.st]
        simp
      | op x o =>
        cases y with
        | none =>
          have : redN m le (.op x o :: r) none = (.op x o :: r, none) := rfl
          rw [this]
          simp -implicitDefEqProofs only [bnd_ok, bnd_ex, sts_ok, sts_ex, sqs_nx, sqs_ret, sqs_ex, cnd_t, cnd_f, of_some, asd_ok, asd_ex, e_cst, e_var, rd_eq, rdO_ok, e_glb, glO_ok, e_bin, e_neg, e_cmp, chK_t, chK_f, e_chn, e_and, e_or, and_one, and_more, or_one, or_more, e_not, e_ite, e_call, mkI_some, e_mk, e_mth, e_blt, e_isi, e_bm, e_repl, e_fld, e_ix, e_sl, e_tup, e_lst, a_nil, a_cons, o_none, o_some, t_val, t_cmp, t_chn, t_and, t_or, t_not, tand_nil, tand_cons, tor_nil, tor_cons, g_nam, g_tup, gs_nil, gs_cons, s_expr, s_asg, s_setf, s_aug, augL_ok, s_ret, s_retN, s_ite, s_raise, b_nil, b_cons, fin_nx, fin_ret, fin_ex, o2, lk, looks, leave_d, leave_ex, dats_nil, dats_cons, fld_d, ix_d, call1, call2, call3, call4, call5, setL, List.getElem?_cons_zero, List.getElem?_cons_succ, Option.map_some, Option.bind_some, List.length_cons, List.length_nil, List.set_cons_zero, List.set_cons_succ, Nat.reduceAdd, Nat.reduceLT, Nat.reduceSub, reduceIte, decide_true, decide_false, List.map_cons, List.map_nil, List.cons_append, List.nil_append, List.replicate_succ, List.replicate_zero, Nat.lt_add_one, Nat.zero_lt_succ, Nat.zero_lt_one, f_reduced, pd_tru, List.isEmpty, Bool.not_false, pd_last, hc.glO, ne_opn, Itm.isO, isn_oD, Option.isSome, RE.st]
          simp
        | some y =>
          have q1 := run_rank hc (k + 2) m o
          have hx := hi _ (List.mem_cons_self ..)
          have q2 := run_op hc k (o := o) hm hx.1 (hy y rfl)
          have ey : oD (some y) = y.D := rfl
          by_cases c : le ≤ rankN m o
          · have : redN m le (.op x o :: r) (some y) = redN m le r (opN o x y m.pl) := by
              show (if le ≤ rankN m o then redN m le r (opN o x y m.pl) else _) = _
              rw [if_pos c]
            rw [this]
            simp -implicitDefEqProofs only [bnd_ok, bnd_ex, sts_ok, sts_ex, sqs_nx, sqs_ret, sqs_ex, cnd_t, cnd_f, of_some, asd_ok, asd_ex, e_cst, e_var, rd_eq, rdO_ok, e_glb, glO_ok, e_bin, e_neg, e_cmp, chK_t, chK_f, e_chn, e_and, e_or, and_one, and_more, or_one, or_more, e_not, e_ite, e_call, mkI_some, e_mk, e_mth, e_blt, e_isi, e_bm, e_repl, e_fld, e_ix, e_sl, e_tup, e_lst, a_nil, a_cons, o_none, o_some, t_val, t_cmp, t_chn, t_and, t_or, t_not, tand_nil, tand_cons, tor_nil, tor_cons, g_nam, g_tup, gs_nil, gs_cons, s_expr, s_asg, s_setf, s_aug, augL_ok, s_ret, s_retN, s_ite, s_raise, b_nil, b_cons, fin_nx, fin_ret, fin_ex, o2, lk, looks, leave_d, leave_ex, dats_nil, dats_cons, fld_d, ix_d, call1, call2, call3, call4, call5, setL, List.getElem?_cons_zero, List.getElem?_cons_succ, Option.map_some, Option.bind_some, List.length_cons, List.length_nil, List.set_cons_zero, List.set_cons_succ, Nat.reduceAdd, Nat.reduceLT, Nat.reduceSub, reduceIte, decide_true, decide_false, List.map_cons, List.map_nil, List.cons_append, List.nil_append, List.replicate_succ, List.replicate_zero, Nat.lt_add_one, Nat.zero_lt_succ, Nat.zero_lt_one, f_reduced, pd_tru, List.isEmpty, Bool.not_false, pd_last, hc.glO, ne_opn, Itm.isO, isn_oD, Option.isSome, io0, io1, q1, cmp_ge, decide_eq_true c, RE.st, im1]
            rw [ey]
            simp -implicitDefEqProofs only [bnd_ok, bnd_ex, sts_ok, sts_ex, sqs_nx, sqs_ret, sqs_ex, cnd_t, cnd_f, of_some, asd_ok, asd_ex, e_cst, e_var, rd_eq, rdO_ok, e_glb, glO_ok, e_bin, e_neg, e_cmp, chK_t, chK_f, e_chn, e_and, e_or, and_one, and_more, or_one, or_more, e_not, e_ite, e_call, mkI_some, e_mk, e_mth, e_blt, e_isi, e_bm, e_repl, e_fld, e_ix, e_sl, e_tup, e_lst, a_nil, a_cons, o_none, o_some, t_val, t_cmp, t_chn, t_and, t_or, t_not, tand_nil, tand_cons, tor_nil, tor_cons, g_nam, g_tup, gs_nil, gs_cons, s_expr, s_asg, s_setf, s_aug, augL_ok, s_ret, s_retN, s_ite, s_raise, b_nil, b_cons, fin_nx, fin_ret, fin_ex, o2, lk, looks, leave_d, leave_ex, dats_nil, dats_cons, fld_d, ix_d, call1, call2, call3, call4, call5, setL, List.getElem?_cons_zero, List.getElem?_cons_succ, Option.map_some, Option.bind_some, List.length_cons, List.length_nil, List.set_cons_zero, List.set_cons_succ, Nat.reduceAdd, Nat.reduceLT, Nat.reduceSub, reduceIte, decide_true, decide_false, List.map_cons, List.map_nil, List.cons_append, List.nil_append, List.replicate_succ, List.replicate_zero, Nat.lt_add_one, Nat.zero_lt_succ, Nat.zero_lt_one, q2, pd_init]
            have := ih (opN o x y m.pl) f (by rw [List.length_cons] at hf; omega) (fun i h => hi i (List.mem_cons_of_mem _ h)) (fun z e => opN_ok hm e)
            simp only [f_reduced] at this
            exact this
          · have : redN m le (.op x o :: r) (some y) = (.op x o :: r, some y) := by
              show (if le ≤ rankN m o then redN m le r (opN o x y m.pl) else _) = _
              rw [if_neg c]
            rw [this]
            simp -implicitDefEqProofs only [bnd_ok, bnd_ex, sts_ok, sts_ex, sqs_nx, sqs_ret, sqs_ex, cnd_t, cnd_f, of_some, asd_ok, asd_ex, e_cst, e_var, rd_eq, rdO_ok, e_glb, glO_ok, e_bin, e_neg, e_cmp, chK_t, chK_f, e_chn, e_and, e_or, and_one, and_more, or_one, or_more, e_not, e_ite, e_call, mkI_some, e_mk, e_mth, e_blt, e_isi, e_bm, e_repl, e_fld, e_ix, e_sl, e_tup, e_lst, a_nil, a_cons, o_none, o_some, t_val, t_cmp, t_chn, t_and, t_or, t_not, tand_nil, tand_cons, tor_nil, tor_cons, g_nam, g_tup, gs_nil, gs_cons, s_expr, s_asg, s_setf, s_aug, augL_ok, s_ret, s_retN, s_ite, s_raise, b_nil, b_cons, fin_nx, fin_ret, fin_ex, o2, lk, looks, leave_d, leave_ex, dats_nil, dats_cons, fld_d, ix_d, call1, call2, call3, call4, call5, setL, List.getElem?_cons_zero, List.getElem?_cons_succ, Option.map_some, Option.bind_some, List.length_cons, List.length_nil, List.set_cons_zero, List.set_cons_succ, Nat.reduceAdd, Nat.reduceLT, Nat.reduceSub, reduceIte, decide_true, decide_false, List.map_cons, List.map_nil, List.cons_append, List.nil_append, List.replicate_succ, List.replicate_zero, Nat.lt_add_one, Nat.zero_lt_succ, Nat.zero_lt_one, f_reduced, pd_tru, List.isEmpty, Bool.not_false, pd_last, hc.glO, ne_opn, Itm.isO, isn_oD, Option.isSome, io0, io1, q1, cmp_ge, decide_eq_false c, RE.st, im1]
            simp
theorem run_red {G : Tab} (hc : Core G) (k : Nat) {m : Mk} (hm : m.ok) {le : Int} {r : List Itm} {y : Option Nm} (hr : ∀ i ∈ r, i.ok) (hl : r.length ≤ 50000) (hy : ∀ z, y = some z → z.ok) :
    run G (k + 4) 28 [.d m.D, .d (Pd.ord r).D, .d (oD y), .d (.int le)] [] = .ok (.d (.tup [(Pd.ord (redN m le r y).1).D, oD (redN m le r y).2])) [] := by
  rw [run_fn hc.reduced rfl (by decide)]
  have q := red_loop hc k hm le [] r y 100000 (by omega) hr hy
  simp only [f_reduced] at q
  simp only [f_reduced, List.map_cons, List.map_nil, List.cons_append, List.nil_append, Nat.reduceSub, List.replicate_zero]
  rw [b_cons, s_whl, q]
  simp -implicitDefEqProofs only [bnd_ok, bnd_ex, sts_ok, sts_ex, sqs_nx, sqs_ret, sqs_ex, cnd_t, cnd_f, of_some, asd_ok, asd_ex, e_cst, e_var, rd_eq, rdO_ok, e_glb, glO_ok, e_bin, e_neg, e_cmp, chK_t, chK_f, e_chn, e_and, e_or, and_one, and_more, or_one, or_more, e_not, e_ite, e_call, mkI_some, e_mk, e_mth, e_blt, e_isi, e_bm, e_repl, e_fld, e_ix, e_sl, e_tup, e_lst, a_nil, a_cons, o_none, o_some, t_val, t_cmp, t_chn, t_and, t_or, t_not, tand_nil, tand_cons, tor_nil, tor_cons, g_nam, g_tup, gs_nil, gs_cons, s_expr, s_asg, s_setf, s_aug, augL_ok, s_ret, s_retN, s_ite, s_raise, b_nil, b_cons, fin_nx, fin_ret, fin_ex, o2, lk, looks, leave_d, leave_ex, dats_nil, dats_cons, fld_d, ix_d, call1, call2, call3, call4, call5, setL, List.getElem?_cons_zero, List.getElem?_cons_succ, Option.map_some, Option.bind_some, List.length_cons, List.length_nil, List.set_cons_zero, List.set_cons_succ, Nat.reduceAdd, Nat.reduceLT, Nat.reduceSub, reduceIte, decide_true, decide_false, List.map_cons, List.map_nil, List.cons_append, List.nil_append, List.replicate_succ, List.replicate_zero, Nat.lt_add_one, Nat.zero_lt_succ, Nat.zero_lt_one, sz, Nat.reduceLeDiff]
end Kr
/-! KrQ4: the keys of reckoners that go by order. -/
namespace Kr
theorem tru_bl (b : Bool) : truD (.bl b) = some b := rfl
/-- all of a stand that goes by order -/
structure OrdOk (m : Mk) (n : Nat) (s : Sd) (r : List Itm) : Prop where
  hm : m.ok
  h : s.ok m n
  e : s.pd = .ord r
  hn : n ≤ 10000
theorem OrdOk.its {m : Mk} {n : Nat} {s : Sd} {r : List Itm} (o : OrdOk m n s r) : ∀ i ∈ r, i.ok := by
  have := o.h.pd
  rw [o.e] at this
  exact this.2.2
theorem OrdOk.len {m : Mk} {n : Nat} {s : Sd} {r : List Itm} (o : OrdOk m n s r) : r.length ≤ n := by
  have := o.h.pd
  rw [o.e] at this
  exact this.2.1
theorem OrdOk.np {m : Mk} {n : Nat} {s : Sd} {r : List Itm} (o : OrdOk m n s r) : m.mn ≠ .pile := by
  have := o.h.pd
  rw [o.e] at this
  exact this.1
theorem run_oper {G : Tab} (hc : Core G) (k : Nat) {m : Mk} {n : Nat} {s : Sd} {r : List Itm} (o : OrdOk m n s r) (c : Nat) : run G (k + 5) 29 [.d m.D, .d s.D, .d (.str [c])] [] = .ok (.d (operS m s r c).D) [] := by
  rw [run_fn hc.operated rfl (by decide)]
  have hl := o.len
  have hn := o.hn
  have q1 := run_now hc (k + 2) o.hm o.h
  have q2 := run_isop hc (k + 3) o.e
  have q3 := run_rank hc (k + 3) m c
  have q4 := run_atF hc (k + 2) s
  -- the two first statements
  have step : ∀ (x : Nm) (r0 : List Itm), x.ok → (∀ i ∈ r0, i.ok) → r0.length ≤ n →
      finW (evB G (run G (k + 4)) (match f_operated.body with | .cons _ (.cons _ t) => t | t => t) [some (.d m.D), some (.d s.D), some (.d (.str [c])), some (.d x.D), some (.d (Pd.ord r0).D)] []) =
      .ok (.d (match redN m (rankN m c) r0 (some x) with
        | (_, none) => atF s
        | (r2, some y) => wN s (some y) false (.ord (.op y c :: r2))).D) [] := by
    intro x r0 hx h0 hl0
    have q5 := run_red hc k o.hm (le := rankN m c) (y := some x) h0 (by omega) (fun z e => by injection e with e; rw [← e]; exact hx)
    have ok := redN_ok (le := rankN m c) o.hm (r := r0) (y := some x) h0 (fun z e => by injection e with e; rw [← e]; exact hx)
    rw [show oD (some x) = x.D from rfl] at q5
    revert q5 ok
    generalize redN m (rankN m c) r0 (some x) = q
    intro q5 ok
    obtain ⟨r2, y⟩ := q
    cases y with
    | none => simp -implicitDefEqProofs only [bnd_ok, bnd_ex, sts_ok, sts_ex, sqs_nx, sqs_ret, sqs_ex, cnd_t, cnd_f, of_some, asd_ok, asd_ex, e_cst, e_var, rd_eq, rdO_ok, e_glb, glO_ok, e_bin, e_neg, e_cmp, chK_t, chK_f, e_chn, e_and, e_or, and_one, and_more, or_one, or_more, e_not, e_ite, e_call, mkI_some, e_mk, e_mth, e_blt, e_isi, e_bm, e_repl, e_fld, e_ix, e_sl, e_tup, e_lst, a_nil, a_cons, o_none, o_some, t_val, t_cmp, t_chn, t_and, t_or, t_not, tand_nil, tand_cons, tor_nil, tor_cons, g_nam, g_tup, gs_nil, gs_cons, s_expr, s_asg, s_setf, s_aug, augL_ok, s_ret, s_retN, s_ite, s_raise, b_nil, b_cons, fin_nx, fin_ret, fin_ex, o2, lk, looks, leave_d, leave_ex, dats_nil, dats_cons, fld_d, ix_d, call1, call2, call3, call4, call5, setL, List.getElem?_cons_zero, List.getElem?_cons_succ, Option.map_some, Option.bind_some, List.length_cons, List.length_nil, List.set_cons_zero, List.set_cons_succ, Nat.reduceAdd, Nat.reduceLT, Nat.reduceSub, reduceIte, decide_true, decide_false, List.map_cons, List.map_nil, List.cons_append, List.nil_append, List.replicate_succ, List.replicate_zero, Nat.lt_add_one, Nat.zero_lt_succ, Nat.zero_lt_one, fs0, fs1, fs2, fs3, fs4, fs5, fs6, cls_s, im0, im1, in0, in1, cmp_is, cmp_isn, ty_non, la_non, oD_non, Nm_non, cmp_eqs, cmp_nes, beq1, wd_eq, wd_eq2, mn_pile, mn_rank, nn_str, nn_tup, nn_non, f_operated, q3, q5, Option.isNone, q4]
    | some y =>
      have q6 := run_wN hc (k + 1) s (some y) false (.ord (.op y c :: r2))
      rw [show oD (some y) = y.D from rfl] at q6
      have q7 := pd_app (r := r2) (.op y c) (by have := ok.2.2; dsimp only at this; omega)
      rw [show (Itm.op y c).D = .tup [y.D, .str [c]] from rfl] at q7
      rw [show oD (some y) = y.D from rfl] at q5
      simp -implicitDefEqProofs only [bnd_ok, bnd_ex, sts_ok, sts_ex, sqs_nx, sqs_ret, sqs_ex, cnd_t, cnd_f, of_some, asd_ok, asd_ex, e_cst, e_var, rd_eq, rdO_ok, e_glb, glO_ok, e_bin, e_neg, e_cmp, chK_t, chK_f, e_chn, e_and, e_or, and_one, and_more, or_one, or_more, e_not, e_ite, e_call, mkI_some, e_mk, e_mth, e_blt, e_isi, e_bm, e_repl, e_fld, e_ix, e_sl, e_tup, e_lst, a_nil, a_cons, o_none, o_some, t_val, t_cmp, t_chn, t_and, t_or, t_not, tand_nil, tand_cons, tor_nil, tor_cons, g_nam, g_tup, gs_nil, gs_cons, s_expr, s_asg, s_setf, s_aug, augL_ok, s_ret, s_retN, s_ite, s_raise, b_nil, b_cons, fin_nx, fin_ret, fin_ex, o2, lk, looks, leave_d, leave_ex, dats_nil, dats_cons, fld_d, ix_d, call1, call2, call3, call4, call5, setL, List.getElem?_cons_zero, List.getElem?_cons_succ, Option.map_some, Option.bind_some, List.length_cons, List.length_nil, List.set_cons_zero, List.set_cons_succ, Nat.reduceAdd, Nat.reduceLT, Nat.reduceSub, reduceIte, decide_true, decide_false, List.map_cons, List.map_nil, List.cons_append, List.nil_append, List.replicate_succ, List.replicate_zero, Nat.lt_add_one, Nat.zero_lt_succ, Nat.zero_lt_one, fs0, fs1, fs2, fs3, fs4, fs5, fs6, cls_s, im0, im1, in0, in1, cmp_is, cmp_isn, ty_non, la_non, oD_non, Nm_non, cmp_eqs, cmp_nes, beq1, wd_eq, wd_eq2, mn_pile, mn_rank, nn_str, nn_tup, nn_non, f_operated, q3, q5, sz, Nat.reduceLeDiff, q7, q6]
  simp only [f_operated] at step
  unfold operS
  have hi := o.its
  have oe := o.e
  have st := step s.now r (o.h.now_ok o.hm) hi hl
  cases g1 : s.gv with
  | true =>
    have ex : opSt true r s.now = (s.now, r) := by cases r <;> rfl
    rw [ex]
    simp -implicitDefEqProofs only [bnd_ok, bnd_ex, sts_ok, sts_ex, sqs_nx, sqs_ret, sqs_ex, cnd_t, cnd_f, of_some, asd_ok, asd_ex, e_cst, e_var, rd_eq, rdO_ok, e_glb, glO_ok, e_bin, e_neg, e_cmp, chK_t, chK_f, e_chn, e_and, e_or, and_one, and_more, or_one, or_more, e_not, e_ite, e_call, mkI_some, e_mk, e_mth, e_blt, e_isi, e_bm, e_repl, e_fld, e_ix, e_sl, e_tup, e_lst, a_nil, a_cons, o_none, o_some, t_val, t_cmp, t_chn, t_and, t_or, t_not, tand_nil, tand_cons, tor_nil, tor_cons, g_nam, g_tup, gs_nil, gs_cons, s_expr, s_asg, s_setf, s_aug, augL_ok, s_ret, s_retN, s_ite, s_raise, b_nil, b_cons, fin_nx, fin_ret, fin_ex, o2, lk, looks, leave_d, leave_ex, dats_nil, dats_cons, fld_d, ix_d, call1, call2, call3, call4, call5, setL, List.getElem?_cons_zero, List.getElem?_cons_succ, Option.map_some, Option.bind_some, List.length_cons, List.length_nil, List.set_cons_zero, List.set_cons_succ, Nat.reduceAdd, Nat.reduceLT, Nat.reduceSub, reduceIte, decide_true, decide_false, List.map_cons, List.map_nil, List.cons_append, List.nil_append, List.replicate_succ, List.replicate_zero, Nat.lt_add_one, Nat.zero_lt_succ, Nat.zero_lt_one, fs0, fs1, fs2, fs3, fs4, fs5, fs6, cls_s, im0, im1, in0, in1, cmp_is, cmp_isn, ty_non, la_non, oD_non, Nm_non, cmp_eqs, cmp_nes, beq1, wd_eq, wd_eq2, mn_pile, mn_rank, nn_str, nn_tup, nn_non, f_operated, q1, sz, Nat.reduceLeDiff, tru_bl, g1, Bool.not_true, oe] at st ⊢
    exact st
  | false =>
    cases r with
    | nil =>
      have ex : opSt false [] s.now = (s.now, []) := rfl
      rw [ex]
      rw [show headOp [] = false from rfl] at q2
      simp -implicitDefEqProofs only [bnd_ok, bnd_ex, sts_ok, sts_ex, sqs_nx, sqs_ret, sqs_ex, cnd_t, cnd_f, of_some, asd_ok, asd_ex, e_cst, e_var, rd_eq, rdO_ok, e_glb, glO_ok, e_bin, e_neg, e_cmp, chK_t, chK_f, e_chn, e_and, e_or, and_one, and_more, or_one, or_more, e_not, e_ite, e_call, mkI_some, e_mk, e_mth, e_blt, e_isi, e_bm, e_repl, e_fld, e_ix, e_sl, e_tup, e_lst, a_nil, a_cons, o_none, o_some, t_val, t_cmp, t_chn, t_and, t_or, t_not, tand_nil, tand_cons, tor_nil, tor_cons, g_nam, g_tup, gs_nil, gs_cons, s_expr, s_asg, s_setf, s_aug, augL_ok, s_ret, s_retN, s_ite, s_raise, b_nil, b_cons, fin_nx, fin_ret, fin_ex, o2, lk, looks, leave_d, leave_ex, dats_nil, dats_cons, fld_d, ix_d, call1, call2, call3, call4, call5, setL, List.getElem?_cons_zero, List.getElem?_cons_succ, Option.map_some, Option.bind_some, List.length_cons, List.length_nil, List.set_cons_zero, List.set_cons_succ, Nat.reduceAdd, Nat.reduceLT, Nat.reduceSub, reduceIte, decide_true, decide_false, List.map_cons, List.map_nil, List.cons_append, List.nil_append, List.replicate_succ, List.replicate_zero, Nat.lt_add_one, Nat.zero_lt_succ, Nat.zero_lt_one, fs0, fs1, fs2, fs3, fs4, fs5, fs6, cls_s, im0, im1, in0, in1, cmp_is, cmp_isn, ty_non, la_non, oD_non, Nm_non, cmp_eqs, cmp_nes, beq1, wd_eq, wd_eq2, mn_pile, mn_rank, nn_str, nn_tup, nn_non, f_operated, q1, sz, Nat.reduceLeDiff, tru_bl, g1, Bool.not_false, q2, oe] at st ⊢
      exact st
    | cons i r =>
      cases i with
      | opn =>
        have ex : opSt false (.opn :: r) s.now = (s.now, .opn :: r) := rfl
        rw [ex]
        rw [show headOp (.opn :: r) = false from rfl] at q2
        simp -implicitDefEqProofs only [bnd_ok, bnd_ex, sts_ok, sts_ex, sqs_nx, sqs_ret, sqs_ex, cnd_t, cnd_f, of_some, asd_ok, asd_ex, e_cst, e_var, rd_eq, rdO_ok, e_glb, glO_ok, e_bin, e_neg, e_cmp, chK_t, chK_f, e_chn, e_and, e_or, and_one, and_more, or_one, or_more, e_not, e_ite, e_call, mkI_some, e_mk, e_mth, e_blt, e_isi, e_bm, e_repl, e_fld, e_ix, e_sl, e_tup, e_lst, a_nil, a_cons, o_none, o_some, t_val, t_cmp, t_chn, t_and, t_or, t_not, tand_nil, tand_cons, tor_nil, tor_cons, g_nam, g_tup, gs_nil, gs_cons, s_expr, s_asg, s_setf, s_aug, augL_ok, s_ret, s_retN, s_ite, s_raise, b_nil, b_cons, fin_nx, fin_ret, fin_ex, o2, lk, looks, leave_d, leave_ex, dats_nil, dats_cons, fld_d, ix_d, call1, call2, call3, call4, call5, setL, List.getElem?_cons_zero, List.getElem?_cons_succ, Option.map_some, Option.bind_some, List.length_cons, List.length_nil, List.set_cons_zero, List.set_cons_succ, Nat.reduceAdd, Nat.reduceLT, Nat.reduceSub, reduceIte, decide_true, decide_false, List.map_cons, List.map_nil, List.cons_append, List.nil_append, List.replicate_succ, List.replicate_zero, Nat.lt_add_one, Nat.zero_lt_succ, Nat.zero_lt_one, fs0, fs1, fs2, fs3, fs4, fs5, fs6, cls_s, im0, im1, in0, in1, cmp_is, cmp_isn, ty_non, la_non, oD_non, Nm_non, cmp_eqs, cmp_nes, beq1, wd_eq, wd_eq2, mn_pile, mn_rank, nn_str, nn_tup, nn_non, f_operated, q1, sz, Nat.reduceLeDiff, tru_bl, g1, Bool.not_false, q2, oe] at st ⊢
        exact st
      | op x o' =>
        have ex : opSt false (.op x o' :: r) s.now = (x, r) := rfl
        rw [ex]
        rw [show headOp (.op x o' :: r) = true from rfl] at q2
        have st := step x r (hi _ (List.mem_cons_self ..)).1 (fun i h => hi i (List.mem_cons_of_mem _ h)) (by rw [List.length_cons] at hl; omega)
        simp -implicitDefEqProofs only [bnd_ok, bnd_ex, sts_ok, sts_ex, sqs_nx, sqs_ret, sqs_ex, cnd_t, cnd_f, of_some, asd_ok, asd_ex, e_cst, e_var, rd_eq, rdO_ok, e_glb, glO_ok, e_bin, e_neg, e_cmp, chK_t, chK_f, e_chn, e_and, e_or, and_one, and_more, or_one, or_more, e_not, e_ite, e_call, mkI_some, e_mk, e_mth, e_blt, e_isi, e_bm, e_repl, e_fld, e_ix, e_sl, e_tup, e_lst, a_nil, a_cons, o_none, o_some, t_val, t_cmp, t_chn, t_and, t_or, t_not, tand_nil, tand_cons, tor_nil, tor_cons, g_nam, g_tup, gs_nil, gs_cons, s_expr, s_asg, s_setf, s_aug, augL_ok, s_ret, s_retN, s_ite, s_raise, b_nil, b_cons, fin_nx, fin_ret, fin_ex, o2, lk, looks, leave_d, leave_ex, dats_nil, dats_cons, fld_d, ix_d, call1, call2, call3, call4, call5, setL, List.getElem?_cons_zero, List.getElem?_cons_succ, Option.map_some, Option.bind_some, List.length_cons, List.length_nil, List.set_cons_zero, List.set_cons_succ, Nat.reduceAdd, Nat.reduceLT, Nat.reduceSub, reduceIte, decide_true, decide_false, List.map_cons, List.map_nil, List.cons_append, List.nil_append, List.replicate_succ, List.replicate_zero, Nat.lt_add_one, Nat.zero_lt_succ, Nat.zero_lt_one, fs0, fs1, fs2, fs3, fs4, fs5, fs6, cls_s, im0, im1, in0, in1, cmp_is, cmp_isn, ty_non, la_non, oD_non, Nm_non, cmp_eqs, cmp_nes, beq1, wd_eq, wd_eq2, mn_pile, mn_rank, nn_str, nn_tup, nn_non, f_operated, q1, sz, Nat.reduceLeDiff, tru_bl, g1, Bool.not_false, q2, oe, pd_last, io0, pd_init] at st ⊢
        exact st
theorem operS_ok {m : Mk} {n : Nat} {s : Sd} {r : List Itm} (o : OrdOk m n s r) {c : Nat} (hcc : c < 128) : (operS m s r c).ok m (n + 1) := by
  unfold operS
  have key : ∀ (x : Nm) (r0 : List Itm), x.ok → (∀ i ∈ r0, i.ok) → r0.length ≤ n → (match redN m (rankN m c) r0 (some x) with
        | (_, none) => atF s
        | (r2, some y) => wN s (some y) false (.ord (.op y c :: r2))).ok m (n + 1) := by
    intro x r0 hx h0 hl0
    have ok := redN_ok (le := rankN m c) o.hm (r := r0) (y := some x) h0 (fun z e => by injection e with e; rw [← e]; exact hx)
    revert ok
    generalize redN m (rankN m c) r0 (some x) = q
    intro ok
    obtain ⟨r2, y⟩ := q
    cases y with
    | none => exact (atF_ok o.h).mono (by omega)
    | some y =>
      refine wN_ok o.h (by omega) (fun z e => by injection e with e; rw [← e]; exact ok.2.1 y rfl) fun _ => ⟨o.np, ?_, ?_⟩
      · have := ok.2.2; dsimp only at this; rw [List.length_cons]; omega
      · intro i hi
        rcases List.mem_cons.mp hi with rfl | hi
        · exact ⟨ok.2.1 y rfl, hcc⟩
        · exact ok.1 i hi
  have hi := o.its
  have hl := o.len
  have k0 := key s.now r (o.h.now_ok o.hm) hi hl
  cases g1 : s.gv with
  | true =>
    have ex : opSt true r s.now = (s.now, r) := by cases r <;> rfl
    rw [ex]
    exact k0
  | false =>
    cases r with
    | nil => exact k0
    | cons i r =>
      cases i with
      | opn => exact k0
      | op x o' => exact key x r (hi _ (List.mem_cons_self ..)).1 (fun i h => hi i (List.mem_cons_of_mem _ h)) (by rw [List.length_cons] at hl; omega)
theorem run_opn {G : Tab} (hc : Core G) (k : Nat) {m : Mk} {n : Nat} {s : Sd} {r : List Itm} (o : OrdOk m n s r) : run G (k + 4) 31 [.d s.D] [] = .ok (.d (opnS s r).D) [] := by
  rw [run_fn hc.opened rfl (by decide)]
  have hl := o.len
  have hn := o.hn
  have e0 : oD (some nm0) = .tup [.int 0, .int 0] := rfl
  have eO : Itm.opn.D = .tup [.str [40]] := rfl
  unfold opnS
  by_cases c : s.wd = .ended
  · have q := run_wN hc k s (some nm0) false (.ord [.opn])
    rw [e0, show (Pd.ord [.opn]).D = .tup [.tup [.str [40]]] from rfl] at q
    simp -implicitDefEqProofs only [bnd_ok, bnd_ex, sts_ok, sts_ex, sqs_nx, sqs_ret, sqs_ex, cnd_t, cnd_f, of_some, asd_ok, asd_ex, e_cst, e_var, rd_eq, rdO_ok, e_glb, glO_ok, e_bin, e_neg, e_cmp, chK_t, chK_f, e_chn, e_and, e_or, and_one, and_more, or_one, or_more, e_not, e_ite, e_call, mkI_some, e_mk, e_mth, e_blt, e_isi, e_bm, e_repl, e_fld, e_ix, e_sl, e_tup, e_lst, a_nil, a_cons, o_none, o_some, t_val, t_cmp, t_chn, t_and, t_or, t_not, tand_nil, tand_cons, tor_nil, tor_cons, g_nam, g_tup, gs_nil, gs_cons, s_expr, s_asg, s_setf, s_aug, augL_ok, s_ret, s_retN, s_ite, s_raise, b_nil, b_cons, fin_nx, fin_ret, fin_ex, o2, lk, looks, leave_d, leave_ex, dats_nil, dats_cons, fld_d, ix_d, call1, call2, call3, call4, call5, setL, List.getElem?_cons_zero, List.getElem?_cons_succ, Option.map_some, Option.bind_some, List.length_cons, List.length_nil, List.set_cons_zero, List.set_cons_succ, Nat.reduceAdd, Nat.reduceLT, Nat.reduceSub, reduceIte, decide_true, decide_false, List.map_cons, List.map_nil, List.cons_append, List.nil_append, List.replicate_succ, List.replicate_zero, Nat.lt_add_one, Nat.zero_lt_succ, Nat.zero_lt_one, fs0, fs1, fs2, fs3, fs4, fs5, fs6, cls_s, im0, im1, in0, in1, cmp_is, cmp_isn, ty_non, la_non, oD_non, Nm_non, cmp_eqs, cmp_nes, beq1, wd_eq, wd_eq2, mn_pile, mn_rank, nn_str, nn_tup, nn_non, f_opened, decide_eq_true c, if_pos c, hc.glN, hc.glO, sz, Nat.reduceLeDiff, q]
  · rw [if_neg c]
    cases g : s.gv with
    | true =>
      rw [if_pos (.inl rfl)]
      simp -implicitDefEqProofs only [bnd_ok, bnd_ex, sts_ok, sts_ex, sqs_nx, sqs_ret, sqs_ex, cnd_t, cnd_f, of_some, asd_ok, asd_ex, e_cst, e_var, rd_eq, rdO_ok, e_glb, glO_ok, e_bin, e_neg, e_cmp, chK_t, chK_f, e_chn, e_and, e_or, and_one, and_more, or_one, or_more, e_not, e_ite, e_call, mkI_some, e_mk, e_mth, e_blt, e_isi, e_bm, e_repl, e_fld, e_ix, e_sl, e_tup, e_lst, a_nil, a_cons, o_none, o_some, t_val, t_cmp, t_chn, t_and, t_or, t_not, tand_nil, tand_cons, tor_nil, tor_cons, g_nam, g_tup, gs_nil, gs_cons, s_expr, s_asg, s_setf, s_aug, augL_ok, s_ret, s_retN, s_ite, s_raise, b_nil, b_cons, fin_nx, fin_ret, fin_ex, o2, lk, looks, leave_d, leave_ex, dats_nil, dats_cons, fld_d, ix_d, call1, call2, call3, call4, call5, setL, List.getElem?_cons_zero, List.getElem?_cons_succ, Option.map_some, Option.bind_some, List.length_cons, List.length_nil, List.set_cons_zero, List.set_cons_succ, Nat.reduceAdd, Nat.reduceLT, Nat.reduceSub, reduceIte, decide_true, decide_false, List.map_cons, List.map_nil, List.cons_append, List.nil_append, List.replicate_succ, List.replicate_zero, Nat.lt_add_one, Nat.zero_lt_succ, Nat.zero_lt_one, fs0, fs1, fs2, fs3, fs4, fs5, fs6, cls_s, im0, im1, in0, in1, cmp_is, cmp_isn, ty_non, la_non, oD_non, Nm_non, cmp_eqs, cmp_nes, beq1, wd_eq, wd_eq2, mn_pile, mn_rank, nn_str, nn_tup, nn_non, f_opened, decide_eq_false c, g, tru_bl]
    | false =>
      by_cases c2 : r.countP Itm.isO = 4
      · rw [if_pos (.inr c2)]
        have c2' : (((r.countP Itm.isO : Nat) : Int) == 4) = true := by rw [c2]; rfl
        simp -implicitDefEqProofs only [bnd_ok, bnd_ex, sts_ok, sts_ex, sqs_nx, sqs_ret, sqs_ex, cnd_t, cnd_f, of_some, asd_ok, asd_ex, e_cst, e_var, rd_eq, rdO_ok, e_glb, glO_ok, e_bin, e_neg, e_cmp, chK_t, chK_f, e_chn, e_and, e_or, and_one, and_more, or_one, or_more, e_not, e_ite, e_call, mkI_some, e_mk, e_mth, e_blt, e_isi, e_bm, e_repl, e_fld, e_ix, e_sl, e_tup, e_lst, a_nil, a_cons, o_none, o_some, t_val, t_cmp, t_chn, t_and, t_or, t_not, tand_nil, tand_cons, tor_nil, tor_cons, g_nam, g_tup, gs_nil, gs_cons, s_expr, s_asg, s_setf, s_aug, augL_ok, s_ret, s_retN, s_ite, s_raise, b_nil, b_cons, fin_nx, fin_ret, fin_ex, o2, lk, looks, leave_d, leave_ex, dats_nil, dats_cons, fld_d, ix_d, call1, call2, call3, call4, call5, setL, List.getElem?_cons_zero, List.getElem?_cons_succ, Option.map_some, Option.bind_some, List.length_cons, List.length_nil, List.set_cons_zero, List.set_cons_succ, Nat.reduceAdd, Nat.reduceLT, Nat.reduceSub, reduceIte, decide_true, decide_false, List.map_cons, List.map_nil, List.cons_append, List.nil_append, List.replicate_succ, List.replicate_zero, Nat.lt_add_one, Nat.zero_lt_succ, Nat.zero_lt_one, fs0, fs1, fs2, fs3, fs4, fs5, fs6, cls_s, im0, im1, in0, in1, cmp_is, cmp_isn, ty_non, la_non, oD_non, Nm_non, cmp_eqs, cmp_nes, beq1, wd_eq, wd_eq2, mn_pile, mn_rank, nn_str, nn_tup, nn_non, f_opened, decide_eq_false c, g, tru_bl, o.e, rcv_cnt, hc.glO, hc.glM, cnt_opn, cmp_eqi, c2']
      · rw [if_neg (fun q => q.elim (fun q => Bool.false_ne_true q) c2)]
        have c2' : (((r.countP Itm.isO : Nat) : Int) == 4) = false := by rw [beq_eq_false_iff_ne]; omega
        have q := run_wN hc k s (some nm0) false (.ord (.opn :: r))
        have q7 := pd_app (r := r) .opn (by omega)
        rw [e0] at q
        rw [eO] at q7
        simp -implicitDefEqProofs only [bnd_ok, bnd_ex, sts_ok, sts_ex, sqs_nx, sqs_ret, sqs_ex, cnd_t, cnd_f, of_some, asd_ok, asd_ex, e_cst, e_var, rd_eq, rdO_ok, e_glb, glO_ok, e_bin, e_neg, e_cmp, chK_t, chK_f, e_chn, e_and, e_or, and_one, and_more, or_one, or_more, e_not, e_ite, e_call, mkI_some, e_mk, e_mth, e_blt, e_isi, e_bm, e_repl, e_fld, e_ix, e_sl, e_tup, e_lst, a_nil, a_cons, o_none, o_some, t_val, t_cmp, t_chn, t_and, t_or, t_not, tand_nil, tand_cons, tor_nil, tor_cons, g_nam, g_tup, gs_nil, gs_cons, s_expr, s_asg, s_setf, s_aug, augL_ok, s_ret, s_retN, s_ite, s_raise, b_nil, b_cons, fin_nx, fin_ret, fin_ex, o2, lk, looks, leave_d, leave_ex, dats_nil, dats_cons, fld_d, ix_d, call1, call2, call3, call4, call5, setL, List.getElem?_cons_zero, List.getElem?_cons_succ, Option.map_some, Option.bind_some, List.length_cons, List.length_nil, List.set_cons_zero, List.set_cons_succ, Nat.reduceAdd, Nat.reduceLT, Nat.reduceSub, reduceIte, decide_true, decide_false, List.map_cons, List.map_nil, List.cons_append, List.nil_append, List.replicate_succ, List.replicate_zero, Nat.lt_add_one, Nat.zero_lt_succ, Nat.zero_lt_one, fs0, fs1, fs2, fs3, fs4, fs5, fs6, cls_s, im0, im1, in0, in1, cmp_is, cmp_isn, ty_non, la_non, oD_non, Nm_non, cmp_eqs, cmp_nes, beq1, wd_eq, wd_eq2, mn_pile, mn_rank, nn_str, nn_tup, nn_non, f_opened, decide_eq_false c, g, tru_bl, o.e, rcv_cnt, hc.glO, hc.glM, hc.glN, cnt_opn, cmp_eqi, c2', sz, Nat.reduceLeDiff, q7, q]
theorem opnS_ok {m : Mk} {n : Nat} {s : Sd} {r : List Itm} (o : OrdOk m n s r) : (opnS s r).ok m (n + 1) := by
  have hl := o.len
  have hi := o.its
  have h0 : ∀ z, some nm0 = some z → z.ok := fun z e => by injection e with e; rw [← e]; exact nm0_ok
  unfold opnS
  split
  · exact wN_ok o.h (by omega) h0 fun _ => ⟨o.np, by show 1 ≤ n + 1; omega, fun i q => by rw [List.mem_singleton.mp q]; trivial⟩
  · split
    · exact o.h.mono (by omega)
    · refine wN_ok o.h (by omega) h0 fun _ => ⟨o.np, by rw [List.length_cons]; omega, fun i q => ?_⟩
      rcases List.mem_cons.mp q with rfl | q
      · trivial
      · exact hi i q
theorem run_cls {G : Tab} (hc : Core G) (k : Nat) {m : Mk} {n : Nat} {s : Sd} {r : List Itm} (o : OrdOk m n s r) : run G (k + 5) 32 [.d m.D, .d s.D] [] = .ok (.d (clsS m s r).D) [] := by
  rw [run_fn hc.closed rfl (by decide)]
  have hl := o.len
  have hn := o.hn
  have q1 := run_now hc (k + 2) o.hm o.h
  have q2 := run_red hc k o.hm (le := 1) (y := some s.now) o.its (by omega) (fun z e => by injection e with e; rw [← e]; exact o.h.now_ok o.hm)
  rw [show oD (some s.now) = s.now.D from rfl] at q2
  unfold clsS
  cases c : r.any Itm.isO with
  | false =>
    rw [if_neg Bool.false_ne_true]
    simp -implicitDefEqProofs only [bnd_ok, bnd_ex, sts_ok, sts_ex, sqs_nx, sqs_ret, sqs_ex, cnd_t, cnd_f, of_some, asd_ok, asd_ex, e_cst, e_var, rd_eq, rdO_ok, e_glb, glO_ok, e_bin, e_neg, e_cmp, chK_t, chK_f, e_chn, e_and, e_or, and_one, and_more, or_one, or_more, e_not, e_ite, e_call, mkI_some, e_mk, e_mth, e_blt, e_isi, e_bm, e_repl, e_fld, e_ix, e_sl, e_tup, e_lst, a_nil, a_cons, o_none, o_some, t_val, t_cmp, t_chn, t_and, t_or, t_not, tand_nil, tand_cons, tor_nil, tor_cons, g_nam, g_tup, gs_nil, gs_cons, s_expr, s_asg, s_setf, s_aug, augL_ok, s_ret, s_retN, s_ite, s_raise, b_nil, b_cons, fin_nx, fin_ret, fin_ex, o2, lk, looks, leave_d, leave_ex, dats_nil, dats_cons, fld_d, ix_d, call1, call2, call3, call4, call5, setL, List.getElem?_cons_zero, List.getElem?_cons_succ, Option.map_some, Option.bind_some, List.length_cons, List.length_nil, List.set_cons_zero, List.set_cons_succ, Nat.reduceAdd, Nat.reduceLT, Nat.reduceSub, reduceIte, decide_true, decide_false, List.map_cons, List.map_nil, List.cons_append, List.nil_append, List.replicate_succ, List.replicate_zero, Nat.lt_add_one, Nat.zero_lt_succ, Nat.zero_lt_one, fs0, fs1, fs2, fs3, fs4, fs5, fs6, cls_s, im0, im1, in0, in1, cmp_is, cmp_isn, ty_non, la_non, oD_non, Nm_non, cmp_eqs, cmp_nes, beq1, wd_eq, wd_eq2, mn_pile, mn_rank, nn_str, nn_tup, nn_non, f_closed, hc.glO, o.e, nin_opn, c, Bool.not_false]
  | true =>
    rw [if_pos rfl]
    revert q2
    dsimp only
    generalize redN m 1 r (some s.now) = q
    intro q2
    have q3 := run_wN hc (k + 1) s q.2 true (.ord q.1.tail)
    simp -implicitDefEqProofs only [bnd_ok, bnd_ex, sts_ok, sts_ex, sqs_nx, sqs_ret, sqs_ex, cnd_t, cnd_f, of_some, asd_ok, asd_ex, e_cst, e_var, rd_eq, rdO_ok, e_glb, glO_ok, e_bin, e_neg, e_cmp, chK_t, chK_f, e_chn, e_and, e_or, and_one, and_more, or_one, or_more, e_not, e_ite, e_call, mkI_some, e_mk, e_mth, e_blt, e_isi, e_bm, e_repl, e_fld, e_ix, e_sl, e_tup, e_lst, a_nil, a_cons, o_none, o_some, t_val, t_cmp, t_chn, t_and, t_or, t_not, tand_nil, tand_cons, tor_nil, tor_cons, g_nam, g_tup, gs_nil, gs_cons, s_expr, s_asg, s_setf, s_aug, augL_ok, s_ret, s_retN, s_ite, s_raise, b_nil, b_cons, fin_nx, fin_ret, fin_ex, o2, lk, looks, leave_d, leave_ex, dats_nil, dats_cons, fld_d, ix_d, call1, call2, call3, call4, call5, setL, List.getElem?_cons_zero, List.getElem?_cons_succ, Option.map_some, Option.bind_some, List.length_cons, List.length_nil, List.set_cons_zero, List.set_cons_succ, Nat.reduceAdd, Nat.reduceLT, Nat.reduceSub, reduceIte, decide_true, decide_false, List.map_cons, List.map_nil, List.cons_append, List.nil_append, List.replicate_succ, List.replicate_zero, Nat.lt_add_one, Nat.zero_lt_succ, Nat.zero_lt_one, fs0, fs1, fs2, fs3, fs4, fs5, fs6, cls_s, im0, im1, in0, in1, cmp_is, cmp_isn, ty_non, la_non, oD_non, Nm_non, cmp_eqs, cmp_nes, beq1, wd_eq, wd_eq2, mn_pile, mn_rank, nn_str, nn_tup, nn_non, f_closed, hc.glO, o.e, nin_opn, c, Bool.not_true, q1, q2, pd_init_t, q3]
theorem clsS_ok {m : Mk} {n : Nat} {s : Sd} {r : List Itm} (o : OrdOk m n s r) : (clsS m s r).ok m (n + 1) := by
  have hl := o.len
  have ok := redN_ok (le := 1) o.hm (r := r) (y := some s.now) o.its (fun z e => by injection e with e; rw [← e]; exact o.h.now_ok o.hm)
  unfold clsS
  split
  · dsimp only
    refine wN_ok o.h (by omega) ok.2.1 fun _ => ⟨o.np, ?_, fun i q => ok.1 i (List.mem_of_mem_tail q)⟩
    have := ok.2.2
    rw [List.length_tail]; omega
  · exact o.h.mono (by omega)
theorem percB_ok {r : List Itm} (h : ∀ i ∈ r, i.ok) : ∀ z, percB r = some z → z.ok := by
  intro z e
  cases r with
  | nil => cases e
  | cons i r =>
    cases i with
    | opn => cases e
    | op x o =>
      have e : (if ([43, 45] : Tx).contains o = true then some x else none) = some z := e
      split at e
      · injection e with e; rw [← e]; exact (h _ (List.mem_cons_self ..)).1
      · cases e
theorem run_perc {G : Tab} (hc : Core G) (k : Nat) {m : Mk} {n : Nat} {s : Sd} {r : List Itm} (o : OrdOk m n s r) : run G (k + 5) 33 [.d m.D, .d s.D] [] = .ok (.d (percS m s r).D) [] := by
  rw [run_fn hc.percent rfl (by decide)]
  have q1 := run_now hc (k + 2) o.hm o.h
  have q2 := run_isop hc (k + 3) o.e
  have q3 := run_par hc k o.hm (percB_ok o.its) (o.h.now_ok o.hm)
  have q4 := run_wN hc (k + 1) s (parN m (percB r) s.now) true (.ord r)
  unfold percS
  rw [o.e]
  cases r with
  | nil =>
    have : oD (percB []) = .non := rfl
    rw [this] at q3
    have : headOp [] = false := rfl
    rw [this] at q2
    simp -implicitDefEqProofs only [bnd_ok, bnd_ex, sts_ok, sts_ex, sqs_nx, sqs_ret, sqs_ex, cnd_t, cnd_f, of_some, asd_ok, asd_ex, e_cst, e_var, rd_eq, rdO_ok, e_glb, glO_ok, e_bin, e_neg, e_cmp, chK_t, chK_f, e_chn, e_and, e_or, and_one, and_more, or_one, or_more, e_not, e_ite, e_call, mkI_some, e_mk, e_mth, e_blt, e_isi, e_bm, e_repl, e_fld, e_ix, e_sl, e_tup, e_lst, a_nil, a_cons, o_none, o_some, t_val, t_cmp, t_chn, t_and, t_or, t_not, tand_nil, tand_cons, tor_nil, tor_cons, g_nam, g_tup, gs_nil, gs_cons, s_expr, s_asg, s_setf, s_aug, augL_ok, s_ret, s_retN, s_ite, s_raise, b_nil, b_cons, fin_nx, fin_ret, fin_ex, o2, lk, looks, leave_d, leave_ex, dats_nil, dats_cons, fld_d, ix_d, call1, call2, call3, call4, call5, setL, List.getElem?_cons_zero, List.getElem?_cons_succ, Option.map_some, Option.bind_some, List.length_cons, List.length_nil, List.set_cons_zero, List.set_cons_succ, Nat.reduceAdd, Nat.reduceLT, Nat.reduceSub, reduceIte, decide_true, decide_false, List.map_cons, List.map_nil, List.cons_append, List.nil_append, List.replicate_succ, List.replicate_zero, Nat.lt_add_one, Nat.zero_lt_succ, Nat.zero_lt_one, fs0, fs1, fs2, fs3, fs4, fs5, fs6, cls_s, im0, im1, in0, in1, cmp_is, cmp_isn, ty_non, la_non, oD_non, Nm_non, cmp_eqs, cmp_nes, beq1, wd_eq, wd_eq2, mn_pile, mn_rank, nn_str, nn_tup, nn_non, f_percent, q2, tru_bl, q1, q3, o.e, q4]
  | cons i r =>
    cases i with
    | opn =>
      have : oD (percB (.opn :: r)) = .non := rfl
      rw [this] at q3
      have : headOp (.opn :: r) = false := rfl
      rw [this] at q2
      simp -implicitDefEqProofs only [bnd_ok, bnd_ex, sts_ok, sts_ex, sqs_nx, sqs_ret, sqs_ex, cnd_t, cnd_f, of_some, asd_ok, asd_ex, e_cst, e_var, rd_eq, rdO_ok, e_glb, glO_ok, e_bin, e_neg, e_cmp, chK_t, chK_f, e_chn, e_and, e_or, and_one, and_more, or_one, or_more, e_not, e_ite, e_call, mkI_some, e_mk, e_mth, e_blt, e_isi, e_bm, e_repl, e_fld, e_ix, e_sl, e_tup, e_lst, a_nil, a_cons, o_none, o_some, t_val, t_cmp, t_chn, t_and, t_or, t_not, tand_nil, tand_cons, tor_nil, tor_cons, g_nam, g_tup, gs_nil, gs_cons, s_expr, s_asg, s_setf, s_aug, augL_ok, s_ret, s_retN, s_ite, s_raise, b_nil, b_cons, fin_nx, fin_ret, fin_ex, o2, lk, looks, leave_d, leave_ex, dats_nil, dats_cons, fld_d, ix_d, call1, call2, call3, call4, call5, setL, List.getElem?_cons_zero, List.getElem?_cons_succ, Option.map_some, Option.bind_some, List.length_cons, List.length_nil, List.set_cons_zero, List.set_cons_succ, Nat.reduceAdd, Nat.reduceLT, Nat.reduceSub, reduceIte, decide_true, decide_false, List.map_cons, List.map_nil, List.cons_append, List.nil_append, List.replicate_succ, List.replicate_zero, Nat.lt_add_one, Nat.zero_lt_succ, Nat.zero_lt_one, fs0, fs1, fs2, fs3, fs4, fs5, fs6, cls_s, im0, im1, in0, in1, cmp_is, cmp_isn, ty_non, la_non, oD_non, Nm_non, cmp_eqs, cmp_nes, beq1, wd_eq, wd_eq2, mn_pile, mn_rank, nn_str, nn_tup, nn_non, f_percent, q2, tru_bl, q1, q3, o.e, q4]
    | op x o' =>
      have : headOp (.op x o' :: r) = true := rfl
      rw [this] at q2
      cases e : ([43, 45] : Tx).contains o' with
      | true =>
        have : percB (.op x o' :: r) = some x := by show (if ([43, 45] : Tx).contains o' = true then some x else none) = _; rw [if_pos e]
        rw [this] at q3 q4 ⊢
        rw [show oD (some x) = x.D from rfl] at q3
        simp -implicitDefEqProofs only [bnd_ok, bnd_ex, sts_ok, sts_ex, sqs_nx, sqs_ret, sqs_ex, cnd_t, cnd_f, of_some, asd_ok, asd_ex, e_cst, e_var, rd_eq, rdO_ok, e_glb, glO_ok, e_bin, e_neg, e_cmp, chK_t, chK_f, e_chn, e_and, e_or, and_one, and_more, or_one, or_more, e_not, e_ite, e_call, mkI_some, e_mk, e_mth, e_blt, e_isi, e_bm, e_repl, e_fld, e_ix, e_sl, e_tup, e_lst, a_nil, a_cons, o_none, o_some, t_val, t_cmp, t_chn, t_and, t_or, t_not, tand_nil, tand_cons, tor_nil, tor_cons, g_nam, g_tup, gs_nil, gs_cons, s_expr, s_asg, s_setf, s_aug, augL_ok, s_ret, s_retN, s_ite, s_raise, b_nil, b_cons, fin_nx, fin_ret, fin_ex, o2, lk, looks, leave_d, leave_ex, dats_nil, dats_cons, fld_d, ix_d, call1, call2, call3, call4, call5, setL, List.getElem?_cons_zero, List.getElem?_cons_succ, Option.map_some, Option.bind_some, List.length_cons, List.length_nil, List.set_cons_zero, List.set_cons_succ, Nat.reduceAdd, Nat.reduceLT, Nat.reduceSub, reduceIte, decide_true, decide_false, List.map_cons, List.map_nil, List.cons_append, List.nil_append, List.replicate_succ, List.replicate_zero, Nat.lt_add_one, Nat.zero_lt_succ, Nat.zero_lt_one, fs0, fs1, fs2, fs3, fs4, fs5, fs6, cls_s, im0, im1, in0, in1, cmp_is, cmp_isn, ty_non, la_non, oD_non, Nm_non, cmp_eqs, cmp_nes, beq1, wd_eq, wd_eq2, mn_pile, mn_rank, nn_str, nn_tup, nn_non, f_percent, q2, tru_bl, q1, o.e, pd_last, io0, io1, cmp_in, infix_one, e, q3, q4]
      | false =>
        have : percB (.op x o' :: r) = none := by show (if ([43, 45] : Tx).contains o' = true then some x else none) = _; rw [e]; rfl
        rw [this] at q3 q4 ⊢
        rw [show oD none = .non from rfl] at q3
        simp -implicitDefEqProofs only [bnd_ok, bnd_ex, sts_ok, sts_ex, sqs_nx, sqs_ret, sqs_ex, cnd_t, cnd_f, of_some, asd_ok, asd_ex, e_cst, e_var, rd_eq, rdO_ok, e_glb, glO_ok, e_bin, e_neg, e_cmp, chK_t, chK_f, e_chn, e_and, e_or, and_one, and_more, or_one, or_more, e_not, e_ite, e_call, mkI_some, e_mk, e_mth, e_blt, e_isi, e_bm, e_repl, e_fld, e_ix, e_sl, e_tup, e_lst, a_nil, a_cons, o_none, o_some, t_val, t_cmp, t_chn, t_and, t_or, t_not, tand_nil, tand_cons, tor_nil, tor_cons, g_nam, g_tup, gs_nil, gs_cons, s_expr, s_asg, s_setf, s_aug, augL_ok, s_ret, s_retN, s_ite, s_raise, b_nil, b_cons, fin_nx, fin_ret, fin_ex, o2, lk, looks, leave_d, leave_ex, dats_nil, dats_cons, fld_d, ix_d, call1, call2, call3, call4, call5, setL, List.getElem?_cons_zero, List.getElem?_cons_succ, Option.map_some, Option.bind_some, List.length_cons, List.length_nil, List.set_cons_zero, List.set_cons_succ, Nat.reduceAdd, Nat.reduceLT, Nat.reduceSub, reduceIte, decide_true, decide_false, List.map_cons, List.map_nil, List.cons_append, List.nil_append, List.replicate_succ, List.replicate_zero, Nat.lt_add_one, Nat.zero_lt_succ, Nat.zero_lt_one, fs0, fs1, fs2, fs3, fs4, fs5, fs6, cls_s, im0, im1, in0, in1, cmp_is, cmp_isn, ty_non, la_non, oD_non, Nm_non, cmp_eqs, cmp_nes, beq1, wd_eq, wd_eq2, mn_pile, mn_rank, nn_str, nn_tup, nn_non, f_percent, q2, tru_bl, q1, o.e, pd_last, io0, io1, cmp_in, infix_one, e, q3, q4]
theorem percS_ok {m : Mk} {n : Nat} {s : Sd} {r : List Itm} (o : OrdOk m n s r) : (percS m s r).ok m (n + 1) :=
  wN_ok o.h (by omega) (fun z e => parN_ok o.hm e) fun _ => o.h.pd.mono (by omega)
/-! = -/
theorem eqL_none (m : Mk) (r : List Itm) : eqL m r none = none := by cases r <;> rfl
theorem eqL_red (m : Mk) : ∀ (r : List Itm) (y : Option Nm), eqL m r y = eqL m (redN m 1 r y).1 (redN m 1 r y).2
  | [], none => rfl
  | [], some y => rfl
  | .opn :: r, none => rfl
  | .opn :: r, some y => rfl
  | .op x o :: r, none => rfl
  | .op x o :: r, some y => by
    have h1 : (1 : Int) ≤ rankN m o := by unfold rankN; split <;> decide
    have : redN m 1 (.op x o :: r) (some y) = redN m 1 r (opN o x y m.pl) := by
      show (if (1 : Int) ≤ rankN m o then redN m 1 r (opN o x y m.pl) else _) = _
      rw [if_pos h1]
    rw [this, ← eqL_red m r]
    rfl
theorem redN_end (m : Mk) : ∀ (r : List Itm) (y : Option Nm), (redN m 1 r y).2 = none ∨ (redN m 1 r y).1 = [] ∨ ∃ r', (redN m 1 r y).1 = .opn :: r'
  | [], y => .inr (.inl (by cases y <;> rfl))
  | .opn :: r, y => .inr (.inr ⟨r, by cases y <;> rfl⟩)
  | .op x o :: r, none => .inl rfl
  | .op x o :: r, some y => by
    have h1 : (1 : Int) ≤ rankN m o := by unfold rankN; split <;> decide
    have : redN m 1 (.op x o :: r) (some y) = redN m 1 r (opN o x y m.pl) := by
      show (if (1 : Int) ≤ rankN m o then redN m 1 r (opN o x y m.pl) else _) = _
      rw [if_pos h1]
    rw [this]
    exact redN_end m r _
theorem eqL_ok {m : Mk} (hm : m.ok) : ∀ {r : List Itm} {y : Option Nm}, (∀ i ∈ r, i.ok) → (∀ z, y = some z → z.ok) → ∀ z, eqL m r y = some z → z.ok
  | r, none, _, _, z, e => by rw [eqL_none] at e; cases e
  | [], some y, _, hy, z, e => hy z e
  | .op x o :: r, some y, hr, hy, z, e => eqL_ok hm (r := r) (y := opN o x y m.pl) (fun i h => hr i (List.mem_cons_of_mem _ h)) (fun z e => opN_ok hm e) z e
  | .opn :: r, some y, hr, hy, z, e => eqL_ok hm (r := r) (y := some y) (fun i h => hr i (List.mem_cons_of_mem _ h)) hy z e
/-- the loop of = -/
theorem eq_loop {G : Tab} (hc : Core G) (k : Nat) {m : Mk} (hm : m.ok) (S : Sto) (w1 w4 w5 w6 : Option W) : ∀ (f : Nat) (r : List Itm) (y : Option Nm), r.length < f → r.length ≤ 50000 → (∀ i ∈ r, i.ok) → (∀ z, y = some z → z.ok) →
    ∃ r', evWhile (evT G (run G (k + 4)) (match f_equalled.body with | .cons _ (.cons _ (.cons _ (.cons (.whl t _) _))) => t | _ => .and .nil)) (evB G (run G (k + 4)) (match f_equalled.body with | .cons _ (.cons _ (.cons _ (.cons (.whl _ b) _))) => b | _ => .nil)) f
      [some (.d m.D), w1, some (.d (oD y)), some (.d (Pd.ord r).D), w4, w5, w6] S =
    .nx [some (.d m.D), w1, some (.d (oD (eqL m r y))), some (.d (Pd.ord r').D), w4, w5, w6] S := by
  intro f
  induction f with
  | zero => intro r y h; omega
  | succ f ih =>
    intro r y hf hl hr hy
    unfold evWhile
    cases y with
    | none =>
      rw [eqL_none]
      refine ⟨r, ?_⟩
      cases r with
      | nil =>
        simp -implicitDefEqProofs only [bnd_ok, bnd_ex, sts_ok, sts_ex, sqs_nx, sqs_ret, sqs_ex, cnd_t, cnd_f, of_some, asd_ok, asd_ex, e_cst, e_var, rd_eq, rdO_ok, e_glb, glO_ok, e_bin, e_neg, e_cmp, chK_t, chK_f, e_chn, e_and, e_or, and_one, and_more, or_one, or_more, e_not, e_ite, e_call, mkI_some, e_mk, e_mth, e_blt, e_isi, e_bm, e_repl, e_fld, e_ix, e_sl, e_tup, e_lst, a_nil, a_cons, o_none, o_some, t_val, t_cmp, t_chn, t_and, t_or, t_not, tand_nil, tand_cons, tor_nil, tor_cons, g_nam, g_tup, gs_nil, gs_cons, s_expr, s_asg, s_setf, s_aug, augL_ok, s_ret, s_retN, s_ite, s_raise, b_nil, b_cons, fin_nx, fin_ret, fin_ex, o2, lk, looks, leave_d, leave_ex, dats_nil, dats_cons, fld_d, ix_d, call1, call2, call3, call4, call5, setL, List.getElem?_cons_zero, List.getElem?_cons_succ, Option.map_some, Option.bind_some, List.length_cons, List.length_nil, List.set_cons_zero, List.set_cons_succ, Nat.reduceAdd, Nat.reduceLT, Nat.reduceSub, reduceIte, decide_true, decide_false, List.map_cons, List.map_nil, List.cons_append, List.nil_append, List.replicate_succ, List.replicate_zero, Nat.lt_add_one, Nat.zero_lt_succ, Nat.zero_lt_one, f_equalled, pd_tru, List.isEmpty, Bool.not_true, RE.st]
        simp
      | cons i r =>
        simp -implicitDefEqProofs only [bnd_ok, bnd_ex, sts_ok, sts_ex, sqs_nx, sqs_ret, sqs_ex, cnd_t, cnd_f, of_some, asd_ok, asd_ex, e_cst, e_var, rd_eq, rdO_ok, e_glb, glO_ok, e_bin, e_neg, e_cmp, chK_t, chK_f, e_chn, e_and, e_or, and_one, and_more, or_one, or_more, e_not, e_ite, e_call, mkI_some, e_mk, e_mth, e_blt, e_isi, e_bm, e_repl, e_fld, e_ix, e_sl, e_tup, e_lst, a_nil, a_cons, o_none, o_some, t_val, t_cmp, t_chn, t_and, t_or, t_not, tand_nil, tand_cons, tor_nil, tor_cons, g_nam, g_tup, gs_nil, gs_cons, s_expr, s_asg, s_setf, s_aug, augL_ok, s_ret, s_retN, s_ite, s_raise, b_nil, b_cons, fin_nx, fin_ret, fin_ex, o2, lk, looks, leave_d, leave_ex, dats_nil, dats_cons, fld_d, ix_d, call1, call2, call3, call4, call5, setL, List.getElem?_cons_zero, List.getElem?_cons_succ, Option.map_some, Option.bind_some, List.length_cons, List.length_nil, List.set_cons_zero, List.set_cons_succ, Nat.reduceAdd, Nat.reduceLT, Nat.reduceSub, reduceIte, decide_true, decide_false, List.map_cons, List.map_nil, List.cons_append, List.nil_append, List.replicate_succ, List.replicate_zero, Nat.lt_add_one, Nat.zero_lt_succ, Nat.zero_lt_one, f_equalled, pd_tru, List.isEmpty, Bool.not_false, isn_oD, Option.isSome, RE.st]
        simp
    | some y =>
      cases r with
      | nil =>
        refine ⟨[], ?_⟩
        simp -implicitDefEqProofs only [bnd_ok, bnd_ex, sts_ok, sts_ex, sqs_nx, sqs_ret, sqs_ex, cnd_t, cnd_f, of_some, asd_ok, asd_ex, e_cst, e_var, rd_eq, rdO_ok, e_glb, glO_ok, e_bin, e_neg, e_cmp, chK_t, chK_f, e_chn, e_and, e_or, and_one, and_more, or_one, or_more, e_not, e_ite, e_call, mkI_some, e_mk, e_mth, e_blt, e_isi, e_bm, e_repl, e_fld, e_ix, e_sl, e_tup, e_lst, a_nil, a_cons, o_none, o_some, t_val, t_cmp, t_chn, t_and, t_or, t_not, tand_nil, tand_cons, tor_nil, tor_cons, g_nam, g_tup, gs_nil, gs_cons, s_expr, s_asg, s_setf, s_aug, augL_ok, s_ret, s_retN, s_ite, s_raise, b_nil, b_cons, fin_nx, fin_ret, fin_ex, o2, lk, looks, leave_d, leave_ex, dats_nil, dats_cons, fld_d, ix_d, call1, call2, call3, call4, call5, setL, List.getElem?_cons_zero, List.getElem?_cons_succ, Option.map_some, Option.bind_some, List.length_cons, List.length_nil, List.set_cons_zero, List.set_cons_succ, Nat.reduceAdd, Nat.reduceLT, Nat.reduceSub, reduceIte, decide_true, decide_false, List.map_cons, List.map_nil, List.cons_append, List.nil_append, List.replicate_succ, List.replicate_zero, Nat.lt_add_one, Nat.zero_lt_succ, Nat.zero_lt_one, f_equalled, pd_tru, List.isEmpty, Bool.not_true, RE.st, eqL]
        simp
      | cons i r =>
        have q := run_red hc k hm (le := 1) (r := i :: r) (y := some y) hr hl hy
        have ok := redN_ok (le := 1) hm (r := i :: r) (y := some y) hr hy
        have en := redN_end m (i :: r) (some y)
        rw [eqL_red]
        revert q ok en
        generalize hz : redN m 1 (i :: r) (some y) = z
        intro q ok en
        obtain ⟨r2, y2⟩ := z
        have c0 : ∀ (r0 : List Itm) (y0 : Option Nm), y0 = none ∨ r0 = [] → ∀ f, 0 < f → evWhile (evT G (run G (k + 4)) (match f_equalled.body with | .cons _ (.cons _ (.cons _ (.cons (.whl t _) _))) => t | _ => .and .nil)) (evB G (run G (k + 4)) (match f_equalled.body with | .cons _ (.cons _ (.cons _ (.cons (.whl _ b) _))) => b | _ => .nil)) f
            [some (.d m.D), w1, some (.d (oD y0)), some (.d (Pd.ord r0).D), w4, w5, w6] S = .nx [some (.d m.D), w1, some (.d (oD y0)), some (.d (Pd.ord r0).D), w4, w5, w6] S := by
          intro r0 y0 h0 f hf
          cases f with
          | zero => omega
          | succ f =>
            unfold evWhile
            cases r0 with
            | nil =>
              simp -implicitDefEqProofs only [bnd_ok, bnd_ex, sts_ok, sts_ex, sqs_nx, sqs_ret, sqs_ex, cnd_t, cnd_f, of_some, asd_ok, asd_ex, e_cst, e_var, rd_eq, rdO_ok, e_glb, glO_ok, e_bin, e_neg, e_cmp, chK_t, chK_f, e_chn, e_and, e_or, and_one, and_more, or_one, or_more, e_not, e_ite, e_call, mkI_some, e_mk, e_mth, e_blt, e_isi, e_bm, e_repl, e_fld, e_ix, e_sl, e_tup, e_lst, a_nil, a_cons, o_none, o_some, t_val, t_cmp, t_chn, t_and, t_or, t_not, tand_nil, tand_cons, tor_nil, tor_cons, g_nam, g_tup, gs_nil, gs_cons, s_expr, s_asg, s_setf, s_aug, augL_ok, s_ret, s_retN, s_ite, s_raise, b_nil, b_cons, fin_nx, fin_ret, fin_ex, o2, lk, looks, leave_d, leave_ex, dats_nil, dats_cons, fld_d, ix_d, call1, call2, call3, call4, call5, setL, List.getElem?_cons_zero, List.getElem?_cons_succ, Option.map_some, Option.bind_some, List.length_cons, List.length_nil, List.set_cons_zero, List.set_cons_succ, Nat.reduceAdd, Nat.reduceLT, Nat.reduceSub, reduceIte, decide_true, decide_false, List.map_cons, List.map_nil, List.cons_append, List.nil_append, List.replicate_succ, List.replicate_zero, Nat.lt_add_one, Nat.zero_lt_succ, Nat.zero_lt_one, f_equalled, pd_tru, List.isEmpty, Bool.not_true, RE.st]
              simp
            | cons i0 r0 =>
              rcases h0 with h0 | h0
              · subst h0
                simp -implicitDefEqProofs only [bnd_ok, bnd_ex, sts_ok, sts_ex, sqs_nx, sqs_ret, sqs_ex, cnd_t, cnd_f, of_some, asd_ok, asd_ex, e_cst, e_var, rd_eq, rdO_ok, e_glb, glO_ok, e_bin, e_neg, e_cmp, chK_t, chK_f, e_chn, e_and, e_or, and_one, and_more, or_one, or_more, e_not, e_ite, e_call, mkI_some, e_mk, e_mth, e_blt, e_isi, e_bm, e_repl, e_fld, e_ix, e_sl, e_tup, e_lst, a_nil, a_cons, o_none, o_some, t_val, t_cmp, t_chn, t_and, t_or, t_not, tand_nil, tand_cons, tor_nil, tor_cons, g_nam, g_tup, gs_nil, gs_cons, s_expr, s_asg, s_setf, s_aug, augL_ok, s_ret, s_retN, s_ite, s_raise, b_nil, b_cons, fin_nx, fin_ret, fin_ex, o2, lk, looks, leave_d, leave_ex, dats_nil, dats_cons, fld_d, ix_d, call1, call2, call3, call4, call5, setL, List.getElem?_cons_zero, List.getElem?_cons_succ, Option.map_some, Option.bind_some, List.length_cons, List.length_nil, List.set_cons_zero, List.set_cons_succ, Nat.reduceAdd, Nat.reduceLT, Nat.reduceSub, reduceIte, decide_true, decide_false, List.map_cons, List.map_nil, List.cons_append, List.nil_append, List.replicate_succ, List.replicate_zero, Nat.lt_add_one, Nat.zero_lt_succ, Nat.zero_lt_one, f_equalled, pd_tru, List.isEmpty, Bool.not_false, isn_oD, Option.isSome, RE.st]
                simp
              · cases h0
        have hlen := ok.2.2
        rw [List.length_cons] at hf
        dsimp only at ok hlen en ⊢
        rw [List.length_cons] at hlen
        simp only [f_equalled] at c0 ih ⊢
        cases y2 with
        | none =>
          rw [eqL_none]
          refine ⟨r2, ?_⟩
          have c1 := c0 r2 none (.inl rfl) f (by omega)
          cases r2 with
          | nil =>
            simp -implicitDefEqProofs only [bnd_ok, bnd_ex, sts_ok, sts_ex, sqs_nx, sqs_ret, sqs_ex, cnd_t, cnd_f, of_some, asd_ok, asd_ex, e_cst, e_var, rd_eq, rdO_ok, e_glb, glO_ok, e_bin, e_neg, e_cmp, chK_t, chK_f, e_chn, e_and, e_or, and_one, and_more, or_one, or_more, e_not, e_ite, e_call, mkI_some, e_mk, e_mth, e_blt, e_isi, e_bm, e_repl, e_fld, e_ix, e_sl, e_tup, e_lst, a_nil, a_cons, o_none, o_some, t_val, t_cmp, t_chn, t_and, t_or, t_not, tand_nil, tand_cons, tor_nil, tor_cons, g_nam, g_tup, gs_nil, gs_cons, s_expr, s_asg, s_setf, s_aug, augL_ok, s_ret, s_retN, s_ite, s_raise, b_nil, b_cons, fin_nx, fin_ret, fin_ex, o2, lk, looks, leave_d, leave_ex, dats_nil, dats_cons, fld_d, ix_d, call1, call2, call3, call4, call5, setL, List.getElem?_cons_zero, List.getElem?_cons_succ, Option.map_some, Option.bind_some, List.length_cons, List.length_nil, List.set_cons_zero, List.set_cons_succ, Nat.reduceAdd, Nat.reduceLT, Nat.reduceSub, reduceIte, decide_true, decide_false, List.map_cons, List.map_nil, List.cons_append, List.nil_append, List.replicate_succ, List.replicate_zero, Nat.lt_add_one, Nat.zero_lt_succ, Nat.zero_lt_one, pd_tru, List.isEmpty, Bool.not_false, isn_oD, Option.isSome, RE.st, q, Bool.not_true] at c1 ⊢
            exact c1
          | cons _ _ =>
            simp -implicitDefEqProofs only [bnd_ok, bnd_ex, sts_ok, sts_ex, sqs_nx, sqs_ret, sqs_ex, cnd_t, cnd_f, of_some, asd_ok, asd_ex, e_cst, e_var, rd_eq, rdO_ok, e_glb, glO_ok, e_bin, e_neg, e_cmp, chK_t, chK_f, e_chn, e_and, e_or, and_one, and_more, or_one, or_more, e_not, e_ite, e_call, mkI_some, e_mk, e_mth, e_blt, e_isi, e_bm, e_repl, e_fld, e_ix, e_sl, e_tup, e_lst, a_nil, a_cons, o_none, o_some, t_val, t_cmp, t_chn, t_and, t_or, t_not, tand_nil, tand_cons, tor_nil, tor_cons, g_nam, g_tup, gs_nil, gs_cons, s_expr, s_asg, s_setf, s_aug, augL_ok, s_ret, s_retN, s_ite, s_raise, b_nil, b_cons, fin_nx, fin_ret, fin_ex, o2, lk, looks, leave_d, leave_ex, dats_nil, dats_cons, fld_d, ix_d, call1, call2, call3, call4, call5, setL, List.getElem?_cons_zero, List.getElem?_cons_succ, Option.map_some, Option.bind_some, List.length_cons, List.length_nil, List.set_cons_zero, List.set_cons_succ, Nat.reduceAdd, Nat.reduceLT, Nat.reduceSub, reduceIte, decide_true, decide_false, List.map_cons, List.map_nil, List.cons_append, List.nil_append, List.replicate_succ, List.replicate_zero, Nat.lt_add_one, Nat.zero_lt_succ, Nat.zero_lt_one, pd_tru, List.isEmpty, Bool.not_false, isn_oD, Option.isSome, RE.st, q, Bool.not_true] at c1 ⊢
            exact c1
        | some y2 =>
          rcases en with e | e | ⟨r3, e⟩
          · cases e
          · subst e
            refine ⟨[], ?_⟩
            have c1 := c0 [] (some y2) (.inr rfl) f (by omega)
            simp -implicitDefEqProofs only [bnd_ok, bnd_ex, sts_ok, sts_ex, sqs_nx, sqs_ret, sqs_ex, cnd_t, cnd_f, of_some, asd_ok, asd_ex, e_cst, e_var, rd_eq, rdO_ok, e_glb, glO_ok, e_bin, e_neg, e_cmp, chK_t, chK_f, e_chn, e_and, e_or, and_one, and_more, or_one, or_more, e_not, e_ite, e_call, mkI_some, e_mk, e_mth, e_blt, e_isi, e_bm, e_repl, e_fld, e_ix, e_sl, e_tup, e_lst, a_nil, a_cons, o_none, o_some, t_val, t_cmp, t_chn, t_and, t_or, t_not, tand_nil, tand_cons, tor_nil, tor_cons, g_nam, g_tup, gs_nil, gs_cons, s_expr, s_asg, s_setf, s_aug, augL_ok, s_ret, s_retN, s_ite, s_raise, b_nil, b_cons, fin_nx, fin_ret, fin_ex, o2, lk, looks, leave_d, leave_ex, dats_nil, dats_cons, fld_d, ix_d, call1, call2, call3, call4, call5, setL, List.getElem?_cons_zero, List.getElem?_cons_succ, Option.map_some, Option.bind_some, List.length_cons, List.length_nil, List.set_cons_zero, List.set_cons_succ, Nat.reduceAdd, Nat.reduceLT, Nat.reduceSub, reduceIte, decide_true, decide_false, List.map_cons, List.map_nil, List.cons_append, List.nil_append, List.replicate_succ, List.replicate_zero, Nat.lt_add_one, Nat.zero_lt_succ, Nat.zero_lt_one, pd_tru, List.isEmpty, Bool.not_false, isn_oD, Option.isSome, RE.st, q, Bool.not_true, eqL] at c1 ⊢
            exact c1
          · subst e
            rw [List.length_cons] at hlen
            obtain ⟨r', h'⟩ := ih r3 (some y2) (by omega) (by rw [List.length_cons] at hl; omega) (fun i h => ok.1 i (List.mem_cons_of_mem _ h)) ok.2.1
            refine ⟨r', ?_⟩
            simp -implicitDefEqProofs only [bnd_ok, bnd_ex, sts_ok, sts_ex, sqs_nx, sqs_ret, sqs_ex, cnd_t, cnd_f, of_some, asd_ok, asd_ex, e_cst, e_var, rd_eq, rdO_ok, e_glb, glO_ok, e_bin, e_neg, e_cmp, chK_t, chK_f, e_chn, e_and, e_or, and_one, and_more, or_one, or_more, e_not, e_ite, e_call, mkI_some, e_mk, e_mth, e_blt, e_isi, e_bm, e_repl, e_fld, e_ix, e_sl, e_tup, e_lst, a_nil, a_cons, o_none, o_some, t_val, t_cmp, t_chn, t_and, t_or, t_not, tand_nil, tand_cons, tor_nil, tor_cons, g_nam, g_tup, gs_nil, gs_cons, s_expr, s_asg, s_setf, s_aug, augL_ok, s_ret, s_retN, s_ite, s_raise, b_nil, b_cons, fin_nx, fin_ret, fin_ex, o2, lk, looks, leave_d, leave_ex, dats_nil, dats_cons, fld_d, ix_d, call1, call2, call3, call4, call5, setL, List.getElem?_cons_zero, List.getElem?_cons_succ, Option.map_some, Option.bind_some, List.length_cons, List.length_nil, List.set_cons_zero, List.set_cons_succ, Nat.reduceAdd, Nat.reduceLT, Nat.reduceSub, reduceIte, decide_true, decide_false, List.map_cons, List.map_nil, List.cons_append, List.nil_append, List.replicate_succ, List.replicate_zero, Nat.lt_add_one, Nat.zero_lt_succ, Nat.zero_lt_one, pd_tru, List.isEmpty, Bool.not_false, isn_oD, Option.isSome, RE.st, q, Bool.not_true, eqL, pd_init] at h' ⊢
            exact h'
theorem lastOp_some : ∀ {r : List Itm} {o : Nat}, lastOp r = some o → ∃ x r', r.filter (fun i => !i.isO) = .op x o :: r'
  | [], o, h => by cases h
  | .op x o' :: r, o, h => by
    injection h with h
    subst h
    exact ⟨x, r.filter _, by rw [List.filter_cons_of_pos rfl]⟩
  | .opn :: r, o, h => by
    obtain ⟨x, r', e⟩ := lastOp_some (r := r) h
    exact ⟨x, r', by rw [List.filter_cons_of_neg (by decide)]; exact e⟩
theorem lastOp_none : ∀ {r : List Itm}, lastOp r = none → r.filter (fun i => !i.isO) = []
  | [], h => rfl
  | .op x o' :: r, h => by cases h
  | .opn :: r, h => by
    rw [List.filter_cons_of_neg (by decide)]
    exact lastOp_none (r := r) h
/-- the operations that wait -/
theorem ops_lc {G : Tab} (hc : Core G) {C : Cl} (S : Sto) (w : List (Option W)) (r : List Itm) (hw : w.length = 6) (hl : r.length ≤ 50000) :
    evLcI (lcTurn (fun x => evG G C (.nam 6) x) (evOt G C (.some (.cmp .ne (.var 6) (.glb 4)))) (evE G C (.var 6)) (w ++ [none])) (.vs ((r.reverse.map Itm.D).map .d)) S = .ok ((r.filter (fun i => !i.isO)).reverse.map Itm.D) S := by
  have hf : ∀ i : Itm, ∀ acc : List D, acc.length < 100000 → lcTurn (fun x => evG G C (.nam 6) x) (evOt G C (.some (.cmp .ne (.var 6) (.glb 4)))) (evE G C (.var 6)) (w ++ [none]) (.d i.D) acc S = .ok (acc ++ (if i.isO then none else some i.D).toList) S := by
    intro i acc ha
    match w, hw with
    | [a0, a1, a2, a3, a4, a5], _ =>
      cases i with
      | opn =>
        rw [turn_skip (l' := [a0, a1, a2, a3, a4, a5, some (.d Itm.opn.D)]) (S1 := S) (S2 := S)]
        · show _ = RE.ok (acc ++ []) S
          rw [List.append_nil]
        · simp -implicitDefEqProofs only [bnd_ok, bnd_ex, sts_ok, sts_ex, sqs_nx, sqs_ret, sqs_ex, cnd_t, cnd_f, of_some, asd_ok, asd_ex, e_cst, e_var, rd_eq, rdO_ok, e_glb, glO_ok, e_bin, e_neg, e_cmp, chK_t, chK_f, e_chn, e_and, e_or, and_one, and_more, or_one, or_more, e_not, e_ite, e_call, mkI_some, e_mk, e_mth, e_blt, e_isi, e_bm, e_repl, e_fld, e_ix, e_sl, e_tup, e_lst, a_nil, a_cons, o_none, o_some, t_val, t_cmp, t_chn, t_and, t_or, t_not, tand_nil, tand_cons, tor_nil, tor_cons, g_nam, g_tup, gs_nil, gs_cons, s_expr, s_asg, s_setf, s_aug, augL_ok, s_ret, s_retN, s_ite, s_raise, b_nil, b_cons, fin_nx, fin_ret, fin_ex, o2, lk, looks, leave_d, leave_ex, dats_nil, dats_cons, fld_d, ix_d, call1, call2, call3, call4, call5, setL, List.getElem?_cons_zero, List.getElem?_cons_succ, Option.map_some, Option.bind_some, List.length_cons, List.length_nil, List.set_cons_zero, List.set_cons_succ, Nat.reduceAdd, Nat.reduceLT, Nat.reduceSub, reduceIte, decide_true, decide_false, List.map_cons, List.map_nil, List.cons_append, List.nil_append, List.replicate_succ, List.replicate_zero, Nat.lt_add_one, Nat.zero_lt_succ, Nat.zero_lt_one]
        · show evT _ _ _ _ _ = _
          simp -implicitDefEqProofs only [bnd_ok, bnd_ex, sts_ok, sts_ex, sqs_nx, sqs_ret, sqs_ex, cnd_t, cnd_f, of_some, asd_ok, asd_ex, e_cst, e_var, rd_eq, rdO_ok, e_glb, glO_ok, e_bin, e_neg, e_cmp, chK_t, chK_f, e_chn, e_and, e_or, and_one, and_more, or_one, or_more, e_not, e_ite, e_call, mkI_some, e_mk, e_mth, e_blt, e_isi, e_bm, e_repl, e_fld, e_ix, e_sl, e_tup, e_lst, a_nil, a_cons, o_none, o_some, t_val, t_cmp, t_chn, t_and, t_or, t_not, tand_nil, tand_cons, tor_nil, tor_cons, g_nam, g_tup, gs_nil, gs_cons, s_expr, s_asg, s_setf, s_aug, augL_ok, s_ret, s_retN, s_ite, s_raise, b_nil, b_cons, fin_nx, fin_ret, fin_ex, o2, lk, looks, leave_d, leave_ex, dats_nil, dats_cons, fld_d, ix_d, call1, call2, call3, call4, call5, setL, List.getElem?_cons_zero, List.getElem?_cons_succ, Option.map_some, Option.bind_some, List.length_cons, List.length_nil, List.set_cons_zero, List.set_cons_succ, Nat.reduceAdd, Nat.reduceLT, Nat.reduceSub, reduceIte, decide_true, decide_false, List.map_cons, List.map_nil, List.cons_append, List.nil_append, List.replicate_succ, List.replicate_zero, Nat.lt_add_one, Nat.zero_lt_succ, Nat.zero_lt_one, hc.glO, ne_opn, Itm.isO, Bool.not_true]
      | op x o =>
        exact turn_keep (l' := [a0, a1, a2, a3, a4, a5, some (.d (Itm.op x o).D)]) (S1 := S) (S2 := S) (by simp -implicitDefEqProofs only [bnd_ok, bnd_ex, sts_ok, sts_ex, sqs_nx, sqs_ret, sqs_ex, cnd_t, cnd_f, of_some, asd_ok, asd_ex, e_cst, e_var, rd_eq, rdO_ok, e_glb, glO_ok, e_bin, e_neg, e_cmp, chK_t, chK_f, e_chn, e_and, e_or, and_one, and_more, or_one, or_more, e_not, e_ite, e_call, mkI_some, e_mk, e_mth, e_blt, e_isi, e_bm, e_repl, e_fld, e_ix, e_sl, e_tup, e_lst, a_nil, a_cons, o_none, o_some, t_val, t_cmp, t_chn, t_and, t_or, t_not, tand_nil, tand_cons, tor_nil, tor_cons, g_nam, g_tup, gs_nil, gs_cons, s_expr, s_asg, s_setf, s_aug, augL_ok, s_ret, s_retN, s_ite, s_raise, b_nil, b_cons, fin_nx, fin_ret, fin_ex, o2, lk, looks, leave_d, leave_ex, dats_nil, dats_cons, fld_d, ix_d, call1, call2, call3, call4, call5, setL, List.getElem?_cons_zero, List.getElem?_cons_succ, Option.map_some, Option.bind_some, List.length_cons, List.length_nil, List.set_cons_zero, List.set_cons_succ, Nat.reduceAdd, Nat.reduceLT, Nat.reduceSub, reduceIte, decide_true, decide_false, List.map_cons, List.map_nil, List.cons_append, List.nil_append, List.replicate_succ, List.replicate_zero, Nat.lt_add_one, Nat.zero_lt_succ, Nat.zero_lt_one]) (by show evT _ _ _ _ _ = _; simp -implicitDefEqProofs only [bnd_ok, bnd_ex, sts_ok, sts_ex, sqs_nx, sqs_ret, sqs_ex, cnd_t, cnd_f, of_some, asd_ok, asd_ex, e_cst, e_var, rd_eq, rdO_ok, e_glb, glO_ok, e_bin, e_neg, e_cmp, chK_t, chK_f, e_chn, e_and, e_or, and_one, and_more, or_one, or_more, e_not, e_ite, e_call, mkI_some, e_mk, e_mth, e_blt, e_isi, e_bm, e_repl, e_fld, e_ix, e_sl, e_tup, e_lst, a_nil, a_cons, o_none, o_some, t_val, t_cmp, t_chn, t_and, t_or, t_not, tand_nil, tand_cons, tor_nil, tor_cons, g_nam, g_tup, gs_nil, gs_cons, s_expr, s_asg, s_setf, s_aug, augL_ok, s_ret, s_retN, s_ite, s_raise, b_nil, b_cons, fin_nx, fin_ret, fin_ex, o2, lk, looks, leave_d, leave_ex, dats_nil, dats_cons, fld_d, ix_d, call1, call2, call3, call4, call5, setL, List.getElem?_cons_zero, List.getElem?_cons_succ, Option.map_some, Option.bind_some, List.length_cons, List.length_nil, List.set_cons_zero, List.set_cons_succ, Nat.reduceAdd, Nat.reduceLT, Nat.reduceSub, reduceIte, decide_true, decide_false, List.map_cons, List.map_nil, List.cons_append, List.nil_append, List.replicate_succ, List.replicate_zero, Nat.lt_add_one, Nat.zero_lt_succ, Nat.zero_lt_one, hc.glO, ne_opn, Itm.isO, Bool.not_false]) (by simp -implicitDefEqProofs only [bnd_ok, bnd_ex, sts_ok, sts_ex, sqs_nx, sqs_ret, sqs_ex, cnd_t, cnd_f, of_some, asd_ok, asd_ex, e_cst, e_var, rd_eq, rdO_ok, e_glb, glO_ok, e_bin, e_neg, e_cmp, chK_t, chK_f, e_chn, e_and, e_or, and_one, and_more, or_one, or_more, e_not, e_ite, e_call, mkI_some, e_mk, e_mth, e_blt, e_isi, e_bm, e_repl, e_fld, e_ix, e_sl, e_tup, e_lst, a_nil, a_cons, o_none, o_some, t_val, t_cmp, t_chn, t_and, t_or, t_not, tand_nil, tand_cons, tor_nil, tor_cons, g_nam, g_tup, gs_nil, gs_cons, s_expr, s_asg, s_setf, s_aug, augL_ok, s_ret, s_retN, s_ite, s_raise, b_nil, b_cons, fin_nx, fin_ret, fin_ex, o2, lk, looks, leave_d, leave_ex, dats_nil, dats_cons, fld_d, ix_d, call1, call2, call3, call4, call5, setL, List.getElem?_cons_zero, List.getElem?_cons_succ, Option.map_some, Option.bind_some, List.length_cons, List.length_nil, List.set_cons_zero, List.set_cons_succ, Nat.reduceAdd, Nat.reduceLT, Nat.reduceSub, reduceIte, decide_true, decide_false, List.map_cons, List.map_nil, List.cons_append, List.nil_append, List.replicate_succ, List.replicate_zero, Nat.lt_add_one, Nat.zero_lt_succ, Nat.zero_lt_one]) ha
  show evLc _ _ [] S = _
  have gen : ∀ (xs : List Itm) (acc : List D), acc.length + xs.length ≤ 100000 → evLc (lcTurn (fun x => evG G C (.nam 6) x) (evOt G C (.some (.cmp .ne (.var 6) (.glb 4)))) (evE G C (.var 6)) (w ++ [none])) ((xs.map Itm.D).map .d) acc S = .ok (acc ++ (xs.filter (fun i => !i.isO)).map Itm.D) S := by
    intro xs
    induction xs with
    | nil => intro acc _; show RE.ok acc S = .ok (acc ++ []) S; rw [List.append_nil]
    | cons i xs ih =>
      intro acc ha
      rw [List.length_cons] at ha
      show (lcTurn _ _ _ _ (.d i.D) acc S).bind _ = _
      rw [hf i acc (by omega)]
      cases i with
      | opn =>
        show evLc _ _ (acc ++ []) S = _
        rw [List.append_nil, ih acc (by omega)]
        rfl
      | op x o =>
        show evLc _ _ (acc ++ [(Itm.op x o).D]) S = _
        rw [ih _ (by rw [List.length_append]; show _ + 1 + _ ≤ _; omega), List.append_assoc]
        rfl
  rw [gen r.reverse [] (by rw [List.length_reverse]; show 0 + _ ≤ _; omega), List.nil_append, List.filter_reverse]
theorem run_eq {G : Tab} (hc : Core G) (k : Nat) {m : Mk} {n : Nat} {s : Sd} {r : List Itm} (o : OrdOk m n s r) : run G (k + 5) 30 [.d m.D, .d s.D] [] = .ok (.d (eqS m s r).D) [] := by
  rw [run_fn hc.equalled rfl (by decide)]
  have hl := o.len
  have hn := o.hn
  have q1 := run_now hc (k + 2) o.hm o.h
  have q4 := run_atF hc (k + 2) s
  have hno := o.h.now_ok o.hm
  -- behind the first four statements
  have tl : ∀ (y : Option Nm) (la : Option (Nat × Nm)) (w5 : Option W), (∀ z, y = some z → z.ok) → finW (evB G (run G (k + 4)) (match f_equalled.body with | .cons _ (.cons _ (.cons _ t)) => t | t => t) [some (.d m.D), some (.d s.D), some (.d (oD y)), some (.d (Pd.ord r).D), some (.d (laD la)), w5, none] []) =
      .ok (.d (match eqL m r y with
        | none => atF s
        | some y => ⟨none, y, true, .ord [], la, s.kp, .ended⟩ : Sd).D) [] := by
    intro y la w5 hy
    obtain ⟨r', lp⟩ := eq_loop hc k o.hm [] (some (.d s.D)) (some (.d (laD la))) w5 none 100000 r y (by omega) (by omega) o.its hy
    simp only [f_equalled] at lp ⊢
    rw [b_cons, s_whl, lp]
    cases eqL m r y with
    | none => simp -implicitDefEqProofs only [bnd_ok, bnd_ex, sts_ok, sts_ex, sqs_nx, sqs_ret, sqs_ex, cnd_t, cnd_f, of_some, asd_ok, asd_ex, e_cst, e_var, rd_eq, rdO_ok, e_glb, glO_ok, e_bin, e_neg, e_cmp, chK_t, chK_f, e_chn, e_and, e_or, and_one, and_more, or_one, or_more, e_not, e_ite, e_call, mkI_some, e_mk, e_mth, e_blt, e_isi, e_bm, e_repl, e_fld, e_ix, e_sl, e_tup, e_lst, a_nil, a_cons, o_none, o_some, t_val, t_cmp, t_chn, t_and, t_or, t_not, tand_nil, tand_cons, tor_nil, tor_cons, g_nam, g_tup, gs_nil, gs_cons, s_expr, s_asg, s_setf, s_aug, augL_ok, s_ret, s_retN, s_ite, s_raise, b_nil, b_cons, fin_nx, fin_ret, fin_ex, o2, lk, looks, leave_d, leave_ex, dats_nil, dats_cons, fld_d, ix_d, call1, call2, call3, call4, call5, setL, List.getElem?_cons_zero, List.getElem?_cons_succ, Option.map_some, Option.bind_some, List.length_cons, List.length_nil, List.set_cons_zero, List.set_cons_succ, Nat.reduceAdd, Nat.reduceLT, Nat.reduceSub, reduceIte, decide_true, decide_false, List.map_cons, List.map_nil, List.cons_append, List.nil_append, List.replicate_succ, List.replicate_zero, Nat.lt_add_one, Nat.zero_lt_succ, Nat.zero_lt_one, fs0, fs1, fs2, fs3, fs4, fs5, fs6, cls_s, im0, im1, in0, in1, cmp_is, cmp_isn, ty_non, la_non, oD_non, Nm_non, cmp_eqs, cmp_nes, beq1, wd_eq, wd_eq2, mn_pile, mn_rank, nn_str, nn_tup, nn_non, Option.isNone, q4]
    | some y =>
      simp -implicitDefEqProofs only [bnd_ok, bnd_ex, sts_ok, sts_ex, sqs_nx, sqs_ret, sqs_ex, cnd_t, cnd_f, of_some, asd_ok, asd_ex, e_cst, e_var, rd_eq, rdO_ok, e_glb, glO_ok, e_bin, e_neg, e_cmp, chK_t, chK_f, e_chn, e_and, e_or, and_one, and_more, or_one, or_more, e_not, e_ite, e_call, mkI_some, e_mk, e_mth, e_blt, e_isi, e_bm, e_repl, e_fld, e_ix, e_sl, e_tup, e_lst, a_nil, a_cons, o_none, o_some, t_val, t_cmp, t_chn, t_and, t_or, t_not, tand_nil, tand_cons, tor_nil, tor_cons, g_nam, g_tup, gs_nil, gs_cons, s_expr, s_asg, s_setf, s_aug, augL_ok, s_ret, s_retN, s_ite, s_raise, b_nil, b_cons, fin_nx, fin_ret, fin_ex, o2, lk, looks, leave_d, leave_ex, dats_nil, dats_cons, fld_d, ix_d, call1, call2, call3, call4, call5, setL, List.getElem?_cons_zero, List.getElem?_cons_succ, Option.map_some, Option.bind_some, List.length_cons, List.length_nil, List.set_cons_zero, List.set_cons_succ, Nat.reduceAdd, Nat.reduceLT, Nat.reduceSub, reduceIte, decide_true, decide_false, List.map_cons, List.map_nil, List.cons_append, List.nil_append, List.replicate_succ, List.replicate_zero, Nat.lt_add_one, Nat.zero_lt_succ, Nat.zero_lt_one, fs0, fs1, fs2, fs3, fs4, fs5, fs6, cls_s, im0, im1, in0, in1, cmp_is, cmp_isn, ty_non, la_non, oD_non, Nm_non, cmp_eqs, cmp_nes, beq1, wd_eq, wd_eq2, mn_pile, mn_rank, nn_str, nn_tup, nn_non, Option.isNone, hc.ini, mk_st hc (k + 3), sz, Nat.zero_le]
      rfl
  simp only [f_equalled] at tl
  have lc : ∀ w2 w4 : Option W, evLcI (lcTurn (fun x => evG G (run G (k + 4)) (.nam 6) x) (evOt G (run G (k + 4)) (.some (.cmp .ne (.var 6) (.glb 4)))) (evE G (run G (k + 4)) (.var 6)) (wipeS [some (.d m.D), some (.d s.D), w2, some (.d (Pd.ord r).D), w4, none, none] [6])) (.vs ((r.reverse.map Itm.D).map .d)) [] = .ok ((r.filter (fun i => !i.isO)).reverse.map Itm.D) [] :=
    fun w2 w4 => ops_lc hc [] [some (.d m.D), some (.d s.D), w2, some (.d (Pd.ord r).D), w4, none] r rfl (by omega)
  have sq : seqIv [] (.d (Pd.ord r).D) = .ok (.vs ((r.reverse.map Itm.D).map .d)) [] := rfl
  have la_ok := o.h.la
  unfold eqS eqY eqLa
  cases el : lastOp r with
  | some c =>
    obtain ⟨x, r2, ef⟩ := lastOp_some el
    have l2 := lc
    rw [ef, List.reverse_cons, List.map_append] at l2
    have t2 := tl (some s.now) (some (c, s.now)) (some (.d (.lst (r2.reverse.map Itm.D ++ [(Itm.op x c).D])))) (fun z e => by injection e with e; rw [← e]; exact hno)
    rw [show oD (some s.now) = s.now.D from rfl, show laD (some (c, s.now)) = .tup [.str [c], s.now.D] from rfl] at t2
    have tr : truD (.lst (r2.reverse.map Itm.D ++ [(Itm.op x c).D])) = some true := by
      show some (!(r2.reverse.map Itm.D ++ [(Itm.op x c).D]).isEmpty) = _
      cases r2.reverse.map Itm.D <;> rfl
    have ix : ixD (.lst (r2.reverse.map Itm.D ++ [(Itm.op x c).D])) (.int (-1)) = some (Itm.op x c).D := ix_m1
    simp -implicitDefEqProofs only [bnd_ok, bnd_ex, sts_ok, sts_ex, sqs_nx, sqs_ret, sqs_ex, cnd_t, cnd_f, of_some, asd_ok, asd_ex, e_cst, e_var, rd_eq, rdO_ok, e_glb, glO_ok, e_bin, e_neg, e_cmp, chK_t, chK_f, e_chn, e_and, e_or, and_one, and_more, or_one, or_more, e_not, e_ite, e_call, mkI_some, e_mk, e_mth, e_blt, e_isi, e_bm, e_repl, e_fld, e_ix, e_sl, e_tup, e_lst, a_nil, a_cons, o_none, o_some, t_val, t_cmp, t_chn, t_and, t_or, t_not, tand_nil, tand_cons, tor_nil, tor_cons, g_nam, g_tup, gs_nil, gs_cons, s_expr, s_asg, s_setf, s_aug, augL_ok, s_ret, s_retN, s_ite, s_raise, b_nil, b_cons, fin_nx, fin_ret, fin_ex, o2, lk, looks, leave_d, leave_ex, dats_nil, dats_cons, fld_d, ix_d, call1, call2, call3, call4, call5, setL, List.getElem?_cons_zero, List.getElem?_cons_succ, Option.map_some, Option.bind_some, List.length_cons, List.length_nil, List.set_cons_zero, List.set_cons_succ, Nat.reduceAdd, Nat.reduceLT, Nat.reduceSub, reduceIte, decide_true, decide_false, List.map_cons, List.map_nil, List.cons_append, List.nil_append, List.replicate_succ, List.replicate_zero, Nat.lt_add_one, Nat.zero_lt_succ, Nat.zero_lt_one, fs0, fs1, fs2, fs3, fs4, fs5, fs6, cls_s, im0, im1, in0, in1, cmp_is, cmp_isn, ty_non, la_non, oD_non, Nm_non, cmp_eqs, cmp_nes, beq1, wd_eq, wd_eq2, mn_pile, mn_rank, nn_str, nn_tup, nn_non, f_equalled, q1, sz, Nat.reduceLeDiff, o.e, e_lc, i_seq, sq, l2, lcEnd, tr, ix, io1] at t2 ⊢
    exact t2
  | none =>
    have ef := lastOp_none el
    have l2 := lc
    rw [ef] at l2
    have l3 : (([] : List Itm).reverse.map Itm.D) = [] := rfl
    rw [l3] at l2
    have tr : truD (.lst []) = some false := rfl
    cases e5 : s.la with
    | none =>
      have t2 := tl (some s.now) none (some (.d (.lst []))) (fun z e => by injection e with e; rw [← e]; exact hno)
      rw [show oD (some s.now) = s.now.D from rfl] at t2
      simp -implicitDefEqProofs only [bnd_ok, bnd_ex, sts_ok, sts_ex, sqs_nx, sqs_ret, sqs_ex, cnd_t, cnd_f, of_some, asd_ok, asd_ex, e_cst, e_var, rd_eq, rdO_ok, e_glb, glO_ok, e_bin, e_neg, e_cmp, chK_t, chK_f, e_chn, e_and, e_or, and_one, and_more, or_one, or_more, e_not, e_ite, e_call, mkI_some, e_mk, e_mth, e_blt, e_isi, e_bm, e_repl, e_fld, e_ix, e_sl, e_tup, e_lst, a_nil, a_cons, o_none, o_some, t_val, t_cmp, t_chn, t_and, t_or, t_not, tand_nil, tand_cons, tor_nil, tor_cons, g_nam, g_tup, gs_nil, gs_cons, s_expr, s_asg, s_setf, s_aug, augL_ok, s_ret, s_retN, s_ite, s_raise, b_nil, b_cons, fin_nx, fin_ret, fin_ex, o2, lk, looks, leave_d, leave_ex, dats_nil, dats_cons, fld_d, ix_d, call1, call2, call3, call4, call5, setL, List.getElem?_cons_zero, List.getElem?_cons_succ, Option.map_some, Option.bind_some, List.length_cons, List.length_nil, List.set_cons_zero, List.set_cons_succ, Nat.reduceAdd, Nat.reduceLT, Nat.reduceSub, reduceIte, decide_true, decide_false, List.map_cons, List.map_nil, List.cons_append, List.nil_append, List.replicate_succ, List.replicate_zero, Nat.lt_add_one, Nat.zero_lt_succ, Nat.zero_lt_one, fs0, fs1, fs2, fs3, fs4, fs5, fs6, cls_s, im0, im1, in0, in1, cmp_is, cmp_isn, ty_non, la_non, oD_non, Nm_non, cmp_eqs, cmp_nes, beq1, wd_eq, wd_eq2, mn_pile, mn_rank, nn_str, nn_tup, nn_non, f_equalled, q1, sz, Nat.reduceLeDiff, o.e, e_lc, i_seq, sq, l2, lcEnd, tr, e5, Option.isNone, Bool.not_true] at t2 ⊢
      exact t2
    | some p =>
      obtain ⟨c, x⟩ := p
      have q2 := run_op hc (k + 1) (o := c) o.hm hno (la_ok c x e5)
      have t2 := tl (opN c s.now x m.pl) (some (c, x)) (some (.d (.lst []))) (fun z e => opN_ok o.hm e)
      have i0 : ixD (laD (some (c, x))) (.int 0) = some (.str [c]) := rfl
      have i1 : ixD (laD (some (c, x))) (.int 1) = some x.D := rfl
      simp -implicitDefEqProofs only [bnd_ok, bnd_ex, sts_ok, sts_ex, sqs_nx, sqs_ret, sqs_ex, cnd_t, cnd_f, of_some, asd_ok, asd_ex, e_cst, e_var, rd_eq, rdO_ok, e_glb, glO_ok, e_bin, e_neg, e_cmp, chK_t, chK_f, e_chn, e_and, e_or, and_one, and_more, or_one, or_more, e_not, e_ite, e_call, mkI_some, e_mk, e_mth, e_blt, e_isi, e_bm, e_repl, e_fld, e_ix, e_sl, e_tup, e_lst, a_nil, a_cons, o_none, o_some, t_val, t_cmp, t_chn, t_and, t_or, t_not, tand_nil, tand_cons, tor_nil, tor_cons, g_nam, g_tup, gs_nil, gs_cons, s_expr, s_asg, s_setf, s_aug, augL_ok, s_ret, s_retN, s_ite, s_raise, b_nil, b_cons, fin_nx, fin_ret, fin_ex, o2, lk, looks, leave_d, leave_ex, dats_nil, dats_cons, fld_d, ix_d, call1, call2, call3, call4, call5, setL, List.getElem?_cons_zero, List.getElem?_cons_succ, Option.map_some, Option.bind_some, List.length_cons, List.length_nil, List.set_cons_zero, List.set_cons_succ, Nat.reduceAdd, Nat.reduceLT, Nat.reduceSub, reduceIte, decide_true, decide_false, List.map_cons, List.map_nil, List.cons_append, List.nil_append, List.replicate_succ, List.replicate_zero, Nat.lt_add_one, Nat.zero_lt_succ, Nat.zero_lt_one, fs0, fs1, fs2, fs3, fs4, fs5, fs6, cls_s, im0, im1, in0, in1, cmp_is, cmp_isn, ty_non, la_non, oD_non, Nm_non, cmp_eqs, cmp_nes, beq1, wd_eq, wd_eq2, mn_pile, mn_rank, nn_str, nn_tup, nn_non, f_equalled, q1, sz, Nat.reduceLeDiff, o.e, e_lc, i_seq, sq, l2, lcEnd, tr, e5, Option.isNone, Bool.not_false, i0, i1, q2] at t2 ⊢
      exact t2
theorem eqY_ok {m : Mk} {n : Nat} {s : Sd} {r : List Itm} (o : OrdOk m n s r) : ∀ z, eqY m s r = some z → z.ok := by
  have hno := o.h.now_ok o.hm
  intro z e
  unfold eqY at e
  cases el : lastOp r with
  | some _ => rw [el] at e; dsimp only at e; injection e with e; rw [← e]; exact hno
  | none =>
    rw [el] at e
    cases e5 : s.la with
    | none => rw [e5] at e; dsimp only at e; injection e with e; rw [← e]; exact hno
    | some p => rw [e5] at e; dsimp only at e; exact opN_ok o.hm e
theorem eqLa_ok {m : Mk} {n : Nat} {s : Sd} {r : List Itm} (o : OrdOk m n s r) : ∀ c z, eqLa s r = some (c, z) → z.ok := by
  have hno := o.h.now_ok o.hm
  intro c z e
  unfold eqLa at e
  cases el : lastOp r with
  | some _ =>
    rw [el] at e
    dsimp only at e
    injection e with e
    injection e with e1 e2
    rw [← e2]; exact hno
  | none => rw [el] at e; exact o.h.la c z e
theorem eqS_ok {m : Mk} {n : Nat} {s : Sd} {r : List Itm} (o : OrdOk m n s r) : (eqS m s r).ok m (n + 1) := by
  unfold eqS
  cases ez : eqL m r (eqY m s r) with
  | none => exact (atF_ok o.h).mono (Nat.le_succ _)
  | some z => exact ⟨fun _ e => (nomatch e), eqL_ok o.hm o.its (eqY_ok o) z ez, ⟨o.np, Nat.zero_le _, fun i h => absurd h List.not_mem_nil⟩, eqLa_ok o, o.h.kp⟩
theorem in_str (c : Nat) (t : Tx) : evCmp .isin (.str [c]) (.str t) = some (t.contains c) := by rw [cmp_in, infix_one]
theorem run_ord {G : Tab} (hc : Core G) (k : Nat) {m : Mk} {n : Nat} {s : Sd} {r : List Itm} (o : OrdOk m n s r) {c : Nat} (h78 : True) : run G (k + 6) 34 [.d m.D, .d s.D, .d (.str [c])] [] = .ok (.d (ordS m s r c).D) [] := by
  rw [run_fn hc.ordered rfl (by decide)]
  have e0 : oD (some nm0) = .tup [.int 0, .int 0] := rfl
  have w5 := run_wN hc (k + 2) s
  unfold ordS
  cases c1 : isDp c with
  | true =>
    rw [if_pos rfl]
    unfold isDp at c1
    cases e : s.ty with
    | none =>
      have q1 := run_beg hc (k + 4) c
      have q2 := run_wT hc (k + 3) s (begT c) s.pd
      simp -implicitDefEqProofs only [bnd_ok, bnd_ex, sts_ok, sts_ex, sqs_nx, sqs_ret, sqs_ex, cnd_t, cnd_f, of_some, asd_ok, asd_ex, e_cst, e_var, rd_eq, rdO_ok, e_glb, glO_ok, e_bin, e_neg, e_cmp, chK_t, chK_f, e_chn, e_and, e_or, and_one, and_more, or_one, or_more, e_not, e_ite, e_call, mkI_some, e_mk, e_mth, e_blt, e_isi, e_bm, e_repl, e_fld, e_ix, e_sl, e_tup, e_lst, a_nil, a_cons, o_none, o_some, t_val, t_cmp, t_chn, t_and, t_or, t_not, tand_nil, tand_cons, tor_nil, tor_cons, g_nam, g_tup, gs_nil, gs_cons, s_expr, s_asg, s_setf, s_aug, augL_ok, s_ret, s_retN, s_ite, s_raise, b_nil, b_cons, fin_nx, fin_ret, fin_ex, o2, lk, looks, leave_d, leave_ex, dats_nil, dats_cons, fld_d, ix_d, call1, call2, call3, call4, call5, setL, List.getElem?_cons_zero, List.getElem?_cons_succ, Option.map_some, Option.bind_some, List.length_cons, List.length_nil, List.set_cons_zero, List.set_cons_succ, Nat.reduceAdd, Nat.reduceLT, Nat.reduceSub, reduceIte, decide_true, decide_false, List.map_cons, List.map_nil, List.cons_append, List.nil_append, List.replicate_succ, List.replicate_zero, Nat.lt_add_one, Nat.zero_lt_succ, Nat.zero_lt_one, fs0, fs1, fs2, fs3, fs4, fs5, fs6, cls_s, im0, im1, in0, in1, cmp_is, cmp_isn, ty_non, la_non, oD_non, Nm_non, cmp_eqs, cmp_nes, beq1, wd_eq, wd_eq2, mn_pile, mn_rank, nn_str, nn_tup, nn_non, f_ordered, in_str, c1, e, Option.isNone, q1, q2]
    | some t =>
      have q1 := run_lon hc (k + 4) o.hm (o.h.ty t e) c1
      have q2 := run_wT hc (k + 3) s (lonT m.pl t c) s.pd
      simp -implicitDefEqProofs only [bnd_ok, bnd_ex, sts_ok, sts_ex, sqs_nx, sqs_ret, sqs_ex, cnd_t, cnd_f, of_some, asd_ok, asd_ex, e_cst, e_var, rd_eq, rdO_ok, e_glb, glO_ok, e_bin, e_neg, e_cmp, chK_t, chK_f, e_chn, e_and, e_or, and_one, and_more, or_one, or_more, e_not, e_ite, e_call, mkI_some, e_mk, e_mth, e_blt, e_isi, e_bm, e_repl, e_fld, e_ix, e_sl, e_tup, e_lst, a_nil, a_cons, o_none, o_some, t_val, t_cmp, t_chn, t_and, t_or, t_not, tand_nil, tand_cons, tor_nil, tor_cons, g_nam, g_tup, gs_nil, gs_cons, s_expr, s_asg, s_setf, s_aug, augL_ok, s_ret, s_retN, s_ite, s_raise, b_nil, b_cons, fin_nx, fin_ret, fin_ex, o2, lk, looks, leave_d, leave_ex, dats_nil, dats_cons, fld_d, ix_d, call1, call2, call3, call4, call5, setL, List.getElem?_cons_zero, List.getElem?_cons_succ, Option.map_some, Option.bind_some, List.length_cons, List.length_nil, List.set_cons_zero, List.set_cons_succ, Nat.reduceAdd, Nat.reduceLT, Nat.reduceSub, reduceIte, decide_true, decide_false, List.map_cons, List.map_nil, List.cons_append, List.nil_append, List.replicate_succ, List.replicate_zero, Nat.lt_add_one, Nat.zero_lt_succ, Nat.zero_lt_one, fs0, fs1, fs2, fs3, fs4, fs5, fs6, cls_s, im0, im1, in0, in1, cmp_is, cmp_isn, ty_non, la_non, oD_non, Nm_non, cmp_eqs, cmp_nes, beq1, wd_eq, wd_eq2, mn_pile, mn_rank, nn_str, nn_tup, nn_non, f_ordered, in_str, c1, e, tyD, Option.isNone, q1, q2]
  | false =>
    rw [if_neg Bool.false_ne_true]
    unfold isDp at c1
    cases c2 : isOpk c with
    | true =>
      rw [if_pos rfl]
      unfold isOpk at c2
      have q1 := run_oper hc k o c
      simp -implicitDefEqProofs only [bnd_ok, bnd_ex, sts_ok, sts_ex, sqs_nx, sqs_ret, sqs_ex, cnd_t, cnd_f, of_some, asd_ok, asd_ex, e_cst, e_var, rd_eq, rdO_ok, e_glb, glO_ok, e_bin, e_neg, e_cmp, chK_t, chK_f, e_chn, e_and, e_or, and_one, and_more, or_one, or_more, e_not, e_ite, e_call, mkI_some, e_mk, e_mth, e_blt, e_isi, e_bm, e_repl, e_fld, e_ix, e_sl, e_tup, e_lst, a_nil, a_cons, o_none, o_some, t_val, t_cmp, t_chn, t_and, t_or, t_not, tand_nil, tand_cons, tor_nil, tor_cons, g_nam, g_tup, gs_nil, gs_cons, s_expr, s_asg, s_setf, s_aug, augL_ok, s_ret, s_retN, s_ite, s_raise, b_nil, b_cons, fin_nx, fin_ret, fin_ex, o2, lk, looks, leave_d, leave_ex, dats_nil, dats_cons, fld_d, ix_d, call1, call2, call3, call4, call5, setL, List.getElem?_cons_zero, List.getElem?_cons_succ, Option.map_some, Option.bind_some, List.length_cons, List.length_nil, List.set_cons_zero, List.set_cons_succ, Nat.reduceAdd, Nat.reduceLT, Nat.reduceSub, reduceIte, decide_true, decide_false, List.map_cons, List.map_nil, List.cons_append, List.nil_append, List.replicate_succ, List.replicate_zero, Nat.lt_add_one, Nat.zero_lt_succ, Nat.zero_lt_one, fs0, fs1, fs2, fs3, fs4, fs5, fs6, cls_s, im0, im1, in0, in1, cmp_is, cmp_isn, ty_non, la_non, oD_non, Nm_non, cmp_eqs, cmp_nes, beq1, wd_eq, wd_eq2, mn_pile, mn_rank, nn_str, nn_tup, nn_non, f_ordered, in_str, c1, c2, q1]
    | false =>
      rw [if_neg Bool.false_ne_true]
      unfold isOpk at c2
      by_cases c3 : c = 61
      · rw [if_pos c3]
        have q1 := run_eq hc k o
        simp -implicitDefEqProofs only [bnd_ok, bnd_ex, sts_ok, sts_ex, sqs_nx, sqs_ret, sqs_ex, cnd_t, cnd_f, of_some, asd_ok, asd_ex, e_cst, e_var, rd_eq, rdO_ok, e_glb, glO_ok, e_bin, e_neg, e_cmp, chK_t, chK_f, e_chn, e_and, e_or, and_one, and_more, or_one, or_more, e_not, e_ite, e_call, mkI_some, e_mk, e_mth, e_blt, e_isi, e_bm, e_repl, e_fld, e_ix, e_sl, e_tup, e_lst, a_nil, a_cons, o_none, o_some, t_val, t_cmp, t_chn, t_and, t_or, t_not, tand_nil, tand_cons, tor_nil, tor_cons, g_nam, g_tup, gs_nil, gs_cons, s_expr, s_asg, s_setf, s_aug, augL_ok, s_ret, s_retN, s_ite, s_raise, b_nil, b_cons, fin_nx, fin_ret, fin_ex, o2, lk, looks, leave_d, leave_ex, dats_nil, dats_cons, fld_d, ix_d, call1, call2, call3, call4, call5, setL, List.getElem?_cons_zero, List.getElem?_cons_succ, Option.map_some, Option.bind_some, List.length_cons, List.length_nil, List.set_cons_zero, List.set_cons_succ, Nat.reduceAdd, Nat.reduceLT, Nat.reduceSub, reduceIte, decide_true, decide_false, List.map_cons, List.map_nil, List.cons_append, List.nil_append, List.replicate_succ, List.replicate_zero, Nat.lt_add_one, Nat.zero_lt_succ, Nat.zero_lt_one, fs0, fs1, fs2, fs3, fs4, fs5, fs6, cls_s, im0, im1, in0, in1, cmp_is, cmp_isn, ty_non, la_non, oD_non, Nm_non, cmp_eqs, cmp_nes, beq1, wd_eq, wd_eq2, mn_pile, mn_rank, nn_str, nn_tup, nn_non, f_ordered, in_str, c1, c2, decide_eq_true c3, q1]
      rw [if_neg c3]
      by_cases c4 : c = 78
      · rw [if_pos c4]
        have q1 := run_turn hc (k + 1) o.hm o.h
        have q2 := run_wN hc (k + 2) (turnS s) (some (turnS s).nu) true (turnS s).pd
        rw [show oD (some (turnS s).nu) = (turnS s).nu.D from rfl] at q2
        generalize turnS s = f at q1 q2 ⊢
        cases e : f.ty with
        | none => simp -implicitDefEqProofs only [bnd_ok, bnd_ex, sts_ok, sts_ex, sqs_nx, sqs_ret, sqs_ex, cnd_t, cnd_f, of_some, asd_ok, asd_ex, e_cst, e_var, rd_eq, rdO_ok, e_glb, glO_ok, e_bin, e_neg, e_cmp, chK_t, chK_f, e_chn, e_and, e_or, and_one, and_more, or_one, or_more, e_not, e_ite, e_call, mkI_some, e_mk, e_mth, e_blt, e_isi, e_bm, e_repl, e_fld, e_ix, e_sl, e_tup, e_lst, a_nil, a_cons, o_none, o_some, t_val, t_cmp, t_chn, t_and, t_or, t_not, tand_nil, tand_cons, tor_nil, tor_cons, g_nam, g_tup, gs_nil, gs_cons, s_expr, s_asg, s_setf, s_aug, augL_ok, s_ret, s_retN, s_ite, s_raise, b_nil, b_cons, fin_nx, fin_ret, fin_ex, o2, lk, looks, leave_d, leave_ex, dats_nil, dats_cons, fld_d, ix_d, call1, call2, call3, call4, call5, setL, List.getElem?_cons_zero, List.getElem?_cons_succ, Option.map_some, Option.bind_some, List.length_cons, List.length_nil, List.set_cons_zero, List.set_cons_succ, Nat.reduceAdd, Nat.reduceLT, Nat.reduceSub, reduceIte, decide_true, decide_false, List.map_cons, List.map_nil, List.cons_append, List.nil_append, List.replicate_succ, List.replicate_zero, Nat.lt_add_one, Nat.zero_lt_succ, Nat.zero_lt_one, fs0, fs1, fs2, fs3, fs4, fs5, fs6, cls_s, im0, im1, in0, in1, cmp_is, cmp_isn, ty_non, la_non, oD_non, Nm_non, cmp_eqs, cmp_nes, beq1, wd_eq, wd_eq2, mn_pile, mn_rank, nn_str, nn_tup, nn_non, f_ordered, in_str, c1, c2, decide_eq_false c3, decide_eq_true c4, q1, e, Option.isNone, q2]
        | some t => simp -implicitDefEqProofs only [bnd_ok, bnd_ex, sts_ok, sts_ex, sqs_nx, sqs_ret, sqs_ex, cnd_t, cnd_f, of_some, asd_ok, asd_ex, e_cst, e_var, rd_eq, rdO_ok, e_glb, glO_ok, e_bin, e_neg, e_cmp, chK_t, chK_f, e_chn, e_and, e_or, and_one, and_more, or_one, or_more, e_not, e_ite, e_call, mkI_some, e_mk, e_mth, e_blt, e_isi, e_bm, e_repl, e_fld, e_ix, e_sl, e_tup, e_lst, a_nil, a_cons, o_none, o_some, t_val, t_cmp, t_chn, t_and, t_or, t_not, tand_nil, tand_cons, tor_nil, tor_cons, g_nam, g_tup, gs_nil, gs_cons, s_expr, s_asg, s_setf, s_aug, augL_ok, s_ret, s_retN, s_ite, s_raise, b_nil, b_cons, fin_nx, fin_ret, fin_ex, o2, lk, looks, leave_d, leave_ex, dats_nil, dats_cons, fld_d, ix_d, call1, call2, call3, call4, call5, setL, List.getElem?_cons_zero, List.getElem?_cons_succ, Option.map_some, Option.bind_some, List.length_cons, List.length_nil, List.set_cons_zero, List.set_cons_succ, Nat.reduceAdd, Nat.reduceLT, Nat.reduceSub, reduceIte, decide_true, decide_false, List.map_cons, List.map_nil, List.cons_append, List.nil_append, List.replicate_succ, List.replicate_zero, Nat.lt_add_one, Nat.zero_lt_succ, Nat.zero_lt_one, fs0, fs1, fs2, fs3, fs4, fs5, fs6, cls_s, im0, im1, in0, in1, cmp_is, cmp_isn, ty_non, la_non, oD_non, Nm_non, cmp_eqs, cmp_nes, beq1, wd_eq, wd_eq2, mn_pile, mn_rank, nn_str, nn_tup, nn_non, f_ordered, in_str, c1, c2, decide_eq_false c3, decide_eq_true c4, q1, e, Option.isNone, q2]
      rw [if_neg c4]
      by_cases c5 : c = 66
      · rw [if_pos c5]
        have q1 := w5 (some nm0) false s.pd
        rw [e0] at q1
        simp -implicitDefEqProofs only [bnd_ok, bnd_ex, sts_ok, sts_ex, sqs_nx, sqs_ret, sqs_ex, cnd_t, cnd_f, of_some, asd_ok, asd_ex, e_cst, e_var, rd_eq, rdO_ok, e_glb, glO_ok, e_bin, e_neg, e_cmp, chK_t, chK_f, e_chn, e_and, e_or, and_one, and_more, or_one, or_more, e_not, e_ite, e_call, mkI_some, e_mk, e_mth, e_blt, e_isi, e_bm, e_repl, e_fld, e_ix, e_sl, e_tup, e_lst, a_nil, a_cons, o_none, o_some, t_val, t_cmp, t_chn, t_and, t_or, t_not, tand_nil, tand_cons, tor_nil, tor_cons, g_nam, g_tup, gs_nil, gs_cons, s_expr, s_asg, s_setf, s_aug, augL_ok, s_ret, s_retN, s_ite, s_raise, b_nil, b_cons, fin_nx, fin_ret, fin_ex, o2, lk, looks, leave_d, leave_ex, dats_nil, dats_cons, fld_d, ix_d, call1, call2, call3, call4, call5, setL, List.getElem?_cons_zero, List.getElem?_cons_succ, Option.map_some, Option.bind_some, List.length_cons, List.length_nil, List.set_cons_zero, List.set_cons_succ, Nat.reduceAdd, Nat.reduceLT, Nat.reduceSub, reduceIte, decide_true, decide_false, List.map_cons, List.map_nil, List.cons_append, List.nil_append, List.replicate_succ, List.replicate_zero, Nat.lt_add_one, Nat.zero_lt_succ, Nat.zero_lt_one, fs0, fs1, fs2, fs3, fs4, fs5, fs6, cls_s, im0, im1, in0, in1, cmp_is, cmp_isn, ty_non, la_non, oD_non, Nm_non, cmp_eqs, cmp_nes, beq1, wd_eq, wd_eq2, mn_pile, mn_rank, nn_str, nn_tup, nn_non, f_ordered, in_str, c1, c2, decide_eq_false c3, decide_eq_false c4, decide_eq_true c5, hc.glN, q1]
      rw [if_neg c5]
      by_cases c6 : c = 80
      · rw [if_pos c6]
        have q1 := run_perc hc k o
        simp -implicitDefEqProofs only [bnd_ok, bnd_ex, sts_ok, sts_ex, sqs_nx, sqs_ret, sqs_ex, cnd_t, cnd_f, of_some, asd_ok, asd_ex, e_cst, e_var, rd_eq, rdO_ok, e_glb, glO_ok, e_bin, e_neg, e_cmp, chK_t, chK_f, e_chn, e_and, e_or, and_one, and_more, or_one, or_more, e_not, e_ite, e_call, mkI_some, e_mk, e_mth, e_blt, e_isi, e_bm, e_repl, e_fld, e_ix, e_sl, e_tup, e_lst, a_nil, a_cons, o_none, o_some, t_val, t_cmp, t_chn, t_and, t_or, t_not, tand_nil, tand_cons, tor_nil, tor_cons, g_nam, g_tup, gs_nil, gs_cons, s_expr, s_asg, s_setf, s_aug, augL_ok, s_ret, s_retN, s_ite, s_raise, b_nil, b_cons, fin_nx, fin_ret, fin_ex, o2, lk, looks, leave_d, leave_ex, dats_nil, dats_cons, fld_d, ix_d, call1, call2, call3, call4, call5, setL, List.getElem?_cons_zero, List.getElem?_cons_succ, Option.map_some, Option.bind_some, List.length_cons, List.length_nil, List.set_cons_zero, List.set_cons_succ, Nat.reduceAdd, Nat.reduceLT, Nat.reduceSub, reduceIte, decide_true, decide_false, List.map_cons, List.map_nil, List.cons_append, List.nil_append, List.replicate_succ, List.replicate_zero, Nat.lt_add_one, Nat.zero_lt_succ, Nat.zero_lt_one, fs0, fs1, fs2, fs3, fs4, fs5, fs6, cls_s, im0, im1, in0, in1, cmp_is, cmp_isn, ty_non, la_non, oD_non, Nm_non, cmp_eqs, cmp_nes, beq1, wd_eq, wd_eq2, mn_pile, mn_rank, nn_str, nn_tup, nn_non, f_ordered, in_str, c1, c2, decide_eq_false c3, decide_eq_false c4, decide_eq_false c5, decide_eq_true c6, q1]
      rw [if_neg c6]
      by_cases c7 : c = 82
      · rw [if_pos c7]
        have q1 := w5 (some s.kp) true s.pd
        rw [show oD (some s.kp) = s.kp.D from rfl] at q1
        simp -implicitDefEqProofs only [bnd_ok, bnd_ex, sts_ok, sts_ex, sqs_nx, sqs_ret, sqs_ex, cnd_t, cnd_f, of_some, asd_ok, asd_ex, e_cst, e_var, rd_eq, rdO_ok, e_glb, glO_ok, e_bin, e_neg, e_cmp, chK_t, chK_f, e_chn, e_and, e_or, and_one, and_more, or_one, or_more, e_not, e_ite, e_call, mkI_some, e_mk, e_mth, e_blt, e_isi, e_bm, e_repl, e_fld, e_ix, e_sl, e_tup, e_lst, a_nil, a_cons, o_none, o_some, t_val, t_cmp, t_chn, t_and, t_or, t_not, tand_nil, tand_cons, tor_nil, tor_cons, g_nam, g_tup, gs_nil, gs_cons, s_expr, s_asg, s_setf, s_aug, augL_ok, s_ret, s_retN, s_ite, s_raise, b_nil, b_cons, fin_nx, fin_ret, fin_ex, o2, lk, looks, leave_d, leave_ex, dats_nil, dats_cons, fld_d, ix_d, call1, call2, call3, call4, call5, setL, List.getElem?_cons_zero, List.getElem?_cons_succ, Option.map_some, Option.bind_some, List.length_cons, List.length_nil, List.set_cons_zero, List.set_cons_succ, Nat.reduceAdd, Nat.reduceLT, Nat.reduceSub, reduceIte, decide_true, decide_false, List.map_cons, List.map_nil, List.cons_append, List.nil_append, List.replicate_succ, List.replicate_zero, Nat.lt_add_one, Nat.zero_lt_succ, Nat.zero_lt_one, fs0, fs1, fs2, fs3, fs4, fs5, fs6, cls_s, im0, im1, in0, in1, cmp_is, cmp_isn, ty_non, la_non, oD_non, Nm_non, cmp_eqs, cmp_nes, beq1, wd_eq, wd_eq2, mn_pile, mn_rank, nn_str, nn_tup, nn_non, f_ordered, in_str, c1, c2, decide_eq_false c3, decide_eq_false c4, decide_eq_false c5, decide_eq_false c6, decide_eq_true c7, q1]
      rw [if_neg c7]
      by_cases cr : m.mn = .rank
      · by_cases c8 : c = 40
        · rw [if_pos ⟨cr, c8⟩]
          have q1 := run_opn hc (k + 1) o
          simp -implicitDefEqProofs only [bnd_ok, bnd_ex, sts_ok, sts_ex, sqs_nx, sqs_ret, sqs_ex, cnd_t, cnd_f, of_some, asd_ok, asd_ex, e_cst, e_var, rd_eq, rdO_ok, e_glb, glO_ok, e_bin, e_neg, e_cmp, chK_t, chK_f, e_chn, e_and, e_or, and_one, and_more, or_one, or_more, e_not, e_ite, e_call, mkI_some, e_mk, e_mth, e_blt, e_isi, e_bm, e_repl, e_fld, e_ix, e_sl, e_tup, e_lst, a_nil, a_cons, o_none, o_some, t_val, t_cmp, t_chn, t_and, t_or, t_not, tand_nil, tand_cons, tor_nil, tor_cons, g_nam, g_tup, gs_nil, gs_cons, s_expr, s_asg, s_setf, s_aug, augL_ok, s_ret, s_retN, s_ite, s_raise, b_nil, b_cons, fin_nx, fin_ret, fin_ex, o2, lk, looks, leave_d, leave_ex, dats_nil, dats_cons, fld_d, ix_d, call1, call2, call3, call4, call5, setL, List.getElem?_cons_zero, List.getElem?_cons_succ, Option.map_some, Option.bind_some, List.length_cons, List.length_nil, List.set_cons_zero, List.set_cons_succ, Nat.reduceAdd, Nat.reduceLT, Nat.reduceSub, reduceIte, decide_true, decide_false, List.map_cons, List.map_nil, List.cons_append, List.nil_append, List.replicate_succ, List.replicate_zero, Nat.lt_add_one, Nat.zero_lt_succ, Nat.zero_lt_one, fs0, fs1, fs2, fs3, fs4, fs5, fs6, cls_s, im0, im1, in0, in1, cmp_is, cmp_isn, ty_non, la_non, oD_non, Nm_non, cmp_eqs, cmp_nes, beq1, wd_eq, wd_eq2, mn_pile, mn_rank, nn_str, nn_tup, nn_non, f_ordered, in_str, c1, c2, decide_eq_false c3, decide_eq_false c4, decide_eq_false c5, decide_eq_false c6, decide_eq_false c7, decide_eq_true cr, decide_eq_true c8, q1]
        · rw [if_neg (fun q => c8 q.2)]
          by_cases c9 : c = 41
          · rw [if_pos ⟨cr, c9⟩]
            have q1 := run_cls hc k o
            simp -implicitDefEqProofs only [bnd_ok, bnd_ex, sts_ok, sts_ex, sqs_nx, sqs_ret, sqs_ex, cnd_t, cnd_f, of_some, asd_ok, asd_ex, e_cst, e_var, rd_eq, rdO_ok, e_glb, glO_ok, e_bin, e_neg, e_cmp, chK_t, chK_f, e_chn, e_and, e_or, and_one, and_more, or_one, or_more, e_not, e_ite, e_call, mkI_some, e_mk, e_mth, e_blt, e_isi, e_bm, e_repl, e_fld, e_ix, e_sl, e_tup, e_lst, a_nil, a_cons, o_none, o_some, t_val, t_cmp, t_chn, t_and, t_or, t_not, tand_nil, tand_cons, tor_nil, tor_cons, g_nam, g_tup, gs_nil, gs_cons, s_expr, s_asg, s_setf, s_aug, augL_ok, s_ret, s_retN, s_ite, s_raise, b_nil, b_cons, fin_nx, fin_ret, fin_ex, o2, lk, looks, leave_d, leave_ex, dats_nil, dats_cons, fld_d, ix_d, call1, call2, call3, call4, call5, setL, List.getElem?_cons_zero, List.getElem?_cons_succ, Option.map_some, Option.bind_some, List.length_cons, List.length_nil, List.set_cons_zero, List.set_cons_succ, Nat.reduceAdd, Nat.reduceLT, Nat.reduceSub, reduceIte, decide_true, decide_false, List.map_cons, List.map_nil, List.cons_append, List.nil_append, List.replicate_succ, List.replicate_zero, Nat.lt_add_one, Nat.zero_lt_succ, Nat.zero_lt_one, fs0, fs1, fs2, fs3, fs4, fs5, fs6, cls_s, im0, im1, in0, in1, cmp_is, cmp_isn, ty_non, la_non, oD_non, Nm_non, cmp_eqs, cmp_nes, beq1, wd_eq, wd_eq2, mn_pile, mn_rank, nn_str, nn_tup, nn_non, f_ordered, in_str, c1, c2, decide_eq_false c3, decide_eq_false c4, decide_eq_false c5, decide_eq_false c6, decide_eq_false c7, decide_eq_true cr, decide_eq_false c8, decide_eq_true c9, q1]
          · rw [if_neg (fun q => c9 q.2)]
            simp -implicitDefEqProofs only [bnd_ok, bnd_ex, sts_ok, sts_ex, sqs_nx, sqs_ret, sqs_ex, cnd_t, cnd_f, of_some, asd_ok, asd_ex, e_cst, e_var, rd_eq, rdO_ok, e_glb, glO_ok, e_bin, e_neg, e_cmp, chK_t, chK_f, e_chn, e_and, e_or, and_one, and_more, or_one, or_more, e_not, e_ite, e_call, mkI_some, e_mk, e_mth, e_blt, e_isi, e_bm, e_repl, e_fld, e_ix, e_sl, e_tup, e_lst, a_nil, a_cons, o_none, o_some, t_val, t_cmp, t_chn, t_and, t_or, t_not, tand_nil, tand_cons, tor_nil, tor_cons, g_nam, g_tup, gs_nil, gs_cons, s_expr, s_asg, s_setf, s_aug, augL_ok, s_ret, s_retN, s_ite, s_raise, b_nil, b_cons, fin_nx, fin_ret, fin_ex, o2, lk, looks, leave_d, leave_ex, dats_nil, dats_cons, fld_d, ix_d, call1, call2, call3, call4, call5, setL, List.getElem?_cons_zero, List.getElem?_cons_succ, Option.map_some, Option.bind_some, List.length_cons, List.length_nil, List.set_cons_zero, List.set_cons_succ, Nat.reduceAdd, Nat.reduceLT, Nat.reduceSub, reduceIte, decide_true, decide_false, List.map_cons, List.map_nil, List.cons_append, List.nil_append, List.replicate_succ, List.replicate_zero, Nat.lt_add_one, Nat.zero_lt_succ, Nat.zero_lt_one, fs0, fs1, fs2, fs3, fs4, fs5, fs6, cls_s, im0, im1, in0, in1, cmp_is, cmp_isn, ty_non, la_non, oD_non, Nm_non, cmp_eqs, cmp_nes, beq1, wd_eq, wd_eq2, mn_pile, mn_rank, nn_str, nn_tup, nn_non, f_ordered, in_str, c1, c2, decide_eq_false c3, decide_eq_false c4, decide_eq_false c5, decide_eq_false c6, decide_eq_false c7, decide_eq_true cr, decide_eq_false c8, decide_eq_false c9]
      · rw [if_neg (fun q => cr q.1), if_neg (fun q => cr q.1)]
        simp -implicitDefEqProofs only [bnd_ok, bnd_ex, sts_ok, sts_ex, sqs_nx, sqs_ret, sqs_ex, cnd_t, cnd_f, of_some, asd_ok, asd_ex, e_cst, e_var, rd_eq, rdO_ok, e_glb, glO_ok, e_bin, e_neg, e_cmp, chK_t, chK_f, e_chn, e_and, e_or, and_one, and_more, or_one, or_more, e_not, e_ite, e_call, mkI_some, e_mk, e_mth, e_blt, e_isi, e_bm, e_repl, e_fld, e_ix, e_sl, e_tup, e_lst, a_nil, a_cons, o_none, o_some, t_val, t_cmp, t_chn, t_and, t_or, t_not, tand_nil, tand_cons, tor_nil, tor_cons, g_nam, g_tup, gs_nil, gs_cons, s_expr, s_asg, s_setf, s_aug, augL_ok, s_ret, s_retN, s_ite, s_raise, b_nil, b_cons, fin_nx, fin_ret, fin_ex, o2, lk, looks, leave_d, leave_ex, dats_nil, dats_cons, fld_d, ix_d, call1, call2, call3, call4, call5, setL, List.getElem?_cons_zero, List.getElem?_cons_succ, Option.map_some, Option.bind_some, List.length_cons, List.length_nil, List.set_cons_zero, List.set_cons_succ, Nat.reduceAdd, Nat.reduceLT, Nat.reduceSub, reduceIte, decide_true, decide_false, List.map_cons, List.map_nil, List.cons_append, List.nil_append, List.replicate_succ, List.replicate_zero, Nat.lt_add_one, Nat.zero_lt_succ, Nat.zero_lt_one, fs0, fs1, fs2, fs3, fs4, fs5, fs6, cls_s, im0, im1, in0, in1, cmp_is, cmp_isn, ty_non, la_non, oD_non, Nm_non, cmp_eqs, cmp_nes, beq1, wd_eq, wd_eq2, mn_pile, mn_rank, nn_str, nn_tup, nn_non, f_ordered, in_str, c1, c2, decide_eq_false c3, decide_eq_false c4, decide_eq_false c5, decide_eq_false c6, decide_eq_false c7, decide_eq_false cr]
theorem ordS_ok {m : Mk} {n : Nat} {s : Sd} {r : List Itm} (o : OrdOk m n s r) {c : Nat} (hcc : c < 128) : (ordS m s r c).ok m (n + 1) := by
  have hm1 : s.pd.ok m (n + 1) := o.h.pd.mono (Nat.le_succ _)
  have h0 : ∀ z, some nm0 = some z → z.ok := fun z e => by injection e with e; rw [← e]; exact nm0_ok
  unfold ordS
  split
  · rename_i c1
    refine wT_ok o.h ?_ hm1
    cases e : s.ty with
    | none => exact begT_ok o.hm.1 c1
    | some t => exact lonT_ok (o.h.ty t e) c1
  · split
    · exact operS_ok o hcc
    · split
      · exact eqS_ok o
      · split
        · have := turnS_ok o.h
          split
          · exact wN_ok this (Nat.le_succ _) (fun z e => by injection e with e; rw [← e]; exact this.nu) fun _ => this.pd.mono (Nat.le_succ _)
          · exact this.mono (Nat.le_succ _)
        · split
          · exact wN_ok o.h (Nat.le_succ _) h0 fun _ => hm1
          · split
            · exact percS_ok o
            · split
              · exact wN_ok o.h (Nat.le_succ _) (fun z e => by injection e with e; rw [← e]; exact o.h.kp) fun _ => hm1
              · split
                · exact opnS_ok o
                · split
                  · exact clsS_ok o
                  · exact o.h.mono (Nat.le_succ _)
end Kr
/-! KrQ5: the pile; the stand behind a key; reckoners; rows played. -/
namespace Kr
def pilS (m : Mk) (s : Sd) (a b d : Nm) (c : Nat) : Sd :=
  if isDp c then (match s.ty with
    | some t => wT s (lonT m.pl t c) s.pd
    | none => wT s (begT c) (if s.gv then .pil s.now a b else s.pd))
  else if isOpk c then wN s (opN c a s.now m.pl) true (.pil b d d)
  else if c = 69 then wN s (some s.now) false (.pil s.now a b)
  else if c = 88 then wN s (some a) true (.pil s.now b d)
  else if c = 68 then wN s (some a) true (.pil b d s.now)
  else if c = 78 then turnS s
  else if c = 66 then wN s (some nm0) false s.pd
  else if c = 80 then wN s (parN m (some a) s.now) true s.pd
  else if c = 82 then wN s (some s.kp) true (if s.gv || s.ty.isSome then .pil s.now a b else s.pd)
  else s
def behind (m : Mk) (s : Sd) (c : Nat) : Sd :=
  if c = 67 then firstS m s.kp
  else if s.wd = .fault then s
  else if c = 77 then stoS m s
  else if c = 90 then empS s
  else match s.pd with
    | .pil a b d => pilS m s a b d c
    | .ord r => ordS m s r c
structure PilOk (m : Mk) (n : Nat) (s : Sd) (a b d : Nm) : Prop where
  hm : m.ok
  h : s.ok m n
  e : s.pd = .pil a b d
theorem PilOk.its {m : Mk} {n : Nat} {s : Sd} {a b d : Nm} (o : PilOk m n s a b d) : m.mn = .pile ∧ a.ok ∧ b.ok ∧ d.ok := by
  have := o.h.pd
  rw [o.e] at this
  exact this
theorem run_lift {G : Tab} (hc : Core G) (k : Nat) {m : Mk} {n : Nat} {s : Sd} {a b d : Nm} (o : PilOk m n s a b d) : run G (k + 3) 35 [.d s.D] [] = .ok (.d (Pd.pil s.now a b).D) [] := by
  rw [run_fn hc.lifted rfl (by decide)]
  have q1 := run_now hc k o.hm o.h
  have q2 : slD (Pd.pil a b d).D none (some 2) = some (.tup [a.D, b.D]) := rfl
  have q3 : evBin .add (.tup [s.now.D]) (.tup [a.D, b.D]) = some (Pd.pil s.now a b).D := rfl
  simp -implicitDefEqProofs only [bnd_ok, bnd_ex, sts_ok, sts_ex, sqs_nx, sqs_ret, sqs_ex, cnd_t, cnd_f, of_some, asd_ok, asd_ex, e_cst, e_var, rd_eq, rdO_ok, e_glb, glO_ok, e_bin, e_neg, e_cmp, chK_t, chK_f, e_chn, e_and, e_or, and_one, and_more, or_one, or_more, e_not, e_ite, e_call, mkI_some, e_mk, e_mth, e_blt, e_isi, e_bm, e_repl, e_fld, e_ix, e_sl, e_tup, e_lst, a_nil, a_cons, o_none, o_some, t_val, t_cmp, t_chn, t_and, t_or, t_not, tand_nil, tand_cons, tor_nil, tor_cons, g_nam, g_tup, gs_nil, gs_cons, s_expr, s_asg, s_setf, s_aug, augL_ok, s_ret, s_retN, s_ite, s_raise, b_nil, b_cons, fin_nx, fin_ret, fin_ex, o2, lk, looks, leave_d, leave_ex, dats_nil, dats_cons, fld_d, ix_d, call1, call2, call3, call4, call5, setL, List.getElem?_cons_zero, List.getElem?_cons_succ, Option.map_some, Option.bind_some, List.length_cons, List.length_nil, List.set_cons_zero, List.set_cons_succ, Nat.reduceAdd, Nat.reduceLT, Nat.reduceSub, reduceIte, decide_true, decide_false, List.map_cons, List.map_nil, List.cons_append, List.nil_append, List.replicate_succ, List.replicate_zero, Nat.lt_add_one, Nat.zero_lt_succ, Nat.zero_lt_one, fs0, fs1, fs2, fs3, fs4, fs5, fs6, cls_s, im0, im1, in0, in1, cmp_is, cmp_isn, ty_non, la_non, oD_non, Nm_non, cmp_eqs, cmp_nes, beq1, wd_eq, wd_eq2, mn_pile, mn_rank, nn_str, nn_tup, nn_non, f_lifted, q1, sz, Nat.reduceLeDiff, o.e, q2, q3]
theorem run_typed {G : Tab} (hc : Core G) (k : Nat) {m : Mk} {n : Nat} {s : Sd} {a b d : Nm} (o : PilOk m n s a b d) {c : Nat} (c1 : isDp c = true) : run G (k + 4) 36 [.d m.D, .d s.D, .d (.str [c])] [] = .ok (.d (match s.ty with
    | some t => wT s (lonT m.pl t c) s.pd
    | none => wT s (begT c) (if s.gv then .pil s.now a b else s.pd)).D) [] := by
  rw [run_fn hc.typed_on rfl (by decide)]
  have q1 := run_lift hc k o
  cases e : s.ty with
  | some t =>
    have q2 := run_lon hc (k + 2) o.hm (o.h.ty t e) c1
    have q3 := run_wT hc (k + 1) s (lonT m.pl t c) s.pd
    simp -implicitDefEqProofs only [bnd_ok, bnd_ex, sts_ok, sts_ex, sqs_nx, sqs_ret, sqs_ex, cnd_t, cnd_f, of_some, asd_ok, asd_ex, e_cst, e_var, rd_eq, rdO_ok, e_glb, glO_ok, e_bin, e_neg, e_cmp, chK_t, chK_f, e_chn, e_and, e_or, and_one, and_more, or_one, or_more, e_not, e_ite, e_call, mkI_some, e_mk, e_mth, e_blt, e_isi, e_bm, e_repl, e_fld, e_ix, e_sl, e_tup, e_lst, a_nil, a_cons, o_none, o_some, t_val, t_cmp, t_chn, t_and, t_or, t_not, tand_nil, tand_cons, tor_nil, tor_cons, g_nam, g_tup, gs_nil, gs_cons, s_expr, s_asg, s_setf, s_aug, augL_ok, s_ret, s_retN, s_ite, s_raise, b_nil, b_cons, fin_nx, fin_ret, fin_ex, o2, lk, looks, leave_d, leave_ex, dats_nil, dats_cons, fld_d, ix_d, call1, call2, call3, call4, call5, setL, List.getElem?_cons_zero, List.getElem?_cons_succ, Option.map_some, Option.bind_some, List.length_cons, List.length_nil, List.set_cons_zero, List.set_cons_succ, Nat.reduceAdd, Nat.reduceLT, Nat.reduceSub, reduceIte, decide_true, decide_false, List.map_cons, List.map_nil, List.cons_append, List.nil_append, List.replicate_succ, List.replicate_zero, Nat.lt_add_one, Nat.zero_lt_succ, Nat.zero_lt_one, fs0, fs1, fs2, fs3, fs4, fs5, fs6, cls_s, im0, im1, in0, in1, cmp_is, cmp_isn, ty_non, la_non, oD_non, Nm_non, cmp_eqs, cmp_nes, beq1, wd_eq, wd_eq2, mn_pile, mn_rank, nn_str, nn_tup, nn_non, f_typed_on, e, Option.isNone, Bool.not_false, tyD, q2, q3]
  | none =>
    have q2 := run_beg hc (k + 2) c
    cases g : s.gv with
    | true =>
      have q3 := run_wT hc (k + 1) s (begT c) (.pil s.now a b)
      rw [if_pos rfl]
      simp -implicitDefEqProofs only [bnd_ok, bnd_ex, sts_ok, sts_ex, sqs_nx, sqs_ret, sqs_ex, cnd_t, cnd_f, of_some, asd_ok, asd_ex, e_cst, e_var, rd_eq, rdO_ok, e_glb, glO_ok, e_bin, e_neg, e_cmp, chK_t, chK_f, e_chn, e_and, e_or, and_one, and_more, or_one, or_more, e_not, e_ite, e_call, mkI_some, e_mk, e_mth, e_blt, e_isi, e_bm, e_repl, e_fld, e_ix, e_sl, e_tup, e_lst, a_nil, a_cons, o_none, o_some, t_val, t_cmp, t_chn, t_and, t_or, t_not, tand_nil, tand_cons, tor_nil, tor_cons, g_nam, g_tup, gs_nil, gs_cons, s_expr, s_asg, s_setf, s_aug, augL_ok, s_ret, s_retN, s_ite, s_raise, b_nil, b_cons, fin_nx, fin_ret, fin_ex, o2, lk, looks, leave_d, leave_ex, dats_nil, dats_cons, fld_d, ix_d, call1, call2, call3, call4, call5, setL, List.getElem?_cons_zero, List.getElem?_cons_succ, Option.map_some, Option.bind_some, List.length_cons, List.length_nil, List.set_cons_zero, List.set_cons_succ, Nat.reduceAdd, Nat.reduceLT, Nat.reduceSub, reduceIte, decide_true, decide_false, List.map_cons, List.map_nil, List.cons_append, List.nil_append, List.replicate_succ, List.replicate_zero, Nat.lt_add_one, Nat.zero_lt_succ, Nat.zero_lt_one, fs0, fs1, fs2, fs3, fs4, fs5, fs6, cls_s, im0, im1, in0, in1, cmp_is, cmp_isn, ty_non, la_non, oD_non, Nm_non, cmp_eqs, cmp_nes, beq1, wd_eq, wd_eq2, mn_pile, mn_rank, nn_str, nn_tup, nn_non, f_typed_on, e, Option.isNone, Bool.not_true, g, tru_bl, q1, q2, q3]
    | false =>
      have q3 := run_wT hc (k + 1) s (begT c) s.pd
      rw [if_neg Bool.false_ne_true]
      simp -implicitDefEqProofs only [bnd_ok, bnd_ex, sts_ok, sts_ex, sqs_nx, sqs_ret, sqs_ex, cnd_t, cnd_f, of_some, asd_ok, asd_ex, e_cst, e_var, rd_eq, rdO_ok, e_glb, glO_ok, e_bin, e_neg, e_cmp, chK_t, chK_f, e_chn, e_and, e_or, and_one, and_more, or_one, or_more, e_not, e_ite, e_call, mkI_some, e_mk, e_mth, e_blt, e_isi, e_bm, e_repl, e_fld, e_ix, e_sl, e_tup, e_lst, a_nil, a_cons, o_none, o_some, t_val, t_cmp, t_chn, t_and, t_or, t_not, tand_nil, tand_cons, tor_nil, tor_cons, g_nam, g_tup, gs_nil, gs_cons, s_expr, s_asg, s_setf, s_aug, augL_ok, s_ret, s_retN, s_ite, s_raise, b_nil, b_cons, fin_nx, fin_ret, fin_ex, o2, lk, looks, leave_d, leave_ex, dats_nil, dats_cons, fld_d, ix_d, call1, call2, call3, call4, call5, setL, List.getElem?_cons_zero, List.getElem?_cons_succ, Option.map_some, Option.bind_some, List.length_cons, List.length_nil, List.set_cons_zero, List.set_cons_succ, Nat.reduceAdd, Nat.reduceLT, Nat.reduceSub, reduceIte, decide_true, decide_false, List.map_cons, List.map_nil, List.cons_append, List.nil_append, List.replicate_succ, List.replicate_zero, Nat.lt_add_one, Nat.zero_lt_succ, Nat.zero_lt_one, fs0, fs1, fs2, fs3, fs4, fs5, fs6, cls_s, im0, im1, in0, in1, cmp_is, cmp_isn, ty_non, la_non, oD_non, Nm_non, cmp_eqs, cmp_nes, beq1, wd_eq, wd_eq2, mn_pile, mn_rank, nn_str, nn_tup, nn_non, f_typed_on, e, Option.isNone, Bool.not_true, g, tru_bl, q1, q2, q3]
theorem run_rec {G : Tab} (hc : Core G) (k : Nat) {m : Mk} {n : Nat} {s : Sd} {a b d : Nm} (o : PilOk m n s a b d) : run G (k + 4) 37 [.d s.D] [] = .ok (.d (wN s (some s.kp) true (if s.gv || s.ty.isSome then .pil s.now a b else s.pd)).D) [] := by
  rw [run_fn hc.recalled rfl (by decide)]
  have q1 := run_lift hc k o
  have q2 := run_wN hc k s (some s.kp) true (.pil s.now a b)
  have q3 := run_wN hc k s (some s.kp) true s.pd
  rw [show oD (some s.kp) = s.kp.D from rfl] at q2 q3
  cases g : s.gv with
  | true =>
    rw [Bool.true_or, if_pos rfl]
    simp -implicitDefEqProofs only [bnd_ok, bnd_ex, sts_ok, sts_ex, sqs_nx, sqs_ret, sqs_ex, cnd_t, cnd_f, of_some, asd_ok, asd_ex, e_cst, e_var, rd_eq, rdO_ok, e_glb, glO_ok, e_bin, e_neg, e_cmp, chK_t, chK_f, e_chn, e_and, e_or, and_one, and_more, or_one, or_more, e_not, e_ite, e_call, mkI_some, e_mk, e_mth, e_blt, e_isi, e_bm, e_repl, e_fld, e_ix, e_sl, e_tup, e_lst, a_nil, a_cons, o_none, o_some, t_val, t_cmp, t_chn, t_and, t_or, t_not, tand_nil, tand_cons, tor_nil, tor_cons, g_nam, g_tup, gs_nil, gs_cons, s_expr, s_asg, s_setf, s_aug, augL_ok, s_ret, s_retN, s_ite, s_raise, b_nil, b_cons, fin_nx, fin_ret, fin_ex, o2, lk, looks, leave_d, leave_ex, dats_nil, dats_cons, fld_d, ix_d, call1, call2, call3, call4, call5, setL, List.getElem?_cons_zero, List.getElem?_cons_succ, Option.map_some, Option.bind_some, List.length_cons, List.length_nil, List.set_cons_zero, List.set_cons_succ, Nat.reduceAdd, Nat.reduceLT, Nat.reduceSub, reduceIte, decide_true, decide_false, List.map_cons, List.map_nil, List.cons_append, List.nil_append, List.replicate_succ, List.replicate_zero, Nat.lt_add_one, Nat.zero_lt_succ, Nat.zero_lt_one, fs0, fs1, fs2, fs3, fs4, fs5, fs6, cls_s, im0, im1, in0, in1, cmp_is, cmp_isn, ty_non, la_non, oD_non, Nm_non, cmp_eqs, cmp_nes, beq1, wd_eq, wd_eq2, mn_pile, mn_rank, nn_str, nn_tup, nn_non, f_recalled, g, tru_bl, q1, q2]
  | false =>
    rw [Bool.false_or]
    cases e : s.ty with
    | some t =>
      rw [Option.isSome, if_pos rfl]
      simp -implicitDefEqProofs only [bnd_ok, bnd_ex, sts_ok, sts_ex, sqs_nx, sqs_ret, sqs_ex, cnd_t, cnd_f, of_some, asd_ok, asd_ex, e_cst, e_var, rd_eq, rdO_ok, e_glb, glO_ok, e_bin, e_neg, e_cmp, chK_t, chK_f, e_chn, e_and, e_or, and_one, and_more, or_one, or_more, e_not, e_ite, e_call, mkI_some, e_mk, e_mth, e_blt, e_isi, e_bm, e_repl, e_fld, e_ix, e_sl, e_tup, e_lst, a_nil, a_cons, o_none, o_some, t_val, t_cmp, t_chn, t_and, t_or, t_not, tand_nil, tand_cons, tor_nil, tor_cons, g_nam, g_tup, gs_nil, gs_cons, s_expr, s_asg, s_setf, s_aug, augL_ok, s_ret, s_retN, s_ite, s_raise, b_nil, b_cons, fin_nx, fin_ret, fin_ex, o2, lk, looks, leave_d, leave_ex, dats_nil, dats_cons, fld_d, ix_d, call1, call2, call3, call4, call5, setL, List.getElem?_cons_zero, List.getElem?_cons_succ, Option.map_some, Option.bind_some, List.length_cons, List.length_nil, List.set_cons_zero, List.set_cons_succ, Nat.reduceAdd, Nat.reduceLT, Nat.reduceSub, reduceIte, decide_true, decide_false, List.map_cons, List.map_nil, List.cons_append, List.nil_append, List.replicate_succ, List.replicate_zero, Nat.lt_add_one, Nat.zero_lt_succ, Nat.zero_lt_one, fs0, fs1, fs2, fs3, fs4, fs5, fs6, cls_s, im0, im1, in0, in1, cmp_is, cmp_isn, ty_non, la_non, oD_non, Nm_non, cmp_eqs, cmp_nes, beq1, wd_eq, wd_eq2, mn_pile, mn_rank, nn_str, nn_tup, nn_non, f_recalled, g, tru_bl, e, Option.isNone, Bool.not_false, q1, q2]
    | none =>
      rw [Option.isSome, if_neg Bool.false_ne_true]
      simp -implicitDefEqProofs only [bnd_ok, bnd_ex, sts_ok, sts_ex, sqs_nx, sqs_ret, sqs_ex, cnd_t, cnd_f, of_some, asd_ok, asd_ex, e_cst, e_var, rd_eq, rdO_ok, e_glb, glO_ok, e_bin, e_neg, e_cmp, chK_t, chK_f, e_chn, e_and, e_or, and_one, and_more, or_one, or_more, e_not, e_ite, e_call, mkI_some, e_mk, e_mth, e_blt, e_isi, e_bm, e_repl, e_fld, e_ix, e_sl, e_tup, e_lst, a_nil, a_cons, o_none, o_some, t_val, t_cmp, t_chn, t_and, t_or, t_not, tand_nil, tand_cons, tor_nil, tor_cons, g_nam, g_tup, gs_nil, gs_cons, s_expr, s_asg, s_setf, s_aug, augL_ok, s_ret, s_retN, s_ite, s_raise, b_nil, b_cons, fin_nx, fin_ret, fin_ex, o2, lk, looks, leave_d, leave_ex, dats_nil, dats_cons, fld_d, ix_d, call1, call2, call3, call4, call5, setL, List.getElem?_cons_zero, List.getElem?_cons_succ, Option.map_some, Option.bind_some, List.length_cons, List.length_nil, List.set_cons_zero, List.set_cons_succ, Nat.reduceAdd, Nat.reduceLT, Nat.reduceSub, reduceIte, decide_true, decide_false, List.map_cons, List.map_nil, List.cons_append, List.nil_append, List.replicate_succ, List.replicate_zero, Nat.lt_add_one, Nat.zero_lt_succ, Nat.zero_lt_one, fs0, fs1, fs2, fs3, fs4, fs5, fs6, cls_s, im0, im1, in0, in1, cmp_is, cmp_isn, ty_non, la_non, oD_non, Nm_non, cmp_eqs, cmp_nes, beq1, wd_eq, wd_eq2, mn_pile, mn_rank, nn_str, nn_tup, nn_non, f_recalled, g, tru_bl, e, Option.isNone, Bool.not_true, q1, q3]
theorem run_pil {G : Tab} (hc : Core G) (k : Nat) {m : Mk} {n : Nat} {s : Sd} {a b d : Nm} (o : PilOk m n s a b d) {c : Nat} : run G (k + 5) 38 [.d m.D, .d s.D, .d (.str [c])] [] = .ok (.d (pilS m s a b d c).D) [] := by
  rw [run_fn hc.piled rfl (by decide)]
  have hi := o.its
  have hno := o.h.now_ok o.hm
  have q1 := run_now hc (k + 2) o.hm o.h
  have w5 := run_wN hc (k + 1) s
  have e0 : oD (some nm0) = .tup [.int 0, .int 0] := rfl
  have pD : (Pd.pil a b d).D = .tup [a.D, b.D, d.D] := rfl
  have h0 : evB G (run G (k + 4)) f_piled.body ([W.d m.D, .d s.D, .d (.str [c])].map some ++ List.replicate (f_piled.ns - f_piled.np) none) [] = evB G (run G (k + 4)) (match f_piled.body with | .cons _ t => t | t => t) [some (.d m.D), some (.d s.D), some (.d (.str [c])), some (.d a.D), some (.d b.D), some (.d d.D)] [] := by
    simp only [f_piled]
    rw [b_cons]
    simp -implicitDefEqProofs only [bnd_ok, bnd_ex, sts_ok, sts_ex, sqs_nx, sqs_ret, sqs_ex, cnd_t, cnd_f, of_some, asd_ok, asd_ex, e_cst, e_var, rd_eq, rdO_ok, e_glb, glO_ok, e_bin, e_neg, e_cmp, chK_t, chK_f, e_chn, e_and, e_or, and_one, and_more, or_one, or_more, e_not, e_ite, e_call, mkI_some, e_mk, e_mth, e_blt, e_isi, e_bm, e_repl, e_fld, e_ix, e_sl, e_tup, e_lst, a_nil, a_cons, o_none, o_some, t_val, t_cmp, t_chn, t_and, t_or, t_not, tand_nil, tand_cons, tor_nil, tor_cons, g_nam, g_tup, gs_nil, gs_cons, s_expr, s_asg, s_setf, s_aug, augL_ok, s_ret, s_retN, s_ite, s_raise, b_nil, b_cons, fin_nx, fin_ret, fin_ex, o2, lk, looks, leave_d, leave_ex, dats_nil, dats_cons, fld_d, ix_d, call1, call2, call3, call4, call5, setL, List.getElem?_cons_zero, List.getElem?_cons_succ, Option.map_some, Option.bind_some, List.length_cons, List.length_nil, List.set_cons_zero, List.set_cons_succ, Nat.reduceAdd, Nat.reduceLT, Nat.reduceSub, reduceIte, decide_true, decide_false, List.map_cons, List.map_nil, List.cons_append, List.nil_append, List.replicate_succ, List.replicate_zero, Nat.lt_add_one, Nat.zero_lt_succ, Nat.zero_lt_one, fs3, o.e, pD]
  rw [h0]
  unfold pilS
  cases c1 : isDp c with
  | true =>
    rw [if_pos rfl]
    have q2 := run_typed hc k o c1
    unfold isDp at c1
    simp -implicitDefEqProofs only [bnd_ok, bnd_ex, sts_ok, sts_ex, sqs_nx, sqs_ret, sqs_ex, cnd_t, cnd_f, of_some, asd_ok, asd_ex, e_cst, e_var, rd_eq, rdO_ok, e_glb, glO_ok, e_bin, e_neg, e_cmp, chK_t, chK_f, e_chn, e_and, e_or, and_one, and_more, or_one, or_more, e_not, e_ite, e_call, mkI_some, e_mk, e_mth, e_blt, e_isi, e_bm, e_repl, e_fld, e_ix, e_sl, e_tup, e_lst, a_nil, a_cons, o_none, o_some, t_val, t_cmp, t_chn, t_and, t_or, t_not, tand_nil, tand_cons, tor_nil, tor_cons, g_nam, g_tup, gs_nil, gs_cons, s_expr, s_asg, s_setf, s_aug, augL_ok, s_ret, s_retN, s_ite, s_raise, b_nil, b_cons, fin_nx, fin_ret, fin_ex, o2, lk, looks, leave_d, leave_ex, dats_nil, dats_cons, fld_d, ix_d, call1, call2, call3, call4, call5, setL, List.getElem?_cons_zero, List.getElem?_cons_succ, Option.map_some, Option.bind_some, List.length_cons, List.length_nil, List.set_cons_zero, List.set_cons_succ, Nat.reduceAdd, Nat.reduceLT, Nat.reduceSub, reduceIte, decide_true, decide_false, List.map_cons, List.map_nil, List.cons_append, List.nil_append, List.replicate_succ, List.replicate_zero, Nat.lt_add_one, Nat.zero_lt_succ, Nat.zero_lt_one, fs0, fs1, fs2, fs3, fs4, fs5, fs6, cls_s, im0, im1, in0, in1, cmp_is, cmp_isn, ty_non, la_non, oD_non, Nm_non, cmp_eqs, cmp_nes, beq1, wd_eq, wd_eq2, mn_pile, mn_rank, nn_str, nn_tup, nn_non, f_piled, in_str, c1, q2]
  | false =>
    rw [if_neg Bool.false_ne_true]
    unfold isDp at c1
    cases c2 : isOpk c with
    | true =>
      rw [if_pos rfl]
      unfold isOpk at c2
      have q2 := run_op hc (k + 1) (o := c) o.hm hi.2.1 hno
      have q3 := w5 (opN c a s.now m.pl) true (.pil b d d)
      rw [show (Pd.pil b d d).D = .tup [b.D, d.D, d.D] from rfl] at q3
      simp -implicitDefEqProofs only [bnd_ok, bnd_ex, sts_ok, sts_ex, sqs_nx, sqs_ret, sqs_ex, cnd_t, cnd_f, of_some, asd_ok, asd_ex, e_cst, e_var, rd_eq, rdO_ok, e_glb, glO_ok, e_bin, e_neg, e_cmp, chK_t, chK_f, e_chn, e_and, e_or, and_one, and_more, or_one, or_more, e_not, e_ite, e_call, mkI_some, e_mk, e_mth, e_blt, e_isi, e_bm, e_repl, e_fld, e_ix, e_sl, e_tup, e_lst, a_nil, a_cons, o_none, o_some, t_val, t_cmp, t_chn, t_and, t_or, t_not, tand_nil, tand_cons, tor_nil, tor_cons, g_nam, g_tup, gs_nil, gs_cons, s_expr, s_asg, s_setf, s_aug, augL_ok, s_ret, s_retN, s_ite, s_raise, b_nil, b_cons, fin_nx, fin_ret, fin_ex, o2, lk, looks, leave_d, leave_ex, dats_nil, dats_cons, fld_d, ix_d, call1, call2, call3, call4, call5, setL, List.getElem?_cons_zero, List.getElem?_cons_succ, Option.map_some, Option.bind_some, List.length_cons, List.length_nil, List.set_cons_zero, List.set_cons_succ, Nat.reduceAdd, Nat.reduceLT, Nat.reduceSub, reduceIte, decide_true, decide_false, List.map_cons, List.map_nil, List.cons_append, List.nil_append, List.replicate_succ, List.replicate_zero, Nat.lt_add_one, Nat.zero_lt_succ, Nat.zero_lt_one, fs0, fs1, fs2, fs3, fs4, fs5, fs6, cls_s, im0, im1, in0, in1, cmp_is, cmp_isn, ty_non, la_non, oD_non, Nm_non, cmp_eqs, cmp_nes, beq1, wd_eq, wd_eq2, mn_pile, mn_rank, nn_str, nn_tup, nn_non, f_piled, in_str, c1, c2, q1, q2, sz, Nat.reduceLeDiff, q3]
    | false =>
      rw [if_neg Bool.false_ne_true]
      unfold isOpk at c2
      by_cases c3 : c = 69
      · rw [if_pos c3]
        have q2 := run_lift hc (k + 1) o
        have q3 := w5 (some s.now) false (.pil s.now a b)
        rw [show oD (some s.now) = s.now.D from rfl] at q3
        simp -implicitDefEqProofs only [bnd_ok, bnd_ex, sts_ok, sts_ex, sqs_nx, sqs_ret, sqs_ex, cnd_t, cnd_f, of_some, asd_ok, asd_ex, e_cst, e_var, rd_eq, rdO_ok, e_glb, glO_ok, e_bin, e_neg, e_cmp, chK_t, chK_f, e_chn, e_and, e_or, and_one, and_more, or_one, or_more, e_not, e_ite, e_call, mkI_some, e_mk, e_mth, e_blt, e_isi, e_bm, e_repl, e_fld, e_ix, e_sl, e_tup, e_lst, a_nil, a_cons, o_none, o_some, t_val, t_cmp, t_chn, t_and, t_or, t_not, tand_nil, tand_cons, tor_nil, tor_cons, g_nam, g_tup, gs_nil, gs_cons, s_expr, s_asg, s_setf, s_aug, augL_ok, s_ret, s_retN, s_ite, s_raise, b_nil, b_cons, fin_nx, fin_ret, fin_ex, o2, lk, looks, leave_d, leave_ex, dats_nil, dats_cons, fld_d, ix_d, call1, call2, call3, call4, call5, setL, List.getElem?_cons_zero, List.getElem?_cons_succ, Option.map_some, Option.bind_some, List.length_cons, List.length_nil, List.set_cons_zero, List.set_cons_succ, Nat.reduceAdd, Nat.reduceLT, Nat.reduceSub, reduceIte, decide_true, decide_false, List.map_cons, List.map_nil, List.cons_append, List.nil_append, List.replicate_succ, List.replicate_zero, Nat.lt_add_one, Nat.zero_lt_succ, Nat.zero_lt_one, fs0, fs1, fs2, fs3, fs4, fs5, fs6, cls_s, im0, im1, in0, in1, cmp_is, cmp_isn, ty_non, la_non, oD_non, Nm_non, cmp_eqs, cmp_nes, beq1, wd_eq, wd_eq2, mn_pile, mn_rank, nn_str, nn_tup, nn_non, f_piled, in_str, c1, c2, decide_eq_true c3, q1, q2, q3]
      rw [if_neg c3]
      by_cases c4 : c = 88
      · rw [if_pos c4]
        have q3 := w5 (some a) true (.pil s.now b d)
        rw [show oD (some a) = a.D from rfl, show (Pd.pil s.now b d).D = .tup [s.now.D, b.D, d.D] from rfl] at q3
        simp -implicitDefEqProofs only [bnd_ok, bnd_ex, sts_ok, sts_ex, sqs_nx, sqs_ret, sqs_ex, cnd_t, cnd_f, of_some, asd_ok, asd_ex, e_cst, e_var, rd_eq, rdO_ok, e_glb, glO_ok, e_bin, e_neg, e_cmp, chK_t, chK_f, e_chn, e_and, e_or, and_one, and_more, or_one, or_more, e_not, e_ite, e_call, mkI_some, e_mk, e_mth, e_blt, e_isi, e_bm, e_repl, e_fld, e_ix, e_sl, e_tup, e_lst, a_nil, a_cons, o_none, o_some, t_val, t_cmp, t_chn, t_and, t_or, t_not, tand_nil, tand_cons, tor_nil, tor_cons, g_nam, g_tup, gs_nil, gs_cons, s_expr, s_asg, s_setf, s_aug, augL_ok, s_ret, s_retN, s_ite, s_raise, b_nil, b_cons, fin_nx, fin_ret, fin_ex, o2, lk, looks, leave_d, leave_ex, dats_nil, dats_cons, fld_d, ix_d, call1, call2, call3, call4, call5, setL, List.getElem?_cons_zero, List.getElem?_cons_succ, Option.map_some, Option.bind_some, List.length_cons, List.length_nil, List.set_cons_zero, List.set_cons_succ, Nat.reduceAdd, Nat.reduceLT, Nat.reduceSub, reduceIte, decide_true, decide_false, List.map_cons, List.map_nil, List.cons_append, List.nil_append, List.replicate_succ, List.replicate_zero, Nat.lt_add_one, Nat.zero_lt_succ, Nat.zero_lt_one, fs0, fs1, fs2, fs3, fs4, fs5, fs6, cls_s, im0, im1, in0, in1, cmp_is, cmp_isn, ty_non, la_non, oD_non, Nm_non, cmp_eqs, cmp_nes, beq1, wd_eq, wd_eq2, mn_pile, mn_rank, nn_str, nn_tup, nn_non, f_piled, in_str, c1, c2, decide_eq_false c3, decide_eq_true c4, q1, sz, Nat.reduceLeDiff, q3]
      rw [if_neg c4]
      by_cases c5 : c = 68
      · rw [if_pos c5]
        have q3 := w5 (some a) true (.pil b d s.now)
        rw [show oD (some a) = a.D from rfl, show (Pd.pil b d s.now).D = .tup [b.D, d.D, s.now.D] from rfl] at q3
        simp -implicitDefEqProofs only [bnd_ok, bnd_ex, sts_ok, sts_ex, sqs_nx, sqs_ret, sqs_ex, cnd_t, cnd_f, of_some, asd_ok, asd_ex, e_cst, e_var, rd_eq, rdO_ok, e_glb, glO_ok, e_bin, e_neg, e_cmp, chK_t, chK_f, e_chn, e_and, e_or, and_one, and_more, or_one, or_more, e_not, e_ite, e_call, mkI_some, e_mk, e_mth, e_blt, e_isi, e_bm, e_repl, e_fld, e_ix, e_sl, e_tup, e_lst, a_nil, a_cons, o_none, o_some, t_val, t_cmp, t_chn, t_and, t_or, t_not, tand_nil, tand_cons, tor_nil, tor_cons, g_nam, g_tup, gs_nil, gs_cons, s_expr, s_asg, s_setf, s_aug, augL_ok, s_ret, s_retN, s_ite, s_raise, b_nil, b_cons, fin_nx, fin_ret, fin_ex, o2, lk, looks, leave_d, leave_ex, dats_nil, dats_cons, fld_d, ix_d, call1, call2, call3, call4, call5, setL, List.getElem?_cons_zero, List.getElem?_cons_succ, Option.map_some, Option.bind_some, List.length_cons, List.length_nil, List.set_cons_zero, List.set_cons_succ, Nat.reduceAdd, Nat.reduceLT, Nat.reduceSub, reduceIte, decide_true, decide_false, List.map_cons, List.map_nil, List.cons_append, List.nil_append, List.replicate_succ, List.replicate_zero, Nat.lt_add_one, Nat.zero_lt_succ, Nat.zero_lt_one, fs0, fs1, fs2, fs3, fs4, fs5, fs6, cls_s, im0, im1, in0, in1, cmp_is, cmp_isn, ty_non, la_non, oD_non, Nm_non, cmp_eqs, cmp_nes, beq1, wd_eq, wd_eq2, mn_pile, mn_rank, nn_str, nn_tup, nn_non, f_piled, in_str, c1, c2, decide_eq_false c3, decide_eq_false c4, decide_eq_true c5, q1, sz, Nat.reduceLeDiff, q3]
      rw [if_neg c5]
      by_cases c6 : c = 78
      · rw [if_pos c6]
        have q3 := run_turn hc k o.hm o.h
        simp -implicitDefEqProofs only [bnd_ok, bnd_ex, sts_ok, sts_ex, sqs_nx, sqs_ret, sqs_ex, cnd_t, cnd_f, of_some, asd_ok, asd_ex, e_cst, e_var, rd_eq, rdO_ok, e_glb, glO_ok, e_bin, e_neg, e_cmp, chK_t, chK_f, e_chn, e_and, e_or, and_one, and_more, or_one, or_more, e_not, e_ite, e_call, mkI_some, e_mk, e_mth, e_blt, e_isi, e_bm, e_repl, e_fld, e_ix, e_sl, e_tup, e_lst, a_nil, a_cons, o_none, o_some, t_val, t_cmp, t_chn, t_and, t_or, t_not, tand_nil, tand_cons, tor_nil, tor_cons, g_nam, g_tup, gs_nil, gs_cons, s_expr, s_asg, s_setf, s_aug, augL_ok, s_ret, s_retN, s_ite, s_raise, b_nil, b_cons, fin_nx, fin_ret, fin_ex, o2, lk, looks, leave_d, leave_ex, dats_nil, dats_cons, fld_d, ix_d, call1, call2, call3, call4, call5, setL, List.getElem?_cons_zero, List.getElem?_cons_succ, Option.map_some, Option.bind_some, List.length_cons, List.length_nil, List.set_cons_zero, List.set_cons_succ, Nat.reduceAdd, Nat.reduceLT, Nat.reduceSub, reduceIte, decide_true, decide_false, List.map_cons, List.map_nil, List.cons_append, List.nil_append, List.replicate_succ, List.replicate_zero, Nat.lt_add_one, Nat.zero_lt_succ, Nat.zero_lt_one, fs0, fs1, fs2, fs3, fs4, fs5, fs6, cls_s, im0, im1, in0, in1, cmp_is, cmp_isn, ty_non, la_non, oD_non, Nm_non, cmp_eqs, cmp_nes, beq1, wd_eq, wd_eq2, mn_pile, mn_rank, nn_str, nn_tup, nn_non, f_piled, in_str, c1, c2, decide_eq_false c3, decide_eq_false c4, decide_eq_false c5, decide_eq_true c6, q3]
      rw [if_neg c6]
      by_cases c7 : c = 66
      · rw [if_pos c7]
        have q3 := w5 (some nm0) false s.pd
        rw [e0] at q3
        simp -implicitDefEqProofs only [bnd_ok, bnd_ex, sts_ok, sts_ex, sqs_nx, sqs_ret, sqs_ex, cnd_t, cnd_f, of_some, asd_ok, asd_ex, e_cst, e_var, rd_eq, rdO_ok, e_glb, glO_ok, e_bin, e_neg, e_cmp, chK_t, chK_f, e_chn, e_and, e_or, and_one, and_more, or_one, or_more, e_not, e_ite, e_call, mkI_some, e_mk, e_mth, e_blt, e_isi, e_bm, e_repl, e_fld, e_ix, e_sl, e_tup, e_lst, a_nil, a_cons, o_none, o_some, t_val, t_cmp, t_chn, t_and, t_or, t_not, tand_nil, tand_cons, tor_nil, tor_cons, g_nam, g_tup, gs_nil, gs_cons, s_expr, s_asg, s_setf, s_aug, augL_ok, s_ret, s_retN, s_ite, s_raise, b_nil, b_cons, fin_nx, fin_ret, fin_ex, o2, lk, looks, leave_d, leave_ex, dats_nil, dats_cons, fld_d, ix_d, call1, call2, call3, call4, call5, setL, List.getElem?_cons_zero, List.getElem?_cons_succ, Option.map_some, Option.bind_some, List.length_cons, List.length_nil, List.set_cons_zero, List.set_cons_succ, Nat.reduceAdd, Nat.reduceLT, Nat.reduceSub, reduceIte, decide_true, decide_false, List.map_cons, List.map_nil, List.cons_append, List.nil_append, List.replicate_succ, List.replicate_zero, Nat.lt_add_one, Nat.zero_lt_succ, Nat.zero_lt_one, fs0, fs1, fs2, fs3, fs4, fs5, fs6, cls_s, im0, im1, in0, in1, cmp_is, cmp_isn, ty_non, la_non, oD_non, Nm_non, cmp_eqs, cmp_nes, beq1, wd_eq, wd_eq2, mn_pile, mn_rank, nn_str, nn_tup, nn_non, f_piled, in_str, c1, c2, decide_eq_false c3, decide_eq_false c4, decide_eq_false c5, decide_eq_false c6, decide_eq_true c7, hc.glN, q3]
      rw [if_neg c7]
      by_cases c8 : c = 80
      · rw [if_pos c8]
        have q2 := run_par hc k o.hm (x := some a) (y := s.now) (fun z e => by injection e with e; rw [← e]; exact hi.2.1) hno
        rw [show oD (some a) = a.D from rfl] at q2
        have q3 := w5 (parN m (some a) s.now) true s.pd
        simp -implicitDefEqProofs only [bnd_ok, bnd_ex, sts_ok, sts_ex, sqs_nx, sqs_ret, sqs_ex, cnd_t, cnd_f, of_some, asd_ok, asd_ex, e_cst, e_var, rd_eq, rdO_ok, e_glb, glO_ok, e_bin, e_neg, e_cmp, chK_t, chK_f, e_chn, e_and, e_or, and_one, and_more, or_one, or_more, e_not, e_ite, e_call, mkI_some, e_mk, e_mth, e_blt, e_isi, e_bm, e_repl, e_fld, e_ix, e_sl, e_tup, e_lst, a_nil, a_cons, o_none, o_some, t_val, t_cmp, t_chn, t_and, t_or, t_not, tand_nil, tand_cons, tor_nil, tor_cons, g_nam, g_tup, gs_nil, gs_cons, s_expr, s_asg, s_setf, s_aug, augL_ok, s_ret, s_retN, s_ite, s_raise, b_nil, b_cons, fin_nx, fin_ret, fin_ex, o2, lk, looks, leave_d, leave_ex, dats_nil, dats_cons, fld_d, ix_d, call1, call2, call3, call4, call5, setL, List.getElem?_cons_zero, List.getElem?_cons_succ, Option.map_some, Option.bind_some, List.length_cons, List.length_nil, List.set_cons_zero, List.set_cons_succ, Nat.reduceAdd, Nat.reduceLT, Nat.reduceSub, reduceIte, decide_true, decide_false, List.map_cons, List.map_nil, List.cons_append, List.nil_append, List.replicate_succ, List.replicate_zero, Nat.lt_add_one, Nat.zero_lt_succ, Nat.zero_lt_one, fs0, fs1, fs2, fs3, fs4, fs5, fs6, cls_s, im0, im1, in0, in1, cmp_is, cmp_isn, ty_non, la_non, oD_non, Nm_non, cmp_eqs, cmp_nes, beq1, wd_eq, wd_eq2, mn_pile, mn_rank, nn_str, nn_tup, nn_non, f_piled, in_str, c1, c2, decide_eq_false c3, decide_eq_false c4, decide_eq_false c5, decide_eq_false c6, decide_eq_false c7, decide_eq_true c8, q1, q2, q3]
      rw [if_neg c8]
      by_cases c9 : c = 82
      · rw [if_pos c9]
        have q3 := run_rec hc k o
        simp -implicitDefEqProofs only [bnd_ok, bnd_ex, sts_ok, sts_ex, sqs_nx, sqs_ret, sqs_ex, cnd_t, cnd_f, of_some, asd_ok, asd_ex, e_cst, e_var, rd_eq, rdO_ok, e_glb, glO_ok, e_bin, e_neg, e_cmp, chK_t, chK_f, e_chn, e_and, e_or, and_one, and_more, or_one, or_more, e_not, e_ite, e_call, mkI_some, e_mk, e_mth, e_blt, e_isi, e_bm, e_repl, e_fld, e_ix, e_sl, e_tup, e_lst, a_nil, a_cons, o_none, o_some, t_val, t_cmp, t_chn, t_and, t_or, t_not, tand_nil, tand_cons, tor_nil, tor_cons, g_nam, g_tup, gs_nil, gs_cons, s_expr, s_asg, s_setf, s_aug, augL_ok, s_ret, s_retN, s_ite, s_raise, b_nil, b_cons, fin_nx, fin_ret, fin_ex, o2, lk, looks, leave_d, leave_ex, dats_nil, dats_cons, fld_d, ix_d, call1, call2, call3, call4, call5, setL, List.getElem?_cons_zero, List.getElem?_cons_succ, Option.map_some, Option.bind_some, List.length_cons, List.length_nil, List.set_cons_zero, List.set_cons_succ, Nat.reduceAdd, Nat.reduceLT, Nat.reduceSub, reduceIte, decide_true, decide_false, List.map_cons, List.map_nil, List.cons_append, List.nil_append, List.replicate_succ, List.replicate_zero, Nat.lt_add_one, Nat.zero_lt_succ, Nat.zero_lt_one, fs0, fs1, fs2, fs3, fs4, fs5, fs6, cls_s, im0, im1, in0, in1, cmp_is, cmp_isn, ty_non, la_non, oD_non, Nm_non, cmp_eqs, cmp_nes, beq1, wd_eq, wd_eq2, mn_pile, mn_rank, nn_str, nn_tup, nn_non, f_piled, in_str, c1, c2, decide_eq_false c3, decide_eq_false c4, decide_eq_false c5, decide_eq_false c6, decide_eq_false c7, decide_eq_false c8, decide_eq_true c9, q3]
      rw [if_neg c9]
      simp -implicitDefEqProofs only [bnd_ok, bnd_ex, sts_ok, sts_ex, sqs_nx, sqs_ret, sqs_ex, cnd_t, cnd_f, of_some, asd_ok, asd_ex, e_cst, e_var, rd_eq, rdO_ok, e_glb, glO_ok, e_bin, e_neg, e_cmp, chK_t, chK_f, e_chn, e_and, e_or, and_one, and_more, or_one, or_more, e_not, e_ite, e_call, mkI_some, e_mk, e_mth, e_blt, e_isi, e_bm, e_repl, e_fld, e_ix, e_sl, e_tup, e_lst, a_nil, a_cons, o_none, o_some, t_val, t_cmp, t_chn, t_and, t_or, t_not, tand_nil, tand_cons, tor_nil, tor_cons, g_nam, g_tup, gs_nil, gs_cons, s_expr, s_asg, s_setf, s_aug, augL_ok, s_ret, s_retN, s_ite, s_raise, b_nil, b_cons, fin_nx, fin_ret, fin_ex, o2, lk, looks, leave_d, leave_ex, dats_nil, dats_cons, fld_d, ix_d, call1, call2, call3, call4, call5, setL, List.getElem?_cons_zero, List.getElem?_cons_succ, Option.map_some, Option.bind_some, List.length_cons, List.length_nil, List.set_cons_zero, List.set_cons_succ, Nat.reduceAdd, Nat.reduceLT, Nat.reduceSub, reduceIte, decide_true, decide_false, List.map_cons, List.map_nil, List.cons_append, List.nil_append, List.replicate_succ, List.replicate_zero, Nat.lt_add_one, Nat.zero_lt_succ, Nat.zero_lt_one, fs0, fs1, fs2, fs3, fs4, fs5, fs6, cls_s, im0, im1, in0, in1, cmp_is, cmp_isn, ty_non, la_non, oD_non, Nm_non, cmp_eqs, cmp_nes, beq1, wd_eq, wd_eq2, mn_pile, mn_rank, nn_str, nn_tup, nn_non, f_piled, in_str, c1, c2, decide_eq_false c3, decide_eq_false c4, decide_eq_false c5, decide_eq_false c6, decide_eq_false c7, decide_eq_false c8, decide_eq_false c9]
theorem pilS_ok {m : Mk} {n : Nat} {s : Sd} {a b d : Nm} (o : PilOk m n s a b d) {c : Nat} : (pilS m s a b d c).ok m (n + 1) := by
  have hi := o.its
  have hno := o.h.now_ok o.hm
  have hm1 : s.pd.ok m (n + 1) := o.h.pd.mono (Nat.le_succ _)
  have sm : ∀ {x : Nm}, x.ok → ∀ z, some x = some z → z.ok := fun hx z e => by injection e with e; rw [← e]; exact hx
  have lf : (Pd.pil s.now a b).ok m (n + 1) := ⟨hi.1, hno, hi.2.1, hi.2.2.1⟩
  unfold pilS
  split
  · rename_i c1
    split
    · rename_i t e
      exact wT_ok o.h (lonT_ok (o.h.ty t e) c1) hm1
    · refine wT_ok o.h (begT_ok o.hm.1 c1) ?_
      split
      · exact lf
      · exact hm1
  · split
    · exact wN_ok o.h (Nat.le_succ _) (fun z e => opN_ok o.hm e) fun _ => ⟨hi.1, hi.2.2.1, hi.2.2.2, hi.2.2.2⟩
    · split
      · exact wN_ok o.h (Nat.le_succ _) (sm hno) fun _ => lf
      · split
        · exact wN_ok o.h (Nat.le_succ _) (sm hi.2.1) fun _ => ⟨hi.1, hno, hi.2.2.1, hi.2.2.2⟩
        · split
          · exact wN_ok o.h (Nat.le_succ _) (sm hi.2.1) fun _ => ⟨hi.1, hi.2.2.1, hi.2.2.2, hno⟩
          · split
            · exact (turnS_ok o.h).mono (Nat.le_succ _)
            · split
              · exact wN_ok o.h (Nat.le_succ _) (sm nm0_ok) fun _ => hm1
              · split
                · exact wN_ok o.h (Nat.le_succ _) (fun z e => parN_ok o.hm e) fun _ => hm1
                · split
                  · refine wN_ok o.h (Nat.le_succ _) (sm o.h.kp) fun _ => ?_
                    split
                    · exact lf
                    · exact hm1
                  · exact o.h.mono (Nat.le_succ _)
theorem run_behind {G : Tab} (hc : Core G) (k : Nat) {m : Mk} {n : Nat} {s : Sd} (hm : m.ok) (h : s.ok m n) (hn : n ≤ 10000) (c : Nat) : run G (k + 7) 39 [.d m.D, .d s.D, .d (.str [c])] [] = .ok (.d (behind m s c).D) [] := by
  rw [run_fn hc.behind rfl (by decide)]
  unfold behind
  by_cases c1 : c = 67
  · rw [if_pos c1]
    have q := run_first hc (k + 4) m s.kp
    simp -implicitDefEqProofs only [bnd_ok, bnd_ex, sts_ok, sts_ex, sqs_nx, sqs_ret, sqs_ex, cnd_t, cnd_f, of_some, asd_ok, asd_ex, e_cst, e_var, rd_eq, rdO_ok, e_glb, glO_ok, e_bin, e_neg, e_cmp, chK_t, chK_f, e_chn, e_and, e_or, and_one, and_more, or_one, or_more, e_not, e_ite, e_call, mkI_some, e_mk, e_mth, e_blt, e_isi, e_bm, e_repl, e_fld, e_ix, e_sl, e_tup, e_lst, a_nil, a_cons, o_none, o_some, t_val, t_cmp, t_chn, t_and, t_or, t_not, tand_nil, tand_cons, tor_nil, tor_cons, g_nam, g_tup, gs_nil, gs_cons, s_expr, s_asg, s_setf, s_aug, augL_ok, s_ret, s_retN, s_ite, s_raise, b_nil, b_cons, fin_nx, fin_ret, fin_ex, o2, lk, looks, leave_d, leave_ex, dats_nil, dats_cons, fld_d, ix_d, call1, call2, call3, call4, call5, setL, List.getElem?_cons_zero, List.getElem?_cons_succ, Option.map_some, Option.bind_some, List.length_cons, List.length_nil, List.set_cons_zero, List.set_cons_succ, Nat.reduceAdd, Nat.reduceLT, Nat.reduceSub, reduceIte, decide_true, decide_false, List.map_cons, List.map_nil, List.cons_append, List.nil_append, List.replicate_succ, List.replicate_zero, Nat.lt_add_one, Nat.zero_lt_succ, Nat.zero_lt_one, fs0, fs1, fs2, fs3, fs4, fs5, fs6, cls_s, im0, im1, in0, in1, cmp_is, cmp_isn, ty_non, la_non, oD_non, Nm_non, cmp_eqs, cmp_nes, beq1, wd_eq, wd_eq2, mn_pile, mn_rank, nn_str, nn_tup, nn_non, f_stand_behind, decide_eq_true c1, q]
  rw [if_neg c1]
  by_cases c2 : s.wd = .fault
  · rw [if_pos c2]
    simp -implicitDefEqProofs only [bnd_ok, bnd_ex, sts_ok, sts_ex, sqs_nx, sqs_ret, sqs_ex, cnd_t, cnd_f, of_some, asd_ok, asd_ex, e_cst, e_var, rd_eq, rdO_ok, e_glb, glO_ok, e_bin, e_neg, e_cmp, chK_t, chK_f, e_chn, e_and, e_or, and_one, and_more, or_one, or_more, e_not, e_ite, e_call, mkI_some, e_mk, e_mth, e_blt, e_isi, e_bm, e_repl, e_fld, e_ix, e_sl, e_tup, e_lst, a_nil, a_cons, o_none, o_some, t_val, t_cmp, t_chn, t_and, t_or, t_not, tand_nil, tand_cons, tor_nil, tor_cons, g_nam, g_tup, gs_nil, gs_cons, s_expr, s_asg, s_setf, s_aug, augL_ok, s_ret, s_retN, s_ite, s_raise, b_nil, b_cons, fin_nx, fin_ret, fin_ex, o2, lk, looks, leave_d, leave_ex, dats_nil, dats_cons, fld_d, ix_d, call1, call2, call3, call4, call5, setL, List.getElem?_cons_zero, List.getElem?_cons_succ, Option.map_some, Option.bind_some, List.length_cons, List.length_nil, List.set_cons_zero, List.set_cons_succ, Nat.reduceAdd, Nat.reduceLT, Nat.reduceSub, reduceIte, decide_true, decide_false, List.map_cons, List.map_nil, List.cons_append, List.nil_append, List.replicate_succ, List.replicate_zero, Nat.lt_add_one, Nat.zero_lt_succ, Nat.zero_lt_one, fs0, fs1, fs2, fs3, fs4, fs5, fs6, cls_s, im0, im1, in0, in1, cmp_is, cmp_isn, ty_non, la_non, oD_non, Nm_non, cmp_eqs, cmp_nes, beq1, wd_eq, wd_eq2, mn_pile, mn_rank, nn_str, nn_tup, nn_non, f_stand_behind, decide_eq_false c1, decide_eq_true c2]
  rw [if_neg c2]
  by_cases c3 : c = 77
  · rw [if_pos c3]
    have q := run_sto hc (k + 2) hm h
    simp -implicitDefEqProofs only [bnd_ok, bnd_ex, sts_ok, sts_ex, sqs_nx, sqs_ret, sqs_ex, cnd_t, cnd_f, of_some, asd_ok, asd_ex, e_cst, e_var, rd_eq, rdO_ok, e_glb, glO_ok, e_bin, e_neg, e_cmp, chK_t, chK_f, e_chn, e_and, e_or, and_one, and_more, or_one, or_more, e_not, e_ite, e_call, mkI_some, e_mk, e_mth, e_blt, e_isi, e_bm, e_repl, e_fld, e_ix, e_sl, e_tup, e_lst, a_nil, a_cons, o_none, o_some, t_val, t_cmp, t_chn, t_and, t_or, t_not, tand_nil, tand_cons, tor_nil, tor_cons, g_nam, g_tup, gs_nil, gs_cons, s_expr, s_asg, s_setf, s_aug, augL_ok, s_ret, s_retN, s_ite, s_raise, b_nil, b_cons, fin_nx, fin_ret, fin_ex, o2, lk, looks, leave_d, leave_ex, dats_nil, dats_cons, fld_d, ix_d, call1, call2, call3, call4, call5, setL, List.getElem?_cons_zero, List.getElem?_cons_succ, Option.map_some, Option.bind_some, List.length_cons, List.length_nil, List.set_cons_zero, List.set_cons_succ, Nat.reduceAdd, Nat.reduceLT, Nat.reduceSub, reduceIte, decide_true, decide_false, List.map_cons, List.map_nil, List.cons_append, List.nil_append, List.replicate_succ, List.replicate_zero, Nat.lt_add_one, Nat.zero_lt_succ, Nat.zero_lt_one, fs0, fs1, fs2, fs3, fs4, fs5, fs6, cls_s, im0, im1, in0, in1, cmp_is, cmp_isn, ty_non, la_non, oD_non, Nm_non, cmp_eqs, cmp_nes, beq1, wd_eq, wd_eq2, mn_pile, mn_rank, nn_str, nn_tup, nn_non, f_stand_behind, decide_eq_false c1, decide_eq_false c2, decide_eq_true c3, q]
  rw [if_neg c3]
  by_cases c4 : c = 90
  · rw [if_pos c4]
    have q := run_emp hc (k + 4) s
    simp -implicitDefEqProofs only [bnd_ok, bnd_ex, sts_ok, sts_ex, sqs_nx, sqs_ret, sqs_ex, cnd_t, cnd_f, of_some, asd_ok, asd_ex, e_cst, e_var, rd_eq, rdO_ok, e_glb, glO_ok, e_bin, e_neg, e_cmp, chK_t, chK_f, e_chn, e_and, e_or, and_one, and_more, or_one, or_more, e_not, e_ite, e_call, mkI_some, e_mk, e_mth, e_blt, e_isi, e_bm, e_repl, e_fld, e_ix, e_sl, e_tup, e_lst, a_nil, a_cons, o_none, o_some, t_val, t_cmp, t_chn, t_and, t_or, t_not, tand_nil, tand_cons, tor_nil, tor_cons, g_nam, g_tup, gs_nil, gs_cons, s_expr, s_asg, s_setf, s_aug, augL_ok, s_ret, s_retN, s_ite, s_raise, b_nil, b_cons, fin_nx, fin_ret, fin_ex, o2, lk, looks, leave_d, leave_ex, dats_nil, dats_cons, fld_d, ix_d, call1, call2, call3, call4, call5, setL, List.getElem?_cons_zero, List.getElem?_cons_succ, Option.map_some, Option.bind_some, List.length_cons, List.length_nil, List.set_cons_zero, List.set_cons_succ, Nat.reduceAdd, Nat.reduceLT, Nat.reduceSub, reduceIte, decide_true, decide_false, List.map_cons, List.map_nil, List.cons_append, List.nil_append, List.replicate_succ, List.replicate_zero, Nat.lt_add_one, Nat.zero_lt_succ, Nat.zero_lt_one, fs0, fs1, fs2, fs3, fs4, fs5, fs6, cls_s, im0, im1, in0, in1, cmp_is, cmp_isn, ty_non, la_non, oD_non, Nm_non, cmp_eqs, cmp_nes, beq1, wd_eq, wd_eq2, mn_pile, mn_rank, nn_str, nn_tup, nn_non, f_stand_behind, decide_eq_false c1, decide_eq_false c2, decide_eq_false c3, decide_eq_true c4, q]
  rw [if_neg c4]
  have hpd := h.pd
  cases e : s.pd with
  | pil a b d =>
    rw [e] at hpd
    have q := run_pil hc (k + 1) (c := c) ⟨hm, h, e⟩
    simp -implicitDefEqProofs only [bnd_ok, bnd_ex, sts_ok, sts_ex, sqs_nx, sqs_ret, sqs_ex, cnd_t, cnd_f, of_some, asd_ok, asd_ex, e_cst, e_var, rd_eq, rdO_ok, e_glb, glO_ok, e_bin, e_neg, e_cmp, chK_t, chK_f, e_chn, e_and, e_or, and_one, and_more, or_one, or_more, e_not, e_ite, e_call, mkI_some, e_mk, e_mth, e_blt, e_isi, e_bm, e_repl, e_fld, e_ix, e_sl, e_tup, e_lst, a_nil, a_cons, o_none, o_some, t_val, t_cmp, t_chn, t_and, t_or, t_not, tand_nil, tand_cons, tor_nil, tor_cons, g_nam, g_tup, gs_nil, gs_cons, s_expr, s_asg, s_setf, s_aug, augL_ok, s_ret, s_retN, s_ite, s_raise, b_nil, b_cons, fin_nx, fin_ret, fin_ex, o2, lk, looks, leave_d, leave_ex, dats_nil, dats_cons, fld_d, ix_d, call1, call2, call3, call4, call5, setL, List.getElem?_cons_zero, List.getElem?_cons_succ, Option.map_some, Option.bind_some, List.length_cons, List.length_nil, List.set_cons_zero, List.set_cons_succ, Nat.reduceAdd, Nat.reduceLT, Nat.reduceSub, reduceIte, decide_true, decide_false, List.map_cons, List.map_nil, List.cons_append, List.nil_append, List.replicate_succ, List.replicate_zero, Nat.lt_add_one, Nat.zero_lt_succ, Nat.zero_lt_one, fs0, fs1, fs2, fs3, fs4, fs5, fs6, cls_s, im0, im1, in0, in1, cmp_is, cmp_isn, ty_non, la_non, oD_non, Nm_non, cmp_eqs, cmp_nes, beq1, wd_eq, wd_eq2, mn_pile, mn_rank, nn_str, nn_tup, nn_non, f_stand_behind, decide_eq_false c1, decide_eq_false c2, decide_eq_false c3, decide_eq_false c4, decide_eq_true hpd.1, q]
  | ord r =>
    rw [e] at hpd
    have q := run_ord hc k (c := c) ⟨hm, h, e, hn⟩ trivial
    simp -implicitDefEqProofs only [bnd_ok, bnd_ex, sts_ok, sts_ex, sqs_nx, sqs_ret, sqs_ex, cnd_t, cnd_f, of_some, asd_ok, asd_ex, e_cst, e_var, rd_eq, rdO_ok, e_glb, glO_ok, e_bin, e_neg, e_cmp, chK_t, chK_f, e_chn, e_and, e_or, and_one, and_more, or_one, or_more, e_not, e_ite, e_call, mkI_some, e_mk, e_mth, e_blt, e_isi, e_bm, e_repl, e_fld, e_ix, e_sl, e_tup, e_lst, a_nil, a_cons, o_none, o_some, t_val, t_cmp, t_chn, t_and, t_or, t_not, tand_nil, tand_cons, tor_nil, tor_cons, g_nam, g_tup, gs_nil, gs_cons, s_expr, s_asg, s_setf, s_aug, augL_ok, s_ret, s_retN, s_ite, s_raise, b_nil, b_cons, fin_nx, fin_ret, fin_ex, o2, lk, looks, leave_d, leave_ex, dats_nil, dats_cons, fld_d, ix_d, call1, call2, call3, call4, call5, setL, List.getElem?_cons_zero, List.getElem?_cons_succ, Option.map_some, Option.bind_some, List.length_cons, List.length_nil, List.set_cons_zero, List.set_cons_succ, Nat.reduceAdd, Nat.reduceLT, Nat.reduceSub, reduceIte, decide_true, decide_false, List.map_cons, List.map_nil, List.cons_append, List.nil_append, List.replicate_succ, List.replicate_zero, Nat.lt_add_one, Nat.zero_lt_succ, Nat.zero_lt_one, fs0, fs1, fs2, fs3, fs4, fs5, fs6, cls_s, im0, im1, in0, in1, cmp_is, cmp_isn, ty_non, la_non, oD_non, Nm_non, cmp_eqs, cmp_nes, beq1, wd_eq, wd_eq2, mn_pile, mn_rank, nn_str, nn_tup, nn_non, f_stand_behind, decide_eq_false c1, decide_eq_false c2, decide_eq_false c3, decide_eq_false c4, decide_eq_false hpd.1, q]
theorem behind_ok {m : Mk} {n : Nat} {s : Sd} (hm : m.ok) (h : s.ok m n) (hn : n ≤ 10000) {c : Nat} (hcc : c < 128) : (behind m s c).ok m (n + 1) := by
  unfold behind
  split
  · exact firstS_ok m _ h.kp
  · split
    · exact h.mono (Nat.le_succ _)
    · split
      · exact (stoS_ok hm h).mono (Nat.le_succ _)
      · split
        · exact (empS_ok h).mono (Nat.le_succ _)
        · split
          · rename_i e
            exact pilS_ok ⟨hm, h, e⟩
          · rename_i e
            exact ordS_ok ⟨hm, h, e, hn⟩ hcc
end Kr
/-! KrQ6: makes and keys looked at; reckoners; rows played. -/
namespace Kr
def KEYS : Tx := [48, 49, 50, 51, 52, 53, 54, 55, 56, 57, 46, 43, 45, 42, 47, 61, 40, 41, 78, 66, 67, 80, 77, 82, 90, 69, 88, 68]
def isKey (c : Nat) : Bool := KEYS.contains c
theorem isKey_lt {c : Nat} (h : isKey c = true) : c < 128 := by
  unfold isKey KEYS at h
  simp only [List.contains_cons, List.contains_nil, Bool.or_eq_true, beq_iff_eq, Bool.or_false] at h
  omega
structure Looks (G : Tab) : Prop where
  gMn : G.glb 0 = some (.tup [.str [99, 104, 97, 105, 110], .str [114, 97, 110, 107], .str [112, 105, 108, 101]])
  gKe : G.glb 1 = some (.str KEYS)
  is_within : G.fn 0 = some f_is_within
  is_make : G.fn 1 = some f_is_make
  look : G.fn 2 = some f_look
theorem isi_tt (x : List D) : isiD .tuple (.tup x) = some true := rfl
theorem isi_ss (x : Tx) : isiD .str (.str x) = some true := rfl
theorem isi_ii (x : Int) : isiD .int (.int x) = some true := rfl
theorem isi_bi (x : Int) : isiD .bool (.int x) = some false := rfl
theorem isi_mk (m : Mk) : isiD .tuple m.D = some true := rfl
theorem len_mk (m : Mk) : evBi .len [m.D] = some (.int 2) := rfl
theorem in_mn (m : Mn) : evCmp .isin (.str m.tx) (.tup [.str [99, 104, 97, 105, 110], .str [114, 97, 110, 107], .str [112, 105, 108, 101]]) = some true := by cases m <;> rfl
theorem run_within {G : Tab} (hk : Looks G) (k : Nat) (x a b : Int) : run G (k + 1) 0 [.d (.int x), .d (.int a), .d (.int b)] [] = .ok (.d (.bl (decide (a ≤ x) && decide (x ≤ b)))) [] := by
  rw [run_fn hk.is_within rfl (by decide)]
  cases e : decide (a ≤ x) <;> simp -implicitDefEqProofs only [bnd_ok, bnd_ex, sts_ok, sts_ex, sqs_nx, sqs_ret, sqs_ex, cnd_t, cnd_f, of_some, asd_ok, asd_ex, e_cst, e_var, rd_eq, rdO_ok, e_glb, glO_ok, e_bin, e_neg, e_cmp, chK_t, chK_f, e_chn, e_and, e_or, and_one, and_more, or_one, or_more, e_not, e_ite, e_call, mkI_some, e_mk, e_mth, e_blt, e_isi, e_bm, e_repl, e_fld, e_ix, e_sl, e_tup, e_lst, a_nil, a_cons, o_none, o_some, t_val, t_cmp, t_chn, t_and, t_or, t_not, tand_nil, tand_cons, tor_nil, tor_cons, g_nam, g_tup, gs_nil, gs_cons, s_expr, s_asg, s_setf, s_aug, augL_ok, s_ret, s_retN, s_ite, s_raise, b_nil, b_cons, fin_nx, fin_ret, fin_ex, o2, lk, looks, leave_d, leave_ex, dats_nil, dats_cons, fld_d, ix_d, call1, call2, call3, call4, call5, setL, List.getElem?_cons_zero, List.getElem?_cons_succ, Option.map_some, Option.bind_some, List.length_cons, List.length_nil, List.set_cons_zero, List.set_cons_succ, Nat.reduceAdd, Nat.reduceLT, Nat.reduceSub, reduceIte, decide_true, decide_false, List.map_cons, List.map_nil, List.cons_append, List.nil_append, List.replicate_succ, List.replicate_zero, Nat.lt_add_one, Nat.zero_lt_succ, Nat.zero_lt_one, f_is_within, isi_ii, isi_bi, tru_bl, Bool.not_false, cmp_le, e, Bool.true_and, Bool.false_and]
theorem run_look {G : Tab} (hk : Looks G) (k : Nat) {m : Mk} (hm : m.ok) : run G (k + 3) 2 [.d m.D] [] = .ok (.d .non) [] := by
  have q1 := run_within hk k (m.pl : Int) 3 8
  have e1 : (decide ((3 : Int) ≤ (m.pl : Int)) && decide ((m.pl : Int) ≤ 8)) = true := by
    have := hm.1; have := hm.2
    rw [decide_eq_true (by omega), decide_eq_true (by omega)]; rfl
  rw [e1] at q1
  have q2 : run G (k + 2) 1 [.d m.D] [] = .ok (.d (.bl true)) [] := by
    rw [run_fn hk.is_make rfl (by decide)]
    simp -implicitDefEqProofs only [bnd_ok, bnd_ex, sts_ok, sts_ex, sqs_nx, sqs_ret, sqs_ex, cnd_t, cnd_f, of_some, asd_ok, asd_ex, e_cst, e_var, rd_eq, rdO_ok, e_glb, glO_ok, e_bin, e_neg, e_cmp, chK_t, chK_f, e_chn, e_and, e_or, and_one, and_more, or_one, or_more, e_not, e_ite, e_call, mkI_some, e_mk, e_mth, e_blt, e_isi, e_bm, e_repl, e_fld, e_ix, e_sl, e_tup, e_lst, a_nil, a_cons, o_none, o_some, t_val, t_cmp, t_chn, t_and, t_or, t_not, tand_nil, tand_cons, tor_nil, tor_cons, g_nam, g_tup, gs_nil, gs_cons, s_expr, s_asg, s_setf, s_aug, augL_ok, s_ret, s_retN, s_ite, s_raise, b_nil, b_cons, fin_nx, fin_ret, fin_ex, o2, lk, looks, leave_d, leave_ex, dats_nil, dats_cons, fld_d, ix_d, call1, call2, call3, call4, call5, setL, List.getElem?_cons_zero, List.getElem?_cons_succ, Option.map_some, Option.bind_some, List.length_cons, List.length_nil, List.set_cons_zero, List.set_cons_succ, Nat.reduceAdd, Nat.reduceLT, Nat.reduceSub, reduceIte, decide_true, decide_false, List.map_cons, List.map_nil, List.cons_append, List.nil_append, List.replicate_succ, List.replicate_zero, Nat.lt_add_one, Nat.zero_lt_succ, Nat.zero_lt_one, fs0, fs1, fs2, fs3, fs4, fs5, fs6, cls_s, im0, im1, in0, in1, cmp_is, cmp_isn, ty_non, la_non, oD_non, Nm_non, cmp_eqs, cmp_nes, beq1, wd_eq, wd_eq2, mn_pile, mn_rank, nn_str, nn_tup, nn_non, f_is_make, isi_mk, tru_bl, Bool.not_true, len_mk, cmp_nei, show (!((2 : Int) == 2)) = false from rfl, isi_ss, hk.gMn, in_mn, q1]
  rw [run_fn hk.look rfl (by decide)]
  simp -implicitDefEqProofs only [bnd_ok, bnd_ex, sts_ok, sts_ex, sqs_nx, sqs_ret, sqs_ex, cnd_t, cnd_f, of_some, asd_ok, asd_ex, e_cst, e_var, rd_eq, rdO_ok, e_glb, glO_ok, e_bin, e_neg, e_cmp, chK_t, chK_f, e_chn, e_and, e_or, and_one, and_more, or_one, or_more, e_not, e_ite, e_call, mkI_some, e_mk, e_mth, e_blt, e_isi, e_bm, e_repl, e_fld, e_ix, e_sl, e_tup, e_lst, a_nil, a_cons, o_none, o_some, t_val, t_cmp, t_chn, t_and, t_or, t_not, tand_nil, tand_cons, tor_nil, tor_cons, g_nam, g_tup, gs_nil, gs_cons, s_expr, s_asg, s_setf, s_aug, augL_ok, s_ret, s_retN, s_ite, s_raise, b_nil, b_cons, fin_nx, fin_ret, fin_ex, o2, lk, looks, leave_d, leave_ex, dats_nil, dats_cons, fld_d, ix_d, call1, call2, call3, call4, call5, setL, List.getElem?_cons_zero, List.getElem?_cons_succ, Option.map_some, Option.bind_some, List.length_cons, List.length_nil, List.set_cons_zero, List.set_cons_succ, Nat.reduceAdd, Nat.reduceLT, Nat.reduceSub, reduceIte, decide_true, decide_false, List.map_cons, List.map_nil, List.cons_append, List.nil_append, List.replicate_succ, List.replicate_zero, Nat.lt_add_one, Nat.zero_lt_succ, Nat.zero_lt_one, f_look, q2, tru_bl, Bool.not_true]
theorem run_iskey {G : Tab} (hk : Looks G) (h3 : G.fn 3 = some f_is_key) (k : Nat) {c : Nat} (h : isKey c = true) : run G (k + 1) 3 [.d (.str [c])] [] = .ok (.d (.bl true)) [] := by
  rw [run_fn h3 rfl (by decide)]
  unfold isKey at h
  simp -implicitDefEqProofs only [bnd_ok, bnd_ex, sts_ok, sts_ex, sqs_nx, sqs_ret, sqs_ex, cnd_t, cnd_f, of_some, asd_ok, asd_ex, e_cst, e_var, rd_eq, rdO_ok, e_glb, glO_ok, e_bin, e_neg, e_cmp, chK_t, chK_f, e_chn, e_and, e_or, and_one, and_more, or_one, or_more, e_not, e_ite, e_call, mkI_some, e_mk, e_mth, e_blt, e_isi, e_bm, e_repl, e_fld, e_ix, e_sl, e_tup, e_lst, a_nil, a_cons, o_none, o_some, t_val, t_cmp, t_chn, t_and, t_or, t_not, tand_nil, tand_cons, tor_nil, tor_cons, g_nam, g_tup, gs_nil, gs_cons, s_expr, s_asg, s_setf, s_aug, augL_ok, s_ret, s_retN, s_ite, s_raise, b_nil, b_cons, fin_nx, fin_ret, fin_ex, o2, lk, looks, leave_d, leave_ex, dats_nil, dats_cons, fld_d, ix_d, call1, call2, call3, call4, call5, setL, List.getElem?_cons_zero, List.getElem?_cons_succ, Option.map_some, Option.bind_some, List.length_cons, List.length_nil, List.set_cons_zero, List.set_cons_succ, Nat.reduceAdd, Nat.reduceLT, Nat.reduceSub, reduceIte, decide_true, decide_false, List.map_cons, List.map_nil, List.cons_append, List.nil_append, List.replicate_succ, List.replicate_zero, Nat.lt_add_one, Nat.zero_lt_succ, Nat.zero_lt_one, f_is_key, isi_ss, bi_len' (x := [c]) (by show 1 ≤ 1000; omega), cmp_eqi, show (((1 : Nat) : Int) == 1) = true from rfl, hk.gKe, in_str, h, show (((0 + 1 : Nat) : Int) == 1) = true from rfl]
/-- a row of keys -/
def isRow (x : Tx) : Prop := x.length ≤ 60 ∧ ∀ c ∈ x, isKey c = true
theorem fm_none {α β : Type} : ∀ l : List α, l.filterMap (fun _ => (none : Option β)) = []
  | [] => rfl
  | _ :: l => fm_none l
theorem for_step {g : W → Sl → Sto → RS} {b : Sl → Sto → RS} {x : W} {r : List W} {l l1 l2 : Sl} {S S1 S2 : Sto} (h1 : g x l S = .nx l1 S1) (h2 : b l1 S1 = .nx l2 S2) : evFor g b (x :: r) l S = evFor g b r l2 S2 := by
  rw [evFor, h1]
  dsimp only [RS.sq]
  rw [h2]
theorem run_isrow {G : Tab} (hk : Looks G) (gMk : G.glb 2 = some (.int 60)) (h4 : G.fn 4 = some f_is_row) (k : Nat) {x : Tx} (h : isRow x) : run G (k + 1) 4 [.d (.str x)] [] = .ok (.d (.bl true)) [] := by
  rw [run_fn h4 rfl (by decide)]
  have hl := h.1
  have e1 : decide ((x.length : Int) ≤ 60) = true := decide_eq_true (by omega)
  have sq : seqIv [] (.d (.str x)) = .ok (.vs ((x.map fun c => D.str [c]).map .d)) [] := by
    show RE.ok (Iv.vs (x.map fun c => W.d (.str [c]))) [] = _
    rw [List.map_map]; rfl
  have lc : evLcI (lcTurn (fun y => evG G (run G k) (.nam 1) y) (evOt G (run G k) (.some (.cmp .nin (.var 1) (.glb 1)))) (evE G (run G k) (.var 1)) (wipeS [some (.d (.str x)), none] [1])) (.vs ((x.map fun c => D.str [c]).map .d)) [] = .ok [] [] := by
    show evLc _ _ [] [] = _
    rw [evLc_data (f := fun _ => none) (x.map fun c => D.str [c]) [] ?_ (by rw [List.length_map]; show 0 + _ ≤ _; omega)]
    · rw [List.nil_append, fm_none]
    · intro y hy acc ha
      obtain ⟨c, hcm, rfl⟩ := List.mem_map.mp hy
      have hck := h.2 c hcm
      unfold isKey at hck
      rw [turn_skip (l' := [some (.d (.str x)), some (.d (.str [c]))]) (S1 := []) (S2 := [])]
      · show _ = RE.ok (acc ++ []) []
        rw [List.append_nil]
      · show evG _ _ _ _ [some (.d (.str x)), none] _ = _
        simp -implicitDefEqProofs only [bnd_ok, bnd_ex, sts_ok, sts_ex, sqs_nx, sqs_ret, sqs_ex, cnd_t, cnd_f, of_some, asd_ok, asd_ex, e_cst, e_var, rd_eq, rdO_ok, e_glb, glO_ok, e_bin, e_neg, e_cmp, chK_t, chK_f, e_chn, e_and, e_or, and_one, and_more, or_one, or_more, e_not, e_ite, e_call, mkI_some, e_mk, e_mth, e_blt, e_isi, e_bm, e_repl, e_fld, e_ix, e_sl, e_tup, e_lst, a_nil, a_cons, o_none, o_some, t_val, t_cmp, t_chn, t_and, t_or, t_not, tand_nil, tand_cons, tor_nil, tor_cons, g_nam, g_tup, gs_nil, gs_cons, s_expr, s_asg, s_setf, s_aug, augL_ok, s_ret, s_retN, s_ite, s_raise, b_nil, b_cons, fin_nx, fin_ret, fin_ex, o2, lk, looks, leave_d, leave_ex, dats_nil, dats_cons, fld_d, ix_d, call1, call2, call3, call4, call5, setL, List.getElem?_cons_zero, List.getElem?_cons_succ, Option.map_some, Option.bind_some, List.length_cons, List.length_nil, List.set_cons_zero, List.set_cons_succ, Nat.reduceAdd, Nat.reduceLT, Nat.reduceSub, reduceIte, decide_true, decide_false, List.map_cons, List.map_nil, List.cons_append, List.nil_append, List.replicate_succ, List.replicate_zero, Nat.lt_add_one, Nat.zero_lt_succ, Nat.zero_lt_one]
      · show evT _ _ _ _ _ = _
        have : evCmp .nin (.str [c]) (.str KEYS) = some false := by
          show (evCmp .isin (.str [c]) (.str KEYS)).map (!·) = _
          rw [in_str, hck]; rfl
        simp -implicitDefEqProofs only [bnd_ok, bnd_ex, sts_ok, sts_ex, sqs_nx, sqs_ret, sqs_ex, cnd_t, cnd_f, of_some, asd_ok, asd_ex, e_cst, e_var, rd_eq, rdO_ok, e_glb, glO_ok, e_bin, e_neg, e_cmp, chK_t, chK_f, e_chn, e_and, e_or, and_one, and_more, or_one, or_more, e_not, e_ite, e_call, mkI_some, e_mk, e_mth, e_blt, e_isi, e_bm, e_repl, e_fld, e_ix, e_sl, e_tup, e_lst, a_nil, a_cons, o_none, o_some, t_val, t_cmp, t_chn, t_and, t_or, t_not, tand_nil, tand_cons, tor_nil, tor_cons, g_nam, g_tup, gs_nil, gs_cons, s_expr, s_asg, s_setf, s_aug, augL_ok, s_ret, s_retN, s_ite, s_raise, b_nil, b_cons, fin_nx, fin_ret, fin_ex, o2, lk, looks, leave_d, leave_ex, dats_nil, dats_cons, fld_d, ix_d, call1, call2, call3, call4, call5, setL, List.getElem?_cons_zero, List.getElem?_cons_succ, Option.map_some, Option.bind_some, List.length_cons, List.length_nil, List.set_cons_zero, List.set_cons_succ, Nat.reduceAdd, Nat.reduceLT, Nat.reduceSub, reduceIte, decide_true, decide_false, List.map_cons, List.map_nil, List.cons_append, List.nil_append, List.replicate_succ, List.replicate_zero, Nat.lt_add_one, Nat.zero_lt_succ, Nat.zero_lt_one, hk.gKe, this]
  simp -implicitDefEqProofs only [bnd_ok, bnd_ex, sts_ok, sts_ex, sqs_nx, sqs_ret, sqs_ex, cnd_t, cnd_f, of_some, asd_ok, asd_ex, e_cst, e_var, rd_eq, rdO_ok, e_glb, glO_ok, e_bin, e_neg, e_cmp, chK_t, chK_f, e_chn, e_and, e_or, and_one, and_more, or_one, or_more, e_not, e_ite, e_call, mkI_some, e_mk, e_mth, e_blt, e_isi, e_bm, e_repl, e_fld, e_ix, e_sl, e_tup, e_lst, a_nil, a_cons, o_none, o_some, t_val, t_cmp, t_chn, t_and, t_or, t_not, tand_nil, tand_cons, tor_nil, tor_cons, g_nam, g_tup, gs_nil, gs_cons, s_expr, s_asg, s_setf, s_aug, augL_ok, s_ret, s_retN, s_ite, s_raise, b_nil, b_cons, fin_nx, fin_ret, fin_ex, o2, lk, looks, leave_d, leave_ex, dats_nil, dats_cons, fld_d, ix_d, call1, call2, call3, call4, call5, setL, List.getElem?_cons_zero, List.getElem?_cons_succ, Option.map_some, Option.bind_some, List.length_cons, List.length_nil, List.set_cons_zero, List.set_cons_succ, Nat.reduceAdd, Nat.reduceLT, Nat.reduceSub, reduceIte, decide_true, decide_false, List.map_cons, List.map_nil, List.cons_append, List.nil_append, List.replicate_succ, List.replicate_zero, Nat.lt_add_one, Nat.zero_lt_succ, Nat.zero_lt_one, f_is_row, isi_ss, bi_len' (x := x) (by omega), cmp_le, gMk, e1, e_lc, i_seq, sq, lc, lcEnd, show truD (.lst []) = some false from rfl, Bool.not_false]
theorem run_lookrow {G : Tab} (hk : Looks G) (gMk : G.glb 2 = some (.int 60)) (h4 : G.fn 4 = some f_is_row) (h5 : G.fn 5 = some f_look_row) (k : Nat) {m : Mk} (hm : m.ok) {x : Tx} (h : isRow x) : run G (k + 4) 5 [.d m.D, .d (.str x)] [] = .ok (.d .non) [] := by
  rw [run_fn h5 rfl (by decide)]
  have q1 := run_look hk k hm
  have q2 := run_isrow hk gMk h4 (k + 2) h
  simp -implicitDefEqProofs only [bnd_ok, bnd_ex, sts_ok, sts_ex, sqs_nx, sqs_ret, sqs_ex, cnd_t, cnd_f, of_some, asd_ok, asd_ex, e_cst, e_var, rd_eq, rdO_ok, e_glb, glO_ok, e_bin, e_neg, e_cmp, chK_t, chK_f, e_chn, e_and, e_or, and_one, and_more, or_one, or_more, e_not, e_ite, e_call, mkI_some, e_mk, e_mth, e_blt, e_isi, e_bm, e_repl, e_fld, e_ix, e_sl, e_tup, e_lst, a_nil, a_cons, o_none, o_some, t_val, t_cmp, t_chn, t_and, t_or, t_not, tand_nil, tand_cons, tor_nil, tor_cons, g_nam, g_tup, gs_nil, gs_cons, s_expr, s_asg, s_setf, s_aug, augL_ok, s_ret, s_retN, s_ite, s_raise, b_nil, b_cons, fin_nx, fin_ret, fin_ex, o2, lk, looks, leave_d, leave_ex, dats_nil, dats_cons, fld_d, ix_d, call1, call2, call3, call4, call5, setL, List.getElem?_cons_zero, List.getElem?_cons_succ, Option.map_some, Option.bind_some, List.length_cons, List.length_nil, List.set_cons_zero, List.set_cons_succ, Nat.reduceAdd, Nat.reduceLT, Nat.reduceSub, reduceIte, decide_true, decide_false, List.map_cons, List.map_nil, List.cons_append, List.nil_append, List.replicate_succ, List.replicate_zero, Nat.lt_add_one, Nat.zero_lt_succ, Nat.zero_lt_one, f_look_row, q1, q2, tru_bl, Bool.not_true]
/-! rows -/
def afterR (m : Mk) (s : Sd) : Tx → Sd
  | [] => s
  | c :: r => afterR m (behind m s c) r
def showns (m : Mk) (s : Sd) : Tx → List Tx
  | [] => []
  | c :: r => (behind m s c).shown :: showns m (behind m s c) r
def startS (m : Mk) : Sd := firstS m nm0
theorem startS_ok (m : Mk) (n : Nat) : (startS m).ok m n := firstS_ok m n nm0_ok
theorem afterR_ok {m : Mk} (hm : m.ok) : ∀ (x : Tx) {s : Sd} {n : Nat}, s.ok m n → n + x.length ≤ 10000 → (∀ c ∈ x, isKey c = true) → (afterR m s x).ok m (n + x.length)
  | [], s, n, h, _, _ => h
  | c :: r, s, n, h, hl, hk => by
    rw [List.length_cons] at hl
    have := afterR_ok hm r (behind_ok hm h (by omega) (isKey_lt (hk c (List.mem_cons_self ..)))) (by omega) fun d hd => hk d (List.mem_cons_of_mem _ hd)
    rw [List.length_cons, Nat.add_comm r.length 1, ← Nat.add_assoc]
    exact this
theorem afterR_app (m : Mk) : ∀ (x y : Tx) (s : Sd), afterR m s (x ++ y) = afterR m (afterR m s x) y
  | [], y, s => rfl
  | c :: r, y, s => afterR_app m r y (behind m s c)
theorem showns_app (m : Mk) : ∀ (x y : Tx) (s : Sd), showns m s (x ++ y) = showns m s x ++ showns m (afterR m s x) y
  | [], y, s => rfl
  | c :: r, y, s => by
    show _ :: showns m (behind m s c) (r ++ y) = _
    rw [showns_app m r y]
    rfl
theorem showns_len (m : Mk) : ∀ (x : Tx) (s : Sd), (showns m s x).length = x.length
  | [], s => rfl
  | c :: r, s => by
    show (showns m (behind m s c) r).length + 1 = _
    rw [showns_len m r]; rfl
def wS (t : Tx) : W := .d (.str t)
theorem app_r {C : Cl} {S : Sto} {n : Nat} {xs : List W} {w : W} (h : S[n]? = some (.lst xs)) (hl : xs.length < 100000) : evBm .append S (.r n) [w] = .ok (.d .non) (S.set n (.lst (xs ++ [w]))) := by
  show (match S[n]? with
      | some (.lst xs) => if xs.length < sz then RE.ok (W.d .non) (S.set n (.lst (xs ++ [w]))) else .bad
      | _ => .bad) = _
  rw [h]; dsimp only
  rw [if_pos (by show _ < 16777216; omega)]
theorem rcv_r {S : Sto} {n : Nat} {xs : List W} (h : S[n]? = some (.lst xs)) : rcv .append S (.r n) = true := by
  show (match S[n]? with
      | some (.lst _) => true
      | _ => false) = true
  rw [h]
theorem shown_len {m : Mk} {n : Nat} {s : Sd} : True := trivial
/-- the loop of played -/
theorem play_loop {G : Tab} (hc : Core G) (k : Nat) {m : Mk} (hm : m.ok) (row : Tx) : ∀ (x : Tx) (s : Sd) (n : Nat) (acc : List Tx) (w4 : Option W), s.ok m n → n + x.length ≤ 10000 → (∀ c ∈ x, isKey c = true) → acc.length + x.length ≤ 1000 →
    ∃ w4', evFor (evG G (run G (k + 7)) (.nam 4)) (evB G (run G (k + 7)) (.cons (.asg (.nam 2) (.call false 39 (.cons (.var 0) (.cons (.var 2) (.cons (.var 4) .nil))))) (.cons (.expr (.bm .append (.var 3) (.cons (.mth false 0 14 (.var 2) .nil) .nil))) .nil)))
      (x.map fun c => W.d (.str [c])) [some (.d m.D), some (.d (.str row)), some (.d s.D), some (.r 0), w4] [.lst (acc.map wS)] =
    .nx [some (.d m.D), some (.d (.str row)), some (.d (afterR m s x).D), some (.r 0), w4'] [.lst ((acc ++ showns m s x).map wS)] := by
  intro x
  induction x with
  | nil =>
    intro s n acc w4 _ _ _ _
    refine ⟨w4, ?_⟩
    show RS.nx _ _ = .nx _ [.lst ((acc ++ []).map wS)]
    rw [List.append_nil]; rfl
  | cons c x ih =>
    intro s n acc w4 h hn hk ha
    rw [List.length_cons] at hn ha
    have hb := behind_ok hm h (by omega) (isKey_lt (hk c (List.mem_cons_self ..)))
    obtain ⟨w4', e⟩ := ih (behind m s c) (n + 1) (acc ++ [(behind m s c).shown]) (some (.d (.str [c]))) hb (by omega) (fun d hd => hk d (List.mem_cons_of_mem _ hd)) (by rw [List.length_append]; show _ + 1 + _ ≤ _; omega)
    refine ⟨w4', ?_⟩
    have q1 := run_behind hc k hm h (by omega) c
    have q2 := run_shown hc (k + 5) hb
    have a1 : evG G (run G (k + 7)) (.nam 4) (.d (.str [c])) [some (.d m.D), some (.d (.str row)), some (.d s.D), some (.r 0), w4] [.lst (acc.map wS)] = .nx [some (.d m.D), some (.d (.str row)), some (.d s.D), some (.r 0), some (.d (.str [c]))] [.lst (acc.map wS)] := by
      simp -implicitDefEqProofs only [bnd_ok, bnd_ex, sts_ok, sts_ex, sqs_nx, sqs_ret, sqs_ex, cnd_t, cnd_f, of_some, asd_ok, asd_ex, e_cst, e_var, rd_eq, rdO_ok, e_glb, glO_ok, e_bin, e_neg, e_cmp, chK_t, chK_f, e_chn, e_and, e_or, and_one, and_more, or_one, or_more, e_not, e_ite, e_call, mkI_some, e_mk, e_mth, e_blt, e_isi, e_bm, e_repl, e_fld, e_ix, e_sl, e_tup, e_lst, a_nil, a_cons, o_none, o_some, t_val, t_cmp, t_chn, t_and, t_or, t_not, tand_nil, tand_cons, tor_nil, tor_cons, g_nam, g_tup, gs_nil, gs_cons, s_expr, s_asg, s_setf, s_aug, augL_ok, s_ret, s_retN, s_ite, s_raise, b_nil, b_cons, fin_nx, fin_ret, fin_ex, o2, lk, looks, leave_d, leave_ex, dats_nil, dats_cons, fld_d, ix_d, call1, call2, call3, call4, call5, setL, List.getElem?_cons_zero, List.getElem?_cons_succ, Option.map_some, Option.bind_some, List.length_cons, List.length_nil, List.set_cons_zero, List.set_cons_succ, Nat.reduceAdd, Nat.reduceLT, Nat.reduceSub, reduceIte, decide_true, decide_false, List.map_cons, List.map_nil, List.cons_append, List.nil_append, List.replicate_succ, List.replicate_zero, Nat.lt_add_one, Nat.zero_lt_succ, Nat.zero_lt_one]
    have a2 : evB G (run G (k + 7)) (.cons (.asg (.nam 2) (.call false 39 (.cons (.var 0) (.cons (.var 2) (.cons (.var 4) .nil))))) (.cons (.expr (.bm .append (.var 3) (.cons (.mth false 0 14 (.var 2) .nil) .nil))) .nil)) [some (.d m.D), some (.d (.str row)), some (.d s.D), some (.r 0), some (.d (.str [c]))] [.lst (acc.map wS)] = .nx [some (.d m.D), some (.d (.str row)), some (.d (behind m s c).D), some (.r 0), some (.d (.str [c]))] [.lst ((acc ++ [(behind m s c).shown]).map wS)] := by
      have r1 : rcv .append [O.lst (acc.map wS)] (.r 0) = true := rfl
      have r2 := app_r (C := run G 0) (S := [O.lst (acc.map wS)]) (n := 0) (xs := acc.map wS) (w := .d (.str (behind m s c).shown)) rfl (by rw [List.length_map]; omega)
      simp -implicitDefEqProofs only [bnd_ok, bnd_ex, sts_ok, sts_ex, sqs_nx, sqs_ret, sqs_ex, cnd_t, cnd_f, of_some, asd_ok, asd_ex, e_cst, e_var, rd_eq, rdO_ok, e_glb, glO_ok, e_bin, e_neg, e_cmp, chK_t, chK_f, e_chn, e_and, e_or, and_one, and_more, or_one, or_more, e_not, e_ite, e_call, mkI_some, e_mk, e_mth, e_blt, e_isi, e_bm, e_repl, e_fld, e_ix, e_sl, e_tup, e_lst, a_nil, a_cons, o_none, o_some, t_val, t_cmp, t_chn, t_and, t_or, t_not, tand_nil, tand_cons, tor_nil, tor_cons, g_nam, g_tup, gs_nil, gs_cons, s_expr, s_asg, s_setf, s_aug, augL_ok, s_ret, s_retN, s_ite, s_raise, b_nil, b_cons, fin_nx, fin_ret, fin_ex, o2, lk, looks, leave_d, leave_ex, dats_nil, dats_cons, fld_d, ix_d, call1, call2, call3, call4, call5, setL, List.getElem?_cons_zero, List.getElem?_cons_succ, Option.map_some, Option.bind_some, List.length_cons, List.length_nil, List.set_cons_zero, List.set_cons_succ, Nat.reduceAdd, Nat.reduceLT, Nat.reduceSub, reduceIte, decide_true, decide_false, List.map_cons, List.map_nil, List.cons_append, List.nil_append, List.replicate_succ, List.replicate_zero, Nat.lt_add_one, Nat.zero_lt_succ, Nat.zero_lt_one, cls_s, q1, q2, r1, r2, List.map_append]
      rfl
    rw [List.map_cons, for_step a1 a2, e, List.append_assoc]
    rfl
theorem dats_str : ∀ x : List Tx, W.dats (x.map wS) = some (x.map D.str)
  | [] => rfl
  | a :: r => by
    show (W.dats (r.map wS)).map (D.str a :: ·) = _
    rw [dats_str r]
    rfl
theorem run_played {G : Tab} (hc : Core G) (hk : Looks G) (gMk : G.glb 2 = some (.int 60)) (h4 : G.fn 4 = some f_is_row) (h5 : G.fn 5 = some f_look_row) (h45 : G.fn 45 = some f_played) (k : Nat) {m : Mk} (hm : m.ok) {x : Tx} (h : isRow x) :
    run G (k + 8) 45 [.d m.D, .d (.str x)] [] = .ok (.r 0) [.lst ((showns m (startS m) x).map wS)] := by
  rw [run_fn h45 rfl (by decide)]
  have q1 := run_lookrow hk gMk h4 h5 (k + 3) hm h
  have q2 := run_first hc (k + 5) m nm0
  rw [show nm0.D = .tup [.int 0, .int 0] from rfl] at q2
  have hl := h.1
  obtain ⟨w, lp⟩ := play_loop hc k hm x x (startS m) 0 [] none (startS_ok m 0) (by omega) h.2 (by show 0 + _ ≤ _; omega)
  rw [show ([] : List Tx).map wS = [] from rfl, List.nil_append] at lp
  have sq : seqIv [O.lst []] (.d (.str x)) = .ok (.vs (x.map fun c => W.d (.str [c]))) [O.lst []] := rfl
  have fi : ∀ l S, evForI (evG G (run G (k + 7)) (.nam 4)) (evB G (run G (k + 7)) (.cons (.asg (.nam 2) (.call false 39 (.cons (.var 0) (.cons (.var 2) (.cons (.var 4) .nil))))) (.cons (.expr (.bm .append (.var 3) (.cons (.mth false 0 14 (.var 2) .nil) .nil))) .nil))) (.vs (x.map fun c => W.d (.str [c]))) l S = evFor (evG G (run G (k + 7)) (.nam 4)) (evB G (run G (k + 7)) (.cons (.asg (.nam 2) (.call false 39 (.cons (.var 0) (.cons (.var 2) (.cons (.var 4) .nil))))) (.cons (.expr (.bm .append (.var 3) (.cons (.mth false 0 14 (.var 2) .nil) .nil))) .nil))) (x.map fun c => W.d (.str [c])) l S := fun _ _ => rfl
  have lk0 : lstK true [] [] = .ok (.r 0) [O.lst []] := rfl
  have fs : firstS m nm0 = startS m := rfl
  simp -implicitDefEqProofs only [bnd_ok, bnd_ex, sts_ok, sts_ex, sqs_nx, sqs_ret, sqs_ex, cnd_t, cnd_f, of_some, asd_ok, asd_ex, e_cst, e_var, rd_eq, rdO_ok, e_glb, glO_ok, e_bin, e_neg, e_cmp, chK_t, chK_f, e_chn, e_and, e_or, and_one, and_more, or_one, or_more, e_not, e_ite, e_call, mkI_some, e_mk, e_mth, e_blt, e_isi, e_bm, e_repl, e_fld, e_ix, e_sl, e_tup, e_lst, a_nil, a_cons, o_none, o_some, t_val, t_cmp, t_chn, t_and, t_or, t_not, tand_nil, tand_cons, tor_nil, tor_cons, g_nam, g_tup, gs_nil, gs_cons, s_expr, s_asg, s_setf, s_aug, augL_ok, s_ret, s_retN, s_ite, s_raise, b_nil, b_cons, fin_nx, fin_ret, fin_ex, o2, lk, looks, leave_d, leave_ex, dats_nil, dats_cons, fld_d, ix_d, call1, call2, call3, call4, call5, setL, List.getElem?_cons_zero, List.getElem?_cons_succ, Option.map_some, Option.bind_some, List.length_cons, List.length_nil, List.set_cons_zero, List.set_cons_succ, Nat.reduceAdd, Nat.reduceLT, Nat.reduceSub, reduceIte, decide_true, decide_false, List.map_cons, List.map_nil, List.cons_append, List.nil_append, List.replicate_succ, List.replicate_zero, Nat.lt_add_one, Nat.zero_lt_succ, Nat.zero_lt_one, f_played, q1, q2, hc.glN, lk0, s_loop, i_seq, sq, fi, fs, lp]
theorem call_played {G : Tab} (hc : Core G) (hk : Looks G) (gMk : G.glb 2 = some (.int 60)) (h4 : G.fn 4 = some f_is_row) (h5 : G.fn 5 = some f_look_row) (h45 : G.fn 45 = some f_played) (k : Nat) {m : Mk} (hm : m.ok) {x : Tx} (h : isRow x) (S : Sto) :
    callW (run G (k + 8)) false 45 [.d m.D, .d (.str x)] S = .ok (.d (.lst ((showns m (startS m) x).map .str))) S := by
  rw [call2, run_played hc hk gMk h4 h5 h45 k hm h]
  show (match W.dats ((showns m (startS m) x).map wS) with
      | some xs => if false then RE.ok (W.r S.length) (S ++ [O.lst ((showns m (startS m) x).map wS)]) else .ok (.d (.lst xs)) S
      | none => .bad) = _
  rw [dats_str]
  rfl
/-! reckoners -/
def rk (m : Mk) (s : Sd) : O := .ins 1 [.d m.D, .d s.D]
theorem set_same {S : Sto} {n : Nat} {x y : O} (h : S[n]? = some x) : (S.set n y)[n]? = some y := by
  have : n < S.length := by
    rcases Nat.lt_or_ge n S.length with q | q
    · exact q
    · rw [List.getElem?_eq_none q] at h; cases h
  rw [List.getElem?_set_self this]
theorem fr0 {S : Sto} {n : Nat} {m : Mk} {s : Sd} (h : S[n]? = some (rk m s)) : evFld 1 0 S (.r n) = .ok (.d m.D) S := by
  show (match S[n]? with
      | some (.ins c' xs) => if c' = 1 then (match xs[0]? with
        | some x => RE.ok x S
        | none => .bad) else .bad
      | _ => .bad) = _
  rw [h]; rfl
theorem fr1 {S : Sto} {n : Nat} {m : Mk} {s : Sd} (h : S[n]? = some (rk m s)) : evFld 1 1 S (.r n) = .ok (.d s.D) S := by
  show (match S[n]? with
      | some (.ins c' xs) => if c' = 1 then (match xs[1]? with
        | some x => RE.ok x S
        | none => .bad) else .bad
      | _ => .bad) = _
  rw [h]; rfl
theorem sr1 {S : Sto} {n : Nat} {m : Mk} {s s' : Sd} {l : Sl} (h : S[n]? = some (rk m s)) : setf 1 1 l S (.r n) (.d s'.D) = .nx l (S.set n (rk m s')) := by
  unfold setf
  dsimp only
  rw [h]; rfl
theorem cls_r {S : Sto} {n : Nat} {m : Mk} {s : Sd} (h : S[n]? = some (rk m s)) : decide (clsOf S (.r n) = some 1) = true := by
  have : clsOf S (.r n) = some 1 := by
    unfold clsOf
    dsimp only
    rw [h]; rfl
  rw [this]; rfl
theorem call_r {C : Cl} {keep : Bool} {f n : Nat} {ws : List W} {S : Sto} : callW C keep f (.r n :: ws) S = C f (.r n :: ws) S := rfl
theorem run_press {G : Tab} (hc : Core G) (hk : Looks G) (h3 : G.fn 3 = some f_is_key) (h41 : G.fn 41 = some f_Reckoner_press) (k : Nat) {m : Mk} {n : Nat} {s : Sd} (hm : m.ok) (h : s.ok m n) (hn : n ≤ 10000) {c : Nat} (hkc : isKey c = true) {S : Sto} {a : Nat} (hS : S[a]? = some (rk m s)) :
    run G (k + 8) 41 [.r a, .d (.str [c])] S = .ok (.d (.str (behind m s c).shown)) (S.set a (rk m (behind m s c))) := by
  rw [run_fn h41 rfl (by decide)]
  have q1 := run_iskey hk h3 (k + 6) hkc
  have q2 := run_behind hc k hm h hn c
  have q3 := run_shown hc (k + 5) (behind_ok hm h hn (isKey_lt hkc))
  have hS' := set_same (y := rk m (behind m s c)) hS
  simp -implicitDefEqProofs only [bnd_ok, bnd_ex, sts_ok, sts_ex, sqs_nx, sqs_ret, sqs_ex, cnd_t, cnd_f, of_some, asd_ok, asd_ex, e_cst, e_var, rd_eq, rdO_ok, e_glb, glO_ok, e_bin, e_neg, e_cmp, chK_t, chK_f, e_chn, e_and, e_or, and_one, and_more, or_one, or_more, e_not, e_ite, e_call, mkI_some, e_mk, e_mth, e_blt, e_isi, e_bm, e_repl, e_fld, e_ix, e_sl, e_tup, e_lst, a_nil, a_cons, o_none, o_some, t_val, t_cmp, t_chn, t_and, t_or, t_not, tand_nil, tand_cons, tor_nil, tor_cons, g_nam, g_tup, gs_nil, gs_cons, s_expr, s_asg, s_setf, s_aug, augL_ok, s_ret, s_retN, s_ite, s_raise, b_nil, b_cons, fin_nx, fin_ret, fin_ex, o2, lk, looks, leave_d, leave_ex, dats_nil, dats_cons, fld_d, ix_d, call1, call2, call3, call4, call5, setL, List.getElem?_cons_zero, List.getElem?_cons_succ, Option.map_some, Option.bind_some, List.length_cons, List.length_nil, List.set_cons_zero, List.set_cons_succ, Nat.reduceAdd, Nat.reduceLT, Nat.reduceSub, reduceIte, decide_true, decide_false, List.map_cons, List.map_nil, List.cons_append, List.nil_append, List.replicate_succ, List.replicate_zero, Nat.lt_add_one, Nat.zero_lt_succ, Nat.zero_lt_one, f_Reckoner_press, q1, tru_bl, Bool.not_true, fr0 hS, fr1 hS, q2, sr1 hS, fr1 hS', cls_s, q3]
theorem run_rshown {G : Tab} (hc : Core G) (h42 : G.fn 42 = some f_Reckoner_shown) (k : Nat) {m : Mk} {n : Nat} {s : Sd} (h : s.ok m n) {S : Sto} {a : Nat} (hS : S[a]? = some (rk m s)) :
    run G (k + 3) 42 [.r a] S = .ok (.d (.str s.shown)) S := by
  rw [run_fn h42 rfl (by decide)]
  have q3 := run_shown hc k h
  simp -implicitDefEqProofs only [bnd_ok, bnd_ex, sts_ok, sts_ex, sqs_nx, sqs_ret, sqs_ex, cnd_t, cnd_f, of_some, asd_ok, asd_ex, e_cst, e_var, rd_eq, rdO_ok, e_glb, glO_ok, e_bin, e_neg, e_cmp, chK_t, chK_f, e_chn, e_and, e_or, and_one, and_more, or_one, or_more, e_not, e_ite, e_call, mkI_some, e_mk, e_mth, e_blt, e_isi, e_bm, e_repl, e_fld, e_ix, e_sl, e_tup, e_lst, a_nil, a_cons, o_none, o_some, t_val, t_cmp, t_chn, t_and, t_or, t_not, tand_nil, tand_cons, tor_nil, tor_cons, g_nam, g_tup, gs_nil, gs_cons, s_expr, s_asg, s_setf, s_aug, augL_ok, s_ret, s_retN, s_ite, s_raise, b_nil, b_cons, fin_nx, fin_ret, fin_ex, o2, lk, looks, leave_d, leave_ex, dats_nil, dats_cons, fld_d, ix_d, call1, call2, call3, call4, call5, setL, List.getElem?_cons_zero, List.getElem?_cons_succ, Option.map_some, Option.bind_some, List.length_cons, List.length_nil, List.set_cons_zero, List.set_cons_succ, Nat.reduceAdd, Nat.reduceLT, Nat.reduceSub, reduceIte, decide_true, decide_false, List.map_cons, List.map_nil, List.cons_append, List.nil_append, List.replicate_succ, List.replicate_zero, Nat.lt_add_one, Nat.zero_lt_succ, Nat.zero_lt_one, f_Reckoner_shown, fr1 hS, cls_s, q3]
theorem run_rmem {G : Tab} (hc : Core G) (h43 : G.fn 43 = some f_Reckoner_memory) (k : Nat) {m : Mk} {n : Nat} {s : Sd} (h : s.ok m n) {S : Sto} {a : Nat} (hS : S[a]? = some (rk m s)) :
    run G (k + 2) 43 [.r a] S = .ok (.d (.str (textN s.kp))) S := by
  rw [run_fn h43 rfl (by decide)]
  have q3 := run_text hc k h.kp
  simp -implicitDefEqProofs only [bnd_ok, bnd_ex, sts_ok, sts_ex, sqs_nx, sqs_ret, sqs_ex, cnd_t, cnd_f, of_some, asd_ok, asd_ex, e_cst, e_var, rd_eq, rdO_ok, e_glb, glO_ok, e_bin, e_neg, e_cmp, chK_t, chK_f, e_chn, e_and, e_or, and_one, and_more, or_one, or_more, e_not, e_ite, e_call, mkI_some, e_mk, e_mth, e_blt, e_isi, e_bm, e_repl, e_fld, e_ix, e_sl, e_tup, e_lst, a_nil, a_cons, o_none, o_some, t_val, t_cmp, t_chn, t_and, t_or, t_not, tand_nil, tand_cons, tor_nil, tor_cons, g_nam, g_tup, gs_nil, gs_cons, s_expr, s_asg, s_setf, s_aug, augL_ok, s_ret, s_retN, s_ite, s_raise, b_nil, b_cons, fin_nx, fin_ret, fin_ex, o2, lk, looks, leave_d, leave_ex, dats_nil, dats_cons, fld_d, ix_d, call1, call2, call3, call4, call5, setL, List.getElem?_cons_zero, List.getElem?_cons_succ, Option.map_some, Option.bind_some, List.length_cons, List.length_nil, List.set_cons_zero, List.set_cons_succ, Nat.reduceAdd, Nat.reduceLT, Nat.reduceSub, reduceIte, decide_true, decide_false, List.map_cons, List.map_nil, List.cons_append, List.nil_append, List.replicate_succ, List.replicate_zero, Nat.lt_add_one, Nat.zero_lt_succ, Nat.zero_lt_one, f_Reckoner_memory, fr1 hS, fs5, q3]
def itT : Itm → Tx
  | .opn => [40]
  | .op x o => textN x ++ [o]
def waits (s : Sd) : List Tx := match s.pd with
  | .pil a b d => [textN a, textN b, textN d]
  | .ord r => r.reverse.map itT
theorem textN_len {x : Nm} (h : x.ok) : (textN x).length ≤ 100 := by
  have := figN_len x h
  unfold textN
  rw [List.length_append]
  have l1 : (if x.n < 0 then ([45] : Tx) else []).length ≤ 1 := by split <;> decide
  have l2 : (if x.b = 0 then figN x else (figN x).take ((figN x).length - x.b) ++ ([46] ++ (figN x).drop ((figN x).length - x.b))).length ≤ 62 := by
    split
    · omega
    · rw [List.length_append, List.length_append, List.length_take, List.length_drop]; show _ + (1 + _) ≤ _; omega
  omega
theorem run_wait {G : Tab} (hc : Core G) (h44 : G.fn 44 = some f_Reckoner_waiting) (k : Nat) {m : Mk} {n : Nat} {s : Sd} (h : s.ok m n) (hn : n ≤ 10000) {S : Sto} {a : Nat} (hS : S[a]? = some (rk m s)) :
    run G (k + 2) 44 [.r a] S = .ok (.d (.lst ((waits s).map .str))) S := by
  rw [run_fn h44 rfl (by decide)]
  have hpd := h.pd
  unfold waits
  cases e : s.pd with
  | pil x y z =>
    rw [e] at hpd
    have sq : seqIv S (.d (Pd.pil x y z).D) = .ok (.vs [.d x.D, .d y.D, .d z.D]) S := rfl
    have lc : evLcI (lcTurn (fun y => evG G (run G (k + 1)) (.nam 1) y) (evOt G (run G (k + 1)) .none) (evE G (run G (k + 1)) (.call false 10 (.cons (.var 1) .nil))) (wipeS [some (.r a), none, none] [1])) (.vs [.d x.D, .d y.D, .d z.D]) S = .ok [.str (textN x), .str (textN y), .str (textN z)] S := by
      have one : ∀ (v : Nm), v.ok → ∀ acc : List D, acc.length < 100000 → lcTurn (fun y => evG G (run G (k + 1)) (.nam 1) y) (evOt G (run G (k + 1)) .none) (evE G (run G (k + 1)) (.call false 10 (.cons (.var 1) .nil))) (wipeS [some (.r a), none, none] [1]) (.d v.D) acc S = .ok (acc ++ [.str (textN v)]) S := by
        intro v hv acc ha
        have q := run_text hc k hv
        exact turn_keep (l' := [some (.r a), some (.d v.D), none]) (S1 := S) (S2 := S) (by show evG _ _ _ _ [some (.r a), none, none] _ = _; simp -implicitDefEqProofs only [bnd_ok, bnd_ex, sts_ok, sts_ex, sqs_nx, sqs_ret, sqs_ex, cnd_t, cnd_f, of_some, asd_ok, asd_ex, e_cst, e_var, rd_eq, rdO_ok, e_glb, glO_ok, e_bin, e_neg, e_cmp, chK_t, chK_f, e_chn, e_and, e_or, and_one, and_more, or_one, or_more, e_not, e_ite, e_call, mkI_some, e_mk, e_mth, e_blt, e_isi, e_bm, e_repl, e_fld, e_ix, e_sl, e_tup, e_lst, a_nil, a_cons, o_none, o_some, t_val, t_cmp, t_chn, t_and, t_or, t_not, tand_nil, tand_cons, tor_nil, tor_cons, g_nam, g_tup, gs_nil, gs_cons, s_expr, s_asg, s_setf, s_aug, augL_ok, s_ret, s_retN, s_ite, s_raise, b_nil, b_cons, fin_nx, fin_ret, fin_ex, o2, lk, looks, leave_d, leave_ex, dats_nil, dats_cons, fld_d, ix_d, call1, call2, call3, call4, call5, setL, List.getElem?_cons_zero, List.getElem?_cons_succ, Option.map_some, Option.bind_some, List.length_cons, List.length_nil, List.set_cons_zero, List.set_cons_succ, Nat.reduceAdd, Nat.reduceLT, Nat.reduceSub, reduceIte, decide_true, decide_false, List.map_cons, List.map_nil, List.cons_append, List.nil_append, List.replicate_succ, List.replicate_zero, Nat.lt_add_one, Nat.zero_lt_succ, Nat.zero_lt_one]) (by rw [evOt]) (by simp -implicitDefEqProofs only [bnd_ok, bnd_ex, sts_ok, sts_ex, sqs_nx, sqs_ret, sqs_ex, cnd_t, cnd_f, of_some, asd_ok, asd_ex, e_cst, e_var, rd_eq, rdO_ok, e_glb, glO_ok, e_bin, e_neg, e_cmp, chK_t, chK_f, e_chn, e_and, e_or, and_one, and_more, or_one, or_more, e_not, e_ite, e_call, mkI_some, e_mk, e_mth, e_blt, e_isi, e_bm, e_repl, e_fld, e_ix, e_sl, e_tup, e_lst, a_nil, a_cons, o_none, o_some, t_val, t_cmp, t_chn, t_and, t_or, t_not, tand_nil, tand_cons, tor_nil, tor_cons, g_nam, g_tup, gs_nil, gs_cons, s_expr, s_asg, s_setf, s_aug, augL_ok, s_ret, s_retN, s_ite, s_raise, b_nil, b_cons, fin_nx, fin_ret, fin_ex, o2, lk, looks, leave_d, leave_ex, dats_nil, dats_cons, fld_d, ix_d, call1, call2, call3, call4, call5, setL, List.getElem?_cons_zero, List.getElem?_cons_succ, Option.map_some, Option.bind_some, List.length_cons, List.length_nil, List.set_cons_zero, List.set_cons_succ, Nat.reduceAdd, Nat.reduceLT, Nat.reduceSub, reduceIte, decide_true, decide_false, List.map_cons, List.map_nil, List.cons_append, List.nil_append, List.replicate_succ, List.replicate_zero, Nat.lt_add_one, Nat.zero_lt_succ, Nat.zero_lt_one, q]) ha
      show evLc _ [.d x.D, .d y.D, .d z.D] [] S = _
      show (lcTurn _ _ _ _ (.d x.D) [] S).bind _ = _
      rw [one x hpd.2.1 [] (by decide)]
      show (lcTurn _ _ _ _ (.d y.D) _ S).bind _ = _
      rw [one y hpd.2.2.1 _ (by show 1 < 100000; omega)]
      show (lcTurn _ _ _ _ (.d z.D) _ S).bind _ = _
      rw [one z hpd.2.2.2 _ (by show 2 < 100000; omega)]
      rfl
    simp -implicitDefEqProofs only [bnd_ok, bnd_ex, sts_ok, sts_ex, sqs_nx, sqs_ret, sqs_ex, cnd_t, cnd_f, of_some, asd_ok, asd_ex, e_cst, e_var, rd_eq, rdO_ok, e_glb, glO_ok, e_bin, e_neg, e_cmp, chK_t, chK_f, e_chn, e_and, e_or, and_one, and_more, or_one, or_more, e_not, e_ite, e_call, mkI_some, e_mk, e_mth, e_blt, e_isi, e_bm, e_repl, e_fld, e_ix, e_sl, e_tup, e_lst, a_nil, a_cons, o_none, o_some, t_val, t_cmp, t_chn, t_and, t_or, t_not, tand_nil, tand_cons, tor_nil, tor_cons, g_nam, g_tup, gs_nil, gs_cons, s_expr, s_asg, s_setf, s_aug, augL_ok, s_ret, s_retN, s_ite, s_raise, b_nil, b_cons, fin_nx, fin_ret, fin_ex, o2, lk, looks, leave_d, leave_ex, dats_nil, dats_cons, fld_d, ix_d, call1, call2, call3, call4, call5, setL, List.getElem?_cons_zero, List.getElem?_cons_succ, Option.map_some, Option.bind_some, List.length_cons, List.length_nil, List.set_cons_zero, List.set_cons_succ, Nat.reduceAdd, Nat.reduceLT, Nat.reduceSub, reduceIte, decide_true, decide_false, List.map_cons, List.map_nil, List.cons_append, List.nil_append, List.replicate_succ, List.replicate_zero, Nat.lt_add_one, Nat.zero_lt_succ, Nat.zero_lt_one, fs0, fs1, fs2, fs3, fs4, fs5, fs6, cls_s, im0, im1, in0, in1, cmp_is, cmp_isn, ty_non, la_non, oD_non, Nm_non, cmp_eqs, cmp_nes, beq1, wd_eq, wd_eq2, mn_pile, mn_rank, nn_str, nn_tup, nn_non, f_Reckoner_waiting, fr0 hS, decide_eq_true hpd.1, fr1 hS, e, e_lc, i_seq, sq, lc, lcEnd]
  | ord r =>
    rw [e] at hpd
    have sq : seqIv S (.d (Pd.ord r).D) = .ok (.vs ((r.reverse.map Itm.D).map .d)) S := rfl
    have lc : evLcI (lcTurn (fun y => evG G (run G (k + 1)) (.nam 2) y) (evOt G (run G (k + 1)) .none) (evE G (run G (k + 1)) (.ite (.cmp .eq (.var 2) (.glb 4)) (.cst (.str [40])) (.bin .add (.call false 10 (.cons (.ix (.var 2) (.cst (.int 0))) .nil)) (.ix (.var 2) (.cst (.int 1)))))) (wipeS [some (.r a), none, none] [2])) (.vs ((r.reverse.map Itm.D).map .d)) S = .ok ((r.reverse.map itT).map .str) S := by
      have one : ∀ (v : Itm), v.ok → ∀ acc : List D, acc.length < 100000 → lcTurn (fun y => evG G (run G (k + 1)) (.nam 2) y) (evOt G (run G (k + 1)) .none) (evE G (run G (k + 1)) (.ite (.cmp .eq (.var 2) (.glb 4)) (.cst (.str [40])) (.bin .add (.call false 10 (.cons (.ix (.var 2) (.cst (.int 0))) .nil)) (.ix (.var 2) (.cst (.int 1)))))) (wipeS [some (.r a), none, none] [2]) (.d v.D) acc S = .ok (acc ++ [.str (itT v)]) S := by
        intro v hv acc ha
        refine turn_keep (l' := [some (.r a), none, some (.d v.D)]) (S1 := S) (S2 := S) (by show evG _ _ _ _ [some (.r a), none, none] _ = _; simp -implicitDefEqProofs only [bnd_ok, bnd_ex, sts_ok, sts_ex, sqs_nx, sqs_ret, sqs_ex, cnd_t, cnd_f, of_some, asd_ok, asd_ex, e_cst, e_var, rd_eq, rdO_ok, e_glb, glO_ok, e_bin, e_neg, e_cmp, chK_t, chK_f, e_chn, e_and, e_or, and_one, and_more, or_one, or_more, e_not, e_ite, e_call, mkI_some, e_mk, e_mth, e_blt, e_isi, e_bm, e_repl, e_fld, e_ix, e_sl, e_tup, e_lst, a_nil, a_cons, o_none, o_some, t_val, t_cmp, t_chn, t_and, t_or, t_not, tand_nil, tand_cons, tor_nil, tor_cons, g_nam, g_tup, gs_nil, gs_cons, s_expr, s_asg, s_setf, s_aug, augL_ok, s_ret, s_retN, s_ite, s_raise, b_nil, b_cons, fin_nx, fin_ret, fin_ex, o2, lk, looks, leave_d, leave_ex, dats_nil, dats_cons, fld_d, ix_d, call1, call2, call3, call4, call5, setL, List.getElem?_cons_zero, List.getElem?_cons_succ, Option.map_some, Option.bind_some, List.length_cons, List.length_nil, List.set_cons_zero, List.set_cons_succ, Nat.reduceAdd, Nat.reduceLT, Nat.reduceSub, reduceIte, decide_true, decide_false, List.map_cons, List.map_nil, List.cons_append, List.nil_append, List.replicate_succ, List.replicate_zero, Nat.lt_add_one, Nat.zero_lt_succ, Nat.zero_lt_one]) (by rw [evOt]) ?_ ha
        cases v with
        | opn => simp -implicitDefEqProofs only [bnd_ok, bnd_ex, sts_ok, sts_ex, sqs_nx, sqs_ret, sqs_ex, cnd_t, cnd_f, of_some, asd_ok, asd_ex, e_cst, e_var, rd_eq, rdO_ok, e_glb, glO_ok, e_bin, e_neg, e_cmp, chK_t, chK_f, e_chn, e_and, e_or, and_one, and_more, or_one, or_more, e_not, e_ite, e_call, mkI_some, e_mk, e_mth, e_blt, e_isi, e_bm, e_repl, e_fld, e_ix, e_sl, e_tup, e_lst, a_nil, a_cons, o_none, o_some, t_val, t_cmp, t_chn, t_and, t_or, t_not, tand_nil, tand_cons, tor_nil, tor_cons, g_nam, g_tup, gs_nil, gs_cons, s_expr, s_asg, s_setf, s_aug, augL_ok, s_ret, s_retN, s_ite, s_raise, b_nil, b_cons, fin_nx, fin_ret, fin_ex, o2, lk, looks, leave_d, leave_ex, dats_nil, dats_cons, fld_d, ix_d, call1, call2, call3, call4, call5, setL, List.getElem?_cons_zero, List.getElem?_cons_succ, Option.map_some, Option.bind_some, List.length_cons, List.length_nil, List.set_cons_zero, List.set_cons_succ, Nat.reduceAdd, Nat.reduceLT, Nat.reduceSub, reduceIte, decide_true, decide_false, List.map_cons, List.map_nil, List.cons_append, List.nil_append, List.replicate_succ, List.replicate_zero, Nat.lt_add_one, Nat.zero_lt_succ, Nat.zero_lt_one, hc.glO, eq_opn, Itm.isO, itT]
        | op x o =>
          have q := run_text hc k hv.1
          have ap := add_str (x := textN x) (y := [o]) (by have := textN_len hv.1; show _ + 1 ≤ _; omega)
          simp -implicitDefEqProofs only [bnd_ok, bnd_ex, sts_ok, sts_ex, sqs_nx, sqs_ret, sqs_ex, cnd_t, cnd_f, of_some, asd_ok, asd_ex, e_cst, e_var, rd_eq, rdO_ok, e_glb, glO_ok, e_bin, e_neg, e_cmp, chK_t, chK_f, e_chn, e_and, e_or, and_one, and_more, or_one, or_more, e_not, e_ite, e_call, mkI_some, e_mk, e_mth, e_blt, e_isi, e_bm, e_repl, e_fld, e_ix, e_sl, e_tup, e_lst, a_nil, a_cons, o_none, o_some, t_val, t_cmp, t_chn, t_and, t_or, t_not, tand_nil, tand_cons, tor_nil, tor_cons, g_nam, g_tup, gs_nil, gs_cons, s_expr, s_asg, s_setf, s_aug, augL_ok, s_ret, s_retN, s_ite, s_raise, b_nil, b_cons, fin_nx, fin_ret, fin_ex, o2, lk, looks, leave_d, leave_ex, dats_nil, dats_cons, fld_d, ix_d, call1, call2, call3, call4, call5, setL, List.getElem?_cons_zero, List.getElem?_cons_succ, Option.map_some, Option.bind_some, List.length_cons, List.length_nil, List.set_cons_zero, List.set_cons_succ, Nat.reduceAdd, Nat.reduceLT, Nat.reduceSub, reduceIte, decide_true, decide_false, List.map_cons, List.map_nil, List.cons_append, List.nil_append, List.replicate_succ, List.replicate_zero, Nat.lt_add_one, Nat.zero_lt_succ, Nat.zero_lt_one, hc.glO, eq_opn, Itm.isO, itT, io0, io1, q, ap]
      have gen : ∀ (xs : List Itm) (acc : List D), (∀ i ∈ xs, i.ok) → acc.length + xs.length ≤ 100000 → evLc (lcTurn (fun y => evG G (run G (k + 1)) (.nam 2) y) (evOt G (run G (k + 1)) .none) (evE G (run G (k + 1)) (.ite (.cmp .eq (.var 2) (.glb 4)) (.cst (.str [40])) (.bin .add (.call false 10 (.cons (.ix (.var 2) (.cst (.int 0))) .nil)) (.ix (.var 2) (.cst (.int 1)))))) (wipeS [some (.r a), none, none] [2])) ((xs.map Itm.D).map .d) acc S = .ok (acc ++ (xs.map itT).map .str) S := by
        intro xs
        induction xs with
        | nil => intro acc _ _; show RE.ok acc S = .ok (acc ++ []) S; rw [List.append_nil]
        | cons i xs ih =>
          intro acc hi ha
          rw [List.length_cons] at ha
          show (lcTurn _ _ _ _ (.d i.D) acc S).bind _ = _
          rw [one i (hi i (List.mem_cons_self ..)) acc (by omega)]
          show evLc _ _ (acc ++ [.str (itT i)]) S = _
          rw [ih _ (fun j hj => hi j (List.mem_cons_of_mem _ hj)) (by rw [List.length_append]; show _ + 1 + _ ≤ _; omega), List.append_assoc]
          rfl
      show evLc _ _ [] S = _
      rw [gen r.reverse [] (fun i hi => hpd.2.2 i (List.mem_reverse.mp hi)) (by rw [List.length_reverse]; have := hpd.2.1; show 0 + _ ≤ _; omega), List.nil_append]
    simp -implicitDefEqProofs only [bnd_ok, bnd_ex, sts_ok, sts_ex, sqs_nx, sqs_ret, sqs_ex, cnd_t, cnd_f, of_some, asd_ok, asd_ex, e_cst, e_var, rd_eq, rdO_ok, e_glb, glO_ok, e_bin, e_neg, e_cmp, chK_t, chK_f, e_chn, e_and, e_or, and_one, and_more, or_one, or_more, e_not, e_ite, e_call, mkI_some, e_mk, e_mth, e_blt, e_isi, e_bm, e_repl, e_fld, e_ix, e_sl, e_tup, e_lst, a_nil, a_cons, o_none, o_some, t_val, t_cmp, t_chn, t_and, t_or, t_not, tand_nil, tand_cons, tor_nil, tor_cons, g_nam, g_tup, gs_nil, gs_cons, s_expr, s_asg, s_setf, s_aug, augL_ok, s_ret, s_retN, s_ite, s_raise, b_nil, b_cons, fin_nx, fin_ret, fin_ex, o2, lk, looks, leave_d, leave_ex, dats_nil, dats_cons, fld_d, ix_d, call1, call2, call3, call4, call5, setL, List.getElem?_cons_zero, List.getElem?_cons_succ, Option.map_some, Option.bind_some, List.length_cons, List.length_nil, List.set_cons_zero, List.set_cons_succ, Nat.reduceAdd, Nat.reduceLT, Nat.reduceSub, reduceIte, decide_true, decide_false, List.map_cons, List.map_nil, List.cons_append, List.nil_append, List.replicate_succ, List.replicate_zero, Nat.lt_add_one, Nat.zero_lt_succ, Nat.zero_lt_one, fs0, fs1, fs2, fs3, fs4, fs5, fs6, cls_s, im0, im1, in0, in1, cmp_is, cmp_isn, ty_non, la_non, oD_non, Nm_non, cmp_eqs, cmp_nes, beq1, wd_eq, wd_eq2, mn_pile, mn_rank, nn_str, nn_tup, nn_non, f_Reckoner_waiting, fr0 hS, decide_eq_false hpd.1, fr1 hS, e, e_lc, i_seq, sq, lc, lcEnd]
theorem mk_rk {G : Tab} (hc : Core G) (hk : Looks G) (h40 : G.fn 40 = some f_Reckoner_init) (k : Nat) {m : Mk} (hm : m.ok) (S : Sto) : mkW (run G (k + 4)) true 1 40 [.d m.D] S = .ok (.r S.length) (S ++ [rk m (startS m)]) := by
  have q : run G (k + 4) 40 [.r S.length, .d m.D] (S ++ [.ins 1 []]) = .ok (.d .non) (S ++ [rk m (startS m)]) := by
    rw [run_fn h40 rfl (by decide)]
    have q1 := run_look hk k hm
    have q2 := run_first hc (k + 1) m nm0
    rw [show nm0.D = .tup [.int 0, .int 0] from rfl] at q2
    have g0 : ∀ o : O, (S ++ [o])[S.length]? = some o := fun o => by rw [List.getElem?_append_right (Nat.le_refl _), Nat.sub_self]; rfl
    have g1 : ∀ o p : O, (S ++ [o]).set S.length p = S ++ [p] := fun o p => by rw [List.set_append_right _ _ (Nat.le_refl _), Nat.sub_self]; rfl
    have t1 : ∀ l, setf 1 0 l (S ++ [.ins 1 []]) (.r S.length) (.d m.D) = .nx l (S ++ [.ins 1 [.d m.D]]) := by
      intro l
      unfold setf
      dsimp only
      rw [g0]
      show RS.nx l ((S ++ [O.ins 1 []]).set S.length (O.ins 1 [.d m.D])) = _
      rw [g1]
    have t2 : ∀ l, setf 1 1 l (S ++ [.ins 1 [.d m.D]]) (.r S.length) (.d (firstS m nm0).D) = .nx l (S ++ [rk m (startS m)]) := by
      intro l
      unfold setf
      dsimp only
      rw [g0]
      show RS.nx l ((S ++ [O.ins 1 [.d m.D]]).set S.length (O.ins 1 [.d m.D, .d (firstS m nm0).D])) = _
      rw [g1]
      rfl
    simp -implicitDefEqProofs only [bnd_ok, bnd_ex, sts_ok, sts_ex, sqs_nx, sqs_ret, sqs_ex, cnd_t, cnd_f, of_some, asd_ok, asd_ex, e_cst, e_var, rd_eq, rdO_ok, e_glb, glO_ok, e_bin, e_neg, e_cmp, chK_t, chK_f, e_chn, e_and, e_or, and_one, and_more, or_one, or_more, e_not, e_ite, e_call, mkI_some, e_mk, e_mth, e_blt, e_isi, e_bm, e_repl, e_fld, e_ix, e_sl, e_tup, e_lst, a_nil, a_cons, o_none, o_some, t_val, t_cmp, t_chn, t_and, t_or, t_not, tand_nil, tand_cons, tor_nil, tor_cons, g_nam, g_tup, gs_nil, gs_cons, s_expr, s_asg, s_setf, s_aug, augL_ok, s_ret, s_retN, s_ite, s_raise, b_nil, b_cons, fin_nx, fin_ret, fin_ex, o2, lk, looks, leave_d, leave_ex, dats_nil, dats_cons, fld_d, ix_d, call1, call2, call3, call4, call5, setL, List.getElem?_cons_zero, List.getElem?_cons_succ, Option.map_some, Option.bind_some, List.length_cons, List.length_nil, List.set_cons_zero, List.set_cons_succ, Nat.reduceAdd, Nat.reduceLT, Nat.reduceSub, reduceIte, decide_true, decide_false, List.map_cons, List.map_nil, List.cons_append, List.nil_append, List.replicate_succ, List.replicate_zero, Nat.lt_add_one, Nat.zero_lt_succ, Nat.zero_lt_one, f_Reckoner_init, q1, t1, hc.glN, q2, t2]
  unfold mkW
  rw [if_pos rfl, q]
end Kr
/-! KrW: what the laws' own defs do. -/
namespace Kr
theorem evB_nx {G : Tab} {C : Cl} {s : St} {ss : Ss} {l l1 : Sl} {S S1 : Sto} (h : evS G C s l S = .nx l1 S1) : evB G C (.cons s ss) l S = evB G C ss l1 S1 := by
  rw [b_cons, h]; rfl
theorem evB_ret {G : Tab} {C : Cl} {s : St} {ss : Ss} {l : Sl} {S S1 : Sto} {w : W} (h : evS G C s l S = .ret w S1) : evB G C (.cons s ss) l S = .ret w S1 := by
  rw [b_cons, h]; rfl
/-- what _law_cell gives -/
def cellv (ns : List Int) (i : Nat) : Int := (ns[i]?).getD 0
theorem run_cell {G : Tab} (h : G.fn 117 = some f__law_cell) (ns : List Int) (i k : Nat) : run G (k + 1) 117 [.d (.scr ns), .d (.int i)] [] = .ok (.d (.int (cellv ns i))) [] := by
  rw [run_fn h rfl (by decide)]
  have bl : evBi .len [.scr ns] = some (.int ns.length) := rfl
  unfold cellv
  by_cases c : i < ns.length
  · have e : ixD (.scr ns) (.int i) = some (.int ((ns[i]?).getD 0)) := by
      show (ixAt ns (i : Int)).map D.int = _
      unfold ixAt
      rw [if_pos (by omega), if_pos (by omega), Int.toNat_natCast, List.getElem?_eq_getElem c]
      rfl
    simp -implicitDefEqProofs only [bnd_ok, bnd_ex, sts_ok, sts_ex, sqs_nx, sqs_ret, sqs_ex, cnd_t, cnd_f, of_some, asd_ok, asd_ex, e_cst, e_var, rd_eq, rdO_ok, e_glb, glO_ok, e_bin, e_neg, e_cmp, chK_t, chK_f, e_chn, e_and, e_or, and_one, and_more, or_one, or_more, e_not, e_ite, e_call, mkI_some, e_mk, e_mth, e_blt, e_isi, e_bm, e_repl, e_fld, e_ix, e_sl, e_tup, e_lst, a_nil, a_cons, o_none, o_some, t_val, t_cmp, t_chn, t_and, t_or, t_not, tand_nil, tand_cons, tor_nil, tor_cons, g_nam, g_tup, gs_nil, gs_cons, s_expr, s_asg, s_setf, s_aug, augL_ok, s_ret, s_retN, s_ite, s_raise, b_nil, b_cons, fin_nx, fin_ret, fin_ex, o2, lk, looks, leave_d, leave_ex, dats_nil, dats_cons, fld_d, ix_d, call1, call2, call3, call4, call5, setL, List.getElem?_cons_zero, List.getElem?_cons_succ, Option.map_some, Option.bind_some, List.length_cons, List.length_nil, List.set_cons_zero, List.set_cons_succ, Nat.reduceAdd, Nat.reduceLT, Nat.reduceSub, reduceIte, decide_true, decide_false, List.map_cons, List.map_nil, List.cons_append, List.nil_append, List.replicate_succ, List.replicate_zero, Nat.lt_add_one, Nat.zero_lt_succ, Nat.zero_lt_one, f__law_cell, bl, cmp_lt, decide_eq_true (show (i : Int) < (ns.length : Int) by omega), e]
  · rw [List.getElem?_eq_none (by omega)]
    simp -implicitDefEqProofs only [bnd_ok, bnd_ex, sts_ok, sts_ex, sqs_nx, sqs_ret, sqs_ex, cnd_t, cnd_f, of_some, asd_ok, asd_ex, e_cst, e_var, rd_eq, rdO_ok, e_glb, glO_ok, e_bin, e_neg, e_cmp, chK_t, chK_f, e_chn, e_and, e_or, and_one, and_more, or_one, or_more, e_not, e_ite, e_call, mkI_some, e_mk, e_mth, e_blt, e_isi, e_bm, e_repl, e_fld, e_ix, e_sl, e_tup, e_lst, a_nil, a_cons, o_none, o_some, t_val, t_cmp, t_chn, t_and, t_or, t_not, tand_nil, tand_cons, tor_nil, tor_cons, g_nam, g_tup, gs_nil, gs_cons, s_expr, s_asg, s_setf, s_aug, augL_ok, s_ret, s_retN, s_ite, s_raise, b_nil, b_cons, fin_nx, fin_ret, fin_ex, o2, lk, looks, leave_d, leave_ex, dats_nil, dats_cons, fld_d, ix_d, call1, call2, call3, call4, call5, setL, List.getElem?_cons_zero, List.getElem?_cons_succ, Option.map_some, Option.bind_some, List.length_cons, List.length_nil, List.set_cons_zero, List.set_cons_succ, Nat.reduceAdd, Nat.reduceLT, Nat.reduceSub, reduceIte, decide_true, decide_false, List.map_cons, List.map_nil, List.cons_append, List.nil_append, List.replicate_succ, List.replicate_zero, Nat.lt_add_one, Nat.zero_lt_succ, Nat.zero_lt_one, f__law_cell, bl, cmp_lt, decide_eq_false (show ¬ (i : Int) < (ns.length : Int) by omega)]
    rfl
theorem bin_mulr {i j : Int} (h : -(2 ^ 64) < j ∧ j < 2 ^ 64) : evBin .mul (.int i) (.int j) = some (.int (i * j)) := by
  show (if mulOk i j then some (D.int (i * j)) else none) = _
  have : mulOk i j = true := by
    unfold mulOk
    rw [decide_eq_true h.1, decide_eq_true h.2]
    simp
  rw [this]; rfl
theorem bin_mull {i j : Int} (h : -(2 ^ 64) < i ∧ i < 2 ^ 64) : evBin .mul (.int i) (.int j) = some (.int (i * j)) := by
  show (if mulOk i j then some (D.int (i * j)) else none) = _
  have : mulOk i j = true := by
    unfold mulOk
    rw [decide_eq_true h.1, decide_eq_true h.2]
    simp
  rw [this]; rfl
def seedv (s k : Int) : Int := ((s * 1103515245 + 7919 * k + 12345) % 2147483647) ^ 5 % 2147483647
theorem seedv_le (s k : Int) : 0 ≤ seedv s k ∧ seedv s k < 2147483647 := by
  unfold seedv
  generalize ((s * 1103515245 + 7919 * k + 12345) % 2147483647) ^ 5 = x
  omega
theorem run_seed {G : Tab} (h : G.fn 119 = some f__law_seed) (s i : Int) (k : Nat) : run G (k + 1) 119 [.d (.int s), .d (.int i)] [] = .ok (.d (.int (seedv s i))) [] := by
  rw [run_fn h rfl (by decide)]
  have e1 : evBin .mul (.int s) (.int 1103515245) = some (.int (s * 1103515245)) := bin_mulr (by omega)
  have e2 : evBin .mul (.int 7919) (.int i) = some (.int (7919 * i)) := bin_mull (by omega)
  have e3 : evBin .mod (.int (s * 1103515245 + 7919 * i + 12345)) (.int 2147483647) = some (.int ((s * 1103515245 + 7919 * i + 12345) % 2147483647)) := bin_mod (by omega)
  have e4 : evBin .pow (.int ((s * 1103515245 + 7919 * i + 12345) % 2147483647)) (.int 5) = some (.int (((s * 1103515245 + 7919 * i + 12345) % 2147483647) ^ 5)) := by
    show (if (0 : Int) ≤ 5 ∧ (5 : Int) ≤ 1000 ∧ ((s * 1103515245 + 7919 * i + 12345) % 2147483647).natAbs < 18446744073709551616 then some (D.int (((s * 1103515245 + 7919 * i + 12345) % 2147483647) ^ (5 : Int).toNat)) else none) = _
    rw [if_pos ⟨by omega, by omega, by omega⟩]
    rfl
  have e5 : evBin .mod (.int (((s * 1103515245 + 7919 * i + 12345) % 2147483647) ^ 5)) (.int 2147483647) = some (.int (seedv s i)) := bin_mod (by omega)
  simp -implicitDefEqProofs only [bnd_ok, bnd_ex, sts_ok, sts_ex, sqs_nx, sqs_ret, sqs_ex, cnd_t, cnd_f, of_some, asd_ok, asd_ex, e_cst, e_var, rd_eq, rdO_ok, e_glb, glO_ok, e_bin, e_neg, e_cmp, chK_t, chK_f, e_chn, e_and, e_or, and_one, and_more, or_one, or_more, e_not, e_ite, e_call, mkI_some, e_mk, e_mth, e_blt, e_isi, e_bm, e_repl, e_fld, e_ix, e_sl, e_tup, e_lst, a_nil, a_cons, o_none, o_some, t_val, t_cmp, t_chn, t_and, t_or, t_not, tand_nil, tand_cons, tor_nil, tor_cons, g_nam, g_tup, gs_nil, gs_cons, s_expr, s_asg, s_setf, s_aug, augL_ok, s_ret, s_retN, s_ite, s_raise, b_nil, b_cons, fin_nx, fin_ret, fin_ex, o2, lk, looks, leave_d, leave_ex, dats_nil, dats_cons, fld_d, ix_d, call1, call2, call3, call4, call5, setL, List.getElem?_cons_zero, List.getElem?_cons_succ, Option.map_some, Option.bind_some, List.length_cons, List.length_nil, List.set_cons_zero, List.set_cons_succ, Nat.reduceAdd, Nat.reduceLT, Nat.reduceSub, reduceIte, decide_true, decide_false, List.map_cons, List.map_nil, List.cons_append, List.nil_append, List.replicate_succ, List.replicate_zero, Nat.lt_add_one, Nat.zero_lt_succ, Nat.zero_lt_one, f__law_seed, e1, e2, bin_add, e3, e4, e5]
def pickv (s m : Int) : Int := s / 97 % m
theorem run_pick {G : Tab} (h : G.fn 120 = some f__law_pick) (s m : Int) (hm : 0 < m) (k : Nat) : run G (k + 1) 120 [.d (.int s), .d (.int m)] [] = .ok (.d (.int (pickv s m))) [] := by
  rw [run_fn h rfl (by decide)]
  have e1 : evBin .fdiv (.int s) (.int 97) = some (.int (s / 97)) := bin_div (by omega) (by decide)
  have e2 : evBin .mod (.int (s / 97)) (.int m) = some (.int (pickv s m)) := bin_mod hm
  simp -implicitDefEqProofs only [bnd_ok, bnd_ex, sts_ok, sts_ex, sqs_nx, sqs_ret, sqs_ex, cnd_t, cnd_f, of_some, asd_ok, asd_ex, e_cst, e_var, rd_eq, rdO_ok, e_glb, glO_ok, e_bin, e_neg, e_cmp, chK_t, chK_f, e_chn, e_and, e_or, and_one, and_more, or_one, or_more, e_not, e_ite, e_call, mkI_some, e_mk, e_mth, e_blt, e_isi, e_bm, e_repl, e_fld, e_ix, e_sl, e_tup, e_lst, a_nil, a_cons, o_none, o_some, t_val, t_cmp, t_chn, t_and, t_or, t_not, tand_nil, tand_cons, tor_nil, tor_cons, g_nam, g_tup, gs_nil, gs_cons, s_expr, s_asg, s_setf, s_aug, augL_ok, s_ret, s_retN, s_ite, s_raise, b_nil, b_cons, fin_nx, fin_ret, fin_ex, o2, lk, looks, leave_d, leave_ex, dats_nil, dats_cons, fld_d, ix_d, call1, call2, call3, call4, call5, setL, List.getElem?_cons_zero, List.getElem?_cons_succ, Option.map_some, Option.bind_some, List.length_cons, List.length_nil, List.set_cons_zero, List.set_cons_succ, Nat.reduceAdd, Nat.reduceLT, Nat.reduceSub, reduceIte, decide_true, decide_false, List.map_cons, List.map_nil, List.cons_append, List.nil_append, List.replicate_succ, List.replicate_zero, Nat.lt_add_one, Nat.zero_lt_succ, Nat.zero_lt_one, f__law_pick, e1, e2]
/-- a make -/
def mkv (c : Int) : Mk := ⟨if c % 3 = 0 then .chain else if c % 3 = 1 then .rank else .pile, (3 + c / 3 % 6).toNat⟩
theorem mkv_ok (c : Int) : (mkv c).ok := by
  unfold mkv Mk.ok
  dsimp only
  omega
theorem run_make {G : Tab} (h : G.fn 121 = some f__law_make) (c : Int) (k : Nat) : run G (k + 1) 121 [.d (.int c)] [] = .ok (.d (mkv c).D) [] := by
  rw [run_fn h rfl (by decide)]
  have e1 : evBin .mod (.int c) (.int 3) = some (.int (c % 3)) := bin_mod (by omega)
  have e2 : evBin .fdiv (.int c) (.int 3) = some (.int (c / 3)) := bin_div (by omega) (by decide)
  have e3 : evBin .mod (.int (c / 3)) (.int 6) = some (.int (c / 3 % 6)) := bin_mod (by omega)
  have e4 : lstK false [.d (.str [99, 104, 97, 105, 110]), .d (.str [114, 97, 110, 107]), .d (.str [112, 105, 108, 101])] [] = .ok (.d (.lst [.str [99, 104, 97, 105, 110], .str [114, 97, 110, 107], .str [112, 105, 108, 101]])) [] := rfl
  have e5 : ixD (.lst [.str [99, 104, 97, 105, 110], .str [114, 97, 110, 107], .str [112, 105, 108, 101]]) (.int (c % 3)) = some (.str (mkv c).mn.tx) := by
    have : c % 3 = 0 ∨ c % 3 = 1 ∨ c % 3 = 2 := by omega
    unfold mkv
    rcases this with q | q | q <;> rw [q] <;> rfl
  have e6 : (3 : Int) + c / 3 % 6 = ((mkv c).pl : Int) := by unfold mkv; dsimp only; omega
  simp -implicitDefEqProofs only [bnd_ok, bnd_ex, sts_ok, sts_ex, sqs_nx, sqs_ret, sqs_ex, cnd_t, cnd_f, of_some, asd_ok, asd_ex, e_cst, e_var, rd_eq, rdO_ok, e_glb, glO_ok, e_bin, e_neg, e_cmp, chK_t, chK_f, e_chn, e_and, e_or, and_one, and_more, or_one, or_more, e_not, e_ite, e_call, mkI_some, e_mk, e_mth, e_blt, e_isi, e_bm, e_repl, e_fld, e_ix, e_sl, e_tup, e_lst, a_nil, a_cons, o_none, o_some, t_val, t_cmp, t_chn, t_and, t_or, t_not, tand_nil, tand_cons, tor_nil, tor_cons, g_nam, g_tup, gs_nil, gs_cons, s_expr, s_asg, s_setf, s_aug, augL_ok, s_ret, s_retN, s_ite, s_raise, b_nil, b_cons, fin_nx, fin_ret, fin_ex, o2, lk, looks, leave_d, leave_ex, dats_nil, dats_cons, fld_d, ix_d, call1, call2, call3, call4, call5, setL, List.getElem?_cons_zero, List.getElem?_cons_succ, Option.map_some, Option.bind_some, List.length_cons, List.length_nil, List.set_cons_zero, List.set_cons_succ, Nat.reduceAdd, Nat.reduceLT, Nat.reduceSub, reduceIte, decide_true, decide_false, List.map_cons, List.map_nil, List.cons_append, List.nil_append, List.replicate_succ, List.replicate_zero, Nat.lt_add_one, Nat.zero_lt_succ, Nat.zero_lt_one, f__law_make, e1, e2, e3, e4, e5, bin_add, e6, sz, Nat.reduceLeDiff]
  rfl
/-! comprehensions -/
theorem evLc_map {u : W → List D → Sto → RE (List D)} {f : W → D} {S : Sto} : ∀ (ws : List W) (acc : List D), (∀ w ∈ ws, ∀ acc : List D, acc.length < 100000 → u w acc S = .ok (acc ++ [f w]) S) → acc.length + ws.length ≤ 100000 →
    evLc u ws acc S = .ok (acc ++ ws.map f) S
  | [], acc, _, _ => by show RE.ok acc S = .ok (acc ++ []) S; rw [List.append_nil]
  | w :: ws, acc, h, hl => by
    rw [List.length_cons] at hl
    show (u w acc S).bind (fun acc S => evLc u ws acc S) = _
    rw [h w (List.mem_cons_self ..) acc (by omega)]
    show evLc u ws (acc ++ [f w]) S = _
    rw [evLc_map ws _ (fun y hy => h y (List.mem_cons_of_mem _ hy)) (by rw [List.length_append]; show _ + 1 + _ ≤ _; omega), List.append_assoc]
    rfl
theorem strs_map : ∀ x : List Tx, strsOf (x.map D.str) = some x
  | [] => rfl
  | a :: r => by
    show (strsOf (r.map D.str)).map (a :: ·) = _
    rw [strs_map r]; rfl
theorem join_nil : ∀ x : List Tx, joinT [] x = x.flatten
  | [] => rfl
  | [a] => by show a = a ++ []; rw [List.append_nil]
  | a :: b :: r => by
    show a ++ [] ++ joinT [] (b :: r) = a ++ (b :: r).flatten
    rw [join_nil (b :: r), List.append_nil]
/-! rows that are drawn -/
def kys (i : Int) : Tx := if i = 0 then KEYS else if i = 1 then [49, 50, 51, 52, 53, 46, 43, 45, 42, 47, 61, 40, 41] else if i = 2 then [48, 49, 50, 51, 52, 53, 54, 55, 56, 57, 46, 46, 46, 46, 46, 43, 45, 42, 47, 61, 61, 61, 61, 80, 78, 82] else [49, 50, 51, 46, 69, 69, 69, 43, 45, 42, 47, 88, 68, 82, 66, 78, 80]
theorem kys_ok (i : Int) : ∀ c ∈ kys i, isKey c = true := by
  have : ∀ x : Tx, x.all isKey = true → ∀ c ∈ x, isKey c = true := fun x h c hc => List.all_eq_true.mp h c hc
  unfold kys
  split
  · exact this _ (by decide)
  · split
    · exact this _ (by decide)
    · split
      · exact this _ (by decide)
      · exact this _ (by decide)
theorem kys_len (i : Int) : 0 < (kys i).length ∧ (kys i).length ≤ 30 := by
  unfold kys
  split
  · decide
  · split
    · decide
    · split <;> decide
def rowc (s : Int) (k : Nat) : Nat := (kys (s / 5 % 4)).getD (pickv (seedv s k) (kys (s / 5 % 4)).length).toNat 0
def rowv (s : Int) (n : Nat) : Tx := (List.range n).map (rowc s)
theorem pick_lt (s : Int) (k : Nat) (x : Tx) (h : 0 < x.length) : 0 ≤ pickv (seedv s k) x.length ∧ pickv (seedv s k) x.length < x.length := by
  unfold pickv
  exact ⟨Int.emod_nonneg _ (by omega), Int.emod_lt_of_pos _ (by omega)⟩
theorem rowc_mem (s : Int) (k : Nat) : rowc s k ∈ kys (s / 5 % 4) := by
  have := pick_lt s k (kys (s / 5 % 4)) (kys_len _).1
  unfold rowc
  rw [List.getD_eq_getElem?_getD, List.getElem?_eq_getElem (by omega)]
  exact List.getElem_mem _
theorem rowv_ok (s : Int) {n : Nat} (h : n ≤ 60) : isRow (rowv s n) := by
  unfold rowv
  refine ⟨by rw [List.length_map, List.length_range]; exact h, fun c hc => ?_⟩
  obtain ⟨k, _, rfl⟩ := List.mem_map.mp hc
  exact kys_ok _ _ (rowc_mem s k)
theorem rowv_len (s : Int) (n : Nat) : (rowv s n).length = n := by unfold rowv; rw [List.length_map, List.length_range]
theorem flat_one : ∀ x : Tx, (x.map fun c => [c]).flatten = x
  | [] => rfl
  | a :: r => by rw [List.map_cons, List.flatten_cons, flat_one r]; rfl
theorem sum_one : ∀ x : Tx, ((x.map fun c => [c]).map (·.length)).sum = x.length
  | [] => rfl
  | a :: r => by rw [List.map_cons, List.map_cons, List.sum_cons, sum_one r]; show 1 + _ = _; rw [List.length_cons]; omega
theorem run_row {G : Tab} (h : G.fn 136 = some f__law_row) (h1 : G.fn 119 = some f__law_seed) (h2 : G.fn 120 = some f__law_pick) (s : Int) {n : Nat} (hn : n ≤ 1000) (k : Nat) : run G (k + 2) 136 [.d (.int s), .d (.int n)] [] = .ok (.d (.str (rowv s n))) [] := by
  rw [run_fn h rfl (by decide)]
  have e2 : evBin .fdiv (.int s) (.int 5) = some (.int (s / 5)) := bin_div (by omega) (by decide)
  have e3 : evBin .mod (.int (s / 5)) (.int 4) = some (.int (s / 5 % 4)) := bin_mod (by omega)
  have kl := kys_len (s / 5 % 4)
  have e4 : ∀ S, lstK false [.d (.str KEYS), .d (.str [49, 50, 51, 52, 53, 46, 43, 45, 42, 47, 61, 40, 41]), .d (.str [48, 49, 50, 51, 52, 53, 54, 55, 56, 57, 46, 46, 46, 46, 46, 43, 45, 42, 47, 61, 61, 61, 61, 80, 78, 82]), .d (.str [49, 50, 51, 46, 69, 69, 69, 43, 45, 42, 47, 88, 68, 82, 66, 78, 80])] S = .ok (.d (.lst [.str KEYS, .str [49, 50, 51, 52, 53, 46, 43, 45, 42, 47, 61, 40, 41], .str [48, 49, 50, 51, 52, 53, 54, 55, 56, 57, 46, 46, 46, 46, 46, 43, 45, 42, 47, 61, 61, 61, 61, 80, 78, 82], .str [49, 50, 51, 46, 69, 69, 69, 43, 45, 42, 47, 88, 68, 82, 66, 78, 80]])) S := fun _ => rfl
  have e5 : ixD (.lst [.str KEYS, .str [49, 50, 51, 52, 53, 46, 43, 45, 42, 47, 61, 40, 41], .str [48, 49, 50, 51, 52, 53, 54, 55, 56, 57, 46, 46, 46, 46, 46, 43, 45, 42, 47, 61, 61, 61, 61, 80, 78, 82], .str [49, 50, 51, 46, 69, 69, 69, 43, 45, 42, 47, 88, 68, 82, 66, 78, 80]]) (.int (s / 5 % 4)) = some (.str (kys (s / 5 % 4))) := by
    have : s / 5 % 4 = 0 ∨ s / 5 % 4 = 1 ∨ s / 5 % 4 = 2 ∨ s / 5 % 4 = 3 := by omega
    rcases this with q | q | q | q <;> rw [q] <;> rfl
  rw [show (KEYS : Tx) = [48, 49, 50, 51, 52, 53, 54, 55, 56, 57, 46, 43, 45, 42, 47, 61, 40, 41, 78, 66, 67, 80, 77, 82, 90, 69, 88, 68] from rfl] at e4 e5
  generalize hx : kys (s / 5 % 4) = x at e5 kl
  have ei : ∀ l, evI G (run G (k + 1)) (.rng1 (.var 1)) (some (.d (.int s)) :: some (.d (.int (n : Int))) :: l) [] = .ok (.vs ((List.range n).map fun (i : Nat) => .d (.int i))) [] := by
    intro l
    rw [evI]
    have : evE G (run G (k + 1)) (.var 1) (some (.d (.int s)) :: some (.d (.int (n : Int))) :: l) [] = .ok (.d (.int (n : Int))) [] := by simp -implicitDefEqProofs only [bnd_ok, bnd_ex, sts_ok, sts_ex, sqs_nx, sqs_ret, sqs_ex, cnd_t, cnd_f, of_some, asd_ok, asd_ex, e_cst, e_var, rd_eq, rdO_ok, e_glb, glO_ok, e_bin, e_neg, e_cmp, chK_t, chK_f, e_chn, e_and, e_or, and_one, and_more, or_one, or_more, e_not, e_ite, e_call, mkI_some, e_mk, e_mth, e_blt, e_isi, e_bm, e_repl, e_fld, e_ix, e_sl, e_tup, e_lst, a_nil, a_cons, o_none, o_some, t_val, t_cmp, t_chn, t_and, t_or, t_not, tand_nil, tand_cons, tor_nil, tor_cons, g_nam, g_tup, gs_nil, gs_cons, s_expr, s_asg, s_setf, s_aug, augL_ok, s_ret, s_retN, s_ite, s_raise, b_nil, b_cons, fin_nx, fin_ret, fin_ex, o2, lk, looks, leave_d, leave_ex, dats_nil, dats_cons, fld_d, ix_d, call1, call2, call3, call4, call5, setL, List.getElem?_cons_zero, List.getElem?_cons_succ, Option.map_some, Option.bind_some, List.length_cons, List.length_nil, List.set_cons_zero, List.set_cons_succ, Nat.reduceAdd, Nat.reduceLT, Nat.reduceSub, reduceIte, decide_true, decide_false, List.map_cons, List.map_nil, List.cons_append, List.nil_append, List.replicate_succ, List.replicate_zero, Nat.lt_add_one, Nat.zero_lt_succ, Nat.zero_lt_one]
    rw [this]
    show (if rngOk (n : Int) = true then RE.ok (Iv.vs (range1 (rngN 0 (n : Int)) 0)) [] else .bad) = _
    have r1 : rngOk (n : Int) = true := by unfold rngOk; rw [decide_eq_true (by omega), decide_eq_true (by omega)]; rfl
    rw [r1, if_pos rfl]
    have r2 : rngN 0 (n : Int) = n := by unfold rngN; omega
    rw [r2]
    unfold range1
    congr 2
    apply List.map_congr_left
    intro i _
    rw [Int.zero_add]
  have lc : ∀ w2, evLcI (lcTurn (fun y => evG G (run G (k + 1)) (.nam 4) y) (evOt G (run G (k + 1)) .none) (evE G (run G (k + 1)) (.ix (.var 3) (.call false 120 (.cons (.call false 119 (.cons (.var 0) (.cons (.var 4) .nil))) (.cons (.blt .len (.cons (.var 3) .nil)) .nil))))) (wipeS [some (.d (.int s)), some (.d (.int (n : Int))), w2, some (.d (.str x)), none] [4])) (.vs ((List.range n).map fun (i : Nat) => .d (.int i))) [] = .ok ((rowv s n).map fun c => D.str [c]) [] := by
    intro w2
    show evLc _ _ [] [] = _
    have gen : ∀ (is : List Nat) (acc : List D), acc.length + is.length ≤ 100000 → evLc (lcTurn (fun y => evG G (run G (k + 1)) (.nam 4) y) (evOt G (run G (k + 1)) .none) (evE G (run G (k + 1)) (.ix (.var 3) (.call false 120 (.cons (.call false 119 (.cons (.var 0) (.cons (.var 4) .nil))) (.cons (.blt .len (.cons (.var 3) .nil)) .nil))))) (wipeS [some (.d (.int s)), some (.d (.int (n : Int))), w2, some (.d (.str x)), none] [4])) (is.map fun (i : Nat) => .d (.int i)) acc [] = .ok (acc ++ (is.map (rowc s)).map fun c => D.str [c]) [] := by
      intro is
      induction is with
      | nil => intro acc _; show RE.ok acc [] = .ok (acc ++ []) []; rw [List.append_nil]
      | cons i is ih =>
        intro acc ha
        rw [List.length_cons] at ha
        have q1 := run_seed h1 s i k
        have q2 := run_pick h2 (seedv s i) (x.length : Int) (by omega) k
        have pl := pick_lt s i x kl.1
        have q3 : ixD (.str x) (.int (pickv (seedv s i) x.length)) = some (.str [rowc s i]) := by
          show (if x.length ≤ sz then (ixAt x (pickv (seedv s i) x.length)).map (fun c => D.str [c]) else none) = _
          rw [if_pos (by show _ ≤ 16777216; omega)]
          unfold ixAt
          rw [if_pos pl.1, if_pos pl.2, List.getElem?_eq_getElem (by omega)]
          unfold rowc
          rw [hx, List.getD_eq_getElem?_getD, List.getElem?_eq_getElem (by omega)]
          rfl
        have one : lcTurn (fun y => evG G (run G (k + 1)) (.nam 4) y) (evOt G (run G (k + 1)) .none) (evE G (run G (k + 1)) (.ix (.var 3) (.call false 120 (.cons (.call false 119 (.cons (.var 0) (.cons (.var 4) .nil))) (.cons (.blt .len (.cons (.var 3) .nil)) .nil))))) (wipeS [some (.d (.int s)), some (.d (.int (n : Int))), w2, some (.d (.str x)), none] [4]) (.d (.int i)) acc [] = .ok (acc ++ [.str [rowc s i]]) [] := by
          refine turn_keep (l' := [some (.d (.int s)), some (.d (.int (n : Int))), w2, some (.d (.str x)), some (.d (.int i))]) (S1 := []) (S2 := []) ?_ (by rw [evOt]) ?_ (by omega)
          · show evG _ _ _ _ [some (.d (.int s)), some (.d (.int (n : Int))), w2, some (.d (.str x)), none] _ = _
            simp -implicitDefEqProofs only [bnd_ok, bnd_ex, sts_ok, sts_ex, sqs_nx, sqs_ret, sqs_ex, cnd_t, cnd_f, of_some, asd_ok, asd_ex, e_cst, e_var, rd_eq, rdO_ok, e_glb, glO_ok, e_bin, e_neg, e_cmp, chK_t, chK_f, e_chn, e_and, e_or, and_one, and_more, or_one, or_more, e_not, e_ite, e_call, mkI_some, e_mk, e_mth, e_blt, e_isi, e_bm, e_repl, e_fld, e_ix, e_sl, e_tup, e_lst, a_nil, a_cons, o_none, o_some, t_val, t_cmp, t_chn, t_and, t_or, t_not, tand_nil, tand_cons, tor_nil, tor_cons, g_nam, g_tup, gs_nil, gs_cons, s_expr, s_asg, s_setf, s_aug, augL_ok, s_ret, s_retN, s_ite, s_raise, b_nil, b_cons, fin_nx, fin_ret, fin_ex, o2, lk, looks, leave_d, leave_ex, dats_nil, dats_cons, fld_d, ix_d, call1, call2, call3, call4, call5, setL, List.getElem?_cons_zero, List.getElem?_cons_succ, Option.map_some, Option.bind_some, List.length_cons, List.length_nil, List.set_cons_zero, List.set_cons_succ, Nat.reduceAdd, Nat.reduceLT, Nat.reduceSub, reduceIte, decide_true, decide_false, List.map_cons, List.map_nil, List.cons_append, List.nil_append, List.replicate_succ, List.replicate_zero, Nat.lt_add_one, Nat.zero_lt_succ, Nat.zero_lt_one]
          · simp -implicitDefEqProofs only [bnd_ok, bnd_ex, sts_ok, sts_ex, sqs_nx, sqs_ret, sqs_ex, cnd_t, cnd_f, of_some, asd_ok, asd_ex, e_cst, e_var, rd_eq, rdO_ok, e_glb, glO_ok, e_bin, e_neg, e_cmp, chK_t, chK_f, e_chn, e_and, e_or, and_one, and_more, or_one, or_more, e_not, e_ite, e_call, mkI_some, e_mk, e_mth, e_blt, e_isi, e_bm, e_repl, e_fld, e_ix, e_sl, e_tup, e_lst, a_nil, a_cons, o_none, o_some, t_val, t_cmp, t_chn, t_and, t_or, t_not, tand_nil, tand_cons, tor_nil, tor_cons, g_nam, g_tup, gs_nil, gs_cons, s_expr, s_asg, s_setf, s_aug, augL_ok, s_ret, s_retN, s_ite, s_raise, b_nil, b_cons, fin_nx, fin_ret, fin_ex, o2, lk, looks, leave_d, leave_ex, dats_nil, dats_cons, fld_d, ix_d, call1, call2, call3, call4, call5, setL, List.getElem?_cons_zero, List.getElem?_cons_succ, Option.map_some, Option.bind_some, List.length_cons, List.length_nil, List.set_cons_zero, List.set_cons_succ, Nat.reduceAdd, Nat.reduceLT, Nat.reduceSub, reduceIte, decide_true, decide_false, List.map_cons, List.map_nil, List.cons_append, List.nil_append, List.replicate_succ, List.replicate_zero, Nat.lt_add_one, Nat.zero_lt_succ, Nat.zero_lt_one, q1, bi_len' (x := x) (by omega), q2, q3]
        show (lcTurn _ _ _ _ (.d (.int i)) acc []).bind _ = _
        rw [one]
        show evLc _ _ (acc ++ [.str [rowc s i]]) [] = _
        rw [ih _ (by rw [List.length_append]; show _ + 1 + _ ≤ _; omega), List.append_assoc]
        rfl
    rw [gen (List.range n) [] (by rw [List.length_range]; show 0 + _ ≤ _; omega), List.nil_append]
    rfl
  have jn : evBm .join [] (.d (.str [])) [.d (.lst ((rowv s n).map fun c => D.str [c]))] = .ok (.d (.str (rowv s n))) [] := by
    have : (rowv s n).map (fun c => D.str [c]) = ((rowv s n).map fun c => [c]).map D.str := by rw [List.map_map]; rfl
    rw [this]
    show RE.of [] (((strsOf (((rowv s n).map fun c => [c]).map D.str)).bind fun zs => if (zs.map (·.length)).sum + zs.length * ([] : Tx).length ≤ sz then some (D.str (joinT [] zs)) else none).map W.d) = _
    rw [strs_map]
    show RE.of [] ((if ((((rowv s n).map fun c => [c]).map (·.length)).sum + ((rowv s n).map fun c => [c]).length * 0 ≤ sz) then some (D.str (joinT [] ((rowv s n).map fun c => [c]))) else none).map W.d) = _
    have hs : (((rowv s n).map fun c => [c]).map (·.length)).sum = n := by rw [sum_one, rowv_len]
    rw [hs, if_pos (by show n + _ * 0 ≤ 16777216; omega), join_nil, flat_one]
    rfl
  simp -implicitDefEqProofs only [bnd_ok, bnd_ex, sts_ok, sts_ex, sqs_nx, sqs_ret, sqs_ex, cnd_t, cnd_f, of_some, asd_ok, asd_ex, e_cst, e_var, rd_eq, rdO_ok, e_glb, glO_ok, e_bin, e_neg, e_cmp, chK_t, chK_f, e_chn, e_and, e_or, and_one, and_more, or_one, or_more, e_not, e_ite, e_call, mkI_some, e_mk, e_mth, e_blt, e_isi, e_bm, e_repl, e_fld, e_ix, e_sl, e_tup, e_lst, a_nil, a_cons, o_none, o_some, t_val, t_cmp, t_chn, t_and, t_or, t_not, tand_nil, tand_cons, tor_nil, tor_cons, g_nam, g_tup, gs_nil, gs_cons, s_expr, s_asg, s_setf, s_aug, augL_ok, s_ret, s_retN, s_ite, s_raise, b_nil, b_cons, fin_nx, fin_ret, fin_ex, o2, lk, looks, leave_d, leave_ex, dats_nil, dats_cons, fld_d, ix_d, call1, call2, call3, call4, call5, setL, List.getElem?_cons_zero, List.getElem?_cons_succ, Option.map_some, Option.bind_some, List.length_cons, List.length_nil, List.set_cons_zero, List.set_cons_succ, Nat.reduceAdd, Nat.reduceLT, Nat.reduceSub, reduceIte, decide_true, decide_false, List.map_cons, List.map_nil, List.cons_append, List.nil_append, List.replicate_succ, List.replicate_zero, Nat.lt_add_one, Nat.zero_lt_succ, Nat.zero_lt_one, f__law_row, e4, e2, e3, e5, rcv_str _ _ _ (by decide : Me.join ≠ .append) (by decide), e_lc, ei, lc, lcEnd, jn]
/-! lists of texts held against one another -/
theorem flats_str : ∀ x : List Tx, D.flats 19 (x.map D.str) = true
  | [] => by unfold List.map; rfl
  | a :: r => by
    show (D.flat 19 (.str a) && D.flats 19 (r.map D.str)) = true
    rw [flats_str r]; rfl
theorem eqs_str : ∀ x y : List Tx, D.eqs (x.map D.str) (y.map D.str) = (x == y)
  | [], [] => rfl
  | [], b :: y => rfl
  | a :: x, [] => rfl
  | a :: x, b :: y => by
    show ((a == b) && D.eqs (x.map D.str) (y.map D.str)) = (a :: x == b :: y)
    rw [eqs_str x y]
    rfl
theorem cmp_eql (x y : List Tx) : evCmp .eq (.lst (x.map D.str)) (.lst (y.map D.str)) = some (x == y) := by
  have h : eqOk (.lst (x.map D.str)) (.lst (y.map D.str)) = true := by
    show (D.flats 19 (x.map D.str) && D.flats 19 (y.map D.str)) = true
    rw [flats_str, flats_str]; rfl
  show (if eqOk (.lst (x.map D.str)) (.lst (y.map D.str)) = true then some (D.eq (.lst (x.map D.str)) (.lst (y.map D.str))) else none) = _
  rw [h, if_pos rfl]
  show some (D.eqs (x.map D.str) (y.map D.str)) = _
  rw [eqs_str]
theorem cmp_nel (x y : List Tx) : evCmp .ne (.lst (x.map D.str)) (.lst (y.map D.str)) = some (!(x == y)) := by
  have h : eqOk (.lst (x.map D.str)) (.lst (y.map D.str)) = true := by
    show (D.flats 19 (x.map D.str) && D.flats 19 (y.map D.str)) = true
    rw [flats_str, flats_str]; rfl
  show (if eqOk (.lst (x.map D.str)) (.lst (y.map D.str)) = true then some (!D.eq (.lst (x.map D.str)) (.lst (y.map D.str))) else none) = _
  rw [h, if_pos rfl]
  show some (!D.eqs (x.map D.str) (y.map D.str)) = _
  rw [eqs_str]
theorem cut_dropA {α : Type} (x : List α) (n : Nat) : cut x (some (n : Int)) none = x.drop n := by
  unfold cut cutAt
  dsimp only
  rw [if_neg (by omega), Int.toNat_natCast]
  by_cases c : n ≤ x.length
  · rw [Nat.min_eq_left c]
    exact List.take_of_length_le (by rw [List.length_drop]; exact Nat.le_refl _)
  · rw [Nat.min_eq_right (by omega), Nat.sub_self, List.take_zero, List.drop_eq_nil_of_le (by omega)]
theorem sl_from (x : List Tx) (n : Nat) : slD (.lst (x.map D.str)) (some (n : Int)) none = some (.lst ((x.drop n).map D.str)) := by
  show some (D.lst (cut (x.map D.str) (some (n : Int)) none)) = _
  rw [cut_dropA, List.map_drop]
/-! E is shown at a fault alone -/
theorem natT_digs : ∀ n : Nat, digs (natT n) := by
  intro n
  induction n using Nat.strongRecOn with
  | ind n ih =>
    by_cases c : n < 10
    · rw [natT_small c]
      intro d hd
      rw [List.mem_singleton.mp hd]; omega
    · rw [natT_step (by omega)]
      refine digs_app (ih _ (by omega)) fun d hd => ?_
      rw [List.mem_singleton.mp hd]; omega
theorem figN_digs (x : Nm) : digs (figN x) := by
  unfold figN rjustT
  exact digs_app (fun d hd => by rw [(List.mem_replicate.mp hd).2]; omega) (natT_digs _)
theorem textN_mem (x : Nm) {c : Nat} (h : c ∈ textN x) : c ≤ 57 := by
  have hf := figN_digs x
  unfold textN at h
  rcases List.mem_append.mp h with h | h
  · split at h
    · rw [List.mem_singleton.mp h]; omega
    · cases h
  · split at h
    · have := hf c h; omega
    · rcases List.mem_append.mp h with h | h
      · have := hf c (List.mem_of_mem_take h); omega
      · rcases List.mem_append.mp h with h | h
        · rw [List.mem_singleton.mp h]; omega
        · have := hf c (List.mem_of_mem_drop h); omega
theorem tx_mem {p : Nat} {t : Tp} (h : t.ok p) {c : Nat} (hc : c ∈ t.tx) : c ≤ 57 := by
  unfold Tp.tx at hc
  rcases List.mem_append.mp hc with hc | hc
  · unfold Tp.sg at hc
    split at hc
    · rw [List.mem_singleton.mp hc]; omega
    · cases hc
  · exact (body_mem h hc).2
theorem shown_E {m : Mk} {n : Nat} {s : Sd} (h : s.ok m n) : (s.shown == ([69] : Tx)) = decide (s.wd = .fault) := by
  unfold Sd.shown
  by_cases c : s.wd = .fault
  · rw [if_pos c, decide_eq_true c]; rfl
  · rw [if_neg c, decide_eq_false c, beq_eq_false_iff_ne]
    intro e
    cases et : s.ty with
    | none =>
      rw [et] at e
      have : (69 : Nat) ∈ textN s.nu := by dsimp only at e; rw [e]; exact List.mem_cons_self ..
      have := textN_mem _ this
      omega
    | some t =>
      rw [et] at e
      have : (69 : Nat) ∈ t.tx := by dsimp only at e; rw [e]; exact List.mem_cons_self ..
      have := tx_mem (h.ty t et) this
      omega
end Kr
/-! KrW2: a law that plays one reckoner. -/
namespace Kr
structure RK (G : Tab) : Prop where
  c : Core G
  k : Looks G
  h3 : G.fn 3 = some f_is_key
  i1 : G.ini 1 = some 40
  h40 : G.fn 40 = some f_Reckoner_init
  h41 : G.fn 41 = some f_Reckoner_press
  h42 : G.fn 42 = some f_Reckoner_shown
  h44 : G.fn 44 = some f_Reckoner_waiting
section
variable {G : Tab} {m : Mk} {n : Nat} {s : Sd}
theorem RK.press (R : RK G) (hm : m.ok) (h : s.ok m n) (hn : n ≤ 10000) {c : Nat} (hk : isKey c = true) : callW (run G 20) false 41 [.r 0, .d (.str [c])] [rk m s] = .ok (.d (.str (behind m s c).shown)) [rk m (behind m s c)] :=
  run_press R.c R.k R.h3 R.h41 12 hm h hn hk (S := [rk m s]) (a := 0) rfl
theorem RK.shown (R : RK G) (h : s.ok m n) : callW (run G 20) false 42 [.r 0] [rk m s] = .ok (.d (.str s.shown)) [rk m s] := run_rshown R.c R.h42 17 h (S := [rk m s]) (a := 0) rfl
theorem RK.wait (R : RK G) (h : s.ok m n) (hn : n ≤ 10000) : callW (run G 20) false 44 [.r 0] [rk m s] = .ok (.d (.lst ((waits s).map .str))) [rk m s] := run_wait R.c R.h44 18 h hn (S := [rk m s]) (a := 0) rfl
theorem RK.mem (R : RK G) (h43 : G.fn 43 = some f_Reckoner_memory) (h : s.ok m n) : callW (run G 20) false 43 [.r 0] [rk m s] = .ok (.d (.str (textN s.kp))) [rk m s] := run_rmem R.c h43 18 h (S := [rk m s]) (a := 0) rfl
theorem RK.mkR (R : RK G) (hm : m.ok) : mkW (run G 20) true 1 40 [.d m.D] [] = .ok (.r 0) [rk m (startS m)] := mk_rk R.c R.k R.h40 16 hm []
theorem cl0 (m : Mk) (s : Sd) : decide (clsOf [rk m s] (.r 0) = some 1) = true := rfl
/-- a row pressed -/
theorem RK.rows (R : RK G) (hm : m.ok) {i r : Nat} {l : Sl} (hr : l[r]? = some (some (.r 0))) (hi : i < l.length) (hne : i ≠ r) : ∀ (x : Tx) (s : Sd) (n : Nat) (w0 : Option W), s.ok m n → n + x.length ≤ 10000 → (∀ c ∈ x, isKey c = true) →
    ∃ w, evFor (evG G (run G 20) (.nam i)) (evB G (run G 20) (.cons (.expr (.mth false 1 41 (.var r) (.cons (.var i) .nil))) .nil)) (x.map fun c => W.d (.str [c])) (l.set i w0) [rk m s] = .nx (l.set i w) [rk m (afterR m s x)] := by
  intro x
  induction x with
  | nil => intro s n w0 _ _ _; exact ⟨w0, rfl⟩
  | cons c x ih =>
    intro s n w0 h hn hk
    rw [List.length_cons] at hn
    have hkc := hk c (List.mem_cons_self ..)
    have hb := behind_ok hm h (by omega) (isKey_lt hkc)
    obtain ⟨w, e⟩ := ih (behind m s c) (n + 1) (some (.d (.str [c]))) hb (by omega) fun d hd => hk d (List.mem_cons_of_mem _ hd)
    refine ⟨w, ?_⟩
    have g1 : (l.set i (some (.d (.str [c]))))[r]? = some (some (.r 0)) := by rw [List.getElem?_set_ne hne]; exact hr
    have g2 : (l.set i (some (.d (.str [c]))))[i]? = some (some (.d (.str [c]))) := by rw [List.getElem?_set_self hi]
    have q := R.press hm h (by omega) hkc
    rw [List.map_cons, for_step (l1 := l.set i (some (.d (.str [c])))) (S1 := [rk m s]) (l2 := l.set i (some (.d (.str [c])))) (S2 := [rk m (behind m s c)]), e]
    · rfl
    · rw [g_nam]
      unfold setL
      rw [if_pos (by rw [List.length_set]; exact hi), List.set_set]
    · simp -implicitDefEqProofs only [bnd_ok, bnd_ex, sts_ok, sts_ex, sqs_nx, sqs_ret, sqs_ex, cnd_t, cnd_f, of_some, asd_ok, asd_ex, e_cst, e_var, rd_eq, rdO_ok, e_glb, glO_ok, e_bin, e_neg, e_cmp, chK_t, chK_f, e_chn, e_and, e_or, and_one, and_more, or_one, or_more, e_not, e_ite, e_call, mkI_some, e_mk, e_mth, e_blt, e_isi, e_bm, e_repl, e_fld, e_ix, e_sl, e_tup, e_lst, a_nil, a_cons, o_none, o_some, t_val, t_cmp, t_chn, t_and, t_or, t_not, tand_nil, tand_cons, tor_nil, tor_cons, g_nam, g_tup, gs_nil, gs_cons, s_expr, s_asg, s_setf, s_aug, augL_ok, s_ret, s_retN, s_ite, s_raise, b_nil, b_cons, fin_nx, fin_ret, fin_ex, o2, lk, looks, leave_d, leave_ex, dats_nil, dats_cons, fld_d, ix_d, call1, call2, call3, call4, call5, setL, List.getElem?_cons_zero, List.getElem?_cons_succ, Option.map_some, Option.bind_some, List.length_cons, List.length_nil, List.set_cons_zero, List.set_cons_succ, Nat.reduceAdd, Nat.reduceLT, Nat.reduceSub, reduceIte, decide_true, decide_false, List.map_cons, List.map_nil, List.cons_append, List.nil_append, List.replicate_succ, List.replicate_zero, Nat.lt_add_one, Nat.zero_lt_succ, Nat.zero_lt_one, g1, g2, cl0, q]
theorem RK.rowsLc (R : RK G) (hm : m.ok) {i r : Nat} {l : Sl} (hr : l[r]? = some (some (.r 0))) (hi : i < l.length) (hne : i ≠ r) : ∀ (x : Tx) (s : Sd) (n : Nat) (acc : List D), s.ok m n → n + x.length ≤ 10000 → (∀ c ∈ x, isKey c = true) → acc.length + x.length ≤ 100000 →
    evLc (lcTurn (fun y => evG G (run G 20) (.nam i) y) (evOt G (run G 20) .none) (evE G (run G 20) (.mth false 1 41 (.var r) (.cons (.var i) .nil))) l) (x.map fun c => W.d (.str [c])) acc [rk m s] = .ok (acc ++ (showns m s x).map .str) [rk m (afterR m s x)] := by
  intro x
  induction x with
  | nil => intro s n acc _ _ _ _; show RE.ok acc _ = .ok (acc ++ []) _; rw [List.append_nil]; rfl
  | cons c x ih =>
    intro s n acc h hn hk ha
    rw [List.length_cons] at hn ha
    have hkc := hk c (List.mem_cons_self ..)
    have hb := behind_ok hm h (by omega) (isKey_lt hkc)
    have g1 : (l.set i (some (.d (.str [c]))))[r]? = some (some (.r 0)) := by rw [List.getElem?_set_ne hne]; exact hr
    have g2 : (l.set i (some (.d (.str [c]))))[i]? = some (some (.d (.str [c]))) := by rw [List.getElem?_set_self hi]
    have q := R.press hm h (by omega) hkc
    have one : lcTurn (fun y => evG G (run G 20) (.nam i) y) (evOt G (run G 20) .none) (evE G (run G 20) (.mth false 1 41 (.var r) (.cons (.var i) .nil))) l (.d (.str [c])) acc [rk m s] = .ok (acc ++ [.str (behind m s c).shown]) [rk m (behind m s c)] := by
      refine turn_keep (l' := l.set i (some (.d (.str [c])))) (S1 := [rk m s]) (S2 := [rk m s]) ?_ (by rw [evOt]) ?_ (by omega)
      · rw [g_nam]
        unfold setL
        rw [if_pos hi]
      · simp -implicitDefEqProofs only [bnd_ok, bnd_ex, sts_ok, sts_ex, sqs_nx, sqs_ret, sqs_ex, cnd_t, cnd_f, of_some, asd_ok, asd_ex, e_cst, e_var, rd_eq, rdO_ok, e_glb, glO_ok, e_bin, e_neg, e_cmp, chK_t, chK_f, e_chn, e_and, e_or, and_one, and_more, or_one, or_more, e_not, e_ite, e_call, mkI_some, e_mk, e_mth, e_blt, e_isi, e_bm, e_repl, e_fld, e_ix, e_sl, e_tup, e_lst, a_nil, a_cons, o_none, o_some, t_val, t_cmp, t_chn, t_and, t_or, t_not, tand_nil, tand_cons, tor_nil, tor_cons, g_nam, g_tup, gs_nil, gs_cons, s_expr, s_asg, s_setf, s_aug, augL_ok, s_ret, s_retN, s_ite, s_raise, b_nil, b_cons, fin_nx, fin_ret, fin_ex, o2, lk, looks, leave_d, leave_ex, dats_nil, dats_cons, fld_d, ix_d, call1, call2, call3, call4, call5, setL, List.getElem?_cons_zero, List.getElem?_cons_succ, Option.map_some, Option.bind_some, List.length_cons, List.length_nil, List.set_cons_zero, List.set_cons_succ, Nat.reduceAdd, Nat.reduceLT, Nat.reduceSub, reduceIte, decide_true, decide_false, List.map_cons, List.map_nil, List.cons_append, List.nil_append, List.replicate_succ, List.replicate_zero, Nat.lt_add_one, Nat.zero_lt_succ, Nat.zero_lt_one, g1, g2, cl0, q]
    show (lcTurn _ _ _ _ (.d (.str [c])) acc [rk m s]).bind _ = _
    rw [one]
    show evLc _ _ (acc ++ [.str (behind m s c).shown]) _ = _
    rw [ih (behind m s c) (n + 1) _ hb (by omega) (fun d hd => hk d (List.mem_cons_of_mem _ hd)) (by rw [List.length_append]; show _ + 1 + _ ≤ _; omega), List.append_assoc]
    rfl
end
/-! a stand with another memory -/
def setK (s : Sd) (x : Nm) : Sd := ⟨s.ty, s.nu, s.gv, s.pd, s.la, x, s.wd⟩
theorem setK_shown (s : Sd) (x : Nm) : (setK s x).shown = s.shown := rfl
theorem setK_wN (s : Sd) (x : Nm) (y : Option Nm) (g : Bool) (p : Pd) : wN (setK s x) y g p = setK (wN s y g p) x := by cases y <;> rfl
theorem setK_operS (m : Mk) (s : Sd) (x : Nm) (r : List Itm) (c : Nat) : operS m (setK s x) r c = setK (operS m s r c) x := by
  unfold operS
  show (match redN m (rankN m c) (opSt s.gv r s.now).2 (some (opSt s.gv r s.now).1) with
    | (_, none) => atF (setK s x)
    | (r2, some y) => wN (setK s x) (some y) false (.ord (.op y c :: r2))) = _
  generalize redN m (rankN m c) (opSt s.gv r s.now).2 (some (opSt s.gv r s.now).1) = q
  obtain ⟨r2, y⟩ := q
  cases y <;> rfl
theorem setK_eqS (m : Mk) (s : Sd) (x : Nm) (r : List Itm) : eqS m (setK s x) r = setK (eqS m s r) x := by
  unfold eqS
  show (match eqL m r (eqY m s r) with
    | none => atF (setK s x)
    | some y => ⟨none, y, true, .ord [], eqLa s r, x, .ended⟩) = _
  cases eqL m r (eqY m s r) <;> rfl
theorem setK_opnS (s : Sd) (x : Nm) (r : List Itm) : opnS (setK s x) r = setK (opnS s r) x := by
  unfold opnS
  show (if s.wd = .ended then wN (setK s x) (some nm0) false (.ord [.opn]) else if s.gv = true ∨ r.countP Itm.isO = 4 then setK s x else wN (setK s x) (some nm0) false (.ord (.opn :: r))) = _
  split
  · rfl
  · split <;> rfl
theorem setK_clsS (m : Mk) (s : Sd) (x : Nm) (r : List Itm) : clsS m (setK s x) r = setK (clsS m s r) x := by
  unfold clsS
  cases r.any Itm.isO with
  | false => rfl
  | true =>
    show wN (setK s x) (redN m 1 r (some s.now)).2 true (.ord (redN m 1 r (some s.now)).1.tail) = setK (wN s (redN m 1 r (some s.now)).2 true (.ord (redN m 1 r (some s.now)).1.tail)) x
    exact setK_wN ..
theorem setK_turn (s : Sd) (x : Nm) : turnS (setK s x) = setK (turnS s) x := by
  unfold turnS
  show (match s.ty with
    | some t => wT (setK s x) ⟨!t.ng, t.ip, t.fp⟩ s.pd
    | none => wN (setK s x) (some ⟨-s.nu.n, s.nu.b⟩) s.gv s.pd) = _
  cases s.ty <;> rfl
theorem setK_ordS (m : Mk) (s : Sd) (x : Nm) (r : List Itm) {c : Nat} (h : c ≠ 82) : ordS m (setK s x) r c = setK (ordS m s r c) x := by
  unfold ordS
  rw [setK_operS, setK_eqS, setK_opnS, setK_clsS, setK_turn]
  split
  · rfl
  · split
    · rfl
    · split
      · rfl
      · split
        · show (match (turnS s).ty with
            | none => wN (setK (turnS s) x) (some (turnS s).nu) true (turnS s).pd
            | some _ => setK (turnS s) x) = _
          cases (turnS s).ty <;> rfl
        · split
          · rfl
          · split
            · unfold percS
              exact setK_wN ..
            · split
              · rfl
              · split <;> rfl
theorem setK_pilS (m : Mk) (s : Sd) (x a b d : Nm) {c : Nat} (h : c ≠ 82) : pilS m (setK s x) a b d c = setK (pilS m s a b d c) x := by
  unfold pilS
  rw [setK_turn]
  split
  · show (match s.ty with
      | some t => wT (setK s x) (lonT m.pl t c) s.pd
      | none => wT (setK s x) (begT c) (if s.gv then .pil s.now a b else s.pd)) = _
    cases s.ty <;> rfl
  · split
    · exact setK_wN ..
    · split
      · rfl
      · split
        · rfl
        · split
          · rfl
          · split
            · rfl
            · split
              · rfl
              · split
                · exact setK_wN ..
                · rfl
/-- keys that use not the memory: it has no bearing on what is shown -/
theorem setK_behind (m : Mk) (s : Sd) (x : Nm) {c : Nat} (h : c ≠ 82) (h2 : c ≠ 77) : ∃ y, behind m (setK s x) c = setK (behind m s c) y := by
  unfold behind
  by_cases c1 : c = 67
  · rw [if_pos c1, if_pos c1]; exact ⟨x, rfl⟩
  · rw [if_neg c1, if_neg c1]
    by_cases c2 : s.wd = .fault
    · rw [if_pos c2, if_pos (show (setK s x).wd = .fault from c2)]; exact ⟨x, rfl⟩
    · rw [if_neg c2, if_neg (show ¬ (setK s x).wd = .fault from c2), if_neg h2, if_neg h2]
      by_cases c4 : c = 90
      · rw [if_pos c4, if_pos c4]; exact ⟨nm0, rfl⟩
      · rw [if_neg c4, if_neg c4]
        refine ⟨x, ?_⟩
        show (match s.pd with
          | .pil a b d => pilS m (setK s x) a b d c
          | .ord r => ordS m (setK s x) r c) = _
        cases s.pd with
        | pil a b d => exact setK_pilS m s x a b d h
        | ord r => exact setK_ordS m s x r h
theorem setK_showns (m : Mk) : ∀ (row : Tx) (s : Sd) (x : Nm), (∀ c ∈ row, c ≠ 82 ∧ c ≠ 77) → showns m (setK s x) row = showns m s row
  | [], _, _, _ => rfl
  | c :: r, s, x, h => by
    obtain ⟨y, e⟩ := setK_behind m s x (h c (List.mem_cons_self ..)).1 (h c (List.mem_cons_self ..)).2
    show (behind m (setK s x) c).shown :: showns m (behind m (setK s x) c) r = _
    rw [e, setK_showns m r _ y fun d hd => h d (List.mem_cons_of_mem _ hd)]
    rfl
/-! at a fault -/
theorem behind_fault (m : Mk) (s : Sd) {c : Nat} (h : c ≠ 67) (hw : s.wd = .fault) : behind m s c = s := by
  unfold behind
  rw [if_neg h, if_pos hw]
end Kr
namespace Kr
open PySem PySem.Spec PyProof.Rows L2
def f_law : Fn := ⟨1, 13, (.cons (.asg (.nam 1) (.tup (.cons (.cst (.str [112, 105, 108, 101])) (.cons (.bin .add (.cst (.int 3)) (.bin .mod (.call false 117 (.cons (.var 0) (.cons (.cst (.int 0)) .nil))) (.cst (.int 6)))) .nil))))
  (.cons (.asg (.nam 2) (.repl (.call false 136 (.cons (.call false 119 (.cons (.call false 117 (.cons (.var 0) (.cons (.cst (.int 1)) .nil))) (.cons (.cst (.int 0)) .nil))) (.cons (.bin .mod (.call false 117 (.cons (.var 0) (.cons (.cst (.int 2)) .nil))) (.cst (.int 40))) .nil))) 67 [69]))
  (.cons (.asg (.nam 3) (.mk true 1 (.cons (.var 1) .nil)))
  (.cons (.loop (.nam 4) (.seq (.var 2))
  (.cons (.expr (.mth false 1 41 (.var 3) (.cons (.var 4) .nil)))
  .nil))
  (.cons (.ite (.cmp .eq (.mth false 1 42 (.var 3) .nil) (.cst (.str [69])))
  (.cons (.ret (.cst (.bl true)))
  .nil)
  .nil)
  (.cons (.asg (.nam 5) (.tup (.cons (.mth false 1 42 (.var 3) .nil) (.cons (.mth false 1 44 (.var 3) .nil) .nil))))
  (.cons (.ite (.or (.cons (.cmp .ne (.lc false [4] (.nam 4) (.seq (.cst (.str [61, 40, 41]))) .none (.mth false 1 41 (.var 3) (.cons (.var 4) .nil))) (.bin .mul (.lst false (.cons (.ix (.var 5) (.cst (.int 0))) .nil)) (.cst (.int 3)))) (.cons (.cmp .ne (.mth false 1 44 (.var 3) .nil) (.ix (.var 5) (.cst (.int 1)))) .nil)))
  (.cons (.ret (.cst (.bl false)))
  .nil)
  .nil)
  (.cons (.expr (.mth false 1 41 (.var 3) (.cons (.cst (.str [69])) .nil)))
  (.cons (.asg (.tup (.cons (.nam 6) (.cons (.nam 7) .nil))) (.tup (.cons (.mth false 1 42 (.var 3) .nil) (.cons (.mth false 1 44 (.var 3) .nil) .nil))))
  (.cons (.ite (.cmp .ne (.ix (.var 7) (.cst (.int 0))) (.var 6))
  (.cons (.ret (.cst (.bl false)))
  .nil)
  .nil)
  (.cons (.loop (.nam 8) (.seq (.tup (.cons (.cst (.str [68, 68, 68, 68])) (.cons (.cst (.str [88, 88])) .nil))))
  (.cons (.loop (.nam 4) (.seq (.var 8))
  (.cons (.expr (.mth false 1 41 (.var 3) (.cons (.var 4) .nil)))
  .nil))
  (.cons (.ite (.or (.cons (.cmp .ne (.mth false 1 42 (.var 3) .nil) (.var 6)) (.cons (.cmp .ne (.mth false 1 44 (.var 3) .nil) (.var 7)) .nil)))
  (.cons (.ret (.cst (.bl false)))
  .nil)
  .nil)
  .nil)))
  (.cons (.ite (.or (.cons (.cmp .ne (.mth false 1 41 (.var 3) (.cons (.cst (.str [88])) .nil)) (.ix (.var 7) (.cst (.int 0)))) (.cons (.cmp .ne (.mth false 1 41 (.var 3) (.cons (.cst (.str [88])) .nil)) (.var 6)) .nil)))
  (.cons (.ret (.cst (.bl false)))
  .nil)
  .nil)
  (.cons (.asg (.nam 9) (.bin .add (.lst false (.cons (.var 6) .nil)) (.var 7)))
  (.cons (.asg (.nam 10) (.lc false [12] (.nam 12) (.rng1 (.cst (.int 4))) .none (.mth false 1 41 (.var 3) (.cons (.cst (.str [68])) .nil))))
  (.cons (.ite (.cmp .ne (.var 10) (.lst false (.cons (.ix (.var 9) (.cst (.int 1))) (.cons (.ix (.var 9) (.cst (.int 2))) (.cons (.ix (.var 9) (.cst (.int 3))) (.cons (.ix (.var 9) (.cst (.int 0))) .nil))))))
  (.cons (.ret (.cst (.bl false)))
  .nil)
  .nil)
  (.cons (.asg (.nam 11) (.blt .str (.cons (.bin .mod (.call false 117 (.cons (.var 0) (.cons (.cst (.int 3)) .nil))) (.cst (.int 10))) .nil)))
  (.cons (.ite (.or (.cons (.cmp .ne (.mth false 1 41 (.var 3) (.cons (.var 11) .nil)) (.var 11)) (.cons (.cmp .ne (.mth false 1 44 (.var 3) .nil) (.bin .add (.lst false (.cons (.var 6) .nil)) (.sl (.var 7) .none (.some (.cst (.int 2)))))) .nil)))
  (.cons (.ret (.cst (.bl false)))
  .nil)
  .nil)
  (.cons (.expr (.mth false 1 41 (.var 3) (.cons (.cst (.str [69])) .nil)))
  (.cons (.ite (.or (.cons (.cmp .ne (.mth false 1 41 (.var 3) (.cons (.var 11) .nil)) (.var 11)) (.cons (.cmp .ne (.mth false 1 44 (.var 3) .nil) (.lst false (.cons (.var 11) (.cons (.var 6) (.cons (.ix (.var 7) (.cst (.int 0))) .nil))))) .nil)))
  (.cons (.ret (.cst (.bl false)))
  .nil)
  .nil)
  (.cons (.ite (.cmp .eq (.mth false 1 41 (.var 3) (.cons (.cst (.str [43])) .nil)) (.cst (.str [69])))
  (.cons (.ret (.cst (.bl true)))
  .nil)
  .nil)
  (.cons (.ite (.or (.cons (.cmp .ne (.mth false 1 44 (.var 3) .nil) (.lst false (.cons (.var 6) (.cons (.ix (.var 7) (.cst (.int 0))) (.cons (.ix (.var 7) (.cst (.int 0))) .nil))))) (.cons (.cmp .ne (.mth false 1 42 (.var 3) .nil) (.blt .str (.cons (.bin .mul (.cst (.int 2)) (.blt .int (.cons (.var 11) .nil))) .nil))) .nil)))
  (.cons (.ret (.cst (.bl false)))
  .nil)
  .nil)
  (.cons (.asg (.nam 10) (.lc false [4] (.nam 4) (.seq (.cst (.str [53, 69, 54, 80]))) .none (.mth false 1 41 (.var 3) (.cons (.var 4) .nil))))
  (.cons (.ret (.and (.cons (.cmp .eq (.ix (.var 10) (.cst (.int 3))) (.cst (.str [48, 46, 51]))) (.cons (.cmp .eq (.mth false 1 44 (.var 3) .nil) (.lst false (.cons (.cst (.str [53])) (.cons (.blt .str (.cons (.bin .mul (.cst (.int 2)) (.blt .int (.cons (.var 11) .nil))) .nil)) (.cons (.var 6) .nil))))) .nil))))
  .nil)))))))))))))))))))))))⟩
def top (i : Nat) : Stmt := PySem.Challenge.pw_keyreckon_k05_whole_pile.main.body.getD i (.Pass ⟨0, 0, 0, 0⟩)
def ents0 : List Ent := [⟨0, ⟨("is_within", none), "is_within", "is_within", defArgs (top 8), defBody (top 8), defScope (top 8), [], []⟩, ["thing", "low", "high"], f_is_within⟩, ⟨1, ⟨("is_make", none), "is_make", "is_make", defArgs (top 9), defBody (top 9), defScope (top 9), [], []⟩, ["thing"], f_is_make⟩, ⟨2, ⟨("look", none), "look", "look", defArgs (top 10), defBody (top 10), defScope (top 10), [], []⟩, ["make"], f_look⟩, ⟨3, ⟨("is_key", none), "is_key", "is_key", defArgs (top 11), defBody (top 11), defScope (top 11), [], []⟩, ["thing"], f_is_key⟩, ⟨6, ⟨("tens", none), "tens", "tens", defArgs (top 13), defBody (top 13), defScope (top 13), [], []⟩, ["many"], f_tens⟩, ⟨7, ⟨("cut_number", none), "cut_number", "cut_number", defArgs (top 14), defBody (top 14), defScope (top 14), [], []⟩, ["up", "down", "places", "whole", "behind", "found"], f_cut_number⟩, ⟨8, ⟨("operation", none), "operation", "operation", defArgs (top 15), defBody (top 15), defScope (top 15), [], []⟩, ["op", "one", "other", "places", "up", "down", "there"], f_operation⟩, ⟨9, ⟨("hundredth", none), "hundredth", "hundredth", defArgs (top 16), defBody (top 16), defScope (top 16), [], []⟩, ["one", "other", "places"], f_hundredth⟩]
def ents1 : List Ent := [⟨10, ⟨("text_of", none), "text_of", "text_of", defArgs (top 17), defBody (top 17), defScope (top 17), [], []⟩, ["number", "sign", "figures"], f_text_of⟩, ⟨11, ⟨("number_of", none), "number_of", "number_of", defArgs (top 18), defBody (top 18), defScope (top 18), [], []⟩, ["typed", "sign", "parts", "behind"], f_number_of⟩, ⟨12, ⟨("Stand", some "__init__"), "__init__", "Stand.__init__", defArgs (inClass (top 21) 0), defBody (inClass (top 21) 0), defScope (inClass (top 21) 0), [], []⟩, ["self", "typed", "number", "given", "pending", "last", "kept", "word"], f_Stand_init⟩, ⟨13, ⟨("Stand", some "now"), "now", "Stand.now", defArgs (inClass (top 21) 1), defBody (inClass (top 21) 1), defScope (inClass (top 21) 1), [], []⟩, ["self"], f_Stand_now⟩, ⟨14, ⟨("Stand", some "shown"), "shown", "Stand.shown", defArgs (inClass (top 21) 2), defBody (inClass (top 21) 2), defScope (inClass (top 21) 2), [], []⟩, ["self"], f_Stand_shown⟩, ⟨16, ⟨("first_stand", none), "first_stand", "first_stand", defArgs (top 22), defBody (top 22), defScope (top 22), [], []⟩, ["make", "memory"], f_first_stand⟩, ⟨17, ⟨("at_fault", none), "at_fault", "at_fault", defArgs (top 23), defBody (top 23), defScope (top 23), [], []⟩, ["stand"], f_at_fault⟩, ⟨18, ⟨("with_number", none), "with_number", "with_number", defArgs (top 24), defBody (top 24), defScope (top 24), [], []⟩, ["stand", "number", "given", "pending"], f_with_number⟩]
def ents2 : List Ent := [⟨19, ⟨("with_typed", none), "with_typed", "with_typed", defArgs (top 25), defBody (top 25), defScope (top 25), [], []⟩, ["stand", "typed", "pending"], f_with_typed⟩, ⟨20, ⟨("longer", none), "longer", "longer", defArgs (top 26), defBody (top 26), defScope (top 26), [], []⟩, ["make", "typed", "key"], f_longer⟩, ⟨21, ⟨("begun", none), "begun", "begun", defArgs (top 27), defBody (top 27), defScope (top 27), [], []⟩, ["key"], f_begun⟩, ⟨22, ⟨("sign_turned", none), "sign_turned", "sign_turned", defArgs (top 28), defBody (top 28), defScope (top 28), [], []⟩, ["stand", "typed"], f_sign_turned⟩, ⟨23, ⟨("stored", none), "stored", "stored", defArgs (top 29), defBody (top 29), defScope (top 29), [], []⟩, ["make", "stand", "memory", "given"], f_stored⟩, ⟨24, ⟨("emptied", none), "emptied", "emptied", defArgs (top 30), defBody (top 30), defScope (top 30), [], []⟩, ["stand"], f_emptied⟩, ⟨25, ⟨("part_of", none), "part_of", "part_of", defArgs (top 31), defBody (top 31), defScope (top 31), [], []⟩, ["make", "one", "other"], f_part_of⟩, ⟨26, ⟨("rank_of", none), "rank_of", "rank_of", defArgs (top 35), defBody (top 35), defScope (top 35), [], []⟩, ["make", "op"], f_rank_of⟩]
def ents3 : List Ent := [⟨27, ⟨("is_op", none), "is_op", "is_op", defArgs (top 36), defBody (top 36), defScope (top 36), [], []⟩, ["stand"], f_is_op⟩, ⟨28, ⟨("reduced", none), "reduced", "reduced", defArgs (top 37), defBody (top 37), defScope (top 37), [], []⟩, ["make", "pending", "number", "least"], f_reduced⟩, ⟨29, ⟨("operated", none), "operated", "operated", defArgs (top 38), defBody (top 38), defScope (top 38), [], []⟩, ["make", "stand", "op", "number", "pending"], f_operated⟩, ⟨30, ⟨("equalled", none), "equalled", "equalled", defArgs (top 39), defBody (top 39), defScope (top 39), [], []⟩, ["make", "stand", "number", "pending", "last", "ops", "item"], f_equalled⟩, ⟨31, ⟨("opened", none), "opened", "opened", defArgs (top 40), defBody (top 40), defScope (top 40), [], []⟩, ["stand"], f_opened⟩, ⟨32, ⟨("closed", none), "closed", "closed", defArgs (top 41), defBody (top 41), defScope (top 41), [], []⟩, ["make", "stand", "pending", "number"], f_closed⟩, ⟨33, ⟨("percent", none), "percent", "percent", defArgs (top 42), defBody (top 42), defScope (top 42), [], []⟩, ["make", "stand", "base"], f_percent⟩, ⟨34, ⟨("ordered", none), "ordered", "ordered", defArgs (top 43), defBody (top 43), defScope (top 43), [], []⟩, ["make", "stand", "key", "typed", "found"], f_ordered⟩]
def ents4 : List Ent := [⟨35, ⟨("lifted", none), "lifted", "lifted", defArgs (top 45), defBody (top 45), defScope (top 45), [], []⟩, ["stand"], f_lifted⟩, ⟨36, ⟨("typed_on", none), "typed_on", "typed_on", defArgs (top 46), defBody (top 46), defScope (top 46), [], []⟩, ["make", "stand", "key"], f_typed_on⟩, ⟨37, ⟨("recalled", none), "recalled", "recalled", defArgs (top 47), defBody (top 47), defScope (top 47), [], []⟩, ["stand", "pile"], f_recalled⟩, ⟨38, ⟨("piled", none), "piled", "piled", defArgs (top 48), defBody (top 48), defScope (top 48), [], []⟩, ["make", "stand", "key", "one", "two", "three"], f_piled⟩, ⟨39, ⟨("stand_behind", none), "stand_behind", "stand_behind", defArgs (top 50), defBody (top 50), defScope (top 50), [], []⟩, ["make", "stand", "key"], f_stand_behind⟩, ⟨40, ⟨("Reckoner", some "__init__"), "__init__", "Reckoner.__init__", defArgs (inClass (top 51) 0), defBody (inClass (top 51) 0), defScope (inClass (top 51) 0), [], []⟩, ["self", "make"], f_Reckoner_init⟩, ⟨41, ⟨("Reckoner", some "press"), "press", "Reckoner.press", defArgs (inClass (top 51) 1), defBody (inClass (top 51) 1), defScope (inClass (top 51) 1), [], []⟩, ["self", "key"], f_Reckoner_press⟩, ⟨42, ⟨("Reckoner", some "shown"), "shown", "Reckoner.shown", defArgs (inClass (top 51) 2), defBody (inClass (top 51) 2), defScope (inClass (top 51) 2), [], []⟩, ["self"], f_Reckoner_shown⟩]
def ents5 : List Ent := [⟨43, ⟨("Reckoner", some "memory"), "memory", "Reckoner.memory", defArgs (inClass (top 51) 3), defBody (inClass (top 51) 3), defScope (inClass (top 51) 3), [], []⟩, ["self"], f_Reckoner_memory⟩, ⟨44, ⟨("Reckoner", some "waiting"), "waiting", "Reckoner.waiting", defArgs (inClass (top 51) 4), defBody (inClass (top 51) 4), defScope (inClass (top 51) 4), [], []⟩, ["self", "number", "item"], f_Reckoner_waiting⟩, ⟨117, ⟨("_law_cell", none), "_law_cell", "_law_cell", defArgs (top 53), defBody (top 53), defScope (top 53), [], []⟩, ["script", "k"], f__law_cell⟩, ⟨119, ⟨("_law_seed", none), "_law_seed", "_law_seed", defArgs (top 54), defBody (top 54), defScope (top 54), [], []⟩, ["seed", "k"], f__law_seed⟩, ⟨120, ⟨("_law_pick", none), "_law_pick", "_law_pick", defArgs (top 55), defBody (top 55), defScope (top 55), [], []⟩, ["seed", "many"], f__law_pick⟩, ⟨136, ⟨("_law_row", none), "_law_row", "_law_row", defArgs (top 56), defBody (top 56), defScope (top 56), [], []⟩, ["seed", "long", "some", "keys", "k"], f__law_row⟩, ⟨999, ⟨("law", none), "law", "law", defArgs (top 57), defBody (top 57), defScope (top 57), [], []⟩, ["script", "make", "row", "reckoner", "key", "before", "x", "pile", "keys", "order", "shown", "digit", "turn"], f_law⟩]
def ents : List Ent := ents0 ++ (ents1 ++ (ents2 ++ (ents3 ++ (ents4 ++ (ents5)))))
def Tb : Tbl := ⟨ents, [(0, "Stand", ["typed", "number", "given", "pending", "last", "kept", "word"], 12), (1, "Reckoner", ["make", "stand"], 40)], [(0, "KeyedError"), (1, "NoMake"), (2, "NoKey")], [(0, "MANNERS", (.tup [.str [99, 104, 97, 105, 110], .str [114, 97, 110, 107], .str [112, 105, 108, 101]])), (1, "KEYS", (.str [48, 49, 50, 51, 52, 53, 54, 55, 56, 57, 46, 43, 45, 42, 47, 61, 40, 41, 78, 66, 67, 80, 77, 82, 90, 69, 88, 68])), (3, "NOUGHT", (.tup [.int 0, .int 0])), (4, "OPEN", (.tup [.str [40]])), (5, "MOST_OPEN", (.int 4))], [(0, 0, true), (0, 1, false), (0, 2, false), (1, 0, true), (1, 1, true), (1, 2, false), (2, 0, true), (2, 1, false), (2, 2, true)]⟩
def nmL0 : List PySem.Str := ["_wall", "__name__", "KeyedError", "NoMake", "NoKey", "MANNERS", "KEYS", "is_within", "is_make", "look", "is_key", "tens", "cut_number", "operation", "hundredth", "text_of", "number_of", "NOUGHT", "Stand", "first_stand", "at_fault", "with_number", "with_typed", "longer"]
def nmL1 : List PySem.Str := ["begun", "sign_turned", "stored", "emptied", "part_of", "OPEN", "MOST_OPEN", "rank_of", "is_op", "reduced", "operated", "equalled", "opened", "closed", "percent", "ordered", "lifted", "typed_on", "recalled", "piled", "stand_behind", "Reckoner", "_law_cell", "_law_seed"]
def nmL2 : List PySem.Str := ["_law_pick", "_law_row"]
def nmL : List PySem.Str := nmL0 ++ (nmL1 ++ (nmL2))
abbrev Rw : PySem.W.OpenRow := PySem.W.OpenLaw.row PySem.Challenge.rw_keyreckon_k05_whole_pile
abbrev hk : PySem.W.Hook := He.hookX 6 Tb.fa (Tb.ents.map (·.d)) [] [] Tb.ex
def ob (s : PySem.W.SharedT) : He.AlX := He.obsX 6 Tb.fa (Tb.ents.map (·.d)) [] [] Tb.ex (HandSHeadRun.getT s)
theorem ob_eq (s : PySem.W.SharedT) : ob s = hk.obs s.abs := He.obsX_eq (HandSHeadRun.getT_eq s)
theorem hrun (w : World) : HandSHeadRun.RunEq Rw (PySem.W.view Rw.prog [57]) hk ob 6000 nmL w := by
  intro os
  kernel_rfl
def lawE : Ent := ⟨999, ⟨("law", none), "law", "law", defArgs (top 57), defBody (top 57), defScope (top 57), [], []⟩, ["script", "make", "row", "reckoner", "key", "before", "x", "pile", "keys", "order", "shown", "digit", "turn"], f_law⟩
theorem lawE_in : lawE ∈ Tb.ents := by
  show lawE ∈ ents
  unfold ents
  simp only [List.mem_append]
  exact .inr (.inr (.inr (.inr (.inr ((by unfold ents5; exact List.mem_cons_of_mem _ (List.mem_cons_of_mem _ (List.mem_cons_of_mem _ (List.mem_cons_of_mem _ (List.mem_cons_of_mem _ (List.mem_cons_of_mem _ (List.mem_cons_self))))))))))))
theorem tok : Tb.ok = true := by kernel_rfl
theorem binds : ∀ e ∈ Tb.ents, BindOk e := by
  intro e he
  have he : e ∈ ents := he
  unfold ents at he
  simp only [List.mem_append] at he
  rcases he with he | he | he | he | he | he
  · unfold ents0 at he
    simp only [List.mem_cons, List.not_mem_nil, or_false] at he
    rcases he with rfl | rfl | rfl | rfl | rfl | rfl | rfl | rfl
    · exact fun _ _ _ _ _ _ us hl => match us, hl with | [_, _, _], _ => rfl
    · exact fun _ _ _ _ _ _ us hl => match us, hl with | [_], _ => rfl
    · exact fun _ _ _ _ _ _ us hl => match us, hl with | [_], _ => rfl
    · exact fun _ _ _ _ _ _ us hl => match us, hl with | [_], _ => rfl
    · exact fun _ _ _ _ _ _ us hl => match us, hl with | [_], _ => rfl
    · exact fun _ _ _ _ _ _ us hl => match us, hl with | [_, _, _], _ => rfl
    · exact fun _ _ _ _ _ _ us hl => match us, hl with | [_, _, _, _], _ => rfl
    · exact fun _ _ _ _ _ _ us hl => match us, hl with | [_, _, _], _ => rfl
  · unfold ents1 at he
    simp only [List.mem_cons, List.not_mem_nil, or_false] at he
    rcases he with rfl | rfl | rfl | rfl | rfl | rfl | rfl | rfl
    · exact fun _ _ _ _ _ _ us hl => match us, hl with | [_], _ => rfl
    · exact fun _ _ _ _ _ _ us hl => match us, hl with | [_], _ => rfl
    · exact fun _ _ _ _ _ _ us hl => match us, hl with | [_, _, _, _, _, _, _, _], _ => rfl
    · exact fun _ _ _ _ _ _ us hl => match us, hl with | [_], _ => rfl
    · exact fun _ _ _ _ _ _ us hl => match us, hl with | [_], _ => rfl
    · exact fun _ _ _ _ _ _ us hl => match us, hl with | [_, _], _ => rfl
    · exact fun _ _ _ _ _ _ us hl => match us, hl with | [_], _ => rfl
    · exact fun _ _ _ _ _ _ us hl => match us, hl with | [_, _, _, _], _ => rfl
  · unfold ents2 at he
    simp only [List.mem_cons, List.not_mem_nil, or_false] at he
    rcases he with rfl | rfl | rfl | rfl | rfl | rfl | rfl | rfl
    · exact fun _ _ _ _ _ _ us hl => match us, hl with | [_, _, _], _ => rfl
    · exact fun _ _ _ _ _ _ us hl => match us, hl with | [_, _, _], _ => rfl
    · exact fun _ _ _ _ _ _ us hl => match us, hl with | [_], _ => rfl
    · exact fun _ _ _ _ _ _ us hl => match us, hl with | [_], _ => rfl
    · exact fun _ _ _ _ _ _ us hl => match us, hl with | [_, _], _ => rfl
    · exact fun _ _ _ _ _ _ us hl => match us, hl with | [_], _ => rfl
    · exact fun _ _ _ _ _ _ us hl => match us, hl with | [_, _, _], _ => rfl
    · exact fun _ _ _ _ _ _ us hl => match us, hl with | [_, _], _ => rfl
  · unfold ents3 at he
    simp only [List.mem_cons, List.not_mem_nil, or_false] at he
    rcases he with rfl | rfl | rfl | rfl | rfl | rfl | rfl | rfl
    · exact fun _ _ _ _ _ _ us hl => match us, hl with | [_], _ => rfl
    · exact fun _ _ _ _ _ _ us hl => match us, hl with | [_, _, _, _], _ => rfl
    · exact fun _ _ _ _ _ _ us hl => match us, hl with | [_, _, _], _ => rfl
    · exact fun _ _ _ _ _ _ us hl => match us, hl with | [_, _], _ => rfl
    · exact fun _ _ _ _ _ _ us hl => match us, hl with | [_], _ => rfl
    · exact fun _ _ _ _ _ _ us hl => match us, hl with | [_, _], _ => rfl
    · exact fun _ _ _ _ _ _ us hl => match us, hl with | [_, _], _ => rfl
    · exact fun _ _ _ _ _ _ us hl => match us, hl with | [_, _, _], _ => rfl
  · unfold ents4 at he
    simp only [List.mem_cons, List.not_mem_nil, or_false] at he
    rcases he with rfl | rfl | rfl | rfl | rfl | rfl | rfl | rfl
    · exact fun _ _ _ _ _ _ us hl => match us, hl with | [_], _ => rfl
    · exact fun _ _ _ _ _ _ us hl => match us, hl with | [_, _, _], _ => rfl
    · exact fun _ _ _ _ _ _ us hl => match us, hl with | [_], _ => rfl
    · exact fun _ _ _ _ _ _ us hl => match us, hl with | [_, _, _], _ => rfl
    · exact fun _ _ _ _ _ _ us hl => match us, hl with | [_, _, _], _ => rfl
    · exact fun _ _ _ _ _ _ us hl => match us, hl with | [_, _], _ => rfl
    · exact fun _ _ _ _ _ _ us hl => match us, hl with | [_, _], _ => rfl
    · exact fun _ _ _ _ _ _ us hl => match us, hl with | [_], _ => rfl
  · unfold ents5 at he
    simp only [List.mem_cons, List.not_mem_nil, or_false] at he
    rcases he with rfl | rfl | rfl | rfl | rfl | rfl | rfl
    · exact fun _ _ _ _ _ _ us hl => match us, hl with | [_], _ => rfl
    · exact fun _ _ _ _ _ _ us hl => match us, hl with | [_], _ => rfl
    · exact fun _ _ _ _ _ _ us hl => match us, hl with | [_, _], _ => rfl
    · exact fun _ _ _ _ _ _ us hl => match us, hl with | [_, _], _ => rfl
    · exact fun _ _ _ _ _ _ us hl => match us, hl with | [_, _], _ => rfl
    · exact fun _ _ _ _ _ _ us hl => match us, hl with | [_, _], _ => rfl
    · exact fun _ _ _ _ _ _ us hl => match us, hl with | [_], _ => rfl
end Kr
namespace Kr
theorem core : Core Tb.G := by constructor <;> kernel_rfl
theorem lks : Looks Tb.G := by constructor <;> kernel_rfl
theorem rks : RK Tb.G := ⟨core, lks, by kernel_rfl, by kernel_rfl, by kernel_rfl, by kernel_rfl, by kernel_rfl, by kernel_rfl⟩
theorem h117 : Tb.G.fn 117 = some f__law_cell := by kernel_rfl
theorem h119 : Tb.G.fn 119 = some f__law_seed := by kernel_rfl
theorem h120 : Tb.G.fn 120 = some f__law_pick := by kernel_rfl
theorem h136 : Tb.G.fn 136 = some f__law_row := by kernel_rfl
theorem h999 : Tb.G.fn 999 = some f_law := by kernel_rfl
theorem c_cell (ns : List Int) (i : Nat) : run Tb.G 20 117 [.d (.scr ns), .d (.int i)] [] = .ok (.d (.int (cellv ns i))) [] := run_cell h117 ns i 19
theorem c_seed (s i : Int) : run Tb.G 20 119 [.d (.int s), .d (.int i)] [] = .ok (.d (.int (seedv s i))) [] := run_seed h119 s i 19
theorem c_row (s : Int) (n : Nat) (h : n ≤ 1000) : run Tb.G 20 136 [.d (.int s), .d (.int n)] [] = .ok (.d (.str (rowv s n))) [] := run_row h136 h119 h120 s h 18

theorem t0_text : textN nm0 = [48] := by decide
theorem replE_mem {x : Tx} {d : Nat} (h : d ∈ replT 67 [69] x) : d ∈ x ∨ d = 69 := by
  unfold replT at h
  obtain ⟨a, ha, hd⟩ := List.mem_flatMap.mp h
  split at hd
  · exact .inr (List.mem_singleton.mp hd)
  · rw [List.mem_singleton.mp hd]
    exact .inl ha
theorem replE_len : ∀ x : Tx, (replT 67 [69] x).length = x.length
  | [] => rfl
  | a :: r => by
    have := replE_len r
    show ((if a = 67 then [69] else [a]) ++ replT 67 [69] r).length = _
    rw [List.length_append, List.length_cons, this]
    split <;> (show 1 + _ = _; omega)
theorem ev_replE {x : Tx} (h : x.length ≤ 1000) : evRepl 67 [69] (.str x) = some (.str (replT 67 [69] x)) := by
  show (if x.length ≤ 100000 ∧ ([69] : Tx).length ≤ 10 then some (D.str (replT 67 [69] x)) else none) = _
  rw [if_pos ⟨by omega, by decide⟩]
theorem strip_pow : ∀ (b n : Nat), strip0 b (n * 10 ^ b) = (n, 0)
  | 0, n => by rw [Nat.pow_zero, Nat.mul_one]; rfl
  | b + 1, n => by
    have e : n * 10 ^ (b + 1) = (n * 10 ^ b) * 10 := by rw [Nat.pow_succ, Nat.mul_assoc]
    show (if n * 10 ^ (b + 1) % 10 = 0 then strip0 b (n * 10 ^ (b + 1) / 10) else (n * 10 ^ (b + 1), b + 1)) = _
    rw [e, Nat.mul_mod_left, if_pos rfl, Nat.mul_div_cancel _ (by omega), strip_pow b n]
theorem op_dig {v p : Nat} (hv : v < 10) (hp : 3 ≤ p ∧ p ≤ 8) : opN 43 ⟨(v : Int), 0⟩ ⟨(v : Int), 0⟩ p = some ⟨((2 * v : Nat) : Int), 0⟩ := by
  unfold opN
  rw [if_pos rfl]
  have e1 : ((v : Int) * ((10 ^ 0 : Nat) : Int) + (v : Int) * ((10 ^ 0 : Nat) : Int)) = ((2 * v : Nat) : Int) := by
    show (v : Int) * 1 + (v : Int) * 1 = _
    omega
  dsimp only
  rw [e1]
  show cutN ((2 * v : Nat) : Int) 1 p = _
  unfold cutN
  rw [Int.natAbs_natCast, show (1 : Int).natAbs = 1 from rfl, Nat.div_one, Nat.div_one]
  have h3 : 10 ^ 3 ≤ 10 ^ p := Nat.pow_le_pow_right (by omega) hp.1
  rw [if_neg (by omega)]
  dsimp only
  rw [strip_pow, if_neg (show ¬ (1 : Int) < 0 by omega), if_pos (by omega)]
theorem text_nat (n : Nat) : textN ⟨(n : Int), 0⟩ = natT n := by
  unfold textN
  dsimp only
  rw [if_neg (by omega), if_pos rfl, List.nil_append]
  unfold figN rjustT
  dsimp only
  rw [Int.natAbs_natCast]
  have h := natT_pos n
  have : (((0 : Nat) : Int) + 1).toNat - (natT n).length = 0 := by show 1 - _ = 0; omega
  rw [this]
  rfl
theorem num_dig {v : Nat} (hv : v < 10) : numT (begT (48 + v)) = ⟨(v : Int), 0⟩ := by
  unfold begT
  rw [if_neg (by omega)]
  unfold numT Tp.fr
  dsimp only [Option.getD]
  show Nm.mk ((if false = true then -1 else 1) * ((valT ([48 + v] ++ []) : Nat) : Int)) 0 = _
  have : valT ([48 + v] ++ []) = v := by show 10 * 0 + (48 + v - 48) = v; omega
  rw [this, if_neg Bool.false_ne_true, Int.one_mul]
theorem tx_dig {v : Nat} (hv : v < 10) : (begT (48 + v)).tx = [48 + v] := by
  unfold begT
  rw [if_neg (by omega)]
  rfl
theorem isDp_dig {v : Nat} (hv : v < 10) : isDp (48 + v) = true := by
  have : v = 0 ∨ v = 1 ∨ v = 2 ∨ v = 3 ∨ v = 4 ∨ v = 5 ∨ v = 6 ∨ v = 7 ∨ v = 8 ∨ v = 9 := by omega
  rcases this with e | e | e | e | e | e | e | e | e | e <;> subst e <;> rfl
theorem isKey_dig {v : Nat} (hv : v < 10) : isKey (48 + v) = true := by
  have : v = 0 ∨ v = 1 ∨ v = 2 ∨ v = 3 ∨ v = 4 ∨ v = 5 ∨ v = 6 ∨ v = 7 ∨ v = 8 ∨ v = 9 := by omega
  rcases this with e | e | e | e | e | e | e | e | e | e <;> subst e <;> rfl
theorem hun_56 {p : Nat} (hp : 3 ≤ p ∧ p ≤ 8) : hunN ⟨5, 0⟩ ⟨6, 0⟩ p = some ⟨3, 1⟩ := by
  have : p = 3 ∨ p = 4 ∨ p = 5 ∨ p = 6 ∨ p = 7 ∨ p = 8 := by omega
  rcases this with e | e | e | e | e | e <;> subst e <;> decide
/-- stands of a pile -/
def PN (n : Nm) (g : Bool) (a b d : Nm) (la : Option (Nat × Nm)) (kp : Nm) : Sd := ⟨none, n, g, .pil a b d, la, kp, .no⟩
def PT (c : Nat) (a b d : Nm) (la : Option (Nat × Nm)) (kp : Nm) : Sd := ⟨some (begT c), nm0, true, .pil a b d, la, kp, .no⟩
theorem b_dig {m : Mk} {c : Nat} (hd : isDp c = true) (hc : c ≠ 67 ∧ c ≠ 77 ∧ c ≠ 90) (n : Nm) (g : Bool) (a b d : Nm) (la : Option (Nat × Nm)) (kp : Nm) : behind m (PN n g a b d la kp) c = (if g then PT c n a b la kp else PT c a b d la kp) := by
  unfold behind
  rw [if_neg hc.1, if_neg (show ¬ (PN n g a b d la kp).wd = .fault from fun q => nomatch q), if_neg hc.2.1, if_neg hc.2.2]
  show pilS m (PN n g a b d la kp) a b d c = _
  unfold pilS
  rw [if_pos hd]
  cases g <;> rfl
theorem law_body (ns : List Int) : ∃ S, finW (evB Tb.G (run Tb.G 20) f_law.body [some (.d (.scr ns)), none, none, none, none, none, none, none, none, none, none, none, none] []) = .ok (.d (.bl true)) S := by
  have c0 : run Tb.G 20 117 [.d (.scr ns), .d (.int 0)] [] = _ := c_cell ns 0
  have c1 : run Tb.G 20 117 [.d (.scr ns), .d (.int 1)] [] = _ := c_cell ns 1
  have c2 : run Tb.G 20 117 [.d (.scr ns), .d (.int 2)] [] = _ := c_cell ns 2
  have c3 : run Tb.G 20 117 [.d (.scr ns), .d (.int 3)] [] = _ := c_cell ns 3
  have e6 : evBin .mod (.int (cellv ns 0)) (.int 6) = some (.int (cellv ns 0 % 6)) := bin_mod (by omega)
  have e40 : evBin .mod (.int (cellv ns 2)) (.int 40) = some (.int (cellv ns 2 % 40)) := bin_mod (by omega)
  have e10 : evBin .mod (.int (cellv ns 3)) (.int 10) = some (.int (cellv ns 3 % 10)) := bin_mod (by omega)
  have hp0 : ∃ m : Mk, m.mn = .pile ∧ m.ok ∧ m.D = .tup [.str [112, 105, 108, 101], .int (3 + cellv ns 0 % 6)] := by
    refine ⟨⟨.pile, (3 + cellv ns 0 % 6).toNat⟩, rfl, ?_, ?_⟩
    · unfold Mk.ok; dsimp only; omega
    · unfold Mk.D
      have : (((3 + cellv ns 0 % 6).toNat : Nat) : Int) = 3 + cellv ns 0 % 6 := by omega
      dsimp only
      rw [this]; rfl
  obtain ⟨m, hmp, hm, hmD⟩ := hp0
  have n1 : ((cellv ns 2 % 40).toNat : Int) = cellv ns 2 % 40 := by omega
  have q1 := c_row (seedv (cellv ns 1) 0) (cellv ns 2 % 40).toNat (by omega)
  have k1 := rowv_ok (seedv (cellv ns 1) 0) (n := (cellv ns 2 % 40).toNat) (by omega)
  have l1 := rowv_len (seedv (cellv ns 1) 0) (cellv ns 2 % 40).toNat
  rw [n1] at q1
  have l1 : (rowv (seedv (cellv ns 1) 0) (cellv ns 2 % 40).toNat).length ≤ 39 := by omega
  generalize rowv (seedv (cellv ns 1) 0) (cellv ns 2 % 40).toNat = row0 at q1 k1 l1
  have er := ev_replE (x := row0) (by omega)
  have k2 : ∀ c ∈ replT 67 [69] row0, isKey c = true := fun c h => (replE_mem h).elim (k1.2 c) fun e => by rw [e]; rfl
  have l2 := replE_len row0
  rw [← l2] at l1
  generalize replT 67 [69] row0 = row at er k2 l1
  have s0 := c_seed (cellv ns 1) 0
  have v0 : ∃ v : Nat, v < 10 ∧ cellv ns 3 % 10 = (v : Int) := ⟨(cellv ns 3 % 10).toNat, by omega, by omega⟩
  obtain ⟨v, hv, ev⟩ := v0
  rw [ev] at e10
  have bs := bi_str v (by omega)
  rw [natT_small hv] at bs
  simp only [f_law]
  rw [evB_nx (l1 := [some (.d (.scr ns)), some (.d m.D), none, none, none, none, none, none, none, none, none, none, none]) (S1 := []) (by
    rw [hmD]
    simp -implicitDefEqProofs only [bnd_ok, bnd_ex, sts_ok, sts_ex, sqs_nx, sqs_ret, sqs_ex, cnd_t, cnd_f, of_some, asd_ok, asd_ex, e_cst, e_var, rd_eq, rdO_ok, e_glb, glO_ok, e_bin, e_neg, e_cmp, chK_t, chK_f, e_chn, e_and, e_or, and_one, and_more, or_one, or_more, e_not, e_ite, e_call, mkI_some, e_mk, e_mth, e_blt, e_isi, e_bm, e_repl, e_fld, e_ix, e_sl, e_tup, e_lst, a_nil, a_cons, o_none, o_some, t_val, t_cmp, t_chn, t_and, t_or, t_not, tand_nil, tand_cons, tor_nil, tor_cons, g_nam, g_tup, gs_nil, gs_cons, s_expr, s_asg, s_setf, s_aug, augL_ok, s_ret, s_retN, s_ite, s_raise, b_nil, b_cons, fin_nx, fin_ret, fin_ex, o2, lk, looks, leave_d, leave_ex, dats_nil, dats_cons, fld_d, ix_d, call1, call2, call3, call4, call5, setL, List.getElem?_cons_zero, List.getElem?_cons_succ, Option.map_some, Option.bind_some, List.length_cons, List.length_nil, List.set_cons_zero, List.set_cons_succ, Nat.reduceAdd, Nat.reduceLT, Nat.reduceSub, reduceIte, decide_true, decide_false, List.map_cons, List.map_nil, List.cons_append, List.nil_append, List.replicate_succ, List.replicate_zero, Nat.lt_add_one, Nat.zero_lt_succ, Nat.zero_lt_one, c0, e6, bin_add, sz, Nat.reduceLeDiff])]
  rw [evB_nx (l1 := [some (.d (.scr ns)), some (.d m.D), some (.d (.str row)), none, none, none, none, none, none, none, none, none, none]) (S1 := []) (by
    simp -implicitDefEqProofs only [bnd_ok, bnd_ex, sts_ok, sts_ex, sqs_nx, sqs_ret, sqs_ex, cnd_t, cnd_f, of_some, asd_ok, asd_ex, e_cst, e_var, rd_eq, rdO_ok, e_glb, glO_ok, e_bin, e_neg, e_cmp, chK_t, chK_f, e_chn, e_and, e_or, and_one, and_more, or_one, or_more, e_not, e_ite, e_call, mkI_some, e_mk, e_mth, e_blt, e_isi, e_bm, e_repl, e_fld, e_ix, e_sl, e_tup, e_lst, a_nil, a_cons, o_none, o_some, t_val, t_cmp, t_chn, t_and, t_or, t_not, tand_nil, tand_cons, tor_nil, tor_cons, g_nam, g_tup, gs_nil, gs_cons, s_expr, s_asg, s_setf, s_aug, augL_ok, s_ret, s_retN, s_ite, s_raise, b_nil, b_cons, fin_nx, fin_ret, fin_ex, o2, lk, looks, leave_d, leave_ex, dats_nil, dats_cons, fld_d, ix_d, call1, call2, call3, call4, call5, setL, List.getElem?_cons_zero, List.getElem?_cons_succ, Option.map_some, Option.bind_some, List.length_cons, List.length_nil, List.set_cons_zero, List.set_cons_succ, Nat.reduceAdd, Nat.reduceLT, Nat.reduceSub, reduceIte, decide_true, decide_false, List.map_cons, List.map_nil, List.cons_append, List.nil_append, List.replicate_succ, List.replicate_zero, Nat.lt_add_one, Nat.zero_lt_succ, Nat.zero_lt_one, c1, c2, s0, e40, q1, er])]
  have r0 := rks.mkR hm
  rw [evB_nx (l1 := [some (.d (.scr ns)), some (.d m.D), some (.d (.str row)), some (.r 0), none, none, none, none, none, none, none, none, none]) (S1 := [rk m (startS m)]) (by simp -implicitDefEqProofs only [bnd_ok, bnd_ex, sts_ok, sts_ex, sqs_nx, sqs_ret, sqs_ex, cnd_t, cnd_f, of_some, asd_ok, asd_ex, e_cst, e_var, rd_eq, rdO_ok, e_glb, glO_ok, e_bin, e_neg, e_cmp, chK_t, chK_f, e_chn, e_and, e_or, and_one, and_more, or_one, or_more, e_not, e_ite, e_call, mkI_some, e_mk, e_mth, e_blt, e_isi, e_bm, e_repl, e_fld, e_ix, e_sl, e_tup, e_lst, a_nil, a_cons, o_none, o_some, t_val, t_cmp, t_chn, t_and, t_or, t_not, tand_nil, tand_cons, tor_nil, tor_cons, g_nam, g_tup, gs_nil, gs_cons, s_expr, s_asg, s_setf, s_aug, augL_ok, s_ret, s_retN, s_ite, s_raise, b_nil, b_cons, fin_nx, fin_ret, fin_ex, o2, lk, looks, leave_d, leave_ex, dats_nil, dats_cons, fld_d, ix_d, call1, call2, call3, call4, call5, setL, List.getElem?_cons_zero, List.getElem?_cons_succ, Option.map_some, Option.bind_some, List.length_cons, List.length_nil, List.set_cons_zero, List.set_cons_succ, Nat.reduceAdd, Nat.reduceLT, Nat.reduceSub, reduceIte, decide_true, decide_false, List.map_cons, List.map_nil, List.cons_append, List.nil_append, List.replicate_succ, List.replicate_zero, Nat.lt_add_one, Nat.zero_lt_succ, Nat.zero_lt_one, rks.i1, r0])]
  obtain ⟨w4, lp⟩ := rks.rows hm (i := 4) (r := 3) (l := [some (.d (.scr ns)), some (.d m.D), some (.d (.str row)), some (.r 0), none, none, none, none, none, none, none, none, none]) rfl (by show 4 < 13; omega) (by decide) row (startS m) 0 none (startS_ok m 0) (by omega) k2
  have hs : (afterR m (startS m) row).ok m 100 := (afterR_ok hm row (startS_ok m 0) (by omega) k2).mono (by omega)
  generalize afterR m (startS m) row = s at lp hs
  rw [evB_nx (l1 := [some (.d (.scr ns)), some (.d m.D), some (.d (.str row)), some (.r 0), w4, none, none, none, none, none, none, none, none]) (S1 := [rk m s]) (by
    rw [s_loop, i_seq, e_var, rd_eq]
    simp only [List.set_cons_succ, List.set_cons_zero] at lp
    exact lp)]
  have qs := rks.shown hs
  have qw := rks.wait hs (by omega)
  have sE := shown_E hs
  by_cases cf : s.wd = .fault
  · have sE' : (s.shown == ([69] : Tx)) = true := by rw [sE, decide_eq_true cf]
    refine ⟨[rk m s], ?_⟩
    rw [evB_ret (w := .d (.bl true)) (S1 := [rk m s]) (by simp -implicitDefEqProofs only [bnd_ok, bnd_ex, sts_ok, sts_ex, sqs_nx, sqs_ret, sqs_ex, cnd_t, cnd_f, of_some, asd_ok, asd_ex, e_cst, e_var, rd_eq, rdO_ok, e_glb, glO_ok, e_bin, e_neg, e_cmp, chK_t, chK_f, e_chn, e_and, e_or, and_one, and_more, or_one, or_more, e_not, e_ite, e_call, mkI_some, e_mk, e_mth, e_blt, e_isi, e_bm, e_repl, e_fld, e_ix, e_sl, e_tup, e_lst, a_nil, a_cons, o_none, o_some, t_val, t_cmp, t_chn, t_and, t_or, t_not, tand_nil, tand_cons, tor_nil, tor_cons, g_nam, g_tup, gs_nil, gs_cons, s_expr, s_asg, s_setf, s_aug, augL_ok, s_ret, s_retN, s_ite, s_raise, b_nil, b_cons, fin_nx, fin_ret, fin_ex, o2, lk, looks, leave_d, leave_ex, dats_nil, dats_cons, fld_d, ix_d, call1, call2, call3, call4, call5, setL, List.getElem?_cons_zero, List.getElem?_cons_succ, Option.map_some, Option.bind_some, List.length_cons, List.length_nil, List.set_cons_zero, List.set_cons_succ, Nat.reduceAdd, Nat.reduceLT, Nat.reduceSub, reduceIte, decide_true, decide_false, List.map_cons, List.map_nil, List.cons_append, List.nil_append, List.replicate_succ, List.replicate_zero, Nat.lt_add_one, Nat.zero_lt_succ, Nat.zero_lt_one, cl0, qs, cmp_eqs, sE'])]
    rfl
  have sE' : (s.shown == ([69] : Tx)) = false := by rw [sE, decide_eq_false cf]
  rw [evB_nx (l1 := [some (.d (.scr ns)), some (.d m.D), some (.d (.str row)), some (.r 0), w4, none, none, none, none, none, none, none, none]) (S1 := [rk m s]) (by simp -implicitDefEqProofs only [bnd_ok, bnd_ex, sts_ok, sts_ex, sqs_nx, sqs_ret, sqs_ex, cnd_t, cnd_f, of_some, asd_ok, asd_ex, e_cst, e_var, rd_eq, rdO_ok, e_glb, glO_ok, e_bin, e_neg, e_cmp, chK_t, chK_f, e_chn, e_and, e_or, and_one, and_more, or_one, or_more, e_not, e_ite, e_call, mkI_some, e_mk, e_mth, e_blt, e_isi, e_bm, e_repl, e_fld, e_ix, e_sl, e_tup, e_lst, a_nil, a_cons, o_none, o_some, t_val, t_cmp, t_chn, t_and, t_or, t_not, tand_nil, tand_cons, tor_nil, tor_cons, g_nam, g_tup, gs_nil, gs_cons, s_expr, s_asg, s_setf, s_aug, augL_ok, s_ret, s_retN, s_ite, s_raise, b_nil, b_cons, fin_nx, fin_ret, fin_ex, o2, lk, looks, leave_d, leave_ex, dats_nil, dats_cons, fld_d, ix_d, call1, call2, call3, call4, call5, setL, List.getElem?_cons_zero, List.getElem?_cons_succ, Option.map_some, Option.bind_some, List.length_cons, List.length_nil, List.set_cons_zero, List.set_cons_succ, Nat.reduceAdd, Nat.reduceLT, Nat.reduceSub, reduceIte, decide_true, decide_false, List.map_cons, List.map_nil, List.cons_append, List.nil_append, List.replicate_succ, List.replicate_zero, Nat.lt_add_one, Nat.zero_lt_succ, Nat.zero_lt_one, cl0, qs, cmp_eqs, sE'])]
  rw [evB_nx (l1 := [some (.d (.scr ns)), some (.d m.D), some (.d (.str row)), some (.r 0), w4, some (.d (.tup [.str s.shown, .lst ((waits s).map .str)])), none, none, none, none, none, none, none]) (S1 := [rk m s]) (by simp -implicitDefEqProofs only [bnd_ok, bnd_ex, sts_ok, sts_ex, sqs_nx, sqs_ret, sqs_ex, cnd_t, cnd_f, of_some, asd_ok, asd_ex, e_cst, e_var, rd_eq, rdO_ok, e_glb, glO_ok, e_bin, e_neg, e_cmp, chK_t, chK_f, e_chn, e_and, e_or, and_one, and_more, or_one, or_more, e_not, e_ite, e_call, mkI_some, e_mk, e_mth, e_blt, e_isi, e_bm, e_repl, e_fld, e_ix, e_sl, e_tup, e_lst, a_nil, a_cons, o_none, o_some, t_val, t_cmp, t_chn, t_and, t_or, t_not, tand_nil, tand_cons, tor_nil, tor_cons, g_nam, g_tup, gs_nil, gs_cons, s_expr, s_asg, s_setf, s_aug, augL_ok, s_ret, s_retN, s_ite, s_raise, b_nil, b_cons, fin_nx, fin_ret, fin_ex, o2, lk, looks, leave_d, leave_ex, dats_nil, dats_cons, fld_d, ix_d, call1, call2, call3, call4, call5, setL, List.getElem?_cons_zero, List.getElem?_cons_succ, Option.map_some, Option.bind_some, List.length_cons, List.length_nil, List.set_cons_zero, List.set_cons_succ, Nat.reduceAdd, Nat.reduceLT, Nat.reduceSub, reduceIte, decide_true, decide_false, List.map_cons, List.map_nil, List.cons_append, List.nil_append, List.replicate_succ, List.replicate_zero, Nat.lt_add_one, Nat.zero_lt_succ, Nat.zero_lt_one, cl0, qs, qw, sz, Nat.reduceLeDiff])]
  -- the pile
  have hpd := hs.pd
  have sp : ∃ a b d, s.pd = .pil a b d := by
    cases e : s.pd with
    | ord r => rw [e] at hpd; exact absurd hmp hpd.1
    | pil a b d => exact ⟨a, b, d, rfl⟩
  obtain ⟨a, b, d, ep⟩ := sp
  rw [ep] at hpd
  have idle : ∀ c, isDp c = false → isOpk c = false → c ≠ 67 → c ≠ 77 → c ≠ 90 → c ≠ 69 → c ≠ 88 → c ≠ 68 → c ≠ 78 → c ≠ 66 → c ≠ 80 → c ≠ 82 → behind m s c = s := by
    intro c h1 h2 h3 h4 h5 h6 h7 h8 h9 h10 h11 h12
    unfold behind
    rw [if_neg h3, if_neg cf, if_neg h4, if_neg h5, ep]
    show pilS m s a b d c = s
    unfold pilS
    rw [h1, h2, if_neg Bool.false_ne_true, if_neg Bool.false_ne_true, if_neg h6, if_neg h7, if_neg h8, if_neg h9, if_neg h10, if_neg h11, if_neg h12]
  have i1 := idle 61 rfl rfl (by decide) (by decide) (by decide) (by decide) (by decide) (by decide) (by decide) (by decide) (by decide) (by decide)
  have i2 := idle 40 rfl rfl (by decide) (by decide) (by decide) (by decide) (by decide) (by decide) (by decide) (by decide) (by decide) (by decide)
  have i3 := idle 41 rfl rfl (by decide) (by decide) (by decide) (by decide) (by decide) (by decide) (by decide) (by decide) (by decide) (by decide)
  have lcA : evLcI (lcTurn (fun y => evG Tb.G (run Tb.G 20) (.nam 4) y) (evOt Tb.G (run Tb.G 20) .none) (evE Tb.G (run Tb.G 20) (.mth false 1 41 (.var 3) (.cons (.var 4) .nil))) (wipeS [some (.d (.scr ns)), some (.d m.D), some (.d (.str row)), some (.r 0), w4, some (.d (.tup [.str s.shown, .lst ((waits s).map .str)])), none, none, none, none, none, none, none] [4])) (.vs (([61, 40, 41] : Tx).map fun c => W.d (.str [c]))) [rk m s] = .ok (([s.shown, s.shown, s.shown]).map .str) [rk m s] := by
    have := rks.rowsLc hm (i := 4) (r := 3) (l := wipeS [some (.d (.scr ns)), some (.d m.D), some (.d (.str row)), some (.r 0), w4, some (.d (.tup [.str s.shown, .lst ((waits s).map .str)])), none, none, none, none, none, none, none] [4]) rfl (by show 4 < 13; omega) (by decide) [61, 40, 41] s 100 [] hs (by show 100 + 3 ≤ _; omega) (by decide) (by show 0 + 3 ≤ _; omega)
    have e1 : showns m s [61, 40, 41] = [s.shown, s.shown, s.shown] := by
      show [(behind m s 61).shown, (behind m (behind m s 61) 40).shown, (behind m (behind m (behind m s 61) 40) 41).shown] = _
      rw [i1, i2, i3]
    have e2 : afterR m s [61, 40, 41] = s := by
      show behind m (behind m (behind m s 61) 40) 41 = s
      rw [i1, i2, i3]
    rw [e1, e2, List.nil_append] at this
    exact this
  have sqA : seqIv [rk m s] (.d (.str [61, 40, 41])) = .ok (.vs (([61, 40, 41] : Tx).map fun c => W.d (.str [c]))) [rk m s] := rfl
  generalize (([61, 40, 41] : Tx).map fun c => W.d (.str [c])) = LA at lcA sqA
  have lkA : ∀ S, lstK false [.d (.str s.shown)] S = .ok (.d (.lst [.str s.shown])) S := fun _ => rfl
  have muA : evBin .mul (.lst [.str s.shown]) (.int 3) = some (.lst ([s.shown, s.shown, s.shown].map .str)) := rfl
  have ixA : ixD (.tup [.str s.shown, .lst ((waits s).map .str)]) (.int 0) = some (.str s.shown) := rfl
  have ixB : ixD (.tup [.str s.shown, .lst ((waits s).map .str)]) (.int 1) = some (.lst ((waits s).map .str)) := rfl
  have neA := cmp_nel [s.shown, s.shown, s.shown] [s.shown, s.shown, s.shown]
  rw [beq_self_eq_true] at neA
  generalize hL3 : ([s.shown, s.shown, s.shown]).map D.str = L3 at lcA muA neA
  rw [evB_nx (l1 := [some (.d (.scr ns)), some (.d m.D), some (.d (.str row)), some (.r 0), w4, some (.d (.tup [.str s.shown, .lst ((waits s).map .str)])), none, none, none, none, none, none, none]) (S1 := [rk m s]) (by
    simp -implicitDefEqProofs only [bnd_ok, bnd_ex, sts_ok, sts_ex, sqs_nx, sqs_ret, sqs_ex, cnd_t, cnd_f, of_some, asd_ok, asd_ex, e_cst, e_var, rd_eq, rdO_ok, e_glb, glO_ok, e_bin, e_neg, e_cmp, chK_t, chK_f, e_chn, e_and, e_or, and_one, and_more, or_one, or_more, e_not, e_ite, e_call, mkI_some, e_mk, e_mth, e_blt, e_isi, e_bm, e_repl, e_fld, e_ix, e_sl, e_tup, e_lst, a_nil, a_cons, o_none, o_some, t_val, t_cmp, t_chn, t_and, t_or, t_not, tand_nil, tand_cons, tor_nil, tor_cons, g_nam, g_tup, gs_nil, gs_cons, s_expr, s_asg, s_setf, s_aug, augL_ok, s_ret, s_retN, s_ite, s_raise, b_nil, b_cons, fin_nx, fin_ret, fin_ex, o2, lk, looks, leave_d, leave_ex, dats_nil, dats_cons, fld_d, ix_d, call1, call2, call3, call4, call5, setL, List.getElem?_cons_zero, List.getElem?_cons_succ, Option.map_some, Option.bind_some, List.length_cons, List.length_nil, List.set_cons_zero, List.set_cons_succ, Nat.reduceAdd, Nat.reduceLT, Nat.reduceSub, reduceIte, decide_true, decide_false, List.map_cons, List.map_nil, List.cons_append, List.nil_append, List.replicate_succ, List.replicate_zero, Nat.lt_add_one, Nat.zero_lt_succ, Nat.zero_lt_one, e_lc, i_seq, sqA, lcA, lcEnd, ixA, ixB, lkA, muA, neA, Bool.not_true, cl0, qw, cmp_nel, beq_self_eq_true])]
  -- E
  have hA := hs.now_ok hm
  have bE : behind m s 69 = PN s.now false s.now a b s.la s.kp := by
    unfold behind
    rw [if_neg (by decide), if_neg cf, if_neg (by decide), if_neg (by decide), ep]
    rfl
  have pE := rks.press hm hs (by omega) (c := 69) (by decide)
  rw [bE] at pE
  have hla := hs.la
  have hkp := hs.kp
  revert pE hA hla hkp
  generalize s.now = A
  generalize s.la = la
  generalize s.kp = kp
  intro hA pE hla hkp
  have okN : ∀ {x p q r : Nm} {g : Bool}, x.ok → p.ok → q.ok → r.ok → (PN x g p q r la kp).ok m 200 := fun h1 h2 h3 h4 => ⟨fun _ e => (nomatch e), h1, ⟨hmp, h2, h3, h4⟩, hla, hkp⟩
  have okT : ∀ {c : Nat} {p q r : Nm}, isDp c = true → p.ok → q.ok → r.ok → (PT c p q r la kp).ok m 200 := fun h1 h2 h3 h4 => ⟨fun _ e => by injection e with e; rw [← e]; exact begT_ok hm.1 h1, nm0_ok, ⟨hmp, h2, h3, h4⟩, hla, hkp⟩
  have ha := hpd.2.1
  have hb := hpd.2.2.1
  rw [evB_nx (l1 := [some (.d (.scr ns)), some (.d m.D), some (.d (.str row)), some (.r 0), w4, some (.d (.tup [.str s.shown, .lst ((waits s).map .str)])), none, none, none, none, none, none, none]) (S1 := [rk m (PN A false A a b la kp)]) (by
    simp -implicitDefEqProofs only [bnd_ok, bnd_ex, sts_ok, sts_ex, sqs_nx, sqs_ret, sqs_ex, cnd_t, cnd_f, of_some, asd_ok, asd_ex, e_cst, e_var, rd_eq, rdO_ok, e_glb, glO_ok, e_bin, e_neg, e_cmp, chK_t, chK_f, e_chn, e_and, e_or, and_one, and_more, or_one, or_more, e_not, e_ite, e_call, mkI_some, e_mk, e_mth, e_blt, e_isi, e_bm, e_repl, e_fld, e_ix, e_sl, e_tup, e_lst, a_nil, a_cons, o_none, o_some, t_val, t_cmp, t_chn, t_and, t_or, t_not, tand_nil, tand_cons, tor_nil, tor_cons, g_nam, g_tup, gs_nil, gs_cons, s_expr, s_asg, s_setf, s_aug, augL_ok, s_ret, s_retN, s_ite, s_raise, b_nil, b_cons, fin_nx, fin_ret, fin_ex, o2, lk, looks, leave_d, leave_ex, dats_nil, dats_cons, fld_d, ix_d, call1, call2, call3, call4, call5, setL, List.getElem?_cons_zero, List.getElem?_cons_succ, Option.map_some, Option.bind_some, List.length_cons, List.length_nil, List.set_cons_zero, List.set_cons_succ, Nat.reduceAdd, Nat.reduceLT, Nat.reduceSub, reduceIte, decide_true, decide_false, List.map_cons, List.map_nil, List.cons_append, List.nil_append, List.replicate_succ, List.replicate_zero, Nat.lt_add_one, Nat.zero_lt_succ, Nat.zero_lt_one, cl0, pE])]
  generalize hw5 : (some (W.d (.tup [.str s.shown, .lst ((waits s).map .str)]))) = w5
  have o1 : (PN A false A a b la kp).ok m 200 := okN hA hA ha hb
  have o2' : (PN A true A a b la kp).ok m 200 := okN hA hA ha hb
  have sh1 : callW (run Tb.G 20) false 42 [.r 0] [rk m (PN A false A a b la kp)] = .ok (.d (.str (textN A))) [rk m (PN A false A a b la kp)] := rks.shown o1
  have wa1 : callW (run Tb.G 20) false 44 [.r 0] [rk m (PN A false A a b la kp)] = .ok (.d (.lst ([textN A, textN a, textN b].map .str))) [rk m (PN A false A a b la kp)] := rks.wait o1 (by omega)
  have sh2 : callW (run Tb.G 20) false 42 [.r 0] [rk m (PN A true A a b la kp)] = .ok (.d (.str (textN A))) [rk m (PN A true A a b la kp)] := rks.shown o2'
  have wa2 : callW (run Tb.G 20) false 44 [.r 0] [rk m (PN A true A a b la kp)] = .ok (.d (.lst ([textN A, textN a, textN b].map .str))) [rk m (PN A true A a b la kp)] := rks.wait o2' (by omega)
  have ixp0 : ∀ x y z : Tx, ixD (.lst ([x, y, z].map .str)) (.int 0) = some (.str x) := fun _ _ _ => rfl
  rw [evB_nx (l1 := [some (.d (.scr ns)), some (.d m.D), some (.d (.str row)), some (.r 0), w4, w5, some (.d (.str (textN A))), some (.d (.lst ([textN A, textN a, textN b].map .str))), none, none, none, none, none]) (S1 := [rk m (PN A false A a b la kp)]) (by
    generalize ([textN A, textN a, textN b].map D.str) = PL at wa1
    simp -implicitDefEqProofs only [bnd_ok, bnd_ex, sts_ok, sts_ex, sqs_nx, sqs_ret, sqs_ex, cnd_t, cnd_f, of_some, asd_ok, asd_ex, e_cst, e_var, rd_eq, rdO_ok, e_glb, glO_ok, e_bin, e_neg, e_cmp, chK_t, chK_f, e_chn, e_and, e_or, and_one, and_more, or_one, or_more, e_not, e_ite, e_call, mkI_some, e_mk, e_mth, e_blt, e_isi, e_bm, e_repl, e_fld, e_ix, e_sl, e_tup, e_lst, a_nil, a_cons, o_none, o_some, t_val, t_cmp, t_chn, t_and, t_or, t_not, tand_nil, tand_cons, tor_nil, tor_cons, g_nam, g_tup, gs_nil, gs_cons, s_expr, s_asg, s_setf, s_aug, augL_ok, s_ret, s_retN, s_ite, s_raise, b_nil, b_cons, fin_nx, fin_ret, fin_ex, o2, lk, looks, leave_d, leave_ex, dats_nil, dats_cons, fld_d, ix_d, call1, call2, call3, call4, call5, setL, List.getElem?_cons_zero, List.getElem?_cons_succ, Option.map_some, Option.bind_some, List.length_cons, List.length_nil, List.set_cons_zero, List.set_cons_succ, Nat.reduceAdd, Nat.reduceLT, Nat.reduceSub, reduceIte, decide_true, decide_false, List.map_cons, List.map_nil, List.cons_append, List.nil_append, List.replicate_succ, List.replicate_zero, Nat.lt_add_one, Nat.zero_lt_succ, Nat.zero_lt_one, cl0, sh1, wa1, sz, Nat.reduceLeDiff])]
  rw [evB_nx (l1 := [some (.d (.scr ns)), some (.d m.D), some (.d (.str row)), some (.r 0), w4, w5, some (.d (.str (textN A))), some (.d (.lst ([textN A, textN a, textN b].map .str))), none, none, none, none, none]) (S1 := [rk m (PN A false A a b la kp)]) (by
    have z := ixp0 (textN A) (textN a) (textN b)
    generalize ([textN A, textN a, textN b].map D.str) = PL at z
    simp -implicitDefEqProofs only [bnd_ok, bnd_ex, sts_ok, sts_ex, sqs_nx, sqs_ret, sqs_ex, cnd_t, cnd_f, of_some, asd_ok, asd_ex, e_cst, e_var, rd_eq, rdO_ok, e_glb, glO_ok, e_bin, e_neg, e_cmp, chK_t, chK_f, e_chn, e_and, e_or, and_one, and_more, or_one, or_more, e_not, e_ite, e_call, mkI_some, e_mk, e_mth, e_blt, e_isi, e_bm, e_repl, e_fld, e_ix, e_sl, e_tup, e_lst, a_nil, a_cons, o_none, o_some, t_val, t_cmp, t_chn, t_and, t_or, t_not, tand_nil, tand_cons, tor_nil, tor_cons, g_nam, g_tup, gs_nil, gs_cons, s_expr, s_asg, s_setf, s_aug, augL_ok, s_ret, s_retN, s_ite, s_raise, b_nil, b_cons, fin_nx, fin_ret, fin_ex, o2, lk, looks, leave_d, leave_ex, dats_nil, dats_cons, fld_d, ix_d, call1, call2, call3, call4, call5, setL, List.getElem?_cons_zero, List.getElem?_cons_succ, Option.map_some, Option.bind_some, List.length_cons, List.length_nil, List.set_cons_zero, List.set_cons_succ, Nat.reduceAdd, Nat.reduceLT, Nat.reduceSub, reduceIte, decide_true, decide_false, List.map_cons, List.map_nil, List.cons_append, List.nil_append, List.replicate_succ, List.replicate_zero, Nat.lt_add_one, Nat.zero_lt_succ, Nat.zero_lt_one, z, cmp_nes, beq_self_eq_true, Bool.not_true])]
  -- D four times, X twice
  have tE : ∀ w8 w4, evB Tb.G (run Tb.G 20) (.cons (.ite (.or (.cons (.cmp .ne (.mth false 1 42 (.var 3) .nil) (.var 6)) (.cons (.cmp .ne (.mth false 1 44 (.var 3) .nil) (.var 7)) .nil))) (.cons (.ret (.cst (.bl false))) .nil) .nil) .nil) [some (.d (.scr ns)), some (.d m.D), some (.d (.str row)), some (.r 0), w4, w5, some (.d (.str (textN A))), some (.d (.lst ([textN A, textN a, textN b].map .str))), w8, none, none, none, none] [rk m (PN A true A a b la kp)] = .nx [some (.d (.scr ns)), some (.d m.D), some (.d (.str row)), some (.r 0), w4, w5, some (.d (.str (textN A))), some (.d (.lst ([textN A, textN a, textN b].map .str))), w8, none, none, none, none] [rk m (PN A true A a b la kp)] := by
    intro w8 w4
    have z := cmp_nel [textN A, textN a, textN b] [textN A, textN a, textN b]
    rw [beq_self_eq_true] at z
    have wa2 := wa2
    generalize ([textN A, textN a, textN b].map D.str) = PL at z wa2
    simp -implicitDefEqProofs only [bnd_ok, bnd_ex, sts_ok, sts_ex, sqs_nx, sqs_ret, sqs_ex, cnd_t, cnd_f, of_some, asd_ok, asd_ex, e_cst, e_var, rd_eq, rdO_ok, e_glb, glO_ok, e_bin, e_neg, e_cmp, chK_t, chK_f, e_chn, e_and, e_or, and_one, and_more, or_one, or_more, e_not, e_ite, e_call, mkI_some, e_mk, e_mth, e_blt, e_isi, e_bm, e_repl, e_fld, e_ix, e_sl, e_tup, e_lst, a_nil, a_cons, o_none, o_some, t_val, t_cmp, t_chn, t_and, t_or, t_not, tand_nil, tand_cons, tor_nil, tor_cons, g_nam, g_tup, gs_nil, gs_cons, s_expr, s_asg, s_setf, s_aug, augL_ok, s_ret, s_retN, s_ite, s_raise, b_nil, b_cons, fin_nx, fin_ret, fin_ex, o2, lk, looks, leave_d, leave_ex, dats_nil, dats_cons, fld_d, ix_d, call1, call2, call3, call4, call5, setL, List.getElem?_cons_zero, List.getElem?_cons_succ, Option.map_some, Option.bind_some, List.length_cons, List.length_nil, List.set_cons_zero, List.set_cons_succ, Nat.reduceAdd, Nat.reduceLT, Nat.reduceSub, reduceIte, decide_true, decide_false, List.map_cons, List.map_nil, List.cons_append, List.nil_append, List.replicate_succ, List.replicate_zero, Nat.lt_add_one, Nat.zero_lt_succ, Nat.zero_lt_one, cl0, sh2, wa2, z, cmp_nes, beq_self_eq_true, Bool.not_true]
  have turns : ∀ (x : Tx) (g : Bool) (w8 w4 : Option W), (∀ c ∈ x, isKey c = true) → x.length ≤ 10 → afterR m (PN A g A a b la kp) x = PN A true A a b la kp → ∃ w4', evB Tb.G (run Tb.G 20) (.cons (.loop (.nam 4) (.seq (.var 8)) (.cons (.expr (.mth false 1 41 (.var 3) (.cons (.var 4) .nil))) .nil)) (.cons (.ite (.or (.cons (.cmp .ne (.mth false 1 42 (.var 3) .nil) (.var 6)) (.cons (.cmp .ne (.mth false 1 44 (.var 3) .nil) (.var 7)) .nil))) (.cons (.ret (.cst (.bl false))) .nil) .nil) .nil)) [some (.d (.scr ns)), some (.d m.D), some (.d (.str row)), some (.r 0), w4, w5, some (.d (.str (textN A))), some (.d (.lst ([textN A, textN a, textN b].map .str))), some (.d (.str x)), none, none, none, none] [rk m (PN A g A a b la kp)] = .nx [some (.d (.scr ns)), some (.d m.D), some (.d (.str row)), some (.r 0), w4', w5, some (.d (.str (textN A))), some (.d (.lst ([textN A, textN a, textN b].map .str))), some (.d (.str x)), none, none, none, none] [rk m (PN A true A a b la kp)] := by
    intro x g w8 w4 hx hxl hbk
    have og : (PN A g A a b la kp).ok m 200 := okN hA hA ha hb
    obtain ⟨w4', lp2⟩ := rks.rows hm (i := 4) (r := 3) (l := [some (.d (.scr ns)), some (.d m.D), some (.d (.str row)), some (.r 0), none, w5, some (.d (.str (textN A))), some (.d (.lst ([textN A, textN a, textN b].map .str))), some (.d (.str x)), none, none, none, none]) rfl (by show 4 < 13; omega) (by decide) x (PN A g A a b la kp) 200 w4 og (by omega) hx
    rw [hbk] at lp2
    simp only [List.set_cons_succ, List.set_cons_zero] at lp2
    refine ⟨w4', ?_⟩
    rw [evB_nx (l1 := [some (.d (.scr ns)), some (.d m.D), some (.d (.str row)), some (.r 0), w4', w5, some (.d (.str (textN A))), some (.d (.lst ([textN A, textN a, textN b].map .str))), some (.d (.str x)), none, none, none, none]) (S1 := [rk m (PN A true A a b la kp)]) (by
      rw [s_loop, i_seq, e_var, rd_eq]
      exact lp2)]
    exact tE _ _
  obtain ⟨wa4, t1⟩ := turns [68, 68, 68, 68] false none w4 (by decide) (by decide) rfl
  obtain ⟨wb4, t2⟩ := turns [88, 88] true none wa4 (by decide) (by decide) rfl
  rw [evB_nx (l1 := [some (.d (.scr ns)), some (.d m.D), some (.d (.str row)), some (.r 0), wb4, w5, some (.d (.str (textN A))), some (.d (.lst ([textN A, textN a, textN b].map .str))), some (.d (.str [88, 88])), none, none, none, none]) (S1 := [rk m (PN A true A a b la kp)]) (by
    rw [s_loop, i_seq]
    have e1 : evE Tb.G (run Tb.G 20) (.tup (.cons (.cst (.str [68, 68, 68, 68])) (.cons (.cst (.str [88, 88])) .nil))) [some (.d (.scr ns)), some (.d m.D), some (.d (.str row)), some (.r 0), w4, w5, some (.d (.str (textN A))), some (.d (.lst ([textN A, textN a, textN b].map .str))), none, none, none, none, none] [rk m (PN A false A a b la kp)] = .ok (.d (.tup [.str [68, 68, 68, 68], .str [88, 88]])) [rk m (PN A false A a b la kp)] := by
      simp -implicitDefEqProofs only [bnd_ok, bnd_ex, sts_ok, sts_ex, sqs_nx, sqs_ret, sqs_ex, cnd_t, cnd_f, of_some, asd_ok, asd_ex, e_cst, e_var, rd_eq, rdO_ok, e_glb, glO_ok, e_bin, e_neg, e_cmp, chK_t, chK_f, e_chn, e_and, e_or, and_one, and_more, or_one, or_more, e_not, e_ite, e_call, mkI_some, e_mk, e_mth, e_blt, e_isi, e_bm, e_repl, e_fld, e_ix, e_sl, e_tup, e_lst, a_nil, a_cons, o_none, o_some, t_val, t_cmp, t_chn, t_and, t_or, t_not, tand_nil, tand_cons, tor_nil, tor_cons, g_nam, g_tup, gs_nil, gs_cons, s_expr, s_asg, s_setf, s_aug, augL_ok, s_ret, s_retN, s_ite, s_raise, b_nil, b_cons, fin_nx, fin_ret, fin_ex, o2, lk, looks, leave_d, leave_ex, dats_nil, dats_cons, fld_d, ix_d, call1, call2, call3, call4, call5, setL, List.getElem?_cons_zero, List.getElem?_cons_succ, Option.map_some, Option.bind_some, List.length_cons, List.length_nil, List.set_cons_zero, List.set_cons_succ, Nat.reduceAdd, Nat.reduceLT, Nat.reduceSub, reduceIte, decide_true, decide_false, List.map_cons, List.map_nil, List.cons_append, List.nil_append, List.replicate_succ, List.replicate_zero, Nat.lt_add_one, Nat.zero_lt_succ, Nat.zero_lt_one, sz, Nat.reduceLeDiff]
    have sqT : ∀ S, seqIv S (.d (.tup [.str [68, 68, 68, 68], .str [88, 88]])) = .ok (.vs [.d (.str [68, 68, 68, 68]), .d (.str [88, 88])]) S := fun _ => rfl
    have fiT : ∀ (g : W → Sl → Sto → RS) (b : Sl → Sto → RS) (xs : List W) (l : Sl) (S : Sto), evForI g b (.vs xs) l S = evFor g b xs l S := fun _ _ _ _ _ => rfl
    rw [e1, bnd_ok, sqT, sts_ok, fiT]
    rw [for_step (l1 := [some (.d (.scr ns)), some (.d m.D), some (.d (.str row)), some (.r 0), w4, w5, some (.d (.str (textN A))), some (.d (.lst ([textN A, textN a, textN b].map .str))), some (.d (.str [68, 68, 68, 68])), none, none, none, none]) (S1 := [rk m (PN A false A a b la kp)]) rfl t1]
    rw [for_step (l1 := [some (.d (.scr ns)), some (.d m.D), some (.d (.str row)), some (.r 0), wa4, w5, some (.d (.str (textN A))), some (.d (.lst ([textN A, textN a, textN b].map .str))), some (.d (.str [88, 88])), none, none, none, none]) (S1 := [rk m (PN A true A a b la kp)]) rfl t2]
    rfl)]
  -- X X
  have pX : callW (run Tb.G 20) false 41 [.r 0, .d (.str [88])] [rk m (PN A true A a b la kp)] = .ok (.d (.str (textN A))) [rk m (PN A true A a b la kp)] := rks.press hm o2' (by omega) (c := 88) (by decide)
  have lX : ∀ (w9 w10 w11 : Option W), [some (.d (.scr ns)), some (.d m.D), some (.d (.str row)), some (.r 0), wb4, w5, some (.d (.str (textN A))), some (.d (.lst ([textN A, textN a, textN b].map .str))), some (.d (.str [88, 88])), w9, w10, w11, (none : Option W)] = [some (.d (.scr ns)), some (.d m.D), some (.d (.str row)), some (.r 0), wb4, w5, some (.d (.str (textN A))), some (.d (.lst ([textN A, textN a, textN b].map .str))), some (.d (.str [88, 88])), w9, w10, w11, none] := fun _ _ _ => rfl
  rw [evB_nx (l1 := [some (.d (.scr ns)), some (.d m.D), some (.d (.str row)), some (.r 0), wb4, w5, some (.d (.str (textN A))), some (.d (.lst ([textN A, textN a, textN b].map .str))), some (.d (.str [88, 88])), none, none, none, none]) (S1 := [rk m (PN A true A a b la kp)]) (by
    have z := ixp0 (textN A) (textN a) (textN b)
    generalize ([textN A, textN a, textN b].map D.str) = PL at z
    simp -implicitDefEqProofs only [bnd_ok, bnd_ex, sts_ok, sts_ex, sqs_nx, sqs_ret, sqs_ex, cnd_t, cnd_f, of_some, asd_ok, asd_ex, e_cst, e_var, rd_eq, rdO_ok, e_glb, glO_ok, e_bin, e_neg, e_cmp, chK_t, chK_f, e_chn, e_and, e_or, and_one, and_more, or_one, or_more, e_not, e_ite, e_call, mkI_some, e_mk, e_mth, e_blt, e_isi, e_bm, e_repl, e_fld, e_ix, e_sl, e_tup, e_lst, a_nil, a_cons, o_none, o_some, t_val, t_cmp, t_chn, t_and, t_or, t_not, tand_nil, tand_cons, tor_nil, tor_cons, g_nam, g_tup, gs_nil, gs_cons, s_expr, s_asg, s_setf, s_aug, augL_ok, s_ret, s_retN, s_ite, s_raise, b_nil, b_cons, fin_nx, fin_ret, fin_ex, o2, lk, looks, leave_d, leave_ex, dats_nil, dats_cons, fld_d, ix_d, call1, call2, call3, call4, call5, setL, List.getElem?_cons_zero, List.getElem?_cons_succ, Option.map_some, Option.bind_some, List.length_cons, List.length_nil, List.set_cons_zero, List.set_cons_succ, Nat.reduceAdd, Nat.reduceLT, Nat.reduceSub, reduceIte, decide_true, decide_false, List.map_cons, List.map_nil, List.cons_append, List.nil_append, List.replicate_succ, List.replicate_zero, Nat.lt_add_one, Nat.zero_lt_succ, Nat.zero_lt_one, cl0, pX, z, cmp_nes, beq_self_eq_true, Bool.not_true])]
  -- order
  have lkX : ∀ S, lstK false [.d (.str (textN A))] S = .ok (.d (.lst [.str (textN A)])) S := fun _ => rfl
  have adX : evBin .add (.lst [.str (textN A)]) (.lst ([textN A, textN a, textN b].map .str)) = some (.lst ([textN A, textN A, textN a, textN b].map .str)) := rfl
  rw [evB_nx (l1 := [some (.d (.scr ns)), some (.d m.D), some (.d (.str row)), some (.r 0), wb4, w5, some (.d (.str (textN A))), some (.d (.lst ([textN A, textN a, textN b].map .str))), some (.d (.str [88, 88])), some (.d (.lst ([textN A, textN A, textN a, textN b].map .str))), none, none, none]) (S1 := [rk m (PN A true A a b la kp)]) (by
    generalize ([textN A, textN a, textN b].map D.str) = PL at adX
    generalize ([textN A, textN A, textN a, textN b].map D.str) = OL at adX
    simp -implicitDefEqProofs only [bnd_ok, bnd_ex, sts_ok, sts_ex, sqs_nx, sqs_ret, sqs_ex, cnd_t, cnd_f, of_some, asd_ok, asd_ex, e_cst, e_var, rd_eq, rdO_ok, e_glb, glO_ok, e_bin, e_neg, e_cmp, chK_t, chK_f, e_chn, e_and, e_or, and_one, and_more, or_one, or_more, e_not, e_ite, e_call, mkI_some, e_mk, e_mth, e_blt, e_isi, e_bm, e_repl, e_fld, e_ix, e_sl, e_tup, e_lst, a_nil, a_cons, o_none, o_some, t_val, t_cmp, t_chn, t_and, t_or, t_not, tand_nil, tand_cons, tor_nil, tor_cons, g_nam, g_tup, gs_nil, gs_cons, s_expr, s_asg, s_setf, s_aug, augL_ok, s_ret, s_retN, s_ite, s_raise, b_nil, b_cons, fin_nx, fin_ret, fin_ex, o2, lk, looks, leave_d, leave_ex, dats_nil, dats_cons, fld_d, ix_d, call1, call2, call3, call4, call5, setL, List.getElem?_cons_zero, List.getElem?_cons_succ, Option.map_some, Option.bind_some, List.length_cons, List.length_nil, List.set_cons_zero, List.set_cons_succ, Nat.reduceAdd, Nat.reduceLT, Nat.reduceSub, reduceIte, decide_true, decide_false, List.map_cons, List.map_nil, List.cons_append, List.nil_append, List.replicate_succ, List.replicate_zero, Nat.lt_add_one, Nat.zero_lt_succ, Nat.zero_lt_one, lkX, adX])]
  generalize hPL : ([textN A, textN a, textN b].map D.str) = PL
  generalize hOL : ([textN A, textN A, textN a, textN b].map D.str) = OL
  -- D four times
  have dS : ∀ (x p q r : Nm) (g : Bool), x.ok → p.ok → q.ok → r.ok → callW (run Tb.G 20) false 41 [.r 0, .d (.str [68])] [rk m (PN x g p q r la kp)] = .ok (.d (.str (textN p))) [rk m (PN p true q r x la kp)] := fun x p q r g h1 h2 h3 h4 => rks.press hm (okN (g := g) h1 h2 h3 h4) (by omega) (c := 68) (by decide)
  have lcD : ∀ w9 : Option W, evLcI (lcTurn (fun y => evG Tb.G (run Tb.G 20) (.nam 12) y) (evOt Tb.G (run Tb.G 20) .none) (evE Tb.G (run Tb.G 20) (.mth false 1 41 (.var 3) (.cons (.cst (.str [68])) .nil))) (wipeS [some (.d (.scr ns)), some (.d m.D), some (.d (.str row)), some (.r 0), wb4, w5, some (.d (.str (textN A))), some (.d (.lst PL)), some (.d (.str [88, 88])), some (.d (.lst OL)), none, none, none] [12])) (.vs (range1 (rngN 0 4) 0)) [rk m (PN A true A a b la kp)] = .ok ([textN A, textN a, textN b, textN A].map .str) [rk m (PN A true A a b la kp)] := by
    intro _
    have one : ∀ (w : W) (x p q r : Nm) (acc : List D), x.ok → p.ok → q.ok → r.ok → acc.length < 100000 → lcTurn (fun y => evG Tb.G (run Tb.G 20) (.nam 12) y) (evOt Tb.G (run Tb.G 20) .none) (evE Tb.G (run Tb.G 20) (.mth false 1 41 (.var 3) (.cons (.cst (.str [68])) .nil))) (wipeS [some (.d (.scr ns)), some (.d m.D), some (.d (.str row)), some (.r 0), wb4, w5, some (.d (.str (textN A))), some (.d (.lst PL)), some (.d (.str [88, 88])), some (.d (.lst OL)), none, none, none] [12]) w acc [rk m (PN x true p q r la kp)] = .ok (acc ++ [.str (textN p)]) [rk m (PN p true q r x la kp)] := by
      intro w x p q r acc h1 h2 h3 h4 hacc
      refine turn_keep (l' := [some (.d (.scr ns)), some (.d m.D), some (.d (.str row)), some (.r 0), wb4, w5, some (.d (.str (textN A))), some (.d (.lst PL)), some (.d (.str [88, 88])), some (.d (.lst OL)), none, none, some w]) (S1 := [rk m (PN x true p q r la kp)]) (S2 := [rk m (PN x true p q r la kp)]) ?_ (by rw [evOt]) ?_ hacc
      · show evG _ _ _ _ [some (.d (.scr ns)), some (.d m.D), some (.d (.str row)), some (.r 0), wb4, w5, some (.d (.str (textN A))), some (.d (.lst PL)), some (.d (.str [88, 88])), some (.d (.lst OL)), none, none, none] _ = _
        simp -implicitDefEqProofs only [bnd_ok, bnd_ex, sts_ok, sts_ex, sqs_nx, sqs_ret, sqs_ex, cnd_t, cnd_f, of_some, asd_ok, asd_ex, e_cst, e_var, rd_eq, rdO_ok, e_glb, glO_ok, e_bin, e_neg, e_cmp, chK_t, chK_f, e_chn, e_and, e_or, and_one, and_more, or_one, or_more, e_not, e_ite, e_call, mkI_some, e_mk, e_mth, e_blt, e_isi, e_bm, e_repl, e_fld, e_ix, e_sl, e_tup, e_lst, a_nil, a_cons, o_none, o_some, t_val, t_cmp, t_chn, t_and, t_or, t_not, tand_nil, tand_cons, tor_nil, tor_cons, g_nam, g_tup, gs_nil, gs_cons, s_expr, s_asg, s_setf, s_aug, augL_ok, s_ret, s_retN, s_ite, s_raise, b_nil, b_cons, fin_nx, fin_ret, fin_ex, o2, lk, looks, leave_d, leave_ex, dats_nil, dats_cons, fld_d, ix_d, call1, call2, call3, call4, call5, setL, List.getElem?_cons_zero, List.getElem?_cons_succ, Option.map_some, Option.bind_some, List.length_cons, List.length_nil, List.set_cons_zero, List.set_cons_succ, Nat.reduceAdd, Nat.reduceLT, Nat.reduceSub, reduceIte, decide_true, decide_false, List.map_cons, List.map_nil, List.cons_append, List.nil_append, List.replicate_succ, List.replicate_zero, Nat.lt_add_one, Nat.zero_lt_succ, Nat.zero_lt_one]
      · simp -implicitDefEqProofs only [bnd_ok, bnd_ex, sts_ok, sts_ex, sqs_nx, sqs_ret, sqs_ex, cnd_t, cnd_f, of_some, asd_ok, asd_ex, e_cst, e_var, rd_eq, rdO_ok, e_glb, glO_ok, e_bin, e_neg, e_cmp, chK_t, chK_f, e_chn, e_and, e_or, and_one, and_more, or_one, or_more, e_not, e_ite, e_call, mkI_some, e_mk, e_mth, e_blt, e_isi, e_bm, e_repl, e_fld, e_ix, e_sl, e_tup, e_lst, a_nil, a_cons, o_none, o_some, t_val, t_cmp, t_chn, t_and, t_or, t_not, tand_nil, tand_cons, tor_nil, tor_cons, g_nam, g_tup, gs_nil, gs_cons, s_expr, s_asg, s_setf, s_aug, augL_ok, s_ret, s_retN, s_ite, s_raise, b_nil, b_cons, fin_nx, fin_ret, fin_ex, o2, lk, looks, leave_d, leave_ex, dats_nil, dats_cons, fld_d, ix_d, call1, call2, call3, call4, call5, setL, List.getElem?_cons_zero, List.getElem?_cons_succ, Option.map_some, Option.bind_some, List.length_cons, List.length_nil, List.set_cons_zero, List.set_cons_succ, Nat.reduceAdd, Nat.reduceLT, Nat.reduceSub, reduceIte, decide_true, decide_false, List.map_cons, List.map_nil, List.cons_append, List.nil_append, List.replicate_succ, List.replicate_zero, Nat.lt_add_one, Nat.zero_lt_succ, Nat.zero_lt_one, cl0, dS x p q r true h1 h2 h3 h4]
    have er4 : range1 (rngN 0 4) 0 = [.d (.int 0), .d (.int 1), .d (.int 2), .d (.int 3)] := rfl
    rw [er4]
    show evLc _ [.d (.int 0), .d (.int 1), .d (.int 2), .d (.int 3)] [] _ = _
    show (lcTurn _ _ _ _ (.d (.int 0)) [] _).bind _ = _
    rw [one _ A A a b [] hA hA ha hb (by decide)]
    show (lcTurn _ _ _ _ (.d (.int 1)) _ _).bind _ = _
    rw [one _ A a b A _ hA ha hb hA (by show 1 < 100000; omega)]
    show (lcTurn _ _ _ _ (.d (.int 2)) _ _).bind _ = _
    rw [one _ a b A A _ ha hb hA hA (by show 2 < 100000; omega)]
    show (lcTurn _ _ _ _ (.d (.int 3)) _ _).bind _ = _
    rw [one _ b A A a _ hb hA hA ha (by show 3 < 100000; omega)]
    rfl
  have eiD : ∀ l : Sl, evI Tb.G (run Tb.G 20) (.rng1 (.cst (.int 4))) l [rk m (PN A true A a b la kp)] = .ok (.vs (range1 (rngN 0 4) 0)) [rk m (PN A true A a b la kp)] := fun l => by rw [evI]; rfl
  have ox1 : ixD (.lst OL) (.int 1) = some (.str (textN A)) := by rw [← hOL]; rfl
  have ox2 : ixD (.lst OL) (.int 2) = some (.str (textN a)) := by rw [← hOL]; rfl
  have ox3 : ixD (.lst OL) (.int 3) = some (.str (textN b)) := by rw [← hOL]; rfl
  have ox0 : ixD (.lst OL) (.int 0) = some (.str (textN A)) := by rw [← hOL]; rfl
  have lk4 : ∀ S, lstK false [.d (.str (textN A)), .d (.str (textN a)), .d (.str (textN b)), .d (.str (textN A))] S = .ok (.d (.lst ([textN A, textN a, textN b, textN A].map .str))) S := fun _ => rfl
  have ne4 := cmp_nel [textN A, textN a, textN b, textN A] [textN A, textN a, textN b, textN A]
  rw [beq_self_eq_true] at ne4
  generalize ([textN A, textN a, textN b, textN A].map D.str) = FL at lcD lk4 ne4
  rw [evB_nx (l1 := [some (.d (.scr ns)), some (.d m.D), some (.d (.str row)), some (.r 0), wb4, w5, some (.d (.str (textN A))), some (.d (.lst PL)), some (.d (.str [88, 88])), some (.d (.lst OL)), some (.d (.lst FL)), none, none]) (S1 := [rk m (PN A true A a b la kp)]) (by
    simp -implicitDefEqProofs only [bnd_ok, bnd_ex, sts_ok, sts_ex, sqs_nx, sqs_ret, sqs_ex, cnd_t, cnd_f, of_some, asd_ok, asd_ex, e_cst, e_var, rd_eq, rdO_ok, e_glb, glO_ok, e_bin, e_neg, e_cmp, chK_t, chK_f, e_chn, e_and, e_or, and_one, and_more, or_one, or_more, e_not, e_ite, e_call, mkI_some, e_mk, e_mth, e_blt, e_isi, e_bm, e_repl, e_fld, e_ix, e_sl, e_tup, e_lst, a_nil, a_cons, o_none, o_some, t_val, t_cmp, t_chn, t_and, t_or, t_not, tand_nil, tand_cons, tor_nil, tor_cons, g_nam, g_tup, gs_nil, gs_cons, s_expr, s_asg, s_setf, s_aug, augL_ok, s_ret, s_retN, s_ite, s_raise, b_nil, b_cons, fin_nx, fin_ret, fin_ex, o2, lk, looks, leave_d, leave_ex, dats_nil, dats_cons, fld_d, ix_d, call1, call2, call3, call4, call5, setL, List.getElem?_cons_zero, List.getElem?_cons_succ, Option.map_some, Option.bind_some, List.length_cons, List.length_nil, List.set_cons_zero, List.set_cons_succ, Nat.reduceAdd, Nat.reduceLT, Nat.reduceSub, reduceIte, decide_true, decide_false, List.map_cons, List.map_nil, List.cons_append, List.nil_append, List.replicate_succ, List.replicate_zero, Nat.lt_add_one, Nat.zero_lt_succ, Nat.zero_lt_one, e_lc, eiD, lcD none, lcEnd])]
  rw [evB_nx (l1 := [some (.d (.scr ns)), some (.d m.D), some (.d (.str row)), some (.r 0), wb4, w5, some (.d (.str (textN A))), some (.d (.lst PL)), some (.d (.str [88, 88])), some (.d (.lst OL)), some (.d (.lst FL)), none, none]) (S1 := [rk m (PN A true A a b la kp)]) (by
    simp -implicitDefEqProofs only [bnd_ok, bnd_ex, sts_ok, sts_ex, sqs_nx, sqs_ret, sqs_ex, cnd_t, cnd_f, of_some, asd_ok, asd_ex, e_cst, e_var, rd_eq, rdO_ok, e_glb, glO_ok, e_bin, e_neg, e_cmp, chK_t, chK_f, e_chn, e_and, e_or, and_one, and_more, or_one, or_more, e_not, e_ite, e_call, mkI_some, e_mk, e_mth, e_blt, e_isi, e_bm, e_repl, e_fld, e_ix, e_sl, e_tup, e_lst, a_nil, a_cons, o_none, o_some, t_val, t_cmp, t_chn, t_and, t_or, t_not, tand_nil, tand_cons, tor_nil, tor_cons, g_nam, g_tup, gs_nil, gs_cons, s_expr, s_asg, s_setf, s_aug, augL_ok, s_ret, s_retN, s_ite, s_raise, b_nil, b_cons, fin_nx, fin_ret, fin_ex, o2, lk, looks, leave_d, leave_ex, dats_nil, dats_cons, fld_d, ix_d, call1, call2, call3, call4, call5, setL, List.getElem?_cons_zero, List.getElem?_cons_succ, Option.map_some, Option.bind_some, List.length_cons, List.length_nil, List.set_cons_zero, List.set_cons_succ, Nat.reduceAdd, Nat.reduceLT, Nat.reduceSub, reduceIte, decide_true, decide_false, List.map_cons, List.map_nil, List.cons_append, List.nil_append, List.replicate_succ, List.replicate_zero, Nat.lt_add_one, Nat.zero_lt_succ, Nat.zero_lt_one, ox0, ox1, ox2, ox3, lk4, ne4, Bool.not_true])]
  -- a figure
  rw [evB_nx (l1 := [some (.d (.scr ns)), some (.d m.D), some (.d (.str row)), some (.r 0), wb4, w5, some (.d (.str (textN A))), some (.d (.lst PL)), some (.d (.str [88, 88])), some (.d (.lst OL)), some (.d (.lst FL)), some (.d (.str [48 + v])), none]) (S1 := [rk m (PN A true A a b la kp)]) (by
    simp -implicitDefEqProofs only [bnd_ok, bnd_ex, sts_ok, sts_ex, sqs_nx, sqs_ret, sqs_ex, cnd_t, cnd_f, of_some, asd_ok, asd_ex, e_cst, e_var, rd_eq, rdO_ok, e_glb, glO_ok, e_bin, e_neg, e_cmp, chK_t, chK_f, e_chn, e_and, e_or, and_one, and_more, or_one, or_more, e_not, e_ite, e_call, mkI_some, e_mk, e_mth, e_blt, e_isi, e_bm, e_repl, e_fld, e_ix, e_sl, e_tup, e_lst, a_nil, a_cons, o_none, o_some, t_val, t_cmp, t_chn, t_and, t_or, t_not, tand_nil, tand_cons, tor_nil, tor_cons, g_nam, g_tup, gs_nil, gs_cons, s_expr, s_asg, s_setf, s_aug, augL_ok, s_ret, s_retN, s_ite, s_raise, b_nil, b_cons, fin_nx, fin_ret, fin_ex, o2, lk, looks, leave_d, leave_ex, dats_nil, dats_cons, fld_d, ix_d, call1, call2, call3, call4, call5, setL, List.getElem?_cons_zero, List.getElem?_cons_succ, Option.map_some, Option.bind_some, List.length_cons, List.length_nil, List.set_cons_zero, List.set_cons_succ, Nat.reduceAdd, Nat.reduceLT, Nat.reduceSub, reduceIte, decide_true, decide_false, List.map_cons, List.map_nil, List.cons_append, List.nil_append, List.replicate_succ, List.replicate_zero, Nat.lt_add_one, Nat.zero_lt_succ, Nat.zero_lt_one, c3, e10, bs])]
  have hdp := isDp_dig hv
  have hky := isKey_dig hv
  have hne : 48 + v ≠ 67 ∧ 48 + v ≠ 77 ∧ 48 + v ≠ 90 := by omega
  have hV : (Nm.mk (v : Int) 0).ok := by
    refine ⟨?_, by show 0 ≤ 7; omega⟩
    show ((v : Int)).natAbs < 10 ^ 8
    rw [Int.natAbs_natCast]
    exact Nat.lt_trans hv (by decide)
  have p1 := rks.press hm o2' (by omega) hky
  rw [b_dig hdp hne] at p1
  have p1 : callW (run Tb.G 20) false 41 [.r 0, .d (.str [48 + v])] [rk m (PN A true A a b la kp)] = .ok (.d (.str (begT (48 + v)).tx)) [rk m (PT (48 + v) A A a la kp)] := p1
  rw [tx_dig hv] at p1
  have oT1 : (PT (48 + v) A A a la kp).ok m 200 := okT hdp hA hA ha
  have w1 : callW (run Tb.G 20) false 44 [.r 0] [rk m (PT (48 + v) A A a la kp)] = .ok (.d (.lst ([textN A, textN A, textN a].map .str))) [rk m (PT (48 + v) A A a la kp)] := rks.wait oT1 (by omega)
  have sl2 : slD (.lst PL) none (some 2) = some (.lst [.str (textN A), .str (textN a)]) := by rw [← hPL]; rfl
  have ad2 : evBin .add (.lst [.str (textN A)]) (.lst [.str (textN A), .str (textN a)]) = some (.lst ([textN A, textN A, textN a].map .str)) := rfl
  have ne3 := cmp_nel [textN A, textN A, textN a] [textN A, textN A, textN a]
  rw [beq_self_eq_true] at ne3
  generalize ([textN A, textN A, textN a].map D.str) = QL at w1 ad2 ne3
  rw [evB_nx (l1 := [some (.d (.scr ns)), some (.d m.D), some (.d (.str row)), some (.r 0), wb4, w5, some (.d (.str (textN A))), some (.d (.lst PL)), some (.d (.str [88, 88])), some (.d (.lst OL)), some (.d (.lst FL)), some (.d (.str [48 + v])), none]) (S1 := [rk m (PT (48 + v) A A a la kp)]) (by
    simp -implicitDefEqProofs only [bnd_ok, bnd_ex, sts_ok, sts_ex, sqs_nx, sqs_ret, sqs_ex, cnd_t, cnd_f, of_some, asd_ok, asd_ex, e_cst, e_var, rd_eq, rdO_ok, e_glb, glO_ok, e_bin, e_neg, e_cmp, chK_t, chK_f, e_chn, e_and, e_or, and_one, and_more, or_one, or_more, e_not, e_ite, e_call, mkI_some, e_mk, e_mth, e_blt, e_isi, e_bm, e_repl, e_fld, e_ix, e_sl, e_tup, e_lst, a_nil, a_cons, o_none, o_some, t_val, t_cmp, t_chn, t_and, t_or, t_not, tand_nil, tand_cons, tor_nil, tor_cons, g_nam, g_tup, gs_nil, gs_cons, s_expr, s_asg, s_setf, s_aug, augL_ok, s_ret, s_retN, s_ite, s_raise, b_nil, b_cons, fin_nx, fin_ret, fin_ex, o2, lk, looks, leave_d, leave_ex, dats_nil, dats_cons, fld_d, ix_d, call1, call2, call3, call4, call5, setL, List.getElem?_cons_zero, List.getElem?_cons_succ, Option.map_some, Option.bind_some, List.length_cons, List.length_nil, List.set_cons_zero, List.set_cons_succ, Nat.reduceAdd, Nat.reduceLT, Nat.reduceSub, reduceIte, decide_true, decide_false, List.map_cons, List.map_nil, List.cons_append, List.nil_append, List.replicate_succ, List.replicate_zero, Nat.lt_add_one, Nat.zero_lt_succ, Nat.zero_lt_one, cl0, p1, w1, cmp_nes, beq_self_eq_true, Bool.not_true, lkX, sl2, ad2, ne3])]
  -- E
  have pE2 := rks.press hm oT1 (by omega) (c := 69) (by decide)
  have bE2 : behind m (PT (48 + v) A A a la kp) 69 = PN ⟨(v : Int), 0⟩ false ⟨(v : Int), 0⟩ A A la kp := by
    show wN (PT (48 + v) A A a la kp) (some (numT (begT (48 + v)))) false (.pil (numT (begT (48 + v))) A A) = _
    rw [num_dig hv]; rfl
  rw [bE2] at pE2
  rw [evB_nx (l1 := [some (.d (.scr ns)), some (.d m.D), some (.d (.str row)), some (.r 0), wb4, w5, some (.d (.str (textN A))), some (.d (.lst PL)), some (.d (.str [88, 88])), some (.d (.lst OL)), some (.d (.lst FL)), some (.d (.str [48 + v])), none]) (S1 := [rk m (PN ⟨(v : Int), 0⟩ false ⟨(v : Int), 0⟩ A A la kp)]) (by
    simp -implicitDefEqProofs only [bnd_ok, bnd_ex, sts_ok, sts_ex, sqs_nx, sqs_ret, sqs_ex, cnd_t, cnd_f, of_some, asd_ok, asd_ex, e_cst, e_var, rd_eq, rdO_ok, e_glb, glO_ok, e_bin, e_neg, e_cmp, chK_t, chK_f, e_chn, e_and, e_or, and_one, and_more, or_one, or_more, e_not, e_ite, e_call, mkI_some, e_mk, e_mth, e_blt, e_isi, e_bm, e_repl, e_fld, e_ix, e_sl, e_tup, e_lst, a_nil, a_cons, o_none, o_some, t_val, t_cmp, t_chn, t_and, t_or, t_not, tand_nil, tand_cons, tor_nil, tor_cons, g_nam, g_tup, gs_nil, gs_cons, s_expr, s_asg, s_setf, s_aug, augL_ok, s_ret, s_retN, s_ite, s_raise, b_nil, b_cons, fin_nx, fin_ret, fin_ex, o2, lk, looks, leave_d, leave_ex, dats_nil, dats_cons, fld_d, ix_d, call1, call2, call3, call4, call5, setL, List.getElem?_cons_zero, List.getElem?_cons_succ, Option.map_some, Option.bind_some, List.length_cons, List.length_nil, List.set_cons_zero, List.set_cons_succ, Nat.reduceAdd, Nat.reduceLT, Nat.reduceSub, reduceIte, decide_true, decide_false, List.map_cons, List.map_nil, List.cons_append, List.nil_append, List.replicate_succ, List.replicate_zero, Nat.lt_add_one, Nat.zero_lt_succ, Nat.zero_lt_one, cl0, pE2])]
  -- the figure again
  have oV : (PN ⟨(v : Int), 0⟩ false ⟨(v : Int), 0⟩ A A la kp).ok m 200 := okN hV hV hA hA
  have p2 := rks.press hm oV (by omega) hky
  rw [b_dig hdp hne] at p2
  have p2 : callW (run Tb.G 20) false 41 [.r 0, .d (.str [48 + v])] [rk m (PN ⟨(v : Int), 0⟩ false ⟨(v : Int), 0⟩ A A la kp)] = .ok (.d (.str (begT (48 + v)).tx)) [rk m (PT (48 + v) ⟨(v : Int), 0⟩ A A la kp)] := p2
  rw [tx_dig hv] at p2
  have oT2 : (PT (48 + v) ⟨(v : Int), 0⟩ A A la kp).ok m 200 := okT hdp hV hA hA
  have w2 : callW (run Tb.G 20) false 44 [.r 0] [rk m (PT (48 + v) ⟨(v : Int), 0⟩ A A la kp)] = .ok (.d (.lst ([textN ⟨(v : Int), 0⟩, textN A, textN A].map .str))) [rk m (PT (48 + v) ⟨(v : Int), 0⟩ A A la kp)] := rks.wait oT2 (by omega)
  rw [text_nat, natT_small hv] at w2
  have px0 : ixD (.lst PL) (.int 0) = some (.str (textN A)) := by rw [← hPL]; rfl
  have lk5 : ∀ S, lstK false [.d (.str [48 + v]), .d (.str (textN A)), .d (.str (textN A))] S = .ok (.d (.lst ([[48 + v], textN A, textN A].map .str))) S := fun _ => rfl
  have ne5 := cmp_nel [[48 + v], textN A, textN A] [[48 + v], textN A, textN A]
  rw [beq_self_eq_true] at ne5
  generalize ([[48 + v], textN A, textN A].map D.str) = RL at w2 lk5 ne5
  rw [evB_nx (l1 := [some (.d (.scr ns)), some (.d m.D), some (.d (.str row)), some (.r 0), wb4, w5, some (.d (.str (textN A))), some (.d (.lst PL)), some (.d (.str [88, 88])), some (.d (.lst OL)), some (.d (.lst FL)), some (.d (.str [48 + v])), none]) (S1 := [rk m (PT (48 + v) ⟨(v : Int), 0⟩ A A la kp)]) (by
    simp -implicitDefEqProofs only [bnd_ok, bnd_ex, sts_ok, sts_ex, sqs_nx, sqs_ret, sqs_ex, cnd_t, cnd_f, of_some, asd_ok, asd_ex, e_cst, e_var, rd_eq, rdO_ok, e_glb, glO_ok, e_bin, e_neg, e_cmp, chK_t, chK_f, e_chn, e_and, e_or, and_one, and_more, or_one, or_more, e_not, e_ite, e_call, mkI_some, e_mk, e_mth, e_blt, e_isi, e_bm, e_repl, e_fld, e_ix, e_sl, e_tup, e_lst, a_nil, a_cons, o_none, o_some, t_val, t_cmp, t_chn, t_and, t_or, t_not, tand_nil, tand_cons, tor_nil, tor_cons, g_nam, g_tup, gs_nil, gs_cons, s_expr, s_asg, s_setf, s_aug, augL_ok, s_ret, s_retN, s_ite, s_raise, b_nil, b_cons, fin_nx, fin_ret, fin_ex, o2, lk, looks, leave_d, leave_ex, dats_nil, dats_cons, fld_d, ix_d, call1, call2, call3, call4, call5, setL, List.getElem?_cons_zero, List.getElem?_cons_succ, Option.map_some, Option.bind_some, List.length_cons, List.length_nil, List.set_cons_zero, List.set_cons_succ, Nat.reduceAdd, Nat.reduceLT, Nat.reduceSub, reduceIte, decide_true, decide_false, List.map_cons, List.map_nil, List.cons_append, List.nil_append, List.replicate_succ, List.replicate_zero, Nat.lt_add_one, Nat.zero_lt_succ, Nat.zero_lt_one, cl0, p2, w2, cmp_nes, beq_self_eq_true, Bool.not_true, px0, lk5, ne5])]
  -- +
  have p3 := rks.press hm oT2 (by omega) (c := 43) (by decide)
  have b3 : behind m (PT (48 + v) ⟨(v : Int), 0⟩ A A la kp) 43 = PN ⟨((2 * v : Nat) : Int), 0⟩ true A A A la kp := by
    show wN (PT (48 + v) ⟨(v : Int), 0⟩ A A la kp) (opN 43 ⟨(v : Int), 0⟩ (numT (begT (48 + v))) m.pl) true (.pil A A A) = _
    rw [num_dig hv, op_dig hv hm]; rfl
  rw [b3] at p3
  have p3 : callW (run Tb.G 20) false 41 [.r 0, .d (.str [43])] [rk m (PT (48 + v) ⟨(v : Int), 0⟩ A A la kp)] = .ok (.d (.str (textN ⟨((2 * v : Nat) : Int), 0⟩))) [rk m (PN ⟨((2 * v : Nat) : Int), 0⟩ true A A A la kp)] := p3
  rw [text_nat] at p3
  have hT : (Nm.mk ((2 * v : Nat) : Int) 0).ok := by
    refine ⟨?_, by show 0 ≤ 7; omega⟩
    show (((2 * v : Nat) : Int)).natAbs < 10 ^ 8
    rw [Int.natAbs_natCast]
    exact Nat.lt_trans (by omega : 2 * v < 20) (by decide)
  have oS : (PN ⟨((2 * v : Nat) : Int), 0⟩ true A A A la kp).ok m 200 := okN hT hA hA hA
  have nE : (natT (2 * v) == ([69] : Tx)) = false := by
    rw [beq_eq_false_iff_ne]
    intro e
    have : (69 : Nat) ∈ natT (2 * v) := by rw [e]; exact List.mem_cons_self ..
    have := natT_digs _ 69 this
    omega
  rw [evB_nx (l1 := [some (.d (.scr ns)), some (.d m.D), some (.d (.str row)), some (.r 0), wb4, w5, some (.d (.str (textN A))), some (.d (.lst PL)), some (.d (.str [88, 88])), some (.d (.lst OL)), some (.d (.lst FL)), some (.d (.str [48 + v])), none]) (S1 := [rk m (PN ⟨((2 * v : Nat) : Int), 0⟩ true A A A la kp)]) (by
    simp -implicitDefEqProofs only [bnd_ok, bnd_ex, sts_ok, sts_ex, sqs_nx, sqs_ret, sqs_ex, cnd_t, cnd_f, of_some, asd_ok, asd_ex, e_cst, e_var, rd_eq, rdO_ok, e_glb, glO_ok, e_bin, e_neg, e_cmp, chK_t, chK_f, e_chn, e_and, e_or, and_one, and_more, or_one, or_more, e_not, e_ite, e_call, mkI_some, e_mk, e_mth, e_blt, e_isi, e_bm, e_repl, e_fld, e_ix, e_sl, e_tup, e_lst, a_nil, a_cons, o_none, o_some, t_val, t_cmp, t_chn, t_and, t_or, t_not, tand_nil, tand_cons, tor_nil, tor_cons, g_nam, g_tup, gs_nil, gs_cons, s_expr, s_asg, s_setf, s_aug, augL_ok, s_ret, s_retN, s_ite, s_raise, b_nil, b_cons, fin_nx, fin_ret, fin_ex, o2, lk, looks, leave_d, leave_ex, dats_nil, dats_cons, fld_d, ix_d, call1, call2, call3, call4, call5, setL, List.getElem?_cons_zero, List.getElem?_cons_succ, Option.map_some, Option.bind_some, List.length_cons, List.length_nil, List.set_cons_zero, List.set_cons_succ, Nat.reduceAdd, Nat.reduceLT, Nat.reduceSub, reduceIte, decide_true, decide_false, List.map_cons, List.map_nil, List.cons_append, List.nil_append, List.replicate_succ, List.replicate_zero, Nat.lt_add_one, Nat.zero_lt_succ, Nat.zero_lt_one, cl0, p3, cmp_eqs, nE])]
  have w3 : callW (run Tb.G 20) false 44 [.r 0] [rk m (PN ⟨((2 * v : Nat) : Int), 0⟩ true A A A la kp)] = .ok (.d (.lst ([textN A, textN A, textN A].map .str))) [rk m (PN ⟨((2 * v : Nat) : Int), 0⟩ true A A A la kp)] := rks.wait oS (by omega)
  have s3 : callW (run Tb.G 20) false 42 [.r 0] [rk m (PN ⟨((2 * v : Nat) : Int), 0⟩ true A A A la kp)] = .ok (.d (.str (textN ⟨((2 * v : Nat) : Int), 0⟩))) [rk m (PN ⟨((2 * v : Nat) : Int), 0⟩ true A A A la kp)] := rks.shown oS
  rw [text_nat] at s3
  have lk6 : ∀ S, lstK false [.d (.str (textN A)), .d (.str (textN A)), .d (.str (textN A))] S = .ok (.d (.lst ([textN A, textN A, textN A].map .str))) S := fun _ => rfl
  have ne6 := cmp_nel [textN A, textN A, textN A] [textN A, textN A, textN A]
  rw [beq_self_eq_true] at ne6
  generalize ([textN A, textN A, textN A].map D.str) = UL at w3 lk6 ne6
  have di : evBi .int [.str [48 + v]] = some (.int (v : Int)) := by
    have := bi_int (x := [48 + v]) (fun c hc => by rw [List.mem_singleton.mp hc]; omega) (by intro q; cases q) (by show 1 ≤ 100; omega)
    rw [this]
    show some (D.int ((10 * 0 + (48 + v - 48) : Nat) : Int)) = _
    congr 2
    omega
  have mu2 : evBin .mul (.int 2) (.int (v : Int)) = some (.int ((2 * v : Nat) : Int)) := by
    rw [bin_mull (by omega)]; rfl
  have bs2 := bi_str (2 * v) (by omega)
  rw [evB_nx (l1 := [some (.d (.scr ns)), some (.d m.D), some (.d (.str row)), some (.r 0), wb4, w5, some (.d (.str (textN A))), some (.d (.lst PL)), some (.d (.str [88, 88])), some (.d (.lst OL)), some (.d (.lst FL)), some (.d (.str [48 + v])), none]) (S1 := [rk m (PN ⟨((2 * v : Nat) : Int), 0⟩ true A A A la kp)]) (by
    simp -implicitDefEqProofs only [bnd_ok, bnd_ex, sts_ok, sts_ex, sqs_nx, sqs_ret, sqs_ex, cnd_t, cnd_f, of_some, asd_ok, asd_ex, e_cst, e_var, rd_eq, rdO_ok, e_glb, glO_ok, e_bin, e_neg, e_cmp, chK_t, chK_f, e_chn, e_and, e_or, and_one, and_more, or_one, or_more, e_not, e_ite, e_call, mkI_some, e_mk, e_mth, e_blt, e_isi, e_bm, e_repl, e_fld, e_ix, e_sl, e_tup, e_lst, a_nil, a_cons, o_none, o_some, t_val, t_cmp, t_chn, t_and, t_or, t_not, tand_nil, tand_cons, tor_nil, tor_cons, g_nam, g_tup, gs_nil, gs_cons, s_expr, s_asg, s_setf, s_aug, augL_ok, s_ret, s_retN, s_ite, s_raise, b_nil, b_cons, fin_nx, fin_ret, fin_ex, o2, lk, looks, leave_d, leave_ex, dats_nil, dats_cons, fld_d, ix_d, call1, call2, call3, call4, call5, setL, List.getElem?_cons_zero, List.getElem?_cons_succ, Option.map_some, Option.bind_some, List.length_cons, List.length_nil, List.set_cons_zero, List.set_cons_succ, Nat.reduceAdd, Nat.reduceLT, Nat.reduceSub, reduceIte, decide_true, decide_false, List.map_cons, List.map_nil, List.cons_append, List.nil_append, List.replicate_succ, List.replicate_zero, Nat.lt_add_one, Nat.zero_lt_succ, Nat.zero_lt_one, cl0, w3, px0, lk6, ne6, Bool.not_true, s3, di, mu2, bs2, cmp_nes, beq_self_eq_true])]
  -- 5 E 6 P
  have shw : ∃ x0 x1 x2, showns m (PN ⟨((2 * v : Nat) : Int), 0⟩ true A A A la kp) [53, 69, 54, 80] = [x0, x1, x2, [48, 46, 51]] ∧ afterR m (PN ⟨((2 * v : Nat) : Int), 0⟩ true A A A la kp) [53, 69, 54, 80] = PN ⟨3, 1⟩ true ⟨5, 0⟩ ⟨((2 * v : Nat) : Int), 0⟩ A la kp := by
    have b5 : behind m (PN ⟨((2 * v : Nat) : Int), 0⟩ true A A A la kp) 53 = PT 53 ⟨((2 * v : Nat) : Int), 0⟩ A A la kp := rfl
    have bE5 : behind m (PT 53 ⟨((2 * v : Nat) : Int), 0⟩ A A la kp) 69 = PN ⟨5, 0⟩ false ⟨5, 0⟩ ⟨((2 * v : Nat) : Int), 0⟩ A la kp := rfl
    have b6 : behind m (PN ⟨5, 0⟩ false ⟨5, 0⟩ ⟨((2 * v : Nat) : Int), 0⟩ A la kp) 54 = PT 54 ⟨5, 0⟩ ⟨((2 * v : Nat) : Int), 0⟩ A la kp := rfl
    have bP : behind m (PT 54 ⟨5, 0⟩ ⟨((2 * v : Nat) : Int), 0⟩ A la kp) 80 = PN ⟨3, 1⟩ true ⟨5, 0⟩ ⟨((2 * v : Nat) : Int), 0⟩ A la kp := by
      show wN (PT 54 ⟨5, 0⟩ ⟨((2 * v : Nat) : Int), 0⟩ A la kp) (hunN ⟨5, 0⟩ ⟨6, 0⟩ m.pl) true _ = _
      rw [hun_56 hm]; rfl
    refine ⟨(PT 53 ⟨((2 * v : Nat) : Int), 0⟩ A A la kp).shown, (PN ⟨5, 0⟩ false ⟨5, 0⟩ ⟨((2 * v : Nat) : Int), 0⟩ A la kp).shown, (PT 54 ⟨5, 0⟩ ⟨((2 * v : Nat) : Int), 0⟩ A la kp).shown, ?_, ?_⟩
    · show [(behind m (PN ⟨((2 * v : Nat) : Int), 0⟩ true A A A la kp) 53).shown, (behind m (behind m (PN ⟨((2 * v : Nat) : Int), 0⟩ true A A A la kp) 53) 69).shown, (behind m (behind m (behind m (PN ⟨((2 * v : Nat) : Int), 0⟩ true A A A la kp) 53) 69) 54).shown, (behind m (behind m (behind m (behind m (PN ⟨((2 * v : Nat) : Int), 0⟩ true A A A la kp) 53) 69) 54) 80).shown] = _
      rw [b5, bE5, b6, bP]
      rfl
    · show behind m (behind m (behind m (behind m (PN ⟨((2 * v : Nat) : Int), 0⟩ true A A A la kp) 53) 69) 54) 80 = _
      rw [b5, bE5, b6, bP]
  obtain ⟨x0, x1, x2, sw, af⟩ := shw
  have lcF : ∀ w : Option W, evLcI (lcTurn (fun y => evG Tb.G (run Tb.G 20) (.nam 4) y) (evOt Tb.G (run Tb.G 20) .none) (evE Tb.G (run Tb.G 20) (.mth false 1 41 (.var 3) (.cons (.var 4) .nil))) (wipeS [some (.d (.scr ns)), some (.d m.D), some (.d (.str row)), some (.r 0), wb4, w5, some (.d (.str (textN A))), some (.d (.lst PL)), some (.d (.str [88, 88])), some (.d (.lst OL)), some (.d (.lst FL)), some (.d (.str [48 + v])), none] [4])) (.vs (([53, 69, 54, 80] : Tx).map fun c => W.d (.str [c]))) [rk m (PN ⟨((2 * v : Nat) : Int), 0⟩ true A A A la kp)] = .ok ([x0, x1, x2, [48, 46, 51]].map .str) [rk m (PN ⟨3, 1⟩ true ⟨5, 0⟩ ⟨((2 * v : Nat) : Int), 0⟩ A la kp)] := by
    intro _
    have := rks.rowsLc hm (i := 4) (r := 3) (l := wipeS [some (.d (.scr ns)), some (.d m.D), some (.d (.str row)), some (.r 0), wb4, w5, some (.d (.str (textN A))), some (.d (.lst PL)), some (.d (.str [88, 88])), some (.d (.lst OL)), some (.d (.lst FL)), some (.d (.str [48 + v])), none] [4]) rfl (by show 4 < 13; omega) (by decide) [53, 69, 54, 80] _ 200 [] oS (by show 200 + 4 ≤ _; omega) (by decide) (by show 0 + 4 ≤ _; omega)
    rw [sw, af, List.nil_append] at this
    exact this
  have sqF : ∀ S, seqIv S (.d (.str [53, 69, 54, 80])) = .ok (.vs (([53, 69, 54, 80] : Tx).map fun c => W.d (.str [c]))) S := fun _ => rfl
  generalize (([53, 69, 54, 80] : Tx).map fun c => W.d (.str [c])) = LF at lcF sqF
  have ix3 : ixD (.lst ([x0, x1, x2, [48, 46, 51]].map .str)) (.int 3) = some (.str [48, 46, 51]) := rfl
  generalize ([x0, x1, x2, [48, 46, 51]].map D.str) = GL at lcF ix3
  rw [evB_nx (l1 := [some (.d (.scr ns)), some (.d m.D), some (.d (.str row)), some (.r 0), wb4, w5, some (.d (.str (textN A))), some (.d (.lst PL)), some (.d (.str [88, 88])), some (.d (.lst OL)), some (.d (.lst GL)), some (.d (.str [48 + v])), none]) (S1 := [rk m (PN ⟨3, 1⟩ true ⟨5, 0⟩ ⟨((2 * v : Nat) : Int), 0⟩ A la kp)]) (by
    simp -implicitDefEqProofs only [bnd_ok, bnd_ex, sts_ok, sts_ex, sqs_nx, sqs_ret, sqs_ex, cnd_t, cnd_f, of_some, asd_ok, asd_ex, e_cst, e_var, rd_eq, rdO_ok, e_glb, glO_ok, e_bin, e_neg, e_cmp, chK_t, chK_f, e_chn, e_and, e_or, and_one, and_more, or_one, or_more, e_not, e_ite, e_call, mkI_some, e_mk, e_mth, e_blt, e_isi, e_bm, e_repl, e_fld, e_ix, e_sl, e_tup, e_lst, a_nil, a_cons, o_none, o_some, t_val, t_cmp, t_chn, t_and, t_or, t_not, tand_nil, tand_cons, tor_nil, tor_cons, g_nam, g_tup, gs_nil, gs_cons, s_expr, s_asg, s_setf, s_aug, augL_ok, s_ret, s_retN, s_ite, s_raise, b_nil, b_cons, fin_nx, fin_ret, fin_ex, o2, lk, looks, leave_d, leave_ex, dats_nil, dats_cons, fld_d, ix_d, call1, call2, call3, call4, call5, setL, List.getElem?_cons_zero, List.getElem?_cons_succ, Option.map_some, Option.bind_some, List.length_cons, List.length_nil, List.set_cons_zero, List.set_cons_succ, Nat.reduceAdd, Nat.reduceLT, Nat.reduceSub, reduceIte, decide_true, decide_false, List.map_cons, List.map_nil, List.cons_append, List.nil_append, List.replicate_succ, List.replicate_zero, Nat.lt_add_one, Nat.zero_lt_succ, Nat.zero_lt_one, e_lc, i_seq, sqF, lcF none, lcEnd])]
  have h5 : (Nm.mk 5 0).ok := by unfold Nm.ok; decide
  have h31 : (Nm.mk 3 1).ok := by unfold Nm.ok; decide
  have oF : (PN ⟨3, 1⟩ true ⟨5, 0⟩ ⟨((2 * v : Nat) : Int), 0⟩ A la kp).ok m 200 := okN h31 h5 hT hA
  have wF : callW (run Tb.G 20) false 44 [.r 0] [rk m (PN ⟨3, 1⟩ true ⟨5, 0⟩ ⟨((2 * v : Nat) : Int), 0⟩ A la kp)] = .ok (.d (.lst ([textN ⟨5, 0⟩, textN ⟨((2 * v : Nat) : Int), 0⟩, textN A].map .str))) [rk m (PN ⟨3, 1⟩ true ⟨5, 0⟩ ⟨((2 * v : Nat) : Int), 0⟩ A la kp)] := rks.wait oF (by omega)
  rw [text_nat, show textN ⟨5, 0⟩ = [53] by decide] at wF
  have lkF : ∀ S, lstK false [.d (.str [53]), .d (.str (natT (2 * v))), .d (.str (textN A))] S = .ok (.d (.lst ([[53], natT (2 * v), textN A].map .str))) S := fun _ => rfl
  have eqF := cmp_eql [[53], natT (2 * v), textN A] [[53], natT (2 * v), textN A]
  rw [beq_self_eq_true] at eqF
  generalize ([[53], natT (2 * v), textN A].map D.str) = HL at wF lkF eqF
  refine ⟨[rk m (PN ⟨3, 1⟩ true ⟨5, 0⟩ ⟨((2 * v : Nat) : Int), 0⟩ A la kp)], ?_⟩
  rw [evB_ret (w := .d (.bl true)) (S1 := [rk m (PN ⟨3, 1⟩ true ⟨5, 0⟩ ⟨((2 * v : Nat) : Int), 0⟩ A la kp)]) (by
    simp -implicitDefEqProofs only [bnd_ok, bnd_ex, sts_ok, sts_ex, sqs_nx, sqs_ret, sqs_ex, cnd_t, cnd_f, of_some, asd_ok, asd_ex, e_cst, e_var, rd_eq, rdO_ok, e_glb, glO_ok, e_bin, e_neg, e_cmp, chK_t, chK_f, e_chn, e_and, e_or, and_one, and_more, or_one, or_more, e_not, e_ite, e_call, mkI_some, e_mk, e_mth, e_blt, e_isi, e_bm, e_repl, e_fld, e_ix, e_sl, e_tup, e_lst, a_nil, a_cons, o_none, o_some, t_val, t_cmp, t_chn, t_and, t_or, t_not, tand_nil, tand_cons, tor_nil, tor_cons, g_nam, g_tup, gs_nil, gs_cons, s_expr, s_asg, s_setf, s_aug, augL_ok, s_ret, s_retN, s_ite, s_raise, b_nil, b_cons, fin_nx, fin_ret, fin_ex, o2, lk, looks, leave_d, leave_ex, dats_nil, dats_cons, fld_d, ix_d, call1, call2, call3, call4, call5, setL, List.getElem?_cons_zero, List.getElem?_cons_succ, Option.map_some, Option.bind_some, List.length_cons, List.length_nil, List.set_cons_zero, List.set_cons_succ, Nat.reduceAdd, Nat.reduceLT, Nat.reduceSub, reduceIte, decide_true, decide_false, List.map_cons, List.map_nil, List.cons_append, List.nil_append, List.replicate_succ, List.replicate_zero, Nat.lt_add_one, Nat.zero_lt_succ, Nat.zero_lt_one, ix3, cmp_eqs, beq_self_eq_true, cl0, wF, di, mu2, bs2, lkF, eqF])]
  rfl
theorem law_run (ns : List Int) (hl : ns.length ≤ 63) : ∃ S, run Tb.G (20 + 1) 999 [.d (.scr ns)] [] = .ok (.d (.bl true)) S := by
  obtain ⟨S, e⟩ := law_body ns
  refine ⟨S, ?_⟩
  rw [run_fn h999 rfl (by decide)]
  exact e
end Kr
open PySem PySem.W PySem.Calls PyProof.Rows
theorem PySem.Challenge.cw_keyreckon_k05_whole_pile_holds : PySem.Challenge.rw_keyreckon_k05_whole_pile.Holds := by
  w_on; o_law
  refine HandSHeadRun.head_any (r := OpenLaw.row PySem.Challenge.rw_keyreckon_k05_whole_pile) (q := view (OpenLaw.row PySem.Challenge.rw_keyreckon_k05_whole_pile).prog [57]) (H := Kr.hk) (ob := Kr.ob) (M := 6000) (loose := Kr.nmL) (d := HandSHeadRun.topDef (OpenLaw.row PySem.Challenge.rw_keyreckon_k05_whole_pile).prog 57) (kwd := []) Kr.ob_eq
    (by kernel_rfl) (fun s => by kernel_rfl) Kr.hrun (by kernel_rfl) (by kernel_rfl) (by kernel_rfl) (by rfl) (by first | assumption | decide +kernel) (by decide +kernel) ⟨rfl, rfl, rfl, rfl, rfl, by decide +kernel⟩ ?hw ?hc
  case hw => w_witness2
  case hc =>
    refine L2.walk_ofE (l := PySem.Challenge.rw_keyreckon_k05_whole_pile) (n := 63) (k := 2 * (20 + 1)) (x := "script") (CX := Kr.CXw (PySem.Challenge.rw_keyreckon_k05_whole_pile).prog) rfl (by decide) (by kernel_rfl) ⟨rfl, by decide, by decide⟩ ?F (fun _ _ _ _ z => z.no)
    intro w mg fa h Y G hmg0
    obtain ⟨K, KX, c⟩ := Y
    have hmg : mg ("law" : PySem.Str) = some (.ref fa) := by
      have e : (HandSHeadRun.topDef (OpenLaw.row PySem.Challenge.rw_keyreckon_k05_whole_pile).prog 57).name = ("law" : PySem.Str) := by kernel_rfl
      rw [← e]
      exact hmg0
    obtain ⟨fd, sp, h1, h2, h3⟩ := Kr.Tbl.law (P := (PySem.Challenge.rw_keyreckon_k05_whole_pile).prog) Kr.tok Kr.binds KX G c (e := Kr.lawE) Kr.lawE_in rfl rfl (by kernel_rfl) hmg Kr.law_run
    exact ⟨K, fd, sp, KX, h1, fun H a ns hl hO hS => h2 H a ns hl hO hS, fun base a b => Kr.FnOk.cxw (h3 base a b)⟩
