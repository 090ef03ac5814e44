import PyProof.Rows.All
import PySem.Syntax
import Wide.All
import OpenK.AllK
import Wide.FinOn
import KE.KStateDown
import Lean
import HandS.ForMost
import HandS.Exc
import HandS.ExcOwn
import HandS.WordsExc
import HandS.Defaults
import HandS.Flow
import HandS.CallSlots
import HandS.TryMany
import HandS.IsInst
import HandS.StrMore
import HandS.TupAny
import HandS.TupMul
import HandS.Wide
import HandS.Deep
import HandS.Replace
import HandS.ReplaceList
import HandS.Style
import HandS.Small
import HandS.Walk
import HandS.Text
import KE.DataFind
import PyProof.Rows.StrPadFill
import HandS.Iter
import HandS.Comp
import HandS.Head0
import HandS.Head1
import HandS.Head2
import HandS.HeadEnd
import HandS.HeadHook1
import HandS.HeadHook2
import HandS.HeadHook3
import HandS.HeadHook4
import PyProof.ExcBaseAll.ValueError
import HandS.Words
import HandS.Ends
import HandS.More
import PySem.Challenge.RW_keyreckon_k11_at_the_edges
set_option Elab.async false
set_option linter.all false
set_option maxRecDepth 100000
set_option maxHeartbeats 0
/-! KrD: values, IR, evaluator. -/
namespace Kr

inductive D where
  | non | bl (b : Bool) | int (i : Int) | str (x : List Nat) | tup (xs : List D) | lst (xs : List D) | ins (c : Nat) (xs : List D) | scr (ns : List Int)
  deriving Inhabited

inductive W where
  | d (x : D) | r (n : Nat) | f (g : Nat) (cs : List D)
  deriving Inhabited

/-- what stands in the store -/
inductive O where
  | lst (xs : List W) | dct (kvs : List (List Nat × W)) | dtp (kvs : List (D × W)) | ins (c : Nat) (xs : List W)
  deriving Inhabited

abbrev Sl := List (Option W)
abbrev Sto := List O

/-- the end of an expression: a value, an exception's class, or no word -/
inductive RE (α : Type) where
  | ok (a : α) (S : Sto) | ex (c : Nat) (S : Sto) | bad
  deriving Inhabited
/-- the end of a statement -/
inductive RS where
  | nx (l : Sl) (S : Sto) | ret (w : W) (S : Sto) | brk (l : Sl) (S : Sto) | cnt (l : Sl) (S : Sto) | ex (c : Nat) (l : Sl) (S : Sto) | bad
  deriving Inhabited

@[reducible] def RE.bind {α β : Type} (x : RE α) (f : α → Sto → RE β) : RE β := match x with
  | .ok a S => f a S
  | .ex c S => .ex c S
  | .bad => .bad
@[reducible] def RE.st {α : Type} (x : RE α) (l : Sl) (f : α → Sto → RS) : RS := match x with
  | .ok a S => f a S
  | .ex c S => .ex c l S
  | .bad => .bad
@[reducible] def RS.sq (x : RS) (f : Sl → Sto → RS) : RS := match x with
  | .nx l S => f l S
  | r => r
def RE.of {α : Type} (S : Sto) : Option α → RE α
  | some a => .ok a S
  | none => .bad

/-! ### plain functions on texts -/
abbrev Tx := List Nat
def sz : Nat := 16777216
def cutAt (n d : Nat) : Option Int → Nat
  | none => d
  | some v => if v < 0 then (v + (n : Int)).toNat else min v.toNat n
def cut {α : Type} (xs : List α) (lo hi : Option Int) : List α := (xs.drop (cutAt xs.length 0 lo)).take (cutAt xs.length xs.length hi - cutAt xs.length 0 lo)
def ixAt {α : Type} (xs : List α) (i : Int) : Option α :=
  if 0 ≤ i then (if i < xs.length then xs[i.toNat]? else none) else if -(xs.length : Int) ≤ i then xs[(i + xs.length).toNat]? else none
def ixN (n : Nat) (i : Int) : Option Nat :=
  if 0 ≤ i then (if i < n then some i.toNat else none) else if -(n : Int) ≤ i then some (i + n).toNat else none
def rstripT (cs x : Tx) : Tx := (x.reverse.dropWhile cs.contains).reverse
def lstripT (cs x : Tx) : Tx := x.dropWhile cs.contains
def stripT (cs x : Tx) : Tx := rstripT cs (lstripT cs x)
/-- the parts between signs c -/
def splitT (c : Nat) : Tx → List Tx
  | [] => [[]]
  | a :: r => if a = c then [] :: splitT c r else match splitT c r with
    | p :: ps => (a :: p) :: ps
    | [] => [[a]]
def replT (c : Nat) (z x : Tx) : Tx := x.flatMap fun a => if a = c then z else [a]
def repT (n : Int) (x : Tx) : Tx := (List.replicate n.toNat x).flatten
def rjustT (n : Int) (c : Nat) (x : Tx) : Tx := List.replicate (n.toNat - x.length) c ++ x
def joinT (s : Tx) : List Tx → Tx
  | [] => []
  | [x] => x
  | x :: y :: r => x ++ s ++ joinT s (y :: r)
def indexT (c : Nat) : Tx → Nat → Option Nat
  | [], _ => none
  | a :: r, k => if a = c then some k else indexT c r (k + 1)
def infixT (y : Tx) : Tx → Bool
  | [] => y.isEmpty
  | a :: r => y.isPrefixOf (a :: r) || infixT y r
/-- the figures of a number -/
def natF : Nat → Nat → Tx
  | 0, n => [48 + n % 10]
  | k + 1, n => if n < 10 then [48 + n] else natF k (n / 10) ++ [48 + n % 10]
def natT (n : Nat) : Tx := natF n n
def intT : Int → Tx
  | .ofNat n => natT n
  | .negSucc n => 45 :: natT (n + 1)
/-- a number read: figures alone -/
def readN : Tx → Nat → Option Nat
  | [], a => some a
  | c :: r, a => if 48 ≤ c ∧ c ≤ 57 then readN r (10 * a + (c - 48)) else none
def readI : Tx → Option Int
  | [] => none
  | c :: r => if c = 45 then (match r with
      | [] => none
      | _ :: _ => (readN r 0).map fun (n : Nat) => -(n : Int))
    else (readN (c :: r) 0).map fun (n : Nat) => (n : Int)

/-! ### == -/
mutual
def D.eq : D → D → Bool
  | .non, .non => true
  | .bl a, .bl b => a == b
  | .bl a, .int j => (if a then 1 else 0) == j
  | .int i, .bl b => i == (if b then 1 else 0)
  | .int i, .int j => i == j
  | .str x, .str y => x == y
  | .lst xs, .lst ys => D.eqs xs ys
  | .tup xs, .tup ys => D.eqs xs ys
  | _, _ => false
def D.eqs : List D → List D → Bool
  | [], [] => true
  | x :: xs, y :: ys => D.eq x y && D.eqs xs ys
  | _, _ => false
end
mutual
/-- data without instances, so deep at most -/
def D.flat : Nat → D → Bool
  | _, .non => true
  | _, .bl _ => true
  | _, .int _ => true
  | _, .str _ => true
  | n, .tup xs => (match n with
    | 0 => false
    | n + 1 => D.flats n xs)
  | n, .lst xs => (match n with
    | 0 => false
    | n + 1 => D.flats n xs)
  | _, .ins _ _ => false
  | _, .scr _ => false
def D.flats : Nat → List D → Bool
  | _, [] => true
  | n, x :: xs => D.flat n x && D.flats n xs
end

/-! ### the IR -/
inductive Bop where | add | sub | mul | fdiv | mod | pow
  deriving DecidableEq
inductive Cop where | eq | ne | lt | le | gt | ge | is | isn | isin | nin
  deriving DecidableEq
inductive Bi where | len | abs | int | str | bool | list | tuple | max | min | sorted | sum | dict | srtset | lenset | srtvals | minD
  deriving DecidableEq
inductive Me where | strip | rstrip | split | replace | rjust | join | count | index | append | pop | extend | get | update
  deriving DecidableEq
inductive Ty where | int | str | bool | tuple | list
  deriving DecidableEq

mutual
inductive E where
  | cst (d : D) | var (i : Nat) | glb (g : Nat)
  | bin (o : Bop) (a b : E) | neg (a : E)
  | cmp (o : Cop) (a b : E) | chn (o p : Cop) (a b c : E)
  | and (es : Es) | or (es : Es) | not (a : E)
  | ite (t : T) (a b : E)
  | call (keep : Bool) (f : Nat) (as : Es) | lcall (i : Nat) (as : Es)
  | mk (keep : Bool) (c : Nat) (as : Es) | mth (keep : Bool) (c f : Nat) (o : E) (as : Es)
  | blt (b : Bi) (as : Es) | isi (a : E) (t : Ty) | ise (a : E) (c : Nat)
  | bm (m : Me) (o : E) (as : Es) | repl (o : E) (c : Nat) (z : Tx)
  | fld (c k : Nat) (o : E)
  | ix (a b : E) | sl (a : E) (lo hi : Oe) | rev (a : E)
  | tup (as : Es) | lst (keep : Bool) (as : Es) | dct (ks : List Tx) (as : Es)
  | lc (keep : Bool) (own : List Nat) (g : Tg) (i : It) (t : Ot) (e : E)
inductive Es where | nil | cons (e : E) (es : Es)
inductive Oe where | none | some (e : E)
inductive Ot where | none | some (t : T)
inductive T where
  | val (e : E) | cmp (o : Cop) (a b : E) | chn (o p : Cop) (a b c : E) | and (ts : Ts) | or (ts : Ts) | not (a : T)
inductive Ts where | nil | cons (t : T) (ts : Ts)
inductive It where | seq (e : E) | rng1 (a : E) | rng2 (a b : E) | rng3 (a b c : E) | enum (e : E) | zip (a b : E) | enzip (a b : E)
inductive Tg where | nam (i : Nat) | tup (gs : Tgs) | sub (o i : E)
inductive Tgs where | nil | cons (g : Tg) (gs : Tgs)
end
mutual
inductive St where
  | doc | expr (e : E) | asg (g : Tg) (e : E) | setf (c k : Nat) (o e : E) | aug (i : Nat) (o : Bop) (e : E) | augf (c k : Nat) (o : E) (b : Bop) (e : E)
  | ret (e : E) | retN | ite (t : T) (a b : Ss) | whl (t : T) (b : Ss) | loop (g : Tg) (i : It) (b : Ss) | brk | cnt | pass
  | raise (c : Nat) | tri (b : Ss) (hs : List (Nat × Nat × D)) | triAs (b : Ss) (c i : Nat) (s : Ss) | ndef (i g : Nat) (cs : List Nat)
inductive Ss where | nil | cons (s : St) (ss : Ss)
end

/-! ### the evaluator -/
/-- a def: how many parameters, how many names, the body -/
structure Fn where
  np : Nat
  ns : Nat
  body : Ss
/-- the tables: constants of the top, classes' makers (the number of __init__) -/
structure Tab where
  glb : Nat → Option D
  fn : Nat → Option Fn
  ini : Nat → Option Nat
  /-- is the class c one of d -/
  sub : Nat → Nat → Option Bool

def W.dat : W → Option D
  | .d x => some x
  | _ => none
def W.dats : List W → Option (List D)
  | [] => some []
  | .d x :: t => (W.dats t).map (x :: ·)
  | _ :: _ => none

/-- what is walked: a list's, a tuple's, a text's items -/
def D.items : D → Option (List W)
  | .str x => some (x.map fun c => .d (.str [c]))
  | .tup xs => some (xs.map .d)
  | .lst xs => some (xs.map .d)
  | _ => none
def big (i : Int) : Bool := decide (i.natAbs.log2 < 2000)
def mulOk (i j : Int) : Bool := (decide (-(2 ^ 64) < i) && decide (i < 2 ^ 64)) || ((decide (-(2 ^ 64) < j) && decide (j < 2 ^ 64)) || (big i && big j))
def evBin (o : Bop) : D → D → Option D
  | .int i, .int j => (match o with
    | .add => some (.int (i + j))
    | .sub => some (.int (i - j))
    | .mul => if mulOk i j then some (.int (i * j)) else none
    | .fdiv => if 0 < j ∧ big j = true then some (.int (i / j)) else none
    | .mod => if 0 < j then some (.int (i % j)) else none
    | .pow => if 0 ≤ j ∧ j ≤ 1000 ∧ i.natAbs < 18446744073709551616 then some (.int (i ^ j.toNat)) else none)
  | .str x, .str y => (match o with
    | .add => if x.length + y.length ≤ sz then some (.str (x ++ y)) else none
    | _ => none)
  | .str x, .int n => (match o with
    | .mul => if -1000000 ≤ n ∧ n ≤ 1000000 ∧ x.length ≤ 10 then some (.str (repT n x)) else none
    | _ => none)
  | .tup x, .tup y => (match o with
    | .add => if x.length + y.length ≤ sz then some (.tup (x ++ y)) else none
    | _ => none)
  | .lst x, .lst y => (match o with
    | .add => if x.length + y.length ≤ sz then some (.lst (x ++ y)) else none
    | _ => none)
  | .lst x, .int n => (match o with
    | .mul => if 0 ≤ n ∧ n ≤ 1000 ∧ x.length ≤ 1000 then some (.lst (List.replicate n.toNat x).flatten) else none
    | _ => none)
  | _, _ => none
def isNon : D → Bool
  | .non => true
  | _ => false
/-- a == b, where the layer has a rule for it -/
def eqOk (x y : D) : Bool := D.flat 20 x && D.flat 20 y
def evIn (x y : D) : Option Bool := match y with
  | .str t => (match x with
    | .str s => some (infixT s t)
    | _ => none)
  | .tup ys => if D.flat 20 x && D.flats 20 ys then some (ys.any fun z => D.eq z x) else none
  | .lst ys => if D.flat 20 x && D.flats 20 ys then some (ys.any fun z => D.eq z x) else none
  | _ => none
def evCmp (o : Cop) (x y : D) : Option Bool := match o with
  | .eq => if eqOk x y then some (D.eq x y) else none
  | .ne => if eqOk x y then some (!D.eq x y) else none
  | .lt => (match x, y with
    | .int i, .int j => some (decide (i < j))
    | _, _ => none)
  | .le => (match x, y with
    | .int i, .int j => some (decide (i ≤ j))
    | _, _ => none)
  | .gt => (match x, y with
    | .int i, .int j => some (decide (j < i))
    | _, _ => none)
  | .ge => (match x, y with
    | .int i, .int j => some (decide (j ≤ i))
    | _, _ => none)
  | .is => (match y with
    | .non => some (isNon x)
    | .bl b => (match x with
      | .bl a => some (a == b)
      | _ => none)
    | _ => none)
  | .isn => (match y with
    | .non => some (!isNon x)
    | .bl b => (match x with
      | .bl a => some (a != b)
      | _ => none)
    | _ => none)
  | .isin => evIn x y
  | .nin => (evIn x y).map (!·)
def truD : D → Option Bool
  | .non => some false
  | .bl b => some b
  | .int i => some (i != 0)
  | .str x => if x.length ≤ sz then some (!x.isEmpty) else none
  | .tup xs => some (!xs.isEmpty)
  | .lst xs => some (!xs.isEmpty)
  | .ins _ _ => none
  | .scr _ => none
def isiD (t : Ty) : D → Option Bool
  | .non => some false
  | .bl _ => some (t == .int || t == .bool)
  | .int _ => some (t == .int)
  | .str _ => some (t == .str)
  | .tup _ => some (t == .tuple)
  | .lst _ => some (t == .list)
  | .ins _ _ => none
  | .scr _ => none
def ixD (x i : D) : Option D := match i with
  | .int i => (match x with
    | .tup xs => ixAt xs i
    | .lst xs => ixAt xs i
    | .scr ns => (ixAt ns i).map .int
    | .str t => if t.length ≤ sz then (ixAt t i).map fun c => .str [c] else none
    | _ => none)
  | _ => none
def slD (x : D) (lo hi : Option Int) : Option D := match x with
  | .tup xs => some (.tup (cut xs lo hi))
  | .lst xs => some (.lst (cut xs lo hi))
  | .str t => if t.length ≤ sz then some (.str (cut t lo hi)) else none
  | _ => none
def strsOf : List D → Option (List Tx)
  | [] => some []
  | .str x :: r => (strsOf r).map (x :: ·)
  | _ :: _ => none
def intsOf : List D → Option (List Int)
  | [] => some []
  | .int x :: r => (intsOf r).map (x :: ·)
  | _ :: _ => none
/-- lists of texts in order -/
def ltT : Tx → Tx → Bool
  | [], [] => false
  | [], _ :: _ => true
  | _ :: _, [] => false
  | a :: x, b :: y => if a = b then ltT x y else decide (a < b)
def insT (x : Tx) : List Tx → List Tx
  | [] => [x]
  | y :: r => if ltT y x then y :: insT x r else x :: y :: r
def sortT : List Tx → List Tx
  | [] => []
  | x :: r => insT x (sortT r)
def dedup : List Tx → List Tx
  | [] => []
  | x :: r => if r.contains x then dedup r else x :: dedup r
def evBi (b : Bi) (xs : List D) : Option D := match b, xs with
  | .len, [.str x] => if x.length ≤ sz then some (.int x.length) else none
  | .len, [.tup x] => some (.int x.length)
  | .len, [.lst x] => some (.int x.length)
  | .len, [.scr x] => some (.int x.length)
  | .abs, [.int i] => some (.int (if i < 0 then -i else i))
  | .int, [.int i] => some (.int i)
  | .int, [.bl k] => some (.int (if k then 1 else 0))
  | .int, [.str x] => if x.length ≤ 600 then (readI x).map .int else none
  | .str, [.int i] => if i.natAbs.log2 < 1900 then some (.str (intT i)) else none
  | .bool, [x] => (match x with
    | .int i => some (.bl (i != 0))
    | .bl k => some (.bl k)
    | .tup xs => some (.bl (!xs.isEmpty))
    | _ => none)
  | .tuple, [.lst x] => some (.tup x)
  | .tuple, [.tup x] => some (.tup x)
  | .max, [.int i, .int j] => some (.int (if j > i then j else i))
  | .min, [.int i, .int j] => some (.int (if j < i then j else i))
  | .list, [.lst x] => some (.lst x)
  | .list, [.tup x] => some (.lst x)
  | _, _ => none
def evMe (m : Me) (o : D) (xs : List D) : Option D := match m, o, xs with
  | .strip, .str x, [.str y] => if x.length ≤ sz then some (.str (stripT y x)) else none
  | .rstrip, .str x, [.str y] => if x.length ≤ sz then some (.str (rstripT y x)) else none
  | .split, .str x, [.str [c]] => if x.length + 2 ≤ sz then some (.lst ((splitT c x).map .str)) else none
  | .rjust, .str x, [.int n, .str [c]] => if x.length ≤ sz ∧ -1000000 ≤ n ∧ n ≤ 1000000 then some (.str (rjustT n c x)) else none
  | .join, .str x, [.lst ys] => (strsOf ys).bind fun zs => if (zs.map (·.length)).sum + zs.length * x.length ≤ sz then some (.str (joinT x zs)) else none
  | .count, .tup ys, [x] => if D.flat 20 x && D.flats 20 ys then some (.int (ys.countP fun z => D.eq z x)) else none
  | _, _, _ => none
/-- a call that was handed data alone has run over an empty store: what it hands back, over the caller's -/
def leave (keep : Bool) (S : Sto) : RE W → RE W
  | .ok (.d x) _ => .ok (.d x) S
  | .ok (.r k) S' => (match S'[k]? with
    | some (.lst ws) => (match W.dats ws with
      | some xs => if keep then .ok (.r S.length) (S ++ [.lst ws]) else .ok (.d (.lst xs)) S
      | none => .bad)
    | _ => .bad)
  | .ok (.f _ _) _ => .bad
  | .ex c _ => .ex c S
  | .bad => .bad
def callW (C : Nat → List W → Sto → RE W) (keep : Bool) (f : Nat) (ws : List W) (S : Sto) : RE W := match W.dats ws with
  | some _ => leave keep S (C f ws [])
  | none => C f ws S
def mkW (C : Nat → List W → Sto → RE W) (keep : Bool) (c : Nat) (f : Nat) (ws : List W) (S : Sto) : RE W :=
  if keep then (match C f (.r S.length :: ws) (S ++ [.ins c []]) with
    | .ok (.d .non) S' => .ok (.r S.length) S'
    | .ex c S' => .ex c S'
    | _ => .bad)
  else match W.dats ws with
    | some _ => (match C f (.r 0 :: ws) [.ins c []] with
      | .ok (.d .non) S' => (match (S'[0]? : Option O) with
        | some (.ins c' xs) => if c' = c then (match W.dats xs with
          | some ds => .ok (.d (.ins c ds)) S
          | none => .bad) else .bad
        | _ => .bad)
      | .ex c _ => .ex c S
      | _ => .bad)
    | none => .bad
/-- the class of an instance -/
def clsOf (S : Sto) : W → Option Nat
  | .d (.ins c _) => some c
  | .r n => (match S[n]? with
    | some (.ins c _) => some c
    | _ => none)
  | _ => none
def putW (k : Nat) (w : W) (xs : List W) : Option (List W) := if k < xs.length then some (xs.set k w) else if k = xs.length then some (xs ++ [w]) else none
/-- an object of the caller's: read as data where it is a list -/
def look1 (S : Sto) (w : W) : Option D := match w with
  | .d x => some x
  | .r n => (match S[n]? with
    | some (.lst ws) => (W.dats ws).map .lst
    | _ => none)
  | _ => none

def looks (S : Sto) : List W → Option (List D)
  | [] => some []
  | w :: ws => (look1 S w).bind fun x => (looks S ws).map (x :: ·)
def opt2 {α : Type} (f : D → D → Option α) (S : Sto) (v w : W) : Option α := match look1 S v, look1 S w with
  | some x, some y => f x y
  | _, _ => none

abbrev Cl := Nat → List W → Sto → RE W
def evWhile (t : Sl → Sto → RE Bool) (b : Sl → Sto → RS) : Nat → Sl → Sto → RS
  | 0, _, _ => .bad
  | k + 1, l, S => (t l S).st l fun c S => if c then (match b l S with
      | .nx l S => evWhile t b k l S
      | .cnt l S => evWhile t b k l S
      | .brk l S => .nx l S
      | r => r) else .nx l S
/-- what is walked: values, or a list of the store as it stands at each turn -/
inductive Iv where | vs (xs : List W) | ref (n : Nat)
  deriving Inhabited
def ivAt (S : Sto) (i : Nat) : Iv → Option (Option W)
  | .vs xs => some xs[i]?
  | .ref n => (match S[n]? with
    | some (.lst ws) => some ws[i]?
    | _ => none)
def evFor (g : W → Sl → Sto → RS) (b : Sl → Sto → RS) : List W → Sl → Sto → RS
  | [], l, S => .nx l S
  | x :: r, l, S => (g x l S).sq fun l S => match b l S with
      | .nx l S => evFor g b r l S
      | .cnt l S => evFor g b r l S
      | .brk l S => .nx l S
      | q => q
/-- .. by turns -/
def evForX (g : W → Sl → Sto → RS) (b : Sl → Sto → RS) (v : Iv) : Nat → Nat → Sl → Sto → RS
  | 0, _, _, _ => .bad
  | k + 1, i, l, S => match ivAt S i v with
    | none => .bad
    | some none => .nx l S
    | some (some x) => (g x l S).sq fun l S => match b l S with
      | .nx l S => evForX g b v k (i + 1) l S
      | .cnt l S => evForX g b v k (i + 1) l S
      | .brk l S => .nx l S
      | q => q
def evForI (g : W → Sl → Sto → RS) (b : Sl → Sto → RS) (v : Iv) (l : Sl) (S : Sto) : RS := match v with
  | .vs xs => evFor g b xs l S
  | .ref n => evForX g b (.ref n) 100000 0 l S
/-- one turn of a comprehension: what is gathered; nothing is raised there -/
def lcTurn (g : W → Sl → Sto → RS) (t : Sl → Sto → RE Bool) (e : Sl → Sto → RE W) (l : Sl) (x : W) (acc : List D) (S : Sto) : RE (List D) := match g x l S with
  | .nx l' S => (match t l' S with
    | .ok true S => (match e l' S with
      | .ok (.d y) S => if acc.length < sz then .ok (acc ++ [y]) S else .bad
      | _ => .bad)
    | .ok false S => .ok acc S
    | _ => .bad)
  | _ => .bad
def evLc (u : W → List D → Sto → RE (List D)) : List W → List D → Sto → RE (List D)
  | [], acc, S => .ok acc S
  | x :: r, acc, S => (u x acc S).bind fun acc S => evLc u r acc S
def evLcX (u : W → List D → Sto → RE (List D)) (v : Iv) : Nat → Nat → List D → Sto → RE (List D)
  | 0, _, _, _ => .bad
  | k + 1, i, acc, S => match ivAt S i v with
    | none => .bad
    | some none => .ok acc S
    | some (some x) => (u x acc S).bind fun acc S => evLcX u v k (i + 1) acc S
def evLcI (u : W → List D → Sto → RE (List D)) (v : Iv) (S : Sto) : RE (List D) := match v with
  | .vs xs => evLc u xs [] S
  | .ref n => evLcX u (.ref n) 100000 0 [] S
def wipeS (l : Sl) : List Nat → Sl
  | [] => l
  | v :: vs => (wipeS l vs).set v none
def range1 (n : Nat) (a : Int) : List W := (List.range n).map fun (i : Nat) => .d (.int (a + i))
def rngN (a b : Int) : Nat := (b - a).toNat
def rngOk (a : Int) : Bool := decide (-1000000000 ≤ a) && decide (a ≤ 1000000000)

/-- what a method is called of -/
def rcv (m : Me) (S : Sto) (v : W) : Bool := match m with
  | .append => (match v with
    | .r n => (match S[n]? with
      | some (.lst _) => true
      | _ => false)
    | _ => false)
  | .count => (match v with
    | .d (.tup _) => true
    | _ => false)
  | _ => (match v with
    | .d (.str _) => true
    | _ => false)
def evRepl (c : Nat) (z : Tx) : D → Option D
  | .str x => if x.length ≤ 100000 ∧ z.length ≤ 10 then some (.str (replT c z x)) else none
  | _ => none
/-- a method of a built-in type -/
def evBm (m : Me) (S : Sto) (v : W) (ws : List W) : RE W := match m with
  | .append => (match v, ws with
    | .r n, [w] => (match S[n]? with
      | some (.lst xs) => if xs.length < sz then .ok (.d .non) (S.set n (.lst (xs ++ [w]))) else .bad
      | _ => .bad)
    | _, _ => .bad)
  | m => .of S (((look1 S v).bind fun x => (looks S ws).bind fun ys => evMe m x ys).map .d)
def rdVar (i : Nat) (l : Sl) (S : Sto) : RE W := match l[i]? with
  | some (some w) => .ok w S
  | _ => .bad
def evIx (S : Sto) (v : W) (i : D) : RE W := match v with
    | .d x => .of S ((ixD x i).map .d)
    | .r n => (match S[n]?, i with
      | some (.lst xs), .int i => .of S (ixAt xs i)
      | _, _ => .bad)
    | _ => .bad
def evFld (c k : Nat) (S : Sto) (v : W) : RE W := match v with
    | .d (.ins c' xs) => if c' = c then (match xs[k]? with
      | some x => .ok (.d x) S
      | none => .bad) else .bad
    | .r n => (match S[n]? with
      | some (.ins c' xs) => if c' = c then (match xs[k]? with
        | some x => .ok x S
        | none => .bad) else .bad
      | _ => .bad)
    | _ => .bad
def seqIv (S : Sto) (w : W) : RE Iv := match w with
  | .d x => .of S (x.items.map .vs)
  | .r n => (match S[n]? with
    | some (.lst _) => .ok (.ref n) S
    | _ => .bad)
  | _ => .bad
/-- a value that is data (a list of the store is read) -/
@[reducible] def asD (r : RE W) : RE D := r.bind fun w S => .of S (look1 S w)
mutual
def evE (G : Tab) (C : Cl) : E → Sl → Sto → RE W
  | .cst d, _, S => .ok (.d d) S
  | .var i, l, S => rdVar i l S
  | .glb g, _, S => (match G.glb g with
    | some d => .ok (.d d) S
    | none => .bad)
  | .bin o a b, l, S => (evE G C a l S).bind fun v S => (evE G C b l S).bind fun w S => .of S ((opt2 (evBin o) S v w).map .d)
  | .neg a, l, S => (asD (evE G C a l S)).bind fun x S => (match x with
    | .int i => .ok (.d (.int (-i))) S
    | _ => .bad)
  | .cmp o a b, l, S => (evE G C a l S).bind fun v S => (evE G C b l S).bind fun w S => .of S ((opt2 (evCmp o) S v w).map fun k => .d (.bl k))
  | .chn o p a b c, l, S => (evE G C a l S).bind fun v S => (evE G C b l S).bind fun w S => (match opt2 (evCmp o) S v w with
    | some true => (evE G C c l S).bind fun u S => .of S ((opt2 (evCmp p) S w u).map fun k => .d (.bl k))
    | some false => .ok (.d (.bl false)) S
    | none => .bad)
  | .and es, l, S => evAnd G C es l S
  | .or es, l, S => evOr G C es l S
  | .not a, l, S => (asD (evE G C a l S)).bind fun x S => .of S ((truD x).map fun k => .d (.bl (!k)))
  | .ite t a b, l, S => (evT G C t l S).bind fun k S => if k then evE G C a l S else evE G C b l S
  | .call keep f as, l, S => (evA G C as l S).bind fun ws S => callW C keep f ws S
  | .lcall _ _, _, _ => .bad
  | .mk keep c as, l, S => (evA G C as l S).bind fun ws S => (match G.ini c with
    | some f => mkW C keep c f ws S
    | none => .bad)
  | .mth keep c f o as, l, S => (evE G C o l S).bind fun v S => if clsOf S v = some c then (evA G C as l S).bind fun ws S => callW C keep f (v :: ws) S else .bad
  | .blt b as, l, S => (evA G C as l S).bind fun ws S => .of S (((looks S ws).bind (evBi b)).map .d)
  | .isi a t, l, S => (asD (evE G C a l S)).bind fun x S => .of S ((isiD t x).map fun k => .d (.bl k))
  | .ise _ _, _, _ => .bad
  | .bm m o as, l, S => (evE G C o l S).bind fun v S => if rcv m S v then (evA G C as l S).bind fun ws S => evBm m S v ws else .bad
  | .repl o c z, l, S => (evE G C o l S).bind fun v S => .of S (((look1 S v).bind (evRepl c z)).map .d)
  | .fld c k o, l, S => (evE G C o l S).bind fun v S => evFld c k S v
  | .ix a b, l, S => (evE G C a l S).bind fun v S => (asD (evE G C b l S)).bind fun i S => evIx S v i
  | .sl a lo hi, l, S => (evE G C a l S).bind fun v S => (evO G C lo l S).bind fun i S => (evO G C hi l S).bind fun j S => .of S (((look1 S v).bind fun x => slD x i j).map .d)
  | .rev _, _, _ => .bad
  | .tup as, l, S => (evA G C as l S).bind fun ws S => (match W.dats ws with
    | some ds => if ds.length ≤ sz then .ok (.d (.tup ds)) S else .bad
    | none => .bad)
  | .lst keep as, l, S => (evA G C as l S).bind fun ws S => if ws.length ≤ sz then (if keep then .ok (.r S.length) (S ++ [.lst ws]) else match W.dats ws with
    | some ds => .ok (.d (.lst ds)) S
    | none => .bad) else .bad
  | .dct _ _, _, _ => .bad
  | .lc keep own g i t e, l, S => (evI G C i l S).bind fun v S => (evLcI (lcTurn (fun x => evG G C g x) (evOt G C t) (evE G C e) (wipeS l own)) v S).bind fun ys S =>
      if keep then .ok (.r S.length) (S ++ [.lst (ys.map .d)]) else .ok (.d (.lst ys)) S
def evAnd (G : Tab) (C : Cl) : Es → Sl → Sto → RE W
  | .nil, _, _ => .bad
  | .cons a es, l, S => (match es with
    | .nil => evE G C a l S
    | .cons _ _ => (asD (evE G C a l S)).bind fun x S => (match x with
      | .bl true => evAnd G C es l S
      | .bl false => .ok (.d (.bl false)) S
      | _ => .bad))
def evOr (G : Tab) (C : Cl) : Es → Sl → Sto → RE W
  | .nil, _, _ => .bad
  | .cons a es, l, S => (match es with
    | .nil => evE G C a l S
    | .cons _ _ => (asD (evE G C a l S)).bind fun x S => (match x with
      | .bl false => evOr G C es l S
      | .bl true => .ok (.d (.bl true)) S
      | _ => .bad))
def evA (G : Tab) (C : Cl) : Es → Sl → Sto → RE (List W)
  | .nil, _, S => .ok [] S
  | .cons e es, l, S => (evE G C e l S).bind fun w S => (evA G C es l S).bind fun ws S => .ok (w :: ws) S
def evO (G : Tab) (C : Cl) : Oe → Sl → Sto → RE (Option Int)
  | .none, _, S => .ok none S
  | .some e, l, S => (asD (evE G C e l S)).bind fun x S => (match x with
    | .int i => .ok (some i) S
    | _ => .bad)
def evOt (G : Tab) (C : Cl) : Ot → Sl → Sto → RE Bool
  | .none, _, S => .ok true S
  | .some t, l, S => evT G C t l S
def evT (G : Tab) (C : Cl) : T → Sl → Sto → RE Bool
  | .val e, l, S => (asD (evE G C e l S)).bind fun x S => .of S (truD x)
  | .cmp o a b, l, S => (evE G C a l S).bind fun v S => (evE G C b l S).bind fun w S => .of S (opt2 (evCmp o) S v w)
  | .chn o p a b c, l, S => (evE G C a l S).bind fun v S => (evE G C b l S).bind fun w S => (match opt2 (evCmp o) S v w with
    | some true => (evE G C c l S).bind fun u S => .of S (opt2 (evCmp p) S w u)
    | some false => .ok false S
    | none => .bad)
  | .and ts, l, S => evTand G C ts l S
  | .or ts, l, S => evTor G C ts l S
  | .not a, l, S => (evT G C a l S).bind fun k S => .ok (!k) S
def evTand (G : Tab) (C : Cl) : Ts → Sl → Sto → RE Bool
  | .nil, _, S => .ok true S
  | .cons a ts, l, S => (evT G C a l S).bind fun k S => if k then evTand G C ts l S else .ok false S
def evTor (G : Tab) (C : Cl) : Ts → Sl → Sto → RE Bool
  | .nil, _, S => .ok false S
  | .cons a ts, l, S => (evT G C a l S).bind fun k S => if k then .ok true S else evTor G C ts l S
def evI (G : Tab) (C : Cl) : It → Sl → Sto → RE Iv
  | .seq e, l, S => (evE G C e l S).bind fun w S => seqIv S w
  | .rng1 a, l, S => (asD (evE G C a l S)).bind fun x S => (match x with
    | .int i => if rngOk i then .ok (.vs (range1 (rngN 0 i) 0)) S else .bad
    | _ => .bad)
  | .rng2 a b, l, S => (asD (evE G C a l S)).bind fun x S => (asD (evE G C b l S)).bind fun y S => (match x, y with
    | .int i, .int j => if rngOk i && rngOk j then .ok (.vs (range1 (rngN i j) i)) S else .bad
    | _, _ => .bad)
  | .rng3 _ _ _, _, _ => .bad
  | .enum _, _, _ => .bad
  | .zip _ _, _, _ => .bad
  | .enzip _ _, _, _ => .bad
/-- a target takes a value -/
def evG (G : Tab) (C : Cl) : Tg → W → Sl → Sto → RS
  | .nam i, w, l, S => if i < l.length then .nx (l.set i (some w)) S else .bad
  | .tup gs, w, l, S => (match w with
    | .d (.tup xs) => evGs G C gs xs l S
    | _ => .bad)
  | .sub _ _, _, _, _ => .bad
def evGs (G : Tab) (C : Cl) : Tgs → List D → Sl → Sto → RS
  | .nil, xs, l, S => (match xs with
    | [] => .nx l S
    | _ :: _ => .bad)
  | .cons g gs, xs, l, S => (match xs with
    | [] => .bad
    | x :: xs => (evG G C g (.d x) l S).sq fun l S => evGs G C gs xs l S)
end
def intOp (o : Bop) (x y : D) : Option D := match x, y, o with
  | .int i, .int j, .add => some (.int (i + j))
  | .int i, .int j, .sub => some (.int (i - j))
  | _, _, _ => none
def handle (G : Tab) (hs : List (Nat × Nat × D)) (c : Nat) (l : Sl) (S : Sto) : RS := match hs with
  | [] => .ex c l S
  | (k, i, d) :: r => (match G.sub c k with
    | some true => if i < l.length then .nx (l.set i (some (.d d))) S else .bad
    | some false => handle G r c l S
    | none => .bad)
mutual
def evS (G : Tab) (C : Cl) : St → Sl → Sto → RS
  | .doc, l, S => .nx l S
  | .pass, l, S => .nx l S
  | .expr e, l, S => (evE G C e l S).st l fun _ S => .nx l S
  | .asg g e, l, S => (evE G C e l S).st l fun w S => evG G C g w l S
  | .setf c k o e, l, S => (evE G C e l S).st l fun w S => (evE G C o l S).st l fun v S => (match v with
    | .r n => (match S[n]? with
      | some (.ins c' xs) => if c' = c then (match putW k w xs with
        | some ys => .nx l (S.set n (.ins c ys))
        | none => .bad) else .bad
      | _ => .bad)
    | _ => .bad)
  | .aug i o e, l, S => (match l[i]? with
    | some (some (.d x)) => (asD (evE G C e l S)).st l fun y S => (match intOp o x y with
      | some z => .nx (l.set i (some (.d z))) S
      | none => .bad)
    | _ => .bad)
  | .augf c k o b e, l, S => (evE G C o l S).st l fun v S => (match v with
    | .r n => (match S[n]? with
      | some (.ins c' xs) => if c' = c then (match xs[k]? with
        | some (.d x) => (asD (evE G C e l S)).st l fun y S => (match intOp b x y with
          | some z => (match S[n]? with
            | some (.ins c' ys) => if c' = c then (match putW k (.d z) ys with
              | some ys => .nx l (S.set n (.ins c ys))
              | none => .bad) else .bad
            | _ => .bad)
          | none => .bad)
        | _ => .bad) else .bad
      | _ => .bad)
    | _ => .bad)
  | .ret e, l, S => (evE G C e l S).st l fun w S => .ret w S
  | .retN, _, S => .ret (.d .non) S
  | .ite t a b, l, S => (evT G C t l S).st l fun k S => if k then evB G C a l S else evB G C b l S
  | .whl t b, l, S => evWhile (evT G C t) (evB G C b) 100000 l S
  | .loop g i b, l, S => (evI G C i l S).st l fun v S => evForI (evG G C g) (evB G C b) v l S
  | .brk, l, S => .brk l S
  | .cnt, l, S => .cnt l S
  | .raise c, l, S => .ex c l S
  | .tri b hs, l, S => (match evB G C b l S with
    | .ex c l S => handle G hs c l S
    | r => r)
  | .triAs _ _ _ _, _, _ => .bad
  | .ndef _ _ _, _, _ => .bad
def evB (G : Tab) (C : Cl) : Ss → Sl → Sto → RS
  | .nil, l, S => .nx l S
  | .cons s ss, l, S => (evS G C s l S).sq fun l S => evB G C ss l S
end
/-- a def called: at most so many calls one in another -/
def run (G : Tab) : Nat → Cl
  | 0, _, _, _ => .bad
  | k + 1, f, ws, S => match G.fn f with
    | some F => if ws.length = F.np ∧ F.np ≤ F.ns then (match evB G (run G k) F.body (ws.map some ++ List.replicate (F.ns - F.np) none) S with
      | .nx _ S => .ok (.d .non) S
      | .ret w S => .ok w S
      | .ex c _ S => .ex c S
      | _ => .bad) else .bad
    | none => .bad
end Kr
/-! KrR: how the evaluator's values lie in the abstract heap. -/
namespace Kr
open PySem PySem.Spec PyProof.Rows L2

/-- what of a row the relation leans on -/
structure Cfg where
  K : PySem.W.Frag
  cA : Nat → Addr
  xA : Nat → Addr
  fs : Nat → List Str
/-- a tuple of the written part -/
def KTup (K : PySem.W.Frag) (a : Addr) (xs : List V) : Prop :=
  ∃ (o : Obj) (its : Array Value) (n : Nat), K.lookup a = some o ∧ o.cls = .type "tuple" ∧ o.dict = none ∧ o.data = .seq its n ∧ its.size ≤ sizeLine ∧ Vals xs its.toList
def KLst (K : PySem.W.Frag) (a : Addr) (xs : List V) : Prop :=
  ∃ (o : Obj) (its : Array Value) (n : Nat), K.lookup a = some o ∧ o.cls = .type "list" ∧ o.dict = none ∧ o.data = .seq its n ∧ its.size ≤ sizeLine ∧ Vals xs its.toList
theorem KTup.sq {K : PySem.W.Frag} {H : Hp} {a : Addr} {xs : List V} (h : KTup K a xs) : SqT K H a xs := by
  obtain ⟨o, its, n, h1, h2, _, h3, h4, h5⟩ := h
  exact .inr ⟨o, its, n, h1, h2, h3, h4, h5⟩
/-- a tuple whose object is known -/
def TupAt (H : Hp) (p : Addr) (vs : List V) : Prop := ∃ o, H p = some (.frz o (.tup vs)) ∧ o.dict = none
theorem TupAt.sq {K : PySem.W.Frag} {H : Hp} {a : Addr} {xs : List V} (h : TupAt H a xs) : SqT K H a xs := by
  obtain ⟨o, h, _⟩ := h
  exact .inl (.inr ⟨o, h⟩)
theorem TupAt.keep {H H' : Hp} {p : Addr} {vs : List V} {z z' : List Addr} (h : TupAt H p vs) (n : p ∉ z) (hk : ∀ p o, H p = some o → p ∉ z → H' p = some o ∧ p ∉ z') : TupAt H' p vs ∧ p ∉ z' := by
  obtain ⟨o, h, d⟩ := h
  exact ⟨⟨o, (hk _ _ h n).1, d⟩, (hk _ _ h n).2⟩

mutual
inductive RD (Y : Cfg) (z : List Addr) (H : Hp) : D → V → Prop
  | non : RD Y z H .non .non
  | bl (b : Bool) : RD Y z H (.bl b) (.bl b)
  | int (i : Int) : RD Y z H (.int i) (.int i)
  | str (x : List Nat) (h : ∀ c ∈ x, c < 128) : RD Y z H (.str x) (.str ⟨x.toArray⟩)
  | tup {p : Addr} {ds : List D} {vs : List V} (h : TupAt H p vs) (n : p ∉ z) (r : RDs Y z H ds vs) : RD Y z H (.tup ds) (.ref p)
  | tupK {p : Addr} {ds : List D} {vs : List V} (h : KTup Y.K p vs) (r : RDs Y z H ds vs) : RD Y z H (.tup ds) (.ref p)
  | lst {p : Addr} {ds : List D} {vs : List V} (h : H p = some (.lst vs)) (n : p ∉ z) (r : RDs Y z H ds vs) : RD Y z H (.lst ds) (.ref p)
  | ins {p dx : Addr} {c : Nat} {ds : List D} {vs : List V} (h : H p = some (.ins (Y.cA c) dx ((Y.fs c).zip vs))) (n : p ∉ z) (l : vs.length ≤ (Y.fs c).length) (r : RDs Y z H ds vs) : RD Y z H (.ins c ds) (.ref p)
  | scr {p : Addr} {o : Obj} {ns : List Int} (h : H p = some (.frz o (.lst (ns.map V.int)))) (n : p ∉ z) : RD Y z H (.scr ns) (.ref p)
  | scrK {p : Addr} {ns : List Int} (h : KLst Y.K p (ns.map V.int)) : RD Y z H (.scr ns) (.ref p)
inductive RDs (Y : Cfg) (z : List Addr) (H : Hp) : List D → List V → Prop
  | nil : RDs Y z H [] []
  | cons {d : D} {v : V} {ds : List D} {vs : List V} (h : RD Y z H d v) (r : RDs Y z H ds vs) : RDs Y z H (d :: ds) (v :: vs)
end
section
variable {Y : Cfg} {z z' : List Addr} {H H' : Hp}
mutual
theorem RD.keep (hk : ∀ p o, H p = some o → p ∉ z → H' p = some o ∧ p ∉ z') : ∀ {d : D} {v : V}, RD Y z H d v → RD Y z' H' d v
  | _, _, .non => .non
  | _, _, .bl b => .bl b
  | _, _, .int i => .int i
  | _, _, .str x h => .str x h
  | _, _, .tup h n r => .tup (h.keep n hk).1 (h.keep n hk).2 (RDs.keep hk r)
  | _, _, .tupK h r => .tupK h (RDs.keep hk r)
  | _, _, .lst h n r => .lst (hk _ _ h n).1 (hk _ _ h n).2 (RDs.keep hk r)
  | _, _, .ins h n l r => .ins (hk _ _ h n).1 (hk _ _ h n).2 l (RDs.keep hk r)
  | _, _, .scr h n => .scr (hk _ _ h n).1 (hk _ _ h n).2
  | _, _, .scrK h => .scrK h
theorem RDs.keep (hk : ∀ p o, H p = some o → p ∉ z → H' p = some o ∧ p ∉ z') : ∀ {ds : List D} {vs : List V}, RDs Y z H ds vs → RDs Y z' H' ds vs
  | _, _, .nil => .nil
  | _, _, .cons h r => .cons (RD.keep hk h) (RDs.keep hk r)
end
theorem RDs.length : ∀ {ds : List D} {vs : List V}, RDs Y z H ds vs → ds.length = vs.length
  | _, _, .nil => rfl
  | _, _, .cons _ r => by rw [List.length_cons, List.length_cons, r.length]
theorem RDs.get : ∀ {ds : List D} {vs : List V} {i : Nat} {d : D}, RDs Y z H ds vs → ds[i]? = some d → ∃ v, vs[i]? = some v ∧ RD Y z H d v
  | _, _, _, _, .nil, e => by simp at e
  | _, _, 0, _, .cons h r, e => by simp at e; subst e; exact ⟨_, rfl, h⟩
  | _, _, i + 1, _, .cons h r, e => by
    obtain ⟨v, e1, e2⟩ := RDs.get (i := i) r (by simpa using e)
    exact ⟨v, by simpa using e1, e2⟩
theorem RDs.app : ∀ {ds es : List D} {vs us : List V}, RDs Y z H ds vs → RDs Y z H es us → RDs Y z H (ds ++ es) (vs ++ us)
  | _, _, _, _, .nil, s => s
  | _, _, _, _, .cons h r, s => .cons h (RDs.app r s)
theorem RDs.drop : ∀ {ds : List D} {vs : List V} (n : Nat), RDs Y z H ds vs → RDs Y z H (ds.drop n) (vs.drop n)
  | _, _, 0, r => r
  | _, _, _ + 1, .nil => .nil
  | _, _, n + 1, .cons _ r => RDs.drop n r
theorem RDs.take : ∀ {ds : List D} {vs : List V} (n : Nat), RDs Y z H ds vs → RDs Y z H (ds.take n) (vs.take n)
  | _, _, 0, _ => .nil
  | _, _, _ + 1, .nil => .nil
  | _, _, n + 1, .cons h r => .cons h (RDs.take n r)
theorem RDs.rep {ds : List D} {vs : List V} (r : RDs Y z H ds vs) : ∀ k : Nat, RDs Y z H (List.replicate k ds).flatten (List.replicate k vs).flatten
  | 0 => .nil
  | k + 1 => by
    rw [List.replicate_succ, List.replicate_succ, List.flatten_cons, List.flatten_cons]
    exact r.app (RDs.rep r k)
theorem RDs.ints : ∀ (ns : List Int), RDs Y z H (ns.map D.int) (ns.map V.int)
  | [] => .nil
  | n :: r => .cons (.int n) (RDs.ints r)
end

/-! ### values, the store, the slots -/
def RW (Y : Cfg) (av m : List Addr) (H : Hp) : W → V → Prop
  | .d x, v => RD Y (av ++ m) H x v
  | .r n, v => ∃ a, m[n]? = some a ∧ v = .ref a
  | .f _ _, _ => False
inductive RWs (Y : Cfg) (av m : List Addr) (H : Hp) : List W → List V → Prop
  | nil : RWs Y av m H [] []
  | cons {w : W} {v : V} {ws : List W} {vs : List V} (h : RW Y av m H w v) (r : RWs Y av m H ws vs) : RWs Y av m H (w :: ws) (v :: vs)
def RO (Y : Cfg) (av m : List Addr) (H : Hp) (a : Addr) : O → Prop
  | .lst ws => ∃ vs, H a = some (.lst vs) ∧ RWs Y av m H ws vs
  | .ins c ws => ∃ dx vs, H a = some (.ins (Y.cA c) dx ((Y.fs c).zip vs)) ∧ vs.length ≤ (Y.fs c).length ∧ RWs Y av m H ws vs
  | .dct _ => False
  | .dtp _ => False
structure RSt (Y : Cfg) (av m : List Addr) (S : Sto) (H : Hp) : Prop where
  len : m.length = S.length
  nd : (av ++ m).Nodup
  at_ : ∀ (n : Nat) (o : O), S[n]? = some o → ∃ a, m[n]? = some a ∧ RO Y av m H a o
  av_ : ∀ a ∈ av, ∃ o, H a = some o
def RSl (Y : Cfg) (av m : List Addr) (H : Hp) (l : Sl) (σ : L2.St) : Prop :=
  l.length = σ.length ∧ ∀ (i : Nat) (w : W), l[i]? = some (some w) → ∃ v, σ[i]? = some (some v) ∧ RW Y av m H w v
structure Rel (Y : Cfg) (av m : List Addr) (S : Sto) (l : Sl) (σ : L2.St) (H : Hp) : Prop where
  st : RSt Y av m S H
  sl : RSl Y av m H l σ
/-- what a run leaves: only what stands at m may have changed, m has grown by new places -/
structure Fra (m : List Addr) (H : Hp) (m' : List Addr) (H' : Hp) : Prop where
  keep : ∀ p o, H p = some o → p ∉ m → H' p = some o
  new : ∀ p o, H p = some o → p ∉ m → p ∉ m'
  pre : ∀ (n : Nat) (a : Addr), m[n]? = some a → m'[n]? = some a

section
variable {Y : Cfg} {av m m1 m2 : List Addr} {H H1 H2 : Hp} {S S1 : Sto} {l : Sl} {σ : L2.St}
theorem Fra.refl : Fra m H m H := ⟨fun _ _ h _ => h, fun _ _ _ n => n, fun _ _ h => h⟩
theorem Fra.trans (a : Fra m H m1 H1) (b : Fra m1 H1 m2 H2) : Fra m H m2 H2 :=
  ⟨fun p o h n => b.keep p o (a.keep p o h n) (a.new p o h n), fun p o h n => b.new p o (a.keep p o h n) (a.new p o h n), fun n q h => b.pre n q (a.pre n q h)⟩
theorem Fra.rd (f : Fra m H m1 H1) {d : D} {v : V} (r : RD Y (av ++ m) H d v) : RD Y (av ++ m1) H1 d v := by
  refine r.keep fun p o h n => ?_
  have n1 : p ∉ av := fun q => n (List.mem_append_left _ q)
  have n2 : p ∉ m := fun q => n (List.mem_append_right _ q)
  refine ⟨f.keep p o h n2, fun q => ?_⟩
  rcases List.mem_append.mp q with q | q
  · exact n1 q
  · exact f.new p o h n2 q
theorem Fra.rds (f : Fra m H m1 H1) {d : List D} {v : List V} (r : RDs Y (av ++ m) H d v) : RDs Y (av ++ m1) H1 d v := by
  refine r.keep fun p o h n => ?_
  have n1 : p ∉ av := fun q => n (List.mem_append_left _ q)
  have n2 : p ∉ m := fun q => n (List.mem_append_right _ q)
  refine ⟨f.keep p o h n2, fun q => ?_⟩
  rcases List.mem_append.mp q with q | q
  · exact n1 q
  · exact f.new p o h n2 q
theorem Fra.rw (f : Fra m H m1 H1) {w : W} {v : V} (r : RW Y av m H w v) : RW Y av m1 H1 w v := by
  cases w with
  | d x => exact f.rd r
  | r n => obtain ⟨a, e, q⟩ := r; exact ⟨a, f.pre n a e, q⟩
  | f g cs => exact r
theorem Fra.rws (f : Fra m H m1 H1) : ∀ {ws : List W} {vs : List V}, RWs Y av m H ws vs → RWs Y av m1 H1 ws vs
  | _, _, .nil => .nil
  | _, _, .cons h r => .cons (f.rw h) (f.rws r)
theorem Fra.rsl (f : Fra m H m1 H1) (r : RSl Y av m H l σ) : RSl Y av m1 H1 l σ :=
  ⟨r.1, fun i w e => let ⟨v, e1, q⟩ := r.2 i w e; ⟨v, e1, f.rw q⟩⟩
theorem Rel.fra (r : Rel Y av m S l σ H) (f : Fra m H m1 H1) (s : RSt Y av m1 S1 H1) : Rel Y av m1 S1 l σ H1 := ⟨s, f.rsl r.sl⟩

theorem RWs.length : ∀ {ws : List W} {vs : List V}, RWs Y av m H ws vs → ws.length = vs.length
  | _, _, .nil => rfl
  | _, _, .cons _ r => by rw [List.length_cons, List.length_cons, r.length]
theorem RWs.get : ∀ {ws : List W} {vs : List V} {i : Nat} {w : W}, RWs Y av m H ws vs → ws[i]? = some w → ∃ v, vs[i]? = some v ∧ RW Y av m H w v
  | _, _, _, _, .nil, e => by simp at e
  | _, _, 0, _, .cons h r, e => by simp at e; subst e; exact ⟨_, rfl, h⟩
  | _, _, i + 1, _, .cons h r, e => by
    obtain ⟨v, e1, e2⟩ := RWs.get (i := i) r (by simpa using e)
    exact ⟨v, by simpa using e1, e2⟩
theorem RWs.app : ∀ {ds es : List W} {vs us : List V}, RWs Y av m H ds vs → RWs Y av m H es us → RWs Y av m H (ds ++ es) (vs ++ us)
  | _, _, _, _, .nil, s => s
  | _, _, _, _, .cons h r, s => .cons h (RWs.app r s)
theorem RWs.set {w : W} {v : V} (q : RW Y av m H w v) : ∀ {ws : List W} {vs : List V} (i : Nat), RWs Y av m H ws vs → RWs Y av m H (ws.set i w) (vs.set i v)
  | _, _, _, .nil => .nil
  | _, _, 0, .cons _ r => .cons q r
  | _, _, i + 1, .cons h r => .cons h (RWs.set q i r)
theorem RWs.dats : ∀ {ws : List W} {vs : List V} {ds : List D}, RWs Y av m H ws vs → W.dats ws = some ds → RDs Y (av ++ m) H ds vs
  | _, _, _, .nil, e => by cases e; exact .nil
  | .d x :: t, _, _, .cons h r, e => by
    have e : (W.dats t).map (x :: ·) = some _ := e
    cases q : W.dats t with
    | none => rw [q] at e; cases e
    | some ds =>
      rw [q] at e
      cases e
      exact .cons h (r.dats q)
  | .r _ :: _, _, _, .cons _ _, e => by cases e
  | .f _ _ :: _, _, _, .cons _ _, e => by cases e
theorem RWs.of : ∀ {ds : List D} {vs : List V}, RDs Y (av ++ m) H ds vs → RWs Y av m H (ds.map .d) vs
  | _, _, .nil => .nil
  | _, _, .cons h r => .cons h (RWs.of r)
theorem W.dats_map : ∀ {ws : List W} {ds : List D}, W.dats ws = some ds → ws = ds.map .d
  | [], _, e => by cases e; rfl
  | .d x :: t, _, e => by
    have e : (W.dats t).map (x :: ·) = some _ := e
    cases q : W.dats t with
    | none => rw [q] at e; cases e
    | some ds =>
      rw [q] at e
      cases e
      rw [W.dats_map q]
      rfl
  | .r _ :: _, _, e => by cases e
  | .f _ _ :: _, _, e => by cases e

theorem RO.there {a : Addr} {o : O} (r : RO Y av m H a o) : ∃ u, H a = some u ∧ Mut (some u) := by
  cases o with
  | lst ws => obtain ⟨vs, h, _⟩ := r; exact ⟨_, h, trivial⟩
  | ins c ws => obtain ⟨dx, vs, h, _⟩ := r; exact ⟨_, h, trivial⟩
  | dct _ => exact False.elim r
  | dtp _ => exact False.elim r
theorem RSt.tracked (s : RSt Y av m S H) {a : Addr} (h : a ∈ av ++ m) : ∃ o, H a = some o := by
  rcases List.mem_append.mp h with h | h
  · exact s.av_ a h
  · obtain ⟨n, hn, e⟩ := List.mem_iff_getElem.mp h
    have hS : n < S.length := by rw [← s.len]; exact hn
    obtain ⟨b, e1, r⟩ := s.at_ n S[n] (by simp [hS])
    obtain ⟨u, q, _⟩ := r.there
    have : b = a := by
      rw [List.getElem?_eq_getElem hn, e] at e1
      exact (Option.some.inj e1).symm
    exact ⟨u, this ▸ q⟩
theorem RSt.fresh (s : RSt Y av m S H) {p : Addr} (h : H p = none) : p ∉ av ++ m := fun q => by
  obtain ⟨o, e⟩ := s.tracked q
  rw [h] at e
  cases e
/-- a new object that is not of the store -/
theorem Fra.laid {p : Addr} {o : HO} (h : H p = none) : Fra m H m (upd H p o) :=
  ⟨fun q u e _ => by rw [upd_ne (ne_of_none e h)]; exact e, fun _ _ _ n => n, fun _ _ e => e⟩
theorem RO.fra {a : Addr} {o : O} (f : Fra m H m1 H1) (ha : H a = H1 a) (r : RO Y av m H a o) : RO Y av m1 H1 a o := by
  cases o with
  | lst ws => obtain ⟨vs, h, q⟩ := r; exact ⟨vs, ha ▸ h, f.rws q⟩
  | ins c ws => obtain ⟨dx, vs, h, z, q⟩ := r; exact ⟨dx, vs, ha ▸ h, z, f.rws q⟩
  | dct _ => exact False.elim r
  | dtp _ => exact False.elim r
theorem RSt.laid (s : RSt Y av m S H) {p : Addr} {o : HO} (h : H p = none) : RSt Y av m S (upd H p o) := by
  refine ⟨s.len, s.nd, fun n u e => ?_, fun a ha => ?_⟩
  · obtain ⟨a, e1, r⟩ := s.at_ n u e
    obtain ⟨x, q, _⟩ := r.there
    exact ⟨a, e1, r.fra (Fra.laid h) (by rw [upd_ne (ne_of_none q h)])⟩
  · obtain ⟨u, e⟩ := s.av_ a ha
    exact ⟨u, by rw [upd_ne (ne_of_none e h)]; exact e⟩
/-- a new object of the store -/
theorem Fra.push {p : Addr} {o : HO} (h : H p = none) : Fra m H (m ++ [p]) (upd H p o) := by
  refine ⟨fun q u e _ => ?_, fun q u e n z => ?_, fun n a e => ?_⟩
  · rw [upd_ne (ne_of_none e h)]; exact e
  · rcases List.mem_append.mp z with z | z
    · exact n z
    · have : q = p := by simpa using z
      rw [this, h] at e
      cases e
  · rw [List.getElem?_append_left (List.getElem?_eq_some_iff.mp e).1]
    exact e
theorem RSt.push (s : RSt Y av m S H) {p : Addr} {o : HO} {u : O} (h : H p = none) (r : RO Y av (m ++ [p]) (upd H p o) p u) : RSt Y av (m ++ [p]) (S ++ [u]) (upd H p o) := by
  have hp := s.fresh h
  refine ⟨by rw [List.length_append, List.length_append, s.len]; rfl, ?_, fun n x e => ?_, fun a ha => ?_⟩
  · rw [← List.append_assoc]
    refine List.nodup_append.mpr ⟨s.nd, by simp, fun a ha b hb e => ?_⟩
    have : b = p := by simpa using hb
    rw [e, this] at ha
    exact hp ha
  · by_cases hn : n < S.length
    · rw [List.getElem?_append_left hn] at e
      obtain ⟨a, e1, q⟩ := s.at_ n x e
      obtain ⟨y, qy, _⟩ := q.there
      refine ⟨a, (Fra.push (o := o) h).pre n a e1, q.fra (Fra.push h) (by rw [upd_ne (ne_of_none qy h)])⟩
    · have hn2 : n = S.length := by
        have := (List.getElem?_eq_some_iff.mp e).1
        rw [List.length_append, List.length_singleton] at this
        omega
      subst hn2
      rw [List.getElem?_append_right (Nat.le_refl _), Nat.sub_self] at e
      cases e
      refine ⟨p, ?_, r⟩
      rw [← s.len, List.getElem?_append_right (Nat.le_refl _), Nat.sub_self]
      rfl
  · obtain ⟨y, e⟩ := s.av_ a ha
    exact ⟨y, by rw [upd_ne (ne_of_none e h)]; exact e⟩
theorem nodup_get {m : List Addr} (nd : m.Nodup) {i j : Nat} {a : Addr} (h1 : m[i]? = some a) (h2 : m[j]? = some a) : i = j := by
  obtain ⟨p, e1⟩ := List.getElem?_eq_some_iff.mp h1
  obtain ⟨q, e2⟩ := List.getElem?_eq_some_iff.mp h2
  exact (List.getElem_inj nd).mp (e1.trans e2.symm)
/-- an object of the store is written -/
theorem Fra.write {a : Addr} {o : HO} (ha : a ∈ m) : Fra m H m (upd H a o) :=
  ⟨fun q u e n => by
    have hq : q ≠ a := fun z => n (by rw [z]; exact ha)
    rw [upd_ne hq]
    exact e, fun _ _ _ n => n, fun _ _ e => e⟩
theorem RSt.write (s : RSt Y av m S H) {n : Nat} {a : Addr} {o : HO} {u : O} (ha : m[n]? = some a) (r : RO Y av m (upd H a o) a u) : RSt Y av m (S.set n u) (upd H a o) := by
  have hm : a ∈ m := List.mem_of_getElem? ha
  refine ⟨by rw [List.length_set]; exact s.len, s.nd, fun k x e => ?_, fun b hb => ?_⟩
  · by_cases hk : k = n
    · subst hk
      have hl : k < S.length := by rw [← s.len]; exact (List.getElem?_eq_some_iff.mp ha).1
      rw [List.getElem?_set_self hl] at e
      cases e
      exact ⟨a, ha, r⟩
    · rw [List.getElem?_set_ne (Ne.symm hk)] at e
      obtain ⟨b, e1, q⟩ := s.at_ k x e
      have hne : b ≠ a := fun z => hk (nodup_get (List.nodup_append.mp s.nd).2.1 (z ▸ e1) ha)
      exact ⟨b, e1, q.fra (Fra.write hm) (by rw [upd_ne hne])⟩
  · obtain ⟨y, e⟩ := s.av_ b hb
    have hne : b ≠ a := fun z => (List.nodup_append.mp s.nd).2.2 b hb a hm z
    exact ⟨y, by rw [upd_ne hne]; exact e⟩
theorem Rel.set (r : Rel Y av m S l σ H) {i : Nat} {w : W} {v : V} (q : RW Y av m H w v) : Rel Y av m S (l.set i (some w)) (σ.set i (some v)) H := by
  refine ⟨r.st, by rw [List.length_set, List.length_set]; exact r.sl.1, fun j x e => ?_⟩
  by_cases hj : i = j
  · subst hj
    have hi : i < l.length := by
      have := (List.getElem?_eq_some_iff.mp e).1
      rwa [List.length_set] at this
    rw [List.getElem?_set_self hi] at e
    cases e
    exact ⟨v, by rw [List.getElem?_set_self (by rw [← r.sl.1]; exact hi)], q⟩
  · rw [List.getElem?_set_ne hj] at e
    obtain ⟨u, e1, q1⟩ := r.sl.2 j x e
    exact ⟨u, by rw [List.getElem?_set_ne hj]; exact e1, q1⟩
end

/-! ### readings by the evaluator -/
variable (Y : Cfg) (av : List Addr) (Wx : WX)
/-- where an expression ends -/
def PEnd {α : Type} (m : List Addr) (H : Hp) (σ : L2.St) (P : α → List Addr → Sto → Hp → Prop) : RE α → Prop
  | .ok a S' => ∀ m' H', Fra m H m' H' → RSt Y av m' S' H' → P a m' S' H'
  | .ex c S' => ∀ m' H', Fra m H m' H' → RSt Y av m' S' H' → Wx (.ref (Y.xA c)) none σ H'
  | .bad => False
def tEv (f : Sl → Sto → RE W) : TE := fun σ H Q => ∃ m S l, Rel Y av m S l σ H ∧ PEnd Y av Wx m H σ (fun w m' _ H' => ∀ v, RW Y av m' H' w v → Q v H') (f l S)
def tEvT (f : Sl → Sto → RE Bool) : TT := fun σ H Q => ∃ m S l, Rel Y av m S l σ H ∧ PEnd Y av Wx m H σ (fun b _ _ H' => Q b H') (f l S)
def tEvA (f : Sl → Sto → RE (List W)) : TA := fun σ H Q => ∃ m S l, Rel Y av m S l σ H ∧ PEnd Y av Wx m H σ (fun ws m' _ H' => ∀ vs, RWs Y av m' H' ws vs → Q vs H') (f l S)
def tEvO (f : Sl → Sto → RE (Option Int)) : TO := fun σ H Q => ∃ m S l, Rel Y av m S l σ H ∧ PEnd Y av Wx m H σ (fun i _ _ H' => Q i H') (f l S)
def SEnd (m : List Addr) (H : Hp) (D : Ends) : RS → Prop
  | .nx l' S' => ∀ m' σ' H', Fra m H m' H' → Rel Y av m' S' l' σ' H' → D.nx σ' H'
  | .ret w S' => ∀ m' v H', Fra m H m' H' → RSt Y av m' S' H' → RW Y av m' H' w v → D.rt v H'
  | .brk l' S' => ∀ m' σ' H', Fra m H m' H' → Rel Y av m' S' l' σ' H' → D.bk σ' H'
  | .cnt l' S' => ∀ m' σ' H', Fra m H m' H' → Rel Y av m' S' l' σ' H' → D.ct σ' H'
  | .ex c l' S' => ∀ m' σ' H', Fra m H m' H' → Rel Y av m' S' l' σ' H' → Wx (.ref (Y.xA c)) none σ' H'
  | .bad => False
def tEvS (f : Sl → Sto → RS) : TS := fun D σ H => ∃ m S l, Rel Y av m S l σ H ∧ SEnd Y av Wx m H D (f l S)
variable {Y av Wx}
theorem PEnd.fra {α : Type} {m m1 : List Addr} {H H1 : Hp} {σ : L2.St} {P : α → List Addr → Sto → Hp → Prop} {r : RE α} (f : Fra m H m1 H1) (h : PEnd Y av Wx m H σ P r) : PEnd Y av Wx m1 H1 σ P r := by
  cases r with
  | ok a S => exact fun m' H' g s => h m' H' (f.trans g) s
  | ex c S => exact fun m' H' g s => h m' H' (f.trans g) s
  | bad => exact h
theorem PEnd.bind {α β : Type} {m : List Addr} {H : Hp} {σ : L2.St} {P : β → List Addr → Sto → Hp → Prop} {r : RE α} {g : α → Sto → RE β} (h : PEnd Y av Wx m H σ P (r.bind g)) :
    PEnd Y av Wx m H σ (fun a m' S' H' => PEnd Y av Wx m' H' σ P (g a S')) r := by
  cases r with
  | ok a S => exact fun m' H' f s => PEnd.fra f h
  | ex c S => exact h
  | bad => exact h
theorem PEnd.imp {α : Type} {m : List Addr} {H : Hp} {σ : L2.St} {P P' : α → List Addr → Sto → Hp → Prop} {r : RE α} (h : PEnd Y av Wx m H σ P r) (i : ∀ a m' S' H', Fra m H m' H' → RSt Y av m' S' H' → P a m' S' H' → P' a m' S' H') : PEnd Y av Wx m H σ P' r := by
  cases r with
  | ok a S => exact fun m' H' f s => i a m' S H' f s (h m' H' f s)
  | ex c S => exact h
  | bad => exact h
theorem SEnd.fra {m m1 : List Addr} {H H1 : Hp} {D : Ends} {r : RS} (f : Fra m H m1 H1) (h : SEnd Y av Wx m H D r) : SEnd Y av Wx m1 H1 D r := by
  cases r with
  | nx l S => exact fun m' σ' H' g s => h m' σ' H' (f.trans g) s
  | ret w S => exact fun m' v H' g s => h m' v H' (f.trans g) s
  | brk l S => exact fun m' σ' H' g s => h m' σ' H' (f.trans g) s
  | cnt l S => exact fun m' σ' H' g s => h m' σ' H' (f.trans g) s
  | ex c l S => exact fun m' σ' H' g s => h m' σ' H' (f.trans g) s
  | bad => exact h
/-- a stronger reading -/
theorem PEw {X : Cx} {e : Expr} {t t' : TE} (h : PE X e t) (i : ∀ σ H Q, t' σ H Q → t σ H Q) : PE X e t' := ⟨fun pins s σ H Q I q => h.run pins s σ H Q I (i σ H Q q)⟩
theorem PTw' {X : Cx} {e : Expr} {t t' : TT} (h : PT X e t) (i : ∀ σ H Q, t' σ H Q → t σ H Q) : PT X e t' := ⟨fun pins s σ H Q I q => h.run pins s σ H Q I (i σ H Q q)⟩
theorem PSw {X : Cx} {e : Stmt} {t t' : TS} (h : PS X e t) (i : ∀ D σ H, t' D σ H → t D σ H) : PS X e t' := ⟨fun pins s σ H D I q => h.run pins s σ H D I (i D σ H q)⟩
theorem PSsw {X : Cx} {e : List Stmt} {t t' : TS} (h : PSs X e t) (i : ∀ D σ H, t' D σ H → t D σ H) : PSs X e t' := ⟨fun pins s σ H D I q => h.run pins s σ H D I (i D σ H q)⟩
theorem PAw {X : Cx} {e : List Expr} {t t' : TA} (h : PA X e t) (i : ∀ σ H Q, t' σ H Q → t σ H Q) : PA X e t' := ⟨fun pos pins s σ H Q I q => h.run pos pins s σ H Q I (i σ H Q q)⟩
end Kr
/-! KrO1: texts as lists of signs. -/
namespace Kr
open PySem PySem.Spec PyProof.Rows L2

abbrev mkS (x : List Nat) : Str := ⟨x.toArray⟩
theorem mkS_cps (x : List Nat) : (mkS x).cps.toList = x := rfl
theorem mkS_len (x : List Nat) : (mkS x).length = x.length := by simp [Str.length]
theorem mkS_app (x y : List Nat) : mkS x ++ mkS y = mkS (x ++ y) := by
  show (⟨x.toArray ++ y.toArray⟩ : Str) = _
  simp
theorem str_ext {a : Str} {x : List Nat} (h : a.cps.toList = x) : a = mkS x := by
  obtain ⟨c⟩ := a
  simp only at h
  subst h
  simp [mkS]
theorem sz_line : sz = sizeLine := by rw [sizeLine_eq]; rfl
def Asc (x : List Nat) : Prop := ∀ c ∈ x, c < 128
theorem Asc.app {x y : List Nat} (a : Asc x) (b : Asc y) : Asc (x ++ y) := fun c h => (List.mem_append.mp h).elim (a c) (b c)
theorem Asc.sub {x y : List Nat} (a : Asc x) (h : ∀ c ∈ y, c ∈ x) : Asc y := fun c q => a c (h c q)

theorem cutAt_eq (n d : Nat) (o : Option Int) : cutAt n d o = HT.sIx n d o := by
  cases o with
  | none => rfl
  | some v =>
    have h := HT.clip_eq v n d
    show (if v < 0 then (v + (n : Int)).toNat else min v.toNat n) = _
    split at h
    · rename_i hv
      rw [if_pos hv]
      omega
    · rename_i hv
      rw [if_neg hv]
      omega
theorem cut_V (xs : List V) (lo hi : Option Int) : cutV xs lo hi = cut xs lo hi := by
  unfold cutV cut
  rw [cutAt_eq, cutAt_eq]
theorem cut_mem {α : Type} {xs : List α} {lo hi : Option Int} {a : α} (h : a ∈ cut xs lo hi) : a ∈ xs := List.mem_of_mem_drop (List.mem_of_mem_take h)
theorem ixAt_eq {α : Type} (xs : List α) (i : Int) : L2.atI xs i = ixAt xs i := by
  unfold L2.atI L2.ixN ixAt
  split
  · split
    · rfl
    · rfl
  · split
    · rfl
    · rfl
theorem ixAt_mem {α : Type} {xs : List α} {i : Int} {a : α} (h : ixAt xs i = some a) : a ∈ xs := by
  unfold ixAt at h
  split at h
  · split at h
    · exact List.mem_of_getElem? h
    · cases h
  · split at h
    · exact List.mem_of_getElem? h
    · cases h

/-! ### strip -/
theorem dropWhile_drop (p : Nat → Bool) : ∀ x : List Nat, x.dropWhile p = x.drop (x.takeWhile p).length
  | [] => rfl
  | c :: r => by
    rw [List.dropWhile_cons, List.takeWhile_cons]
    split
    · rw [dropWhile_drop p r]; rfl
    · rfl
theorem takeWhile_le (p : Nat → Bool) : ∀ x : List Nat, (x.takeWhile p).length ≤ x.length
  | [] => Nat.le_refl _
  | c :: r => by
    rw [List.takeWhile_cons]
    split
    · have := takeWhile_le p r
      simp only [List.length_cons]
      omega
    · exact Nat.zero_le _
theorem rdrop (p : Nat → Bool) (x : List Nat) : (x.reverse.dropWhile p).reverse = x.take (x.length - (x.reverse.takeWhile p).length) := by
  rw [dropWhile_drop, List.reverse_drop, List.reverse_reverse, List.length_reverse]
theorem strip_list (y x : List Nat) : Txt.stripChars (mkS x) (mkS y) = mkS (stripT y x) := by
  refine str_ext ?_
  unfold Txt.stripChars
  rw [PyProof.Rows.stripBy_eq]
  refine (TL.tl_strSub _ _ _).trans ?_
  show (((mkS x).cps.toList).drop _).take _ = _
  unfold stripLo stripHi
  simp only [if_true, mkS_cps, mkS_len]
  unfold stripT rstripT lstripT
  rw [rdrop, dropWhile_drop]
  have e : ∀ c, (mkS y).cps.contains c = y.contains c := fun c => by simp [mkS]
  have e2 : (mkS y).cps.contains = y.contains := funext e
  rw [e2, List.length_drop]
  congr 1
  omega
theorem rstrip_list (y x : List Nat) : Txt.rstripChars (mkS x) (mkS y) = mkS (rstripT y x) := by
  refine str_ext ?_
  unfold Txt.rstripChars
  rw [PyProof.Rows.stripBy_eq]
  refine (TL.tl_strSub _ _ _).trans ?_
  show (((mkS x).cps.toList).drop _).take _ = _
  unfold stripLo stripHi
  simp only [if_true, Bool.false_eq_true, if_false, mkS_cps, mkS_len, List.drop_zero, Nat.sub_zero]
  unfold rstripT
  rw [rdrop]
  have e2 : (mkS y).cps.contains = y.contains := funext fun c => by simp [mkS]
  rw [e2]
theorem rstripT_mem {y x : List Nat} {c : Nat} (h : c ∈ rstripT y x) : c ∈ x := by
  unfold rstripT at h
  have := (List.dropWhile_sublist _).subset (List.mem_reverse.mp h)
  exact List.mem_reverse.mp this
theorem stripT_mem {y x : List Nat} {c : Nat} (h : c ∈ stripT y x) : c ∈ x := (List.dropWhile_sublist _).subset (rstripT_mem h)

/-! ### split, replace, rjust, join -/
theorem splitT_miss {c a : Nat} (r : List Nat) (h : ¬ a = c) : ∃ p ps, (splitT c r = p :: ps ∧ splitT c (a :: r) = (a :: p) :: ps) ∨ (splitT c r = [] ∧ splitT c (a :: r) = [[a]]) := by
  have e : splitT c (a :: r) = if a = c then [] :: splitT c r else match splitT c r with
    | p :: ps => (a :: p) :: ps
    | [] => [[a]] := rfl
  rw [e, if_neg h]
  cases q : splitT c r with
  | nil => exact ⟨[], [], .inr ⟨rfl, rfl⟩⟩
  | cons p ps => exact ⟨p, ps, .inl ⟨rfl, rfl⟩⟩
theorem spl_one (c : Nat) : ∀ (x acc : List Nat), TL.spl [c] 0 acc x = (match splitT c x with | p :: ps => (acc ++ p) :: ps | [] => [acc])
  | [], acc => by
    show TL.spl [c] 0 acc [] = _
    rw [TL.spl_nil]
    simp [splitT]
  | a :: r, acc => by
    by_cases h : a = c
    · subst h
      rw [TL.spl_hit (by simp [TL.pre]), show splitT a (a :: r) = [] :: splitT a r by simp [splitT]]
      show acc :: TL.spl [a] ([a].length - 1) [] r = _
      rw [show [a].length - 1 = 0 from rfl, spl_one a r []]
      simp only [List.append_nil]
      congr 1
      cases hs : splitT a r with
      | nil =>
        cases r with
        | nil => simp [splitT] at hs
        | cons b t =>
          unfold splitT at hs
          split at hs
          · cases hs
          · split at hs <;> cases hs
      | cons p ps => rfl
    · rw [TL.spl_miss (by simp [TL.pre, h]), spl_one c r (acc ++ [a])]
      obtain ⟨p, ps, ⟨e1, e2⟩ | ⟨e1, e2⟩⟩ := splitT_miss (c := c) r h
      · rw [e1, e2]; simp
      · rw [e1, e2]
theorem splitT_ne (c : Nat) (x : List Nat) : splitT c x ≠ [] := by
  cases x with
  | nil => simp [splitT]
  | cons a r =>
    unfold splitT
    split
    · simp
    · split <;> simp
theorem split_list {c : Nat} (x : List Nat) (hc : c < 128) : Txt.split (mkS x) (mkS [c]) = (splitT c x).map mkS := by
  have h1 := TL.split_spl (mkS x) (mkS [c]) (by show [c] ≠ []; simp) (TL.kind_ok (by simp [mkS]; omega))
  have h2 : TL.spl (TL.tl (mkS [c])) 0 [] (TL.tl (mkS x)) = splitT c x := by
    show TL.spl [c] 0 [] x = _
    rw [spl_one]
    cases h : splitT c x with
    | nil => exact absurd h (splitT_ne c x)
    | cons p ps => rfl
  rw [h2] at h1
  refine TL.map_tl_inj ?_
  rw [h1, List.map_map]
  have : ∀ l : List (List Nat), l = l.map (TL.tl ∘ mkS) := fun l => by
    induction l with
    | nil => rfl
    | cons a r ih => rw [List.map_cons, ← ih]; rfl
  exact this _
theorem splitT_mem {c : Nat} : ∀ {x p : List Nat} {a : Nat}, p ∈ splitT c x → a ∈ p → a ∈ x
  | [], p, a, h, q => by
    simp [splitT] at h
    subst h
    cases q
  | b :: r, p, a, h, q => by
    unfold splitT at h
    split at h
    · rcases List.mem_cons.mp h with e | h
      · subst e; cases q
      · exact List.mem_cons_of_mem _ (splitT_mem h q)
    · split at h
      · rename_i p0 ps e0
        rcases List.mem_cons.mp h with e | h
        · subst e
          rcases List.mem_cons.mp q with e | q
          · subst e; exact List.mem_cons_self
          · exact List.mem_cons_of_mem _ (splitT_mem (by rw [e0]; exact List.mem_cons_self) q)
        · exact List.mem_cons_of_mem _ (splitT_mem (by rw [e0]; exact List.mem_cons_of_mem _ h) q)
      · have : p = [b] := by simpa using h
        subst this
        have : a = b := by simpa using q
        subst this
        exact List.mem_cons_self
theorem splitT_len (c : Nat) : ∀ x : List Nat, (splitT c x).length ≤ x.length + 1
  | [] => by simp [splitT]
  | b :: r => by
    have ih := splitT_len c r
    unfold splitT
    split
    · simp only [List.length_cons]; omega
    · split
      · rename_i p ps e
        rw [e] at ih
        simp only [List.length_cons] at ih ⊢
        omega
      · simp
theorem repl_list {c : Nat} (x z : List Nat) : Txt.replace (mkS x) (mkS [c]) (mkS z) = mkS (replT c z x) := by
  refine str_ext ?_
  rw [PySem.StrLaws.replace_list (by simp [mkS, Str.length])]
  show PySem.StrLaws.replL [c] z x = replT c z x
  unfold PySem.StrLaws.replL replT
  induction x with
  | nil => simp [PySem.StrLaws.replS]
  | cons a r ih =>
    unfold PySem.StrLaws.replS
    rw [List.flatMap_cons]
    by_cases h : a = c
    · subst h
      simp only [List.length_singleton, List.take_succ_cons, List.take_zero, if_true, Nat.sub_self]
      rw [ih]
    · have h2 : ¬ (List.take [c].length (a :: r) = [c]) := by simp [h]
      rw [if_neg h2, if_neg h, ih]
      rfl
theorem replT_mem {c : Nat} {z x : List Nat} {a : Nat} (h : a ∈ replT c z x) : a ∈ z ∨ a ∈ x := by
  unfold replT at h
  obtain ⟨b, hb, q⟩ := List.mem_flatMap.mp h
  split at q
  · exact .inl q
  · have : a = b := by simpa using q
    exact .inr (this ▸ hb)
theorem rjust_list (x : List Nat) (n : Int) (c : Nat) : Txt.rjustF (mkS x) n c = mkS (rjustT n c x) := by
  refine str_ext ?_
  rw [PyProof.Rows.rjustF_list, mkS_len]
  rfl
theorem join_list' (s : List Nat) : ∀ l : List (List Nat), TL.joinL s l = joinT s l
  | [] => rfl
  | [x] => rfl
  | x :: y :: r => by
    show x ++ (s ++ TL.joinL s (y :: r)) = x ++ s ++ joinT s (y :: r)
    rw [join_list' s (y :: r), List.append_assoc]
theorem joins (s : List Nat) (l : List (List Nat)) : Txt.join (mkS s) (l.map mkS) = mkS (joinT s l) := by
  refine str_ext ?_
  rw [TL.join_eq]
  have h := TL.tl_join (mkS s) (l.map mkS)
  have e : (l.map mkS).map TL.tl = l := by
    rw [List.map_map]
    have : ∀ l : List (List Nat), l.map (TL.tl ∘ mkS) = l := fun l => by
      induction l with
      | nil => rfl
      | cons a r ih => rw [List.map_cons, ih]; rfl
    exact this l
  rw [e, join_list'] at h
  exact h
theorem joinT_mem {s : List Nat} {a : Nat} : ∀ {l : List (List Nat)}, a ∈ joinT s l → a ∈ s ∨ ∃ p ∈ l, a ∈ p
  | [], h => by cases h
  | [x], h => .inr ⟨x, List.mem_cons_self, h⟩
  | x :: y :: r, h => by
    rcases List.mem_append.mp (show a ∈ x ++ s ++ joinT s (y :: r) from h) with h | h
    · rcases List.mem_append.mp h with h | h
      · exact .inr ⟨x, List.mem_cons_self, h⟩
      · exact .inl h
    · rcases joinT_mem h with h | ⟨p, hp, q⟩
      · exact .inl h
      · exact .inr ⟨p, List.mem_cons_of_mem _ hp, q⟩

/-! ### numbers written and read -/
theorem natF_num : ∀ (k n : Nat), n < 10 ^ (k + 1) → natF k n = TL.numL n
  | 0, n, h => by
    have h2 : n < 10 := by simpa using h
    rw [TL.numL_lt h2]
    show [48 + n % 10] = _
    rw [Nat.mod_eq_of_lt h2]
  | k + 1, n, h => by
    show (if n < 10 then [48 + n] else natF k (n / 10) ++ [48 + n % 10]) = _
    split
    · rename_i h2
      rw [TL.numL_lt h2]
    · rename_i h2
      rw [TL.numL_step (by omega), natF_num k (n / 10) (by
        rw [Nat.pow_succ] at h
        exact Nat.div_lt_of_lt_mul (by omega))]
theorem natT_num (n : Nat) : natT n = TL.numL n := natF_num n n (Nat.lt_of_lt_of_le (Nat.lt_pow_self (by decide)) (Nat.pow_le_pow_right (by decide) (Nat.le_succ n)))
theorem intT_str (i : Int) : Str.ofString (toString i) = mkS (intT i) := by
  cases i with
  | ofNat n =>
    refine str_ext ?_
    show (Str.ofString (toString ((n : Nat) : Int))).cps.toList = natT n
    rw [natT_num]
    exact TL.tl_num n
  | negSucc n =>
    refine str_ext ?_
    have h := TL.tl_num (n + 1)
    have e1 : (Str.ofString (toString ((n + 1 : Nat) : Int))).cps.toList = (Nat.repr (n + 1)).toList.map Char.toNat := by
      rw [show (Str.ofString (toString ((n + 1 : Nat) : Int))).cps.toList = (toString ((n + 1 : Nat) : Int)).toList.map Char.toNat from TL.tl_ofString _]
      rfl
    rw [show (Str.ofString (toString (Int.negSucc n))).cps.toList = (toString (Int.negSucc n)).toList.map Char.toNat from TL.tl_ofString _]
    show (toString (Int.negSucc n)).toList.map Char.toNat = 45 :: natT (n + 1)
    have e2 : toString (Int.negSucc n) = "-" ++ Nat.repr (n + 1) := rfl
    rw [e2, String.toList_append, List.map_append, natT_num, ← h]
    show _ = 45 :: (Str.ofString (toString ((n + 1 : Nat) : Int))).cps.toList
    rw [e1]
    rfl
theorem natT_asc (n : Nat) : Asc (natT n) := fun c h => by
  rw [natT_num] at h
  have := TL.numL_digits n c h
  omega
theorem intT_asc (i : Int) : Asc (intT i) := by
  cases i with
  | ofNat n => exact natT_asc n
  | negSucc n =>
    intro c h
    rcases List.mem_cons.mp h with e | h
    · omega
    · exact natT_asc _ c h
theorem readN_val : ∀ (x : List Nat) (a n : Nat), readN x a = some n → NumText.AllDigits x ∧ x.foldl (fun acc c => acc * 10 + (c - 48)) a = n
  | [], a, n, h => ⟨(fun c q => by cases q), Option.some.inj h⟩
  | c :: r, a, n, h => by
    unfold readN at h
    split at h
    · rename_i hc
      obtain ⟨h1, h2⟩ := readN_val r _ n h
      refine ⟨fun d hd => ?_, ?_⟩
      · rcases List.mem_cons.mp hd with e | hd
        · subst e; exact hc
        · exact h1 d hd
      · rw [List.foldl_cons, ← h2, Nat.mul_comm a 10]
    · cases h
theorem readI_cons (c : Nat) (r : List Nat) (hc : ¬ c = 45) : readI (c :: r) = (readN (c :: r) 0).map fun (n : Nat) => (n : Int) := by
  simp only [readI, if_neg hc]
theorem readI_val {x : List Nat} {n : Int} (h : readI x = some n) (hl : x.length ≤ 4300) : intText? (mkS x) = some n := by
  cases x with
  | nil => cases h
  | cons c r =>
    by_cases hc : c = 45
    · subst hc
      cases r with
      | nil => cases h
      | cons d t =>
        have h : (readN (d :: t) 0).map (fun (n : Nat) => -(n : Int)) = some n := h
        cases q : readN (d :: t) 0 with
        | none => rw [q] at h; cases h
        | some k =>
          rw [q] at h
          cases h
          obtain ⟨h1, h2⟩ := readN_val _ _ _ q
          rw [PySem.intText_neg (x := mkS (45 :: d :: t)) (cs := d :: t) rfl h1 (by simp) (by rw [mkS_len]; exact hl)]
          have : NumText.digitsVal (d :: t) = k := h2
          rw [this]
    · have h : (readN (c :: r) 0).map (fun (n : Nat) => (n : Int)) = some n := by
        rw [readI_cons c r hc] at h
        exact h
      cases q : readN (c :: r) 0 with
      | none => rw [q] at h; cases h
      | some k =>
        rw [q] at h
        cases h
        obtain ⟨h1, h2⟩ := readN_val _ _ _ q
        rw [PySem.intText_digits (x := mkS (c :: r)) h1 (by simp) (by rw [mkS_len]; exact hl)]
        have : NumText.digitsVal (c :: r) = k := h2
        rw [this]

/-! ### one text in another -/
theorem infix_iff (y : List Nat) : ∀ x : List Nat, infixT y x = true ↔ ∃ i, i + y.length ≤ x.length ∧ (x.drop i).take y.length = y
  | [] => by
    unfold infixT
    constructor
    · intro h
      refine ⟨0, ?_, ?_⟩
      · have : y = [] := by simpa using h
        subst this; simp
      · have : y = [] := by simpa using h
        subst this; rfl
    · rintro ⟨i, h1, h2⟩
      have : y.length = 0 := by simp only [List.length_nil] at h1; omega
      simpa using List.eq_nil_of_length_eq_zero this
  | a :: r => by
    unfold infixT
    rw [Bool.or_eq_true, infix_iff y r, List.isPrefixOf_iff_prefix]
    constructor
    · rintro (h | ⟨i, h1, h2⟩)
      · refine ⟨0, ?_, ?_⟩
        · have := h.length_le; omega
        · rw [List.drop_zero]; exact (List.prefix_iff_eq_take.mp h).symm
      · exact ⟨i + 1, by simp only [List.length_cons]; omega, h2⟩
    · rintro ⟨i, h1, h2⟩
      cases i with
      | zero =>
        left
        rw [List.drop_zero] at h2
        exact List.prefix_iff_eq_take.mpr h2.symm
      | succ j => exact .inr ⟨j, by simp only [List.length_cons] at h1; omega, h2⟩
theorem in_list (x y : List Nat) : (!(Builtin.Str.occurrences (mkS x) (mkS y) 0 (mkS x).length 1).isEmpty) = infixT y x := by
  rw [Bool.eq_iff_iff, PySem.StrLaws.found_iff, infix_iff]
  have e : ∀ i, Builtin.Str.subAt (mkS x) (mkS y) i = true ↔ (x.drop i).take y.length = y := fun i => by
    unfold Builtin.Str.subAt
    rw [mkS_len]
    show (x.toArray.extract i (i + y.length) == y.toArray) = true ↔ _
    rw [List.extract_toArray, beq_iff_eq]
    constructor
    · intro h
      have h := congrArg Array.toList h
      simpa [List.extract_eq_drop_take] using h
    · intro h
      congr 1
      simpa [List.extract_eq_drop_take] using h
  constructor
  · rintro ⟨i, h1, h2⟩
    exact ⟨i, by rwa [mkS_len, mkS_len] at h1, (e i).mp h2⟩
  · rintro ⟨i, h1, h2⟩
    exact ⟨i, by rwa [mkS_len, mkS_len], (e i).mpr h2⟩
end Kr
/-! KrO2: operators on the evaluator's values. -/
namespace Kr
open PySem PySem.Spec PyProof.Rows L2

/-- a value that is read: its top may be an object of the store -/
def RT (Y : Cfg) (z : List Addr) (H : Hp) (d : D) (v : V) : Prop := RD Y z H d v ∨ ∃ ds p vs, d = .lst ds ∧ v = .ref p ∧ H p = some (.lst vs) ∧ RDs Y z H ds vs
/-- what an operation leaves: at most one new object -/
def Nw (H H' : Hp) : Prop := H' = H ∨ ∃ p o, H p = none ∧ H' = upd H p o
section
variable {Y : Cfg} {z : List Addr} {H H' : Hp} {v : V}
theorem Nw.keep (n : Nw H H') : ∀ p o, H p = some o → H' p = some o := by
  rcases n with rfl | ⟨q, u, hq, rfl⟩
  · exact fun _ _ h => h
  · exact fun p o h => by rw [upd_ne (ne_of_none h hq)]; exact h
theorem RD.nw {d : D} (r : RD Y z H d v) (n : Nw H H') : RD Y z H' d v := r.keep fun p o h q => ⟨n.keep p o h, q⟩
theorem RDs.nw {d : List D} {vs : List V} (r : RDs Y z H d vs) (n : Nw H H') : RDs Y z H' d vs := r.keep fun p o h q => ⟨n.keep p o h, q⟩
theorem RT.int {i : Int} (r : RT Y z H (.int i) v) : v = .int i := by
  rcases r with r | ⟨_, _, _, e, _⟩
  · cases r; rfl
  · cases e
theorem RT.bl {b : Bool} (r : RT Y z H (.bl b) v) : v = .bl b := by
  rcases r with r | ⟨_, _, _, e, _⟩
  · cases r; rfl
  · cases e
theorem RT.non (r : RT Y z H .non v) : v = .non := by
  rcases r with r | ⟨_, _, _, e, _⟩
  · cases r; rfl
  · cases e
theorem RT.str {x : List Nat} (r : RT Y z H (.str x) v) : v = .str (mkS x) ∧ Asc x := by
  rcases r with r | ⟨_, _, _, e, _⟩
  · cases r with | str _ h => exact ⟨rfl, h⟩
  · cases e
theorem RT.tup {ds : List D} (r : RT Y z H (.tup ds) v) : RD Y z H (.tup ds) v ∧ ∃ p vs, v = .ref p ∧ SqT Y.K H p vs ∧ RDs Y z H ds vs := by
  rcases r with r | ⟨_, _, _, e, _⟩
  · refine ⟨r, ?_⟩
    cases r with
    | tup h n q => exact ⟨_, _, rfl, h.sq, q⟩
    | tupK h q => exact ⟨_, _, rfl, h.sq, q⟩
  · cases e
theorem RT.lst {ds : List D} (r : RT Y z H (.lst ds) v) : ∃ p vs, v = .ref p ∧ H p = some (.lst vs) ∧ RDs Y z H ds vs := by
  rcases r with r | ⟨_, p, vs, e, h1, h2, h3⟩
  · cases r with | lst h n q => exact ⟨_, _, rfl, h, q⟩
  · cases e; exact ⟨p, vs, h1, h2, h3⟩
theorem RT.scr {ns : List Int} (r : RT Y z H (.scr ns) v) : ∃ p, v = .ref p ∧ SqL Y.K H p (ns.map V.int) := by
  rcases r with r | ⟨_, _, _, e, _⟩
  · cases r with
    | scr h n => exact ⟨_, rfl, .inl (.inr ⟨_, h⟩)⟩
    | scrK h => exact ⟨_, rfl, .inr h⟩
  · cases e
theorem RD.new_tup {ds : List D} {vs : List V} {p : Addr} (hz : ∀ p, H p = none → p ∉ z) (r : RDs Y z H ds vs) (h : H p = none) {o : Obj} (hd : o.dict = none) : RD Y z (upd H p (.frz o (.tup vs))) (.tup ds) (.ref p) :=
  .tup ⟨o, upd_same, hd⟩ (hz p h) (r.nw (.inr ⟨p, _, h, rfl⟩))
theorem RD.new_lst {ds : List D} {vs : List V} {p : Addr} (hz : ∀ p, H p = none → p ∉ z) (r : RDs Y z H ds vs) (h : H p = none) : RD Y z (upd H p (.lst vs)) (.lst ds) (.ref p) :=
  .lst upd_same (hz p h) (r.nw (.inr ⟨p, _, h, rfl⟩))
theorem RDs.strs : ∀ {l : List (List Nat)}, (∀ x ∈ l, Asc x) → RDs Y z H (l.map D.str) ((l.map mkS).map V.str)
  | [], _ => .nil
  | x :: r, h => .cons (.str x (h x List.mem_cons_self)) (RDs.strs fun y hy => h y (List.mem_cons_of_mem _ hy))
theorem RDs.strsOf : ∀ {ds : List D} {vs : List V} {l : List (List Nat)}, RDs Y z H ds vs → strsOf ds = some l → vs = (l.map mkS).map V.str ∧ ∀ x ∈ l, Asc x
  | _, _, _, .nil, e => by cases e; exact ⟨rfl, fun _ h => nomatch h⟩
  | .str x :: t, _, _, .cons h r, e => by
    have e : (Kr.strsOf t).map (x :: ·) = some _ := e
    cases q : Kr.strsOf t with
    | none => rw [q] at e; cases e
    | some l =>
      rw [q] at e
      cases e
      obtain ⟨e1, e2⟩ := RDs.strsOf r q
      cases h with
      | str _ hx =>
        refine ⟨by rw [e1]; rfl, fun y hy => ?_⟩
        rcases List.mem_cons.mp hy with e | hy
        · subst e; exact hx
        · exact e2 y hy
  | .non :: _, _, _, .cons _ _, e => by cases e
  | .bl _ :: _, _, _, .cons _ _, e => by cases e
  | .int _ :: _, _, _, .cons _ _, e => by cases e
  | .tup _ :: _, _, _, .cons _ _, e => by cases e
  | .lst _ :: _, _, _, .cons _ _, e => by cases e
  | .ins _ _ :: _, _, _, .cons _ _, e => by cases e
  | .scr _ :: _, _, _, .cons _ _, e => by cases e
end

def bopOf : Bop → Operator
  | .add => .Add | .sub => .Sub | .mul => .Mult | .fdiv => .FloorDiv | .mod => .Mod | .pow => .Pow
/-- s * n -/
theorem op_mul_str {X : Cx} : OpR X (binaryOp .Mult) (fun x y H Q => ∃ (a : List Nat) (n : Int), x = .str (mkS a) ∧ y = .int n ∧ -1000000 ≤ n ∧ n ≤ 1000000 ∧ a.length ≤ 10 ∧ Q (.str (mkS (repT n a))) H) := by
  intro pins s σ H x y v u Q I rx ry h
  obtain ⟨a, n, rfl, rfl, h1, h2, h3, q⟩ := h
  obtain ⟨t, rfl⟩ := rx
  obtain ⟨t', rfl⟩ := ry
  have hl := mkS_len a
  have hb : (mkS a).length * n.toNat ≤ 10 * 1000000 := Nat.mul_le_mul (by omega) (by omega)
  refine PySem.P.mul_str ?_ (fun c1 c2 => ?_) (fun c1 c2 => ?_) ?_
  · rw [decide_eq_false (by omega), decide_eq_false (by omega)] <;> rfl
  · have : (10 : Int) ≤ (2 ^ 63 - 1) / n := by
      rw [Int.le_ediv_iff_mul_le (by omega)]
      omega
    omega
  · unfold PySem.Builtin.Str.tooLong
    rw [sizeLine_eq]
    exact decide_eq_false (by omega)
  · split
    · rename_i c
      have e : repT n a = [] := by
        unfold repT
        have : n.toNat = 0 := by omega
        rw [this]; rfl
      rw [e] at q
      exact ⟨by decide, .str (mkS []), H, I.tok _, ⟨_, rfl⟩, q⟩
    · split
      · rename_i c1 c2
        have e : repT n a = a := by
          unfold repT
          rcases Bool.or_eq_true_iff.mp c2 with c2 | c2
          · have : n = 1 := by simpa using c2
            subst this
            simp
          · have : a = [] := by
              have : a.length = 0 := by
                have z : (mkS a).length = 0 := by simpa using c2
                omega
              exact List.eq_nil_of_length_eq_zero this
            subst this
            simp
        rw [e] at q
        exact ⟨.str (mkS a), H, I, ⟨_, rfl⟩, q⟩
      · have e : (⟨(List.replicate n.toNat (mkS a).cps).foldl (· ++ ·) #[]⟩ : Str) = mkS (repT n a) := by
          refine str_ext ?_
          unfold repT
          have gen : ∀ (k : Nat) (acc : Array Nat), ((List.replicate k (mkS a).cps).foldl (· ++ ·) acc).toList = acc.toList ++ (List.replicate k a).flatten := by
            intro k
            induction k with
            | zero => intro acc; simp
            | succ k ih =>
              intro acc
              rw [List.replicate_succ, List.foldl_cons, ih, List.replicate_succ, List.flatten_cons]
              simp
          have := gen n.toNat #[]
          simpa using this
        rw [e]
        refine ⟨?_, .str (mkS (repT n a)), H, I.tok _, ⟨_, rfl⟩, q⟩
        rw [mkS_len]
        unfold repT
        rw [List.length_flatten, List.map_replicate, List.sum_replicate_nat, sizeLine_eq, Nat.mul_comm]
        rw [hl] at hb
        omega
/-- t + u: the object is known -/
def rCatF (K : PySem.W.Frag) : R2 := fun x y H Q => ∃ a b xs ys, x = .ref a ∧ y = .ref b ∧ SqT K H a xs ∧ SqT K H b ys ∧ xs.length + ys.length ≤ sizeLine ∧
  (xs = [] → Q (.ref b) H) ∧ (xs ≠ [] → ys = [] → Q (.ref a) H) ∧ (xs ≠ [] → ys ≠ [] → ∀ p o, H p = none → o.dict = none → Q (.ref p) (upd H p (.frz o (.tup (xs ++ ys)))))
theorem op_catF {X : Cx} : OpR X (binaryOp .Add) (rCatF X.K) := by
  intro pins s σ H x y v u Q I rx ry h
  obtain ⟨a, b, xs, ys, e1, e2, ha, hb, hz, q0, q1, q2⟩ := h
  subst e1 e2
  cases rx
  cases ry
  obtain ⟨is, r1, p1, _⟩ := I.tuple ha
  obtain ⟨js, r2, p2, _⟩ := I.tuple hb
  by_cases hx : xs = []
  · subst hx
    cases r1
    exact cat_tup0 p1 p2 ⟨.ref b, H, I, rfl, q0 rfl⟩
  · refine HT.cat_tup p1 p2 (fun z => hx (r1.nil_iff.mp z)) (fun z => ⟨.ref a, H, I, rfl, q1 hx (r2.nil_iff.mp z)⟩) (fun z => ?_) (by rw [← r1.length, ← r2.length]; exact hz)
    have hp : H s.heap.objs.size = none := I.hok.fresh (Nat.le_refl _)
    have hn : (s.heap.push { cls := .type "tuple", data := .seq (is ++ js).toArray }).get? s.heap.objs.size = some { cls := .type "tuple", data := .seq (is ++ js).toArray } := Heap.get?_push_size _ rfl
    refine ⟨.ref s.heap.objs.size, _, I.laid (t' := s.toks) (o := .frz { cls := .type "tuple", data := .seq (is ++ js).toArray } (.tup (xs ++ ys))) (fun _ _ q => Heap.get?_push_of_some _ q) (Nat.le_refl _) ?_, rfl, q2 hx (fun w => z (r2.nil_iff.mpr w)) _ _ hp rfl⟩
    exact ⟨hn, by rw [List.length_append]; exact hz, _, r1.append r2, IsTup.new _ _⟩
theorem repT_mem {n : Int} {x : List Nat} {c : Nat} (h : c ∈ repT n x) : c ∈ x := by
  unfold repT at h
  obtain ⟨l, hl, q⟩ := List.mem_flatten.mp h
  rw [(List.mem_replicate.mp hl).2] at q
  exact q

def rBin (Y : Cfg) (o : Bop) : R2 := fun x y H Q => ∃ z dx dy dr, RT Y z H dx x ∧ RT Y z H dy y ∧ evBin o dx dy = some dr ∧ (∀ p, H p = none → p ∉ z) ∧ ∀ v H', Nw H H' → RD Y z H' dr v → Q v H'
theorem op_bin {X : Cx} {Y : Cfg} (hK : X.K = Y.K) (o : Bop) : OpR X (binaryOp (bopOf o)) (rBin Y o) := by
  intro pins s σ H x y v u Q I vx vy h
  obtain ⟨z, dx, dy, dr, rx, ry, e, hz, q⟩ := h
  unfold evBin at e
  split at e
  · rename_i i j
    obtain rfl := rx.int
    obtain rfl := ry.int
    cases o with
    | add => cases e; exact op_add pins s σ H _ _ v u Q I vx vy ⟨_, _, rfl, rfl, q _ _ (.inl rfl) (.int _)⟩
    | sub => cases e; exact op_sub pins s σ H _ _ v u Q I vx vy ⟨_, _, rfl, rfl, q _ _ (.inl rfl) (.int _)⟩
    | mul =>
      have e : (if mulOk i j then some (D.int (i * j)) else none) = some dr := e
      split at e
      · rename_i c
        cases e
        unfold mulOk big at c
        simp only [Bool.or_eq_true, Bool.and_eq_true, decide_eq_true_eq] at c
        rcases c with c | c | c
        · exact op_mul pins s σ H _ _ v u Q I vx vy ⟨_, _, rfl, rfl, .inl c, q _ _ (.inl rfl) (.int _)⟩
        · exact op_mul pins s σ H _ _ v u Q I vx vy ⟨_, _, rfl, rfl, .inr c, q _ _ (.inl rfl) (.int _)⟩
        · exact op_mulW pins s σ H _ _ v u Q I vx vy ⟨_, _, rfl, rfl, by unfold CMulW; omega, q _ _ (.inl rfl) (.int _)⟩
      · cases e
    | fdiv =>
      have e : (if 0 < j ∧ big j = true then some (D.int (i / j)) else none) = some dr := e
      split at e
      · rename_i c
        cases e
        have c2 := c.2
        unfold big at c2
        have c2 := of_decide_eq_true c2
        exact op_fdivW pins s σ H _ _ v u Q I vx vy ⟨_, _, rfl, rfl, ⟨c.1, by omega⟩, q _ _ (.inl rfl) (.int _)⟩
      · cases e
    | mod =>
      have e : (if 0 < j then some (D.int (i % j)) else none) = some dr := e
      split at e
      · rename_i c
        cases e
        exact op_mod pins s σ H _ _ v u Q I vx vy ⟨_, _, rfl, rfl, c, q _ _ (.inl rfl) (.int _)⟩
      · cases e
    | pow =>
      have e : (if 0 ≤ j ∧ j ≤ 1000 ∧ i.natAbs < 18446744073709551616 then some (D.int (i ^ j.toNat)) else none) = some dr := e
      split at e
      · rename_i c
        cases e
        exact op_pow pins s σ H _ _ v u Q I vx vy ⟨_, _, rfl, rfl, ⟨c.1, by omega, c.2.2⟩, q _ _ (.inl rfl) (.int _)⟩
      · cases e
  · rename_i a b
    obtain ⟨rfl, ha⟩ := rx.str
    obtain ⟨rfl, hb⟩ := ry.str
    split at e
    · split at e
      · rename_i c
        cases e
        refine op_add_str pins s σ H _ _ v u Q I vx vy ⟨_, _, rfl, rfl, ?_, ?_⟩
        · rw [mkS_len, mkS_len, ← sz_line]; exact c
        · rw [mkS_app]
          exact q _ _ (.inl rfl) (.str _ (Asc.app ha hb))
      · cases e
    · cases e
  · rename_i a n
    obtain ⟨rfl, ha⟩ := rx.str
    obtain rfl := ry.int
    split at e
    · split at e
      · rename_i c
        cases e
        exact op_mul_str pins s σ H _ _ v u Q I vx vy ⟨_, _, rfl, rfl, c.1, c.2.1, c.2.2, q _ _ (.inl rfl) (.str _ (ha.sub fun c h => repT_mem h))⟩
      · cases e
    · cases e
  · rename_i a b
    obtain ⟨ra, pa, va, rfl, sa, da⟩ := rx.tup
    obtain ⟨rb, pb, vb, rfl, sb, db⟩ := ry.tup
    split at e
    · split at e
      · rename_i c
        cases e
        have la := da.length
        have lb := db.length
        rw [← hK] at sa sb
        refine op_catF pins s σ H _ _ v u Q I vx vy ⟨pa, pb, va, vb, rfl, rfl, sa, sb, ?_, fun h => ?_, fun h1 h2 => ?_, fun h1 h2 p o hp ho => ?_⟩
        · rw [← sz_line, ← la, ← lb]; exact c
        · have : a = [] := List.eq_nil_of_length_eq_zero (by rw [la, h]; rfl)
          subst this
          exact q _ _ (.inl rfl) rb
        · have : b = [] := List.eq_nil_of_length_eq_zero (by rw [lb, h2]; rfl)
          subst this
          rw [List.append_nil] at q
          exact q _ _ (.inl rfl) ra
        · exact q _ _ (.inr ⟨p, _, hp, rfl⟩) (RD.new_tup hz (da.app db) hp ho)
      · cases e
    · cases e
  · rename_i a b
    obtain ⟨pa, va, rfl, sa, da⟩ := rx.lst
    obtain ⟨pb, vb, rfl, sb, db⟩ := ry.lst
    split at e
    · split at e
      · rename_i c
        cases e
        have la := da.length
        have lb := db.length
        refine op_cat pins s σ H _ _ v u Q I vx vy ⟨pa, pb, va, vb, rfl, rfl, sa, sb, by rw [← sz_line, ← la, ← lb]; exact c, fun p hp => ?_⟩
        exact q _ _ (.inr ⟨p, _, hp, rfl⟩) (RD.new_lst hz (da.app db) hp)
      · cases e
    · cases e
  · rename_i a n
    obtain ⟨pa, va, rfl, sa, da⟩ := rx.lst
    obtain rfl := ry.int
    split at e
    · split at e
      · rename_i c
        cases e
        have la := da.length
        have hb : va.length * n.toNat ≤ 1000 * 1000 := Nat.mul_le_mul (by omega) (by omega)
        refine op_rep pins s σ H _ _ v u Q I vx vy ⟨pa, n, va, rfl, rfl, sa, by omega, by omega, by rw [sizeLine_eq]; omega, fun p hp => ?_⟩
        exact q _ _ (.inr ⟨p, _, hp, rfl⟩) (RD.new_lst hz (da.rep _) hp)
      · cases e
    · cases e
  · cases e
end Kr
/-! KrO3: comparisons, truth, subscripts on the evaluator's values. -/
namespace Kr
open PySem PySem.Spec PyProof.Rows L2

mutual
def toPy : D → PyData
  | .non => .none
  | .bl b => .bool b
  | .int i => .int i
  | .str x => .str (mkS x)
  | .tup xs => .tuple (toPys xs)
  | .lst xs => .list (toPys xs)
  | .ins _ _ => .none
  | .scr _ => .none
def toPys : List D → List PyData
  | [] => []
  | x :: r => toPy x :: toPys r
end
section
variable {Y : Cfg} {z : List Addr} {H : Hp}
mutual
theorem RD.dp {d : D} {v : V} {n : Nat} (r : RD Y z H d v) (f : D.flat n d = true) : Dp Y.K H v (toPy d) := by
  cases r with
  | non => exact .non
  | bl b => exact .bl b
  | int i => exact .int i
  | str x h => exact .str _
  | tup h _ q =>
    cases n with
    | zero => cases f
    | succ n => exact .tup h.sq (RDs.dp q f)
  | tupK h q =>
    cases n with
    | zero => cases f
    | succ n => exact .tup h.sq (RDs.dp q f)
  | lst h _ q =>
    cases n with
    | zero => cases f
    | succ n => exact .lst (.inl (.inl h)) (RDs.dp q f)
  | ins => cases f
  | scr => cases f
  | scrK => cases f
theorem RDs.dp {ds : List D} {vs : List V} {n : Nat} (r : RDs Y z H ds vs) (f : D.flats n ds = true) : DpAll Y.K H vs (toPys ds) := by
  cases r with
  | nil => exact .nil
  | cons h q =>
    obtain ⟨f1, f2⟩ := Bool.and_eq_true_iff.mp (show (D.flat n _ && D.flats n _) = true from f)
    exact .cons (RD.dp h f1) (RDs.dp q f2)
end
theorem RT.dp {d : D} {v : V} {n : Nat} (r : RT Y z H d v) (f : D.flat n d = true) : Dp Y.K H v (toPy d) := by
  rcases r with r | ⟨ds, p, vs, rfl, rfl, h, q⟩
  · exact r.dp f
  · cases n with
    | zero => cases f
    | succ n => exact .lst (.inl (.inl h)) (q.dp f)
mutual
theorem RD.lay {d : D} {v : V} (r : RD Y z H d v) {n : Nat} (f : D.flat n d = true) : (toPy d).canLay0 = true ∧ (toPy d).depth ≤ n + 1 := by
  cases r with
  | non => exact ⟨rfl, by simp [toPy, PyData.depth]⟩
  | bl b => exact ⟨rfl, by simp [toPy, PyData.depth]⟩
  | int i => exact ⟨rfl, by simp [toPy, PyData.depth]⟩
  | str x h =>
    refine ⟨?_, by simp [toPy, PyData.depth]⟩
    show PyData.canLay0 (.str (mkS x)) = true
    simp only [PyData.canLay0, PySem.PyData.strOk, mkS]
    simp only [List.all_toArray, List.all_eq_true, decide_eq_true_eq]
    exact fun c hc => Nat.lt_trans (h c hc) (by decide)
  | tup h _ q =>
    cases n with
    | zero => cases f
    | succ n =>
      obtain ⟨a, b⟩ := RDs.lay q f
      refine ⟨by simpa [toPy, PyData.canLay0] using a, ?_⟩
      simp only [toPy, PyData.depth]; omega
  | tupK h q =>
    cases n with
    | zero => cases f
    | succ n =>
      obtain ⟨a, b⟩ := RDs.lay q f
      refine ⟨by simpa [toPy, PyData.canLay0] using a, ?_⟩
      simp only [toPy, PyData.depth]; omega
  | lst h _ q =>
    cases n with
    | zero => cases f
    | succ n =>
      obtain ⟨a, b⟩ := RDs.lay q f
      refine ⟨by simpa [toPy, PyData.canLay0] using a, ?_⟩
      simp only [toPy, PyData.depth]; omega
  | ins => cases f
  | scr => cases f
  | scrK => cases f
theorem RDs.lay {ds : List D} {vs : List V} (r : RDs Y z H ds vs) {n : Nat} (f : D.flats n ds = true) : PyData.canLayAll0 (toPys ds) = true ∧ PyData.depthAll (toPys ds) ≤ n + 1 := by
  cases r with
  | nil => exact ⟨rfl, by simp [toPys, PyData.depthAll]⟩
  | cons h q =>
    obtain ⟨f1, f2⟩ := Bool.and_eq_true_iff.mp (show (D.flat n _ && D.flats n _) = true from f)
    obtain ⟨a1, b1⟩ := RD.lay h f1
    obtain ⟨a2, b2⟩ := RDs.lay q f2
    refine ⟨by simp [toPys, PyData.canLayAll0, a1, a2], ?_⟩
    simp only [toPys, PyData.depthAll]
    omega
end
theorem RT.lay {d : D} {v : V} (r : RT Y z H d v) {n : Nat} (f : D.flat n d = true) : (toPy d).canLay0 = true ∧ (toPy d).depth ≤ n + 1 := by
  rcases r with r | ⟨ds, p, vs, rfl, rfl, h, q⟩
  · exact r.lay f
  · cases n with
    | zero => cases f
    | succ n =>
      obtain ⟨a, b⟩ := RDs.lay q f
      refine ⟨by simpa [toPy, PyData.canLay0] using a, ?_⟩
      simp only [toPy, PyData.depth]; omega
theorem RT.shaped {d : D} {v : V} (r : RT Y z H d v) (f : D.flat 20 d = true) : SeqAt.shaped (toPy d) = true := by
  obtain ⟨a, b⟩ := r.lay f
  unfold SeqAt.shaped
  rw [a, decide_eq_true (by omega)]
  rfl
end
theorem mkS_beq (x y : List Nat) : (mkS x == mkS y) = (x == y) := by
  rw [Bool.eq_iff_iff, beq_iff_eq, beq_iff_eq]
  constructor
  · intro h
    have := congrArg (fun s : Str => s.cps.toList) h
    exact this
  · intro h; rw [h]
mutual
theorem eqv_eq : ∀ (n m : Nat) (a b : D), D.flat n a = true → D.flat m b = true → PyData.eqv (toPy a) (toPy b) = D.eq a b := by
  intro n m a b fa fb
  cases a with
  | non => cases b <;> first | rfl | cases fb
  | bl x => cases b <;> first | rfl | cases fb
  | int x => cases b <;> first | rfl | cases fb
  | str x => cases b with
    | str y => exact mkS_beq x y
    | ins => cases fb
    | scr => cases fb
    | _ => rfl
  | tup xs => cases b with
    | tup ys =>
      cases n with
      | zero => cases fa
      | succ n =>
        cases m with
        | zero => cases fb
        | succ m => exact eqvs_eq n m xs ys fa fb
    | ins => cases fb
    | scr => cases fb
    | _ => rfl
  | lst xs => cases b with
    | lst ys =>
      cases n with
      | zero => cases fa
      | succ n =>
        cases m with
        | zero => cases fb
        | succ m => exact eqvs_eq n m xs ys fa fb
    | ins => cases fb
    | scr => cases fb
    | _ => rfl
  | ins => cases fa
  | scr => cases fa
theorem eqvs_eq : ∀ (n m : Nat) (a b : List D), D.flats n a = true → D.flats m b = true → PyData.eqvAll (toPys a) (toPys b) = D.eqs a b := by
  intro n m a b fa fb
  cases a with
  | nil => cases b <;> rfl
  | cons x xs =>
    cases b with
    | nil => rfl
    | cons y ys =>
      obtain ⟨a1, a2⟩ := Bool.and_eq_true_iff.mp (show (D.flat n x && D.flats n xs) = true from fa)
      obtain ⟨b1, b2⟩ := Bool.and_eq_true_iff.mp (show (D.flat m y && D.flats m ys) = true from fb)
      show (PyData.eqv (toPy x) (toPy y) && PyData.eqvAll (toPys xs) (toPys ys)) = (D.eq x y && D.eqs xs ys)
      rw [eqv_eq n m x y a1 b1, eqvs_eq n m xs ys a2 b2]
end
theorem any_eq (m : Nat) (x : D) (fx : D.flat m x = true) : ∀ (n : Nat) (ys : List D), D.flats n ys = true → ((toPys ys).any fun w => PyData.eqv w (toPy x)) = ys.any fun w => D.eq w x
  | _, [], _ => rfl
  | n, y :: r, f => by
    obtain ⟨a1, a2⟩ := Bool.and_eq_true_iff.mp (show (D.flat n y && D.flats n r) = true from f)
    show (PyData.eqv (toPy y) (toPy x) || (toPys r).any _) = (D.eq y x || r.any _)
    rw [eqv_eq n m y x a1 fx, any_eq m x fx n r a2]
theorem countP_eq (m : Nat) (x : D) (fx : D.flat m x = true) : ∀ (n : Nat) (ys : List D), D.flats n ys = true → ((toPys ys).countP fun w => PyData.eqv w (toPy x)) = ys.countP fun w => D.eq w x
  | _, [], _ => rfl
  | n, y :: r, f => by
    obtain ⟨a1, a2⟩ := Bool.and_eq_true_iff.mp (show (D.flat n y && D.flats n r) = true from f)
    show (toPy y :: toPys r).countP _ = _
    rw [List.countP_cons, List.countP_cons, countP_eq m x fx n r a2, eqv_eq n m y x a1 fx]

def copOf : Cop → CmpOp
  | .eq => .Eq | .ne => .NotEq | .lt => .Lt | .le => .LtE | .gt => .Gt | .ge => .GtE | .is => .Is | .isn => .IsNot | .isin => .In | .nin => .NotIn
def rCmp (Y : Cfg) (o : Cop) : R2 := fun x y H Q => ∃ z dx dy b, RT Y z H dx x ∧ RT Y z H dy y ∧ evCmp o dx dy = some b ∧ Q (.bl b) H
theorem isNon_eq {Y : Cfg} {z : List Addr} {H : Hp} {d : D} {v : V} (r : RT Y z H d v) : decide (v = .non) = isNon d := by
  rcases r with r | ⟨ds, p, vs, rfl, rfl, h, q⟩
  · cases r <;> simp [isNon]
  · simp [isNon]
theorem op_in {X : Cx} {Y : Cfg} (hK : X.K = Y.K) (hu : X.A.units + 65 < cLine) : OpR X (compareOp .In) (fun x y H Q => ∃ z dx dy b, RT Y z H dx x ∧ RT Y z H dy y ∧ evIn dx dy = some b ∧ Q (.bl b) H) := by
  intro pins s σ H x y v u Q I vx vy h
  obtain ⟨z, dx, dy, b, rx, ry, e, q⟩ := h
  unfold evIn at e
  split at e
  · split at e
    · cases e
      obtain ⟨rfl, _⟩ := rx.str
      obtain ⟨rfl, _⟩ := ry.str
      exact op_in_str pins s σ H _ _ v u Q I vx vy ⟨_, _, rfl, rfl, by rw [in_list]; exact q⟩
    · cases e
  · split at e
    · rename_i ys c
      cases e
      obtain ⟨f1, f2⟩ := Bool.and_eq_true_iff.mp c
      have f3 : D.flat 21 (.tup ys) = true := f2
      have d1 := rx.dp f1
      have d2 := ry.dp f3
      rw [← hK] at d1 d2
      obtain ⟨as, r1⟩ := Dp.reads I _ x v d1 vx
      obtain ⟨bs, r2⟩ := Dp.reads I _ y u d2 vy
      obtain ⟨l1, m1⟩ := rx.lay f1
      obtain ⟨l2, m2⟩ := ry.lay f3
      refine SeqAt.in_tuple_reads r2 r1 (by simpa [toPy, PyData.canLay0] using l2) l1 (by omega) ⟨.bl _, H, I, rfl, ?_⟩
      rw [any_eq 20 _ f1 20 _ f2]
      exact q
    · cases e
  · split at e
    · rename_i ys c
      cases e
      obtain ⟨f1, f2⟩ := Bool.and_eq_true_iff.mp c
      have f3 : D.flat 21 (.lst ys) = true := f2
      have d1 := rx.dp f1
      have d2 := ry.dp f3
      rw [← hK] at d1 d2
      obtain ⟨as, r1⟩ := Dp.reads I _ x v d1 vx
      obtain ⟨bs, r2⟩ := Dp.reads I _ y u d2 vy
      obtain ⟨l1, m1⟩ := rx.lay f1
      obtain ⟨l2, m2⟩ := ry.lay f3
      refine SeqAt.in_list_reads r2 r1 (by simpa [toPy, PyData.canLay0] using l2) l1 (by omega) ⟨.bl _, H, I, rfl, ?_⟩
      rw [any_eq 20 _ f1 20 _ f2]
      exact q
    · cases e
  · cases e
theorem op_nin {X : Cx} {Y : Cfg} (hK : X.K = Y.K) (hu : X.A.units + 65 < cLine) : OpR X (compareOp .NotIn) (fun x y H Q => ∃ z dx dy b, RT Y z H dx x ∧ RT Y z H dy y ∧ evIn dx dy = some b ∧ Q (.bl (!b)) H) := by
  intro pins s σ H x y v u Q I vx vy h
  obtain ⟨z, dx, dy, b, rx, ry, e, q⟩ := h
  unfold evIn at e
  split at e
  · split at e
    · cases e
      obtain ⟨rfl, _⟩ := rx.str
      obtain ⟨rfl, _⟩ := ry.str
      exact op_notin_str pins s σ H _ _ v u Q I vx vy ⟨_, _, rfl, rfl, by rw [in_list]; exact q⟩
    · cases e
  · split at e
    · rename_i ys c
      cases e
      obtain ⟨f1, f2⟩ := Bool.and_eq_true_iff.mp c
      have f3 : D.flat 21 (.tup ys) = true := f2
      have d1 := rx.dp f1
      have d2 := ry.dp f3
      rw [← hK] at d1 d2
      obtain ⟨as, r1⟩ := Dp.reads I _ x v d1 vx
      obtain ⟨bs, r2⟩ := Dp.reads I _ y u d2 vy
      obtain ⟨l1, m1⟩ := rx.lay f1
      obtain ⟨l2, m2⟩ := ry.lay f3
      refine SeqAt.notIn_tuple_reads r2 r1 (by simpa [toPy, PyData.canLay0] using l2) l1 (by omega) ⟨.bl _, H, I, rfl, ?_⟩
      rw [any_eq 20 _ f1 20 _ f2]
      exact q
    · cases e
  · split at e
    · rename_i ys c
      cases e
      obtain ⟨f1, f2⟩ := Bool.and_eq_true_iff.mp c
      have f3 : D.flat 21 (.lst ys) = true := f2
      have d1 := rx.dp f1
      have d2 := ry.dp f3
      rw [← hK] at d1 d2
      obtain ⟨as, r1⟩ := Dp.reads I _ x v d1 vx
      obtain ⟨bs, r2⟩ := Dp.reads I _ y u d2 vy
      obtain ⟨l1, m1⟩ := rx.lay f1
      obtain ⟨l2, m2⟩ := ry.lay f3
      refine SeqAt.notIn_list_reads r2 r1 (by simpa [toPy, PyData.canLay0] using l2) l1 (by omega) ⟨.bl _, H, I, rfl, ?_⟩
      rw [any_eq 20 _ f1 20 _ f2]
      exact q
    · cases e
  · cases e
theorem op_cmp {X : Cx} {Y : Cfg} (hK : X.K = Y.K) (hu : X.A.units + 65 < cLine) (o : Cop) : OpR X (compareOp (copOf o)) (rCmp Y o) := by
  intro pins s σ H x y v u Q I vx vy h
  obtain ⟨z, dx, dy, b, rx, ry, e, q⟩ := h
  cases o with
  | eq =>
    have e : (if eqOk dx dy then some (D.eq dx dy) else none) = some b := e
    split at e
    · rename_i c
      cases e
      obtain ⟨f1, f2⟩ := Bool.and_eq_true_iff.mp c
      have d1 := rx.dp f1
      have d2 := ry.dp f2
      rw [← hK] at d1 d2
      exact op_eqD (by omega) pins s σ H _ _ v u Q I vx vy ⟨_, _, d1, d2, rx.shaped f1, ry.shaped f2, by rw [eqv_eq 20 20 _ _ f1 f2]; exact q⟩
    · cases e
  | ne =>
    have e : (if eqOk dx dy then some (!D.eq dx dy) else none) = some b := e
    split at e
    · rename_i c
      cases e
      obtain ⟨f1, f2⟩ := Bool.and_eq_true_iff.mp c
      have d1 := rx.dp f1
      have d2 := ry.dp f2
      rw [← hK] at d1 d2
      exact op_neD (by omega) pins s σ H _ _ v u Q I vx vy ⟨_, _, d1, d2, rx.shaped f1, ry.shaped f2, by rw [eqv_eq 20 20 _ _ f1 f2]; exact q⟩
    · cases e
  | lt =>
    cases dx <;> cases dy <;> first | cases e | skip
    obtain rfl := rx.int
    obtain rfl := ry.int
    exact op_lt pins s σ H _ _ v u Q I vx vy ⟨_, _, rfl, rfl, q⟩
  | le =>
    cases dx <;> cases dy <;> first | cases e | skip
    obtain rfl := rx.int
    obtain rfl := ry.int
    exact op_le pins s σ H _ _ v u Q I vx vy ⟨_, _, rfl, rfl, q⟩
  | gt =>
    cases dx <;> cases dy <;> first | cases e | skip
    obtain rfl := rx.int
    obtain rfl := ry.int
    exact op_gt pins s σ H _ _ v u Q I vx vy ⟨_, _, rfl, rfl, q⟩
  | ge =>
    cases dx <;> cases dy <;> first | cases e | skip
    obtain rfl := rx.int
    obtain rfl := ry.int
    exact op_ge pins s σ H _ _ v u Q I vx vy ⟨_, _, rfl, rfl, q⟩
  | is =>
    cases dy <;> first | cases e | skip
    · obtain rfl := ry.non
      exact op_isN pins s σ H _ _ v u Q I vx vy ⟨rfl, by rw [isNon_eq rx]; exact q⟩
    · cases dx <;> first | cases e | skip
      obtain rfl := rx.bl
      obtain rfl := ry.bl
      refine op_isBl pins s σ H _ _ v u Q I vx vy ⟨_, _, rfl, rfl, ?_⟩
      rw [← Bool.beq_eq_decide_eq]
      exact q
  | isn =>
    cases dy <;> first | cases e | skip
    · obtain rfl := ry.non
      exact op_notN pins s σ H _ _ v u Q I vx vy ⟨rfl, by rw [isNon_eq rx]; exact q⟩
    · cases dx <;> first | cases e | skip
      obtain rfl := rx.bl
      obtain rfl := ry.bl
      refine op_notBl pins s σ H _ _ v u Q I vx vy ⟨_, _, rfl, rfl, ?_⟩
      rw [← Bool.beq_eq_decide_eq]
      exact q
  | isin => exact op_in hK hu pins s σ H _ _ v u Q I vx vy ⟨z, dx, dy, b, rx, ry, e, q⟩
  | nin =>
    have e : (evIn dx dy).map (!·) = some b := e
    cases q2 : evIn dx dy with
    | none => rw [q2] at e; cases e
    | some c =>
      rw [q2] at e
      cases e
      exact op_nin hK hu pins s σ H _ _ v u Q I vx vy ⟨z, dx, dy, c, rx, ry, q2, q⟩

/-! ### truth -/
theorem tru_D {X : Cx} {Y : Cfg} (hK : X.K = Y.K) {z : List Addr} {H : Hp} {d : D} {v : V} {b : Bool} (r : RT Y z H d v) (e : truD d = some b) : TruV X.K v H b := by
  cases d with
  | non => obtain rfl := r.non; cases e; rfl
  | bl k => obtain rfl := r.bl; cases e; rfl
  | int i => obtain rfl := r.int; cases e; rfl
  | str x =>
    obtain ⟨rfl, _⟩ := r.str
    have e : (if x.length ≤ sz then some (!x.isEmpty) else none) = some b := e
    split at e
    · rename_i c
      cases e
      refine ⟨by rw [mkS_len, ← sz_line]; exact c, ?_⟩
      rw [mkS_len]
      cases x with
      | nil => rfl
      | cons a t => simp; omega
    · cases e
  | tup xs =>
    obtain ⟨_, p, vs, rfl, h, q⟩ := r.tup
    cases e
    rw [← hK] at h
    refine .inr (.inl ⟨vs, h, ?_⟩)
    have := q.length
    cases xs <;> cases vs <;> first | rfl | (simp at this)
  | lst xs =>
    obtain ⟨p, vs, rfl, h, q⟩ := r.lst
    cases e
    refine .inl ⟨vs, .inl (.inl h), ?_⟩
    have := q.length
    cases xs <;> cases vs <;> first | rfl | (simp at this)
  | ins => cases e
  | scr => cases e

/-! ### subscripts -/
def rIxD (Y : Cfg) : R2 := fun x y H Q => ∃ z dx dy dr, RT Y z H dx x ∧ RT Y z H dy y ∧ ixD dx dy = some dr ∧ ∀ v, RD Y z H dr v → Q v H
theorem ixAt_map {α β : Type} (f : α → β) (xs : List α) (i : Int) : ixAt (xs.map f) i = (ixAt xs i).map f := by
  unfold ixAt
  rw [List.length_map]
  split
  · split
    · rw [List.getElem?_map]
    · rfl
  · split
    · rw [List.getElem?_map]
    · rfl
theorem RDs.ix {Y : Cfg} {z : List Addr} {H : Hp} {ds : List D} {vs : List V} (r : RDs Y z H ds vs) {i : Int} {d : D} (e : ixAt ds i = some d) : ∃ v, L2.atI vs i = some v ∧ RD Y z H d v := by
  rw [show (fun v => L2.atI vs i = some v ∧ RD Y z H d v) = fun v => ixAt vs i = some v ∧ RD Y z H d v from funext fun v => by rw [ixAt_eq]]
  unfold ixAt at e ⊢
  rw [← r.length]
  split at e
  · rename_i h
    rw [if_pos h]
    split at e
    · rename_i h2
      rw [if_pos h2]
      exact r.get e
    · cases e
  · rename_i h
    rw [if_neg h]
    split at e
    · rename_i h2
      rw [if_pos h2]
      exact r.get e
    · cases e
theorem ix_D {X : Cx} {Y : Cfg} (hK : X.K = Y.K) : IxR X (rIxD Y) := by
  intro value slice pins s σ H x y v u Q I vx vy h hsub
  obtain ⟨z, dx, dy, dr, rx, ry, e, q⟩ := h
  unfold ixD at e
  split at e
  · rename_i i
    obtain rfl := ry.int
    split at e
    · obtain ⟨_, p, vs, rfl, h, r⟩ := rx.tup
      obtain ⟨w, e1, e2⟩ := r.ix e
      rw [← hK] at h
      exact ix_tup value slice pins s σ H _ _ v u Q I vx vy ⟨p, vs, i, w, rfl, rfl, h, e1, q _ e2⟩ hsub
    · obtain ⟨p, vs, rfl, h, r⟩ := rx.lst
      obtain ⟨w, e1, e2⟩ := r.ix e
      exact ix_list value slice pins s σ H _ _ v u Q I vx vy ⟨p, vs, i, w, rfl, rfl, .inl (.inl h), e1, q _ e2⟩ hsub
    · rename_i ns
      obtain ⟨p, rfl, h⟩ := rx.scr
      rw [← hK] at h
      cases e2 : ixAt ns i with
      | none => rw [e2] at e; cases e
      | some k =>
        rw [e2] at e
        cases e
        refine ix_list value slice pins s σ H _ _ v u Q I vx vy ⟨p, _, i, .int k, rfl, rfl, h, ?_, q _ (.int k)⟩ hsub
        rw [ixAt_eq, ixAt_map, e2]
        rfl
    · rename_i t
      obtain ⟨rfl, ha⟩ := rx.str
      split at e
      · rename_i c
        cases e2 : ixAt t i with
        | none => rw [e2] at e; cases e
        | some k =>
          rw [e2] at e
          cases e
          refine ix_str value slice pins s σ H _ _ v u Q I vx vy ⟨mkS t, i, k, rfl, rfl, by rw [mkS_len, ← sz_line]; exact c, by rw [ixAt_eq]; exact e2, q _ (.str [k] fun c hc => ?_)⟩ hsub
          have : c = k := by simpa using hc
          subst this
          exact ha _ (ixAt_mem e2)
      · cases e
    · cases e
  · cases e
/-- t[lo:hi]: the object is known -/
def rSlF (K : PySem.W.Frag) : V → Option Int → Option Int → Hp → VK → Prop := fun x lo hi H Q => ∃ a xs, x = .ref a ∧ SqT K H a xs ∧
  (HT.sIx xs.length 0 lo = 0 ∧ HT.sIx xs.length xs.length hi = xs.length → Q (.ref a) H) ∧ (∀ p o, H p = none → o.dict = none → Q (.ref p) (upd H p (.frz o (.tup (cutV xs lo hi)))))
theorem sl_tupF {X : Cx} : SlR X (rSlF X.K) := by
  intro pins s σ H x v vl vu lo hi sl Q I rx hs pl pu h
  obtain ⟨a, xs, e, hx, q1, q2⟩ := h
  subst e
  by_cases hw : HT.sIx xs.length 0 lo = 0 ∧ HT.sIx xs.length xs.length hi = xs.length
  · exact sl_tupA pins s σ H _ v vl vu lo hi sl Q I rx hs pl pu ⟨a, xs, rfl, hx, q1, fun n => absurd hw n⟩
  · cases rx
    obtain ⟨is, r, ht, hz⟩ := I.tuple hx
    have hlen : is.toArray.size = xs.length := by rw [List.size_toArray]; exact r.length.symm
    refine ⟨"tuple", _, PyProof.Rows.slot_tuple_getitem.lookup, ht.typeIs, ?_⟩
    refine HT.getItem_tuple_cut ht hs pl pu (by rw [hlen]; exact hw) ?_ (by rw [hlen]; exact hz)
    rw [hlen]
    refine ⟨.ref s.heap.objs.size, _, I.laid (t' := s.toks) (o := .frz { cls := .type "tuple", data := .seq (((is.drop (HT.sIx xs.length 0 lo)).take (HT.sIx xs.length xs.length hi - HT.sIx xs.length 0 lo))).toArray } (.tup (cutV xs lo hi))) (fun _ _ q => Heap.get?_push_of_some _ q) (Nat.le_refl _) ?_, rfl, q2 _ _ (I.hok.fresh (Nat.le_refl _)) rfl⟩
    exact ⟨Heap.get?_push_size _ rfl, Nat.le_trans (cutV_length xs lo hi) hz, _, (r.drop (HT.sIx xs.length 0 lo)).take (HT.sIx xs.length xs.length hi - HT.sIx xs.length 0 lo), IsTup.new _ _⟩
def rSlD (Y : Cfg) : V → Option Int → Option Int → Hp → VK → Prop := fun x lo hi H Q => ∃ z dx dr, RT Y z H dx x ∧ slD dx lo hi = some dr ∧ (∀ p, H p = none → p ∉ z) ∧ ∀ v H', Nw H H' → RD Y z H' dr v → Q v H'
theorem RDs.cut {Y : Cfg} {z : List Addr} {H : Hp} {ds : List D} {vs : List V} (r : RDs Y z H ds vs) (lo hi : Option Int) : RDs Y z H (cut ds lo hi) (cut vs lo hi) := by
  unfold Kr.cut
  rw [r.length]
  exact (r.drop _).take _
theorem sl_D {X : Cx} {Y : Cfg} (hK : X.K = Y.K) : SlR X (rSlD Y) := by
  intro pins s σ H x v vl vu lo hi sl Q I rx0 hs pl pu h
  obtain ⟨z, dx, dr, rx, e, hz, q⟩ := h
  unfold slD at e
  split at e
  · rename_i xs
    cases e
    obtain ⟨r0, p, vs, rfl, h, r⟩ := rx.tup
    rw [← hK] at h
    refine sl_tupF pins s σ H _ v vl vu lo hi sl Q I rx0 hs pl pu ⟨p, vs, rfl, h, fun w => ?_, fun p' o hp' ho => ?_⟩
    · have : Kr.cut xs lo hi = xs := by
        unfold Kr.cut
        rw [cutAt_eq, cutAt_eq, r.length, w.1, w.2, Nat.sub_zero, List.drop_zero, ← r.length, List.take_length]
      rw [this] at q
      exact q _ _ (.inl rfl) r0
    · rw [cut_V]
      exact q _ _ (.inr ⟨p', _, hp', rfl⟩) (RD.new_tup hz (r.cut lo hi) hp' ho)
  · rename_i xs
    cases e
    obtain ⟨p, vs, rfl, h, r⟩ := rx.lst
    refine sl_list pins s σ H _ v vl vu lo hi sl Q I rx0 hs pl pu ⟨p, vs, rfl, .inl (.inl h), fun p' hp' => ?_⟩
    rw [cut_V]
    exact q _ _ (.inr ⟨p', _, hp', rfl⟩) (RD.new_lst hz (r.cut lo hi) hp')
  · rename_i t
    obtain ⟨rfl, ha⟩ := rx.str
    split at e
    · rename_i c
      cases e
      refine sl_str pins s σ H _ v vl vu lo hi sl Q I rx0 hs pl pu ⟨mkS t, rfl, by rw [mkS_len, ← sz_line]; exact c, ?_⟩
      have e2 : cutS (mkS t) lo hi = mkS (Kr.cut t lo hi) := by
        refine str_ext ?_
        unfold Kr.cut
        rw [cutAt_eq, cutAt_eq]
        first
          | rfl
          | (unfold cutS; simp [mkS, Str.length])
      rw [e2]
      exact q _ _ (.inl rfl) (.str _ (ha.sub fun c h => cut_mem h))
    · cases e
  · cases e
end Kr
/-! KrJ1: the judgements (a token is out), expressions. -/
namespace Kr
open PySem PySem.Spec PyProof.Rows L2

def RE.el {α : Type} (K : α → Sto → Prop) (X : Nat → Sto → Prop) : RE α → Prop
  | .ok a S => K a S
  | .ex c S => X c S
  | .bad => False
section
variable {α β : Type} {K K' : α → Sto → Prop} {L : β → Sto → Prop} {X : Nat → Sto → Prop} {r : RE α} {S : Sto}
theorem RE.el_bind {g : α → Sto → RE β} (h : (r.bind g).el L X) : r.el (fun a S => (g a S).el L X) X := by
  cases r with
  | ok a S => exact h
  | ex c S => exact h
  | bad => exact h
theorem RE.el_imp (h : r.el K X) (i : ∀ a S, K a S → K' a S) : r.el K' X := by
  cases r with
  | ok a S => exact i _ _ h
  | ex c S => exact h
  | bad => exact h
theorem RE.el_of {o : Option α} (h : (RE.of S o).el K X) : ∃ a, o = some a ∧ K a S := by
  cases o with
  | none => exact h.elim
  | some a => exact ⟨a, rfl, h⟩
end

/-- where a def's body runs: the context, what its row says, the places that are its callers', the store and the heap at its entry, the wish about exceptions -/
structure Jx where
  X : Cx
  Y : Cfg
  av : List Addr
  m0 : List Addr
  H0 : Hp
  Wx : WX
/-- what holds of it all through -/
structure Jx.Ok (J : Jx) : Prop where
  hK : J.X.K = J.Y.K
  tk : Takes J.X J.Wx
  un : J.X.A.units + 65 < cLine
structure Sta (J : Jx) (pins : List (Addr × Obj)) (σ : L2.St) (m : List Addr) (S : Sto) (l : Sl) (H : Hp) (s : Shared) : Prop where
  tok : 1 ≤ s.toks
  inv : Inv J.X pins σ H s
  fra : Fra J.m0 J.H0 m H
  rel : Rel J.Y J.av m S l σ H
def Jx.Xc (J : Jx) (σ : L2.St) (l : Sl) (c : Nat) (S : Sto) : Prop := ∀ m' H', Fra J.m0 J.H0 m' H' → Rel J.Y J.av m' S l σ H' → J.Wx (.ref (J.Y.xA c)) none σ H'
/-- how an evaluator's end lies behind a piece of code -/
def Post (J : Jx) (pins : List (Addr × Obj)) (σ : L2.St) (l : Sl) (m : List Addr) (H : Hp) {α β : Type} (R : List Addr → Hp → α → β → Prop) (K : α → Sto → Prop) (u : β) (s' : Shared) : Prop :=
  ∃ w S' m' H', K w S' ∧ Sta J pins σ m' S' l H' s' ∧ Fra m H m' H' ∧ R m' H' w u
def Jg (J : Jx) {α β : Type} (R : List Addr → Hp → α → β → Prop) (c : Sem β) (f : Sl → Sto → RE α) : Prop :=
  ∀ (pins : List (Addr × Obj)) (s : Shared) (σ : L2.St) (H : Hp) (m : List Addr) (S : Sto) (l : Sl) (K : α → Sto → Prop), Sta J pins σ m S l H s → (f l S).el K (J.Xc σ l) →
    wpAny (model J.X.prog J.X.w) J.X.A c (Post J pins σ l m H R K) J.X.xe s
def RelW (Y : Cfg) (av m : List Addr) (H : Hp) (w : W) (u : Value) : Prop := ∃ v, RW Y av m H w v ∧ RelV v u
def RelWs (Y : Cfg) (av m : List Addr) (H : Hp) (ws : List W) (us : List Value) : Prop := ∃ vs, RWs Y av m H ws vs ∧ Vals vs us
def RelD (Y : Cfg) (av m : List Addr) (H : Hp) (d : D) (u : Value) : Prop := ∃ v, RT Y (av ++ m) H d v ∧ RelV v u
def JE (J : Jx) (e : Expr) (f : Sl → Sto → RE W) : Prop := Jg J (RelW J.Y J.av) (eval e J.X.env) f
def JD (J : Jx) (e : Expr) (f : Sl → Sto → RE D) : Prop := Jg J (RelD J.Y J.av) (eval e J.X.env) f
def JT (J : Jx) (e : Expr) (f : Sl → Sto → RE Bool) : Prop := Jg J (fun _ _ a b => a = b) (isTrue e J.X.env (eval e J.X.env)) f
/-- a test whatever its whole is -/
def JTw (J : Jx) (e : Expr) (f : Sl → Sto → RE Bool) : Prop := ∀ wh : Sem Value, Jg J (fun _ _ a b => a = b) (isTrue e J.X.env wh) f
def JA (J : Jx) (es : List Expr) (f : Sl → Sto → RE (List W)) : Prop := ∀ pos : Pos, Jg J (RelWs J.Y J.av) (spliced (backTo pos (starEach es J.X.env))) f
def JO (J : Jx) (e : Option Expr) (f : Sl → Sto → RE (Option Int)) : Prop := Jg J (fun _ _ o u => IsPart u o) (evalPart e J.X.env) f

section
variable {J : Jx} {pins : List (Addr × Obj)} {σ : L2.St} {m m1 m2 : List Addr} {S S1 S2 : Sto} {l : Sl} {H H1 H2 : Hp} {s s1 : Shared}
theorem Sta.mv (st : Sta J pins σ m S l H s) (t : 1 ≤ s1.toks) (I : Inv J.X pins σ H1 s1) (f : Fra m H m1 H1) (r : RSt J.Y J.av m1 S1 H1) : Sta J pins σ m1 S1 l H1 s1 :=
  ⟨t, I, st.fra.trans f, st.rel.fra f r⟩
theorem Sta.free (st : Sta J pins σ m S l H s) {p : Addr} (h : H p = none) : p ∉ J.av ++ m := st.rel.st.fresh h
/-- what a rule by values is to show -/
def QV (J : Jx) (m : List Addr) (H : Hp) (K : W → Sto → Prop) : VK := fun v H' => ∃ w S' m', K w S' ∧ Fra m H m' H' ∧ RSt J.Y J.av m' S' H' ∧ RW J.Y J.av m' H' w v
theorem fin {c : Sem Value} {K : W → Sto → Prop} (st : Sta J pins σ m1 S1 l H1 s) (f : Fra m H m1 H1) (h : wpAny (model J.X.prog J.X.w) J.X.A c (EP J.X pins σ (QV J m1 H1 K)) J.X.xe s) :
    wpAny (model J.X.prog J.X.w) J.X.A c (Post J pins σ l m H (RelW J.Y J.av) K) J.X.xe s := by
  refine wpAny_mono (PySem.wpAny_toks_of st.tok h) (fun u s' q => ?_) fun _ _ z => z.2
  obtain ⟨t, v, H', I, r, w, S', m', k, g, rs, rw'⟩ := q
  exact ⟨w, S', m', H', k, st.mv t I g rs, f.trans g, v, rw', r⟩
theorem QV.nw {K : W → Sto → Prop} {d : D} {v : V} (st : Sta J pins σ m S l H s) (k : K (.d d) S) (n : Nw H H1) (r : RD J.Y (J.av ++ m) H1 d v) : QV J m H K v H1 := by
  rcases n with rfl | ⟨p, o, hp, rfl⟩
  · exact ⟨_, S, m, k, .refl, st.rel.st, r⟩
  · exact ⟨_, S, m, k, .laid hp, st.rel.st.laid hp, r⟩
theorem QV.same {K : W → Sto → Prop} {w : W} {v : V} (st : Sta J pins σ m S l H s) (k : K w S) (r : RW J.Y J.av m H w v) : QV J m H K v H := ⟨_, S, m, k, .refl, st.rel.st, r⟩
/-- a value is there at once -/
theorem Post.at {α β : Type} {R : List Addr → Hp → α → β → Prop} {K : α → Sto → Prop} {w : α} {u : β} (st : Sta J pins σ m1 S1 l H1 s) (f : Fra m H m1 H1) (k : K w S1) (r : R m1 H1 w u) : Post J pins σ l m H R K u s := ⟨w, S1, m1, H1, k, st, f, r⟩
theorem Sta.tok' (st : Sta J pins σ m S l H s) {t : Nat} (h : 1 ≤ t) : Sta J pins σ m S l H { s with toks := t } := ⟨h, st.inv.tok t, st.fra, st.rel⟩
theorem Sta.up (st : Sta J pins σ m S l H s) : Sta J pins σ m S l H { s with toks := s.toks + 1 } := st.tok' (Nat.le_add_left _ _)
/-- a value that is looked at -/
theorem look_RT (st : RSt J.Y J.av m S H) {w : W} {d : D} {v : V} (r : RW J.Y J.av m H w v) (e : look1 S w = some d) : RT J.Y (J.av ++ m) H d v := by
  cases w with
  | d x => cases e; exact .inl r
  | r n =>
    obtain ⟨a, ha, rfl⟩ := r
    have e : (match S[n]? with
      | some (.lst ws) => (W.dats ws).map D.lst
      | _ => none) = some d := e
    cases q : S[n]? with
    | none => rw [q] at e; cases e
    | some o =>
      rw [q] at e
      cases o with
      | lst ws =>
        have e : (W.dats ws).map D.lst = some d := e
        cases q2 : W.dats ws with
        | none => rw [q2] at e; cases e
        | some ds =>
          rw [q2] at e
          cases e
          obtain ⟨b, hb, vs, h1, h2⟩ := st.at_ n _ q
          rw [ha] at hb
          cases hb
          exact .inr ⟨ds, a, vs, rfl, rfl, h1, h2.dats q2⟩
      | ins c ws => cases e
      | dct kvs => cases e
      | dtp kvs => cases e
  | f g cs => cases e
theorem JE.dat {e : Expr} {f : Sl → Sto → RE W} (h : JE J e f) : JD J e (fun l S => asD (f l S)) := by
  intro pins s σ H m S l K st k
  refine thn (h pins s σ H m S l _ st (RE.el_bind k)) fun u s1 ⟨w, S1, m1, H1, k1, st1, f1, v, r1, r2⟩ => ?_
  obtain ⟨d, e, k2⟩ := RE.el_of k1
  exact ⟨d, S1, m1, H1, k2, st1, f1, v, look_RT st1.rel.st r1 e, r2⟩
theorem opt2_RT {α : Type} {g : D → D → Option α} {a : α} (st : RSt J.Y J.av m S H) {v w : W} {x y : V} (rx : RW J.Y J.av m H v x) (ry : RW J.Y J.av m H w y) (e : opt2 g S v w = some a) :
    ∃ dx dy, RT J.Y (J.av ++ m) H dx x ∧ RT J.Y (J.av ++ m) H dy y ∧ g dx dy = some a := by
  unfold opt2 at e
  split at e
  · rename_i dx dy e1 e2
    exact ⟨dx, dy, look_RT st rx e1, look_RT st ry e2, e⟩
  · cases e
end

section
variable {J : Jx} {a b c e : Expr} {fa fb fc : Sl → Sto → RE W} {pos : Pos}
/-! ### names, constants -/
theorem je_none {j : Nat} : JE J (.Constant .none j pos) (fun _ S => .ok (.d .non) S) := fun pins s σ H m S l K st k =>
  Constant_none (Post.at st .refl k ⟨.non, .non, rfl⟩)
theorem je_bool {j : Nat} {x : Bool} : JE J (.Constant (.bool x) j pos) (fun _ S => .ok (.d (.bl x)) S) := fun pins s σ H m S l K st k =>
  Constant_bool (Post.at st .refl k ⟨.bl x, .bl x, rfl⟩)
theorem je_int {j : Nat} {i : Int} : JE J (.Constant (.int i) j pos) (fun _ S => .ok (.d (.int i)) S) := fun pins s σ H m S l K st k =>
  wpAny_Constant_int (Post.at st.up .refl k ⟨.int i, .int i, _, rfl⟩)
theorem je_str {j : Nat} {x : List Nat} (h : Asc x) : JE J (.Constant (.str (mkS x)) j pos) (fun _ S => .ok (.d (.str x)) S) := fun pins s σ H m S l K st k =>
  Calls.Constant_str (Post.at st.up .refl k ⟨.str (mkS x), .str x h, _, rfl⟩)
theorem je_var {i : Nat} {x : Str} (hN : J.X.N[i]? = some x) (hv : Vis J.X.env.scope x) (hd : (x == ("__debug__" : Str)) = false) (hcd : (x == ("__classdict__" : Str)) = false) : JE J (.Name x pos) (rdVar i) := by
  intro pins s σ H m S l K st k
  unfold rdVar at k
  split at k
  · rename_i w e
    obtain ⟨v, e1, r⟩ := st.rel.sl.2 i w e
    exact raw_name hN hv st.inv e1 (fun u ru => Post.at st .refl k ⟨v, r, ru⟩) hd hcd
  · exact k.elim
/-- a constant of the top -/
def KD (Y : Cfg) (d : D) (u : Value) : Prop := ∃ v, RelV v u ∧ ∀ z H, RD Y z H d v
theorem je_glob {x : Str} {u : Value} {d : D} (hg : Gl J.X x) (hm : J.X.mg x = some u) (r : KD J.Y d u) (hd : (x == ("__debug__" : Str)) = false) : JE J (.Name x pos) (fun _ S => .ok (.d d) S) := by
  intro pins s σ H m S l K st k
  obtain ⟨v, r1, r2⟩ := r
  exact ld_glob st.inv hg hm (Post.at st .refl k ⟨v, r2 _ _, r1⟩) hd
/-! ### operators -/
theorem je_bin (ok : J.Ok) (o : Bop) (ha : JE J a fa) (hb : JE J b fb) : JE J (.BinOp a (bopOf o) b pos) (fun l S => (fa l S).bind fun v S => (fb l S).bind fun w S => .of S ((opt2 (evBin o) S v w).map .d)) := by
  intro pins s σ H m S l K st k
  refine wpAny_BinOp (thn (ha pins s σ H m S l _ st (RE.el_bind k)) fun u1 s1 ⟨v, S1, m1, H1, k1, st1, f1, x, r1, q1⟩ => thn (hb pins s1 σ H1 m1 S1 l _ st1 (RE.el_bind k1)) fun u2 s2 ⟨w, S2, m2, H2, k2, st2, f2, y, r2, q2⟩ => ?_)
  obtain ⟨z, e, k3⟩ := RE.el_of k2
  obtain ⟨d, e2, rfl⟩ := Option.map_eq_some_iff.mp e
  obtain ⟨dx, dy, t1, t2, e3⟩ := opt2_RT st2.rel.st (f2.rw r1) r2 e2
  exact fin st2 (f1.trans f2) (op_bin ok.hK o pins s2 σ H2 x y u1 u2 _ st2.inv q1 q2 ⟨_, dx, dy, d, t1, t2, e3, fun p hp => st2.free hp, fun v' H' n rd => QV.nw st2 k3 n rd⟩)
theorem je_neg (ha : JE J a fa) : JE J (.UnaryOp .USub a pos) (fun l S => (asD (fa l S)).bind fun x S => (match x with
    | .int i => .ok (.d (.int (-i))) S
    | _ => .bad)) := by
  intro pins s σ H m S l K st k
  refine UnaryOp_ (thn (ha.dat pins s σ H m S l _ st (RE.el_bind k)) fun u1 s1 ⟨d, S1, m1, H1, k1, st1, f1, x, r1, q1⟩ => ?_)
  cases d with
  | int i =>
    obtain rfl := r1.int
    exact fin st1 f1 (un_neg pins s1 σ H1 _ u1 _ st1.inv q1 ⟨i, rfl, QV.same (w := .d (.int (-i))) st1 k1 (.int _)⟩)
  | _ => exact k1.elim
/-- what a comparison is -/
theorem cmp_go (ok : J.Ok) (o : Cop) {pins : List (Addr × Obj)} {σ : L2.St} {m : List Addr} {S : Sto} {l : Sl} {H : Hp} {s : Shared} {v w : W} {x y : V} {u1 u2 : Value} {t : Bool} {Q : Value → Shared → Prop} (st : Sta J pins σ m S l H s)
    (rx : RW J.Y J.av m H v x) (ry : RW J.Y J.av m H w y) (q1 : RelV x u1) (q2 : RelV y u2) (e : opt2 (evCmp o) S v w = some t) (h : ∀ s', Sta J pins σ m S l H s' → Q (.bool t) s') :
    wpAny (model J.X.prog J.X.w) J.X.A (compareOp (copOf o) u1 u2) Q J.X.xe s := by
  obtain ⟨dx, dy, t1, t2, e3⟩ := opt2_RT st.rel.st rx ry e
  refine wpAny_mono (PySem.wpAny_toks_of st.tok (op_cmp ok.hK ok.un o pins s σ H x y u1 u2 (fun v' H' => v' = .bl t ∧ H' = H) st.inv q1 q2 ⟨_, dx, dy, t, t1, t2, e3, rfl, rfl⟩)) (fun u s' q => ?_) fun _ _ z => z.2
  obtain ⟨tk, v', H', I, r, rfl, rfl⟩ := q
  cases r
  exact h s' ⟨tk, I, st.fra, st.rel⟩
theorem je_cmp (ok : J.Ok) (o : Cop) (ha : JE J a fa) (hb : JE J b fb) (hm : behindInMarks (copOf o) b = false) :
    JE J (.Compare a [copOf o] [b] pos) (fun l S => (fa l S).bind fun v S => (fb l S).bind fun w S => .of S ((opt2 (evCmp o) S v w).map fun k => .d (.bl k))) := by
  intro pins s σ H m S l K st k
  refine wpAny_Compare1 (thn (ha pins s σ H m S l _ st (RE.el_bind k)) fun u1 s1 ⟨v, S1, m1, H1, k1, st1, f1, x, r1, q1⟩ => thn (hb pins s1 σ H1 m1 S1 l _ st1 (RE.el_bind k1)) fun u2 s2 ⟨w, S2, m2, H2, k2, st2, f2, y, r2, q2⟩ => ?_) hm
  obtain ⟨z, e, k3⟩ := RE.el_of k2
  obtain ⟨d, e2, rfl⟩ := Option.map_eq_some_iff.mp e
  exact cmp_go ok o st2 (f2.rw r1) r2 q1 q2 e2 fun s' st' => Post.at st' (f1.trans f2) k3 ⟨.bl d, .bl d, rfl⟩
theorem jt_cmp (ok : J.Ok) (o : Cop) (ha : JE J a fa) (hb : JE J b fb) (hm : behindInMarks (copOf o) b = false) :
    JT J (.Compare a [copOf o] [b] pos) (fun l S => (fa l S).bind fun v S => (fb l S).bind fun w S => .of S (opt2 (evCmp o) S v w)) := by
  intro pins s σ H m S l K st k
  refine wpAny_isTrue_Compare1 (thn (ha pins s σ H m S l _ st (RE.el_bind k)) fun u1 s1 ⟨v, S1, m1, H1, k1, st1, f1, x, r1, q1⟩ => thn (hb pins s1 σ H1 m1 S1 l _ st1 (RE.el_bind k1)) fun u2 s2 ⟨w, S2, m2, H2, k2, st2, f2, y, r2, q2⟩ => ?_) hm
  obtain ⟨z, e, k3⟩ := RE.el_of k2
  exact cmp_go ok o st2 (f2.rw r1) r2 q1 q2 e fun s' st' => wpAny_truthy_bool (Post.at st' (f1.trans f2) k3 rfl)
theorem je_chn (ok : J.Ok) (o p : Cop) (ha : JE J a fa) (hb : JE J b fb) (hc : JE J c fc) (hm : lastMarks [copOf o, copOf p] [b, c] = false) :
    JE J (.Compare a [copOf o, copOf p] [b, c] pos) (fun l S => (fa l S).bind fun v S => (fb l S).bind fun w S => (match opt2 (evCmp o) S v w with
    | some true => (fc l S).bind fun u S => .of S ((opt2 (evCmp p) S w u).map fun k => .d (.bl k))
    | some false => .ok (.d (.bl false)) S
    | none => .bad)) := by
  intro pins s σ H m S l K st k
  refine Compare_chain (thn (ha pins s σ H m S l _ st (RE.el_bind k)) fun u1 s1 ⟨v, S1, m1, H1, k1, st1, f1, x, r1, q1⟩ => chain_link (thn (hb pins s1 σ H1 m1 S1 l _ st1 (RE.el_bind k1)) fun u2 s2 ⟨w, S2, m2, H2, k2, st2, f2, y, r2, q2⟩ => ?_)) hm
  dsimp only at k2
  split at k2
  · rename_i e
    refine cmp_go ok o st2 (f2.rw r1) r2 q1 q2 e fun s3 st3 => wpAny_truthy_bool (ite_tt (chain_last ?_))
    refine thn (hc pins s3 σ H2 m2 S2 l _ st3 (RE.el_bind k2)) fun u3 s4 ⟨w3, S4, m4, H4, k4, st4, f4, y3, r4, q4⟩ => ?_
    obtain ⟨z, e4, k5⟩ := RE.el_of k4
    obtain ⟨d, e5, rfl⟩ := Option.map_eq_some_iff.mp e4
    exact cmp_go ok p st4 (f4.rw r2) r4 q2 q4 e5 fun s' st' => Post.at st' ((f1.trans f2).trans f4) k5 ⟨.bl d, .bl d, rfl⟩
  · rename_i e
    exact cmp_go ok o st2 (f2.rw r1) r2 q1 q2 e fun s3 st3 => wpAny_truthy_bool (ite_ff (Post.at st3 (f1.trans f2) k2 ⟨.bl false, .bl false, rfl⟩))
  · exact k2.elim
theorem jt_chn (ok : J.Ok) (o p : Cop) (ha : JE J a fa) (hb : JE J b fb) (hc : JE J c fc) (hm : lastMarks [copOf o, copOf p] [b, c] = false) :
    JT J (.Compare a [copOf o, copOf p] [b, c] pos) (fun l S => (fa l S).bind fun v S => (fb l S).bind fun w S => (match opt2 (evCmp o) S v w with
    | some true => (fc l S).bind fun u S => .of S (opt2 (evCmp p) S w u)
    | some false => .ok false S
    | none => .bad)) := by
  intro pins s σ H m S l K st k
  refine isTrue_chain (thn (ha pins s σ H m S l _ st (RE.el_bind k)) fun u1 s1 ⟨v, S1, m1, H1, k1, st1, f1, x, r1, q1⟩ => test_link (thn (hb pins s1 σ H1 m1 S1 l _ st1 (RE.el_bind k1)) fun u2 s2 ⟨w, S2, m2, H2, k2, st2, f2, y, r2, q2⟩ => ?_)) hm
  dsimp only at k2
  split at k2
  · rename_i e
    refine cmp_go ok o st2 (f2.rw r1) r2 q1 q2 e fun s3 st3 => wpAny_truthy_bool (ite_tt (test_last ?_))
    refine thn (hc pins s3 σ H2 m2 S2 l _ st3 (RE.el_bind k2)) fun u3 s4 ⟨w3, S4, m4, H4, k4, st4, f4, y3, r4, q4⟩ => ?_
    obtain ⟨z, e4, k5⟩ := RE.el_of k4
    exact cmp_go ok p st4 (f4.rw r2) r4 q2 q4 e4 fun s' st' => wpAny_truthy_bool (Post.at st' ((f1.trans f2).trans f4) k5 rfl)
  · rename_i e
    exact cmp_go ok o st2 (f2.rw r1) r2 q1 q2 e fun s3 st3 => wpAny_truthy_bool (ite_ff (Post.at st3 (f1.trans f2) k2 rfl))
  · exact k2.elim
/-! ### truth -/
theorem truth_go (ok : J.Ok) {pins : List (Addr × Obj)} {σ : L2.St} {m : List Addr} {S : Sto} {l : Sl} {H : Hp} {s : Shared} {d : D} {x : V} {u : Value} {t : Bool} {Q : Bool → Shared → Prop} (st : Sta J pins σ m S l H s)
    (r : RT J.Y (J.av ++ m) H d x) (q : RelV x u) (e : truD d = some t) (h : ∀ s', Sta J pins σ m S l H s' → Q t s') : wpAny (model J.X.prog J.X.w) J.X.A (truthy u) Q J.X.xe s := by
  refine wpAny_mono (PySem.wpAny_toks_of st.tok (tru_ok pins s σ H x u (fun b H' => b = t ∧ H' = H) st.inv q ⟨t, tru_D ok.hK r e, rfl, rfl⟩)) (fun b s' z => ?_) fun _ _ z => z.2
  obtain ⟨tk, H', I, rfl, rfl⟩ := z
  exact h s' ⟨tk, I, st.fra, st.rel⟩
theorem jt_val (ok : J.Ok) (ha : JE J a fa) (hp : ∀ whole, isTrue a J.X.env whole = (do let v ← whole; standAt a.pos; holding [v] (truthy v))) : JT J a (fun l S => (asD (fa l S)).bind fun x S => .of S (truD x)) := by
  intro pins s σ H m S l K st k
  refine isTrue_plain (thn (ha.dat pins s σ H m S l _ st (RE.el_bind k)) fun u1 s1 ⟨d, S1, m1, H1, k1, st1, f1, x, r1, q1⟩ => ?_) (hp _)
  obtain ⟨t, e, k2⟩ := RE.el_of k1
  exact truth_go ok st1 r1 q1 e fun s' st' => Post.at st' f1 k2 rfl
theorem je_not (ok : J.Ok) (ha : JE J a fa) : JE J (.UnaryOp .Not a pos) (fun l S => (asD (fa l S)).bind fun x S => .of S ((truD x).map fun k => .d (.bl (!k)))) := by
  intro pins s σ H m S l K st k
  refine UnaryOp_ (thn (ha.dat pins s σ H m S l _ st (RE.el_bind k)) fun u1 s1 ⟨d, S1, m1, H1, k1, st1, f1, x, r1, q1⟩ => ?_)
  obtain ⟨z, e, k2⟩ := RE.el_of k1
  obtain ⟨t, e2, rfl⟩ := Option.map_eq_some_iff.mp e
  exact not_of (truth_go ok st1 r1 q1 e2 fun s' st' => Post.at st' f1 k2 ⟨.bl (!t), .bl _, rfl⟩)
variable {ta tb : Sl → Sto → RE Bool} {rest : List Expr}
theorem jt_not (ha : JT J a ta) : JT J (.UnaryOp .Not a pos) (fun l S => (ta l S).bind fun k S => .ok (!k) S) := by
  intro pins s σ H m S l K st k
  refine isTrue_not (thn (ha pins s σ H m S l _ st (RE.el_bind k)) fun b s1 ⟨t, S1, m1, H1, k1, st1, f1, e⟩ => ?_)
  subst e
  exact Post.at st1 f1 k1 rfl
theorem JTw.pt {f : Sl → Sto → RE Bool} (h : JTw J a f) : JT J a f := h _
theorem jt_and1 (ha : JT J a ta) : JTw J (.BoolOp .And [a] pos) (fun l S => (ta l S).bind fun k S => if k then .ok true S else .ok false S) := by
  intro wh pins s σ H m S l K st k
  refine isTrue_and (thn (ha pins s σ H m S l _ st (RE.el_bind k)) fun b s1 ⟨t, S1, m1, H1, k1, st1, f1, e⟩ => ?_)
  subst e
  cases t with
  | true => exact isTrue_and_nil (Post.at st1 f1 k1 rfl)
  | false => exact Post.at st1 f1 k1 rfl
theorem jt_or1 (ha : JT J a ta) : JTw J (.BoolOp .Or [a] pos) (fun l S => (ta l S).bind fun k S => if k then .ok true S else .ok false S) := by
  intro wh pins s σ H m S l K st k
  refine isTrue_or (thn (ha pins s σ H m S l _ st (RE.el_bind k)) fun b s1 ⟨t, S1, m1, H1, k1, st1, f1, e⟩ => ?_)
  subst e
  cases t with
  | true => exact Post.at st1 f1 k1 rfl
  | false => exact isTrue_or_nil (Post.at st1 f1 k1 rfl)
theorem jt_and (ha : JT J a ta) (hb : JTw J (.BoolOp .And (b :: rest) pos) tb) : JTw J (.BoolOp .And (a :: b :: rest) pos) (fun l S => (ta l S).bind fun k S => if k then tb l S else .ok false S) := by
  intro wh pins s σ H m S l K st k
  refine isTrue_and (thn (ha pins s σ H m S l _ st (RE.el_bind k)) fun b s1 ⟨t, S1, m1, H1, k1, st1, f1, e⟩ => ?_)
  subst e
  cases t with
  | true =>
    refine thn (hb wh pins s1 σ H1 m1 S1 l _ st1 k1) fun b2 s2 ⟨t2, S2, m2, H2, k2, st2, f2, e⟩ => ?_
    exact ⟨t2, S2, m2, H2, k2, st2, f1.trans f2, e⟩
  | false => exact Post.at st1 f1 k1 rfl
theorem jt_or (ha : JT J a ta) (hb : JTw J (.BoolOp .Or (b :: rest) pos) tb) : JTw J (.BoolOp .Or (a :: b :: rest) pos) (fun l S => (ta l S).bind fun k S => if k then .ok true S else tb l S) := by
  intro wh pins s σ H m S l K st k
  refine isTrue_or (thn (ha pins s σ H m S l _ st (RE.el_bind k)) fun b s1 ⟨t, S1, m1, H1, k1, st1, f1, e⟩ => ?_)
  subst e
  cases t with
  | true => exact Post.at st1 f1 k1 rfl
  | false =>
    refine thn (hb wh pins s1 σ H1 m1 S1 l _ st1 k1) fun b2 s2 ⟨t2, S2, m2, H2, k2, st2, f2, e⟩ => ?_
    exact ⟨t2, S2, m2, H2, k2, st2, f1.trans f2, e⟩
theorem je_one {op : BoolOp} (ha : JE J a fa) : JE J (.BoolOp op [a] pos) fa := fun pins s σ H m S l K st k => BoolOp_one (ha pins s σ H m S l K st k)
theorem je_and (ha : JE J a fa) (hb : JE J (.BoolOp .And (b :: rest) pos) fb) : JE J (.BoolOp .And (a :: b :: rest) pos) (fun l S => (asD (fa l S)).bind fun x S => (match x with
      | .bl true => fb l S
      | .bl false => .ok (.d (.bl false)) S
      | _ => .bad)) := by
  intro pins s σ H m S l K st k
  refine BoolOp_and (thn (ha.dat pins s σ H m S l _ st (RE.el_bind k)) fun u1 s1 ⟨d, S1, m1, H1, k1, st1, f1, x, r1, q1⟩ => ?_)
  dsimp only at k1
  split at k1
  · obtain rfl := r1.bl
    cases q1
    refine wpAny_truthy_bool (thn (hb pins s1 σ H1 m1 S1 l _ st1 k1) fun u2 s2 ⟨w2, S2, m2, H2, k2, st2, f2, r2⟩ => ⟨w2, S2, m2, H2, k2, st2, f1.trans f2, r2⟩)
  · obtain rfl := r1.bl
    cases q1
    exact wpAny_truthy_bool (Post.at st1 f1 k1 ⟨.bl false, .bl false, rfl⟩)
  · exact k1.elim
theorem je_or (ha : JE J a fa) (hb : JE J (.BoolOp .Or (b :: rest) pos) fb) : JE J (.BoolOp .Or (a :: b :: rest) pos) (fun l S => (asD (fa l S)).bind fun x S => (match x with
      | .bl false => fb l S
      | .bl true => .ok (.d (.bl true)) S
      | _ => .bad)) := by
  intro pins s σ H m S l K st k
  refine BoolOp_or (thn (ha.dat pins s σ H m S l _ st (RE.el_bind k)) fun u1 s1 ⟨d, S1, m1, H1, k1, st1, f1, x, r1, q1⟩ => ?_)
  dsimp only at k1
  split at k1
  · obtain rfl := r1.bl
    cases q1
    refine wpAny_truthy_bool (thn (hb pins s1 σ H1 m1 S1 l _ st1 k1) fun u2 s2 ⟨w2, S2, m2, H2, k2, st2, f2, r2⟩ => ⟨w2, S2, m2, H2, k2, st2, f1.trans f2, r2⟩)
  · obtain rfl := r1.bl
    cases q1
    exact wpAny_truthy_bool (Post.at st1 f1 k1 ⟨.bl true, .bl true, rfl⟩)
  · exact k1.elim
theorem je_ite (hc : JT J c ta) (ha : JE J a fa) (hb : JE J b fb) : JE J (.IfExp c a b pos) (fun l S => (ta l S).bind fun k S => if k then fa l S else fb l S) := by
  intro pins s σ H m S l K st k
  refine wpAny_IfExp (thn (hc pins s σ H m S l _ st (RE.el_bind k)) fun d s1 ⟨t, S1, m1, H1, k1, st1, f1, e⟩ => ?_)
  subst e
  cases t with
  | true => exact thn (ha pins s1 σ H1 m1 S1 l _ st1 k1) fun u2 s2 ⟨w2, S2, m2, H2, k2, st2, f2, r2⟩ => ⟨w2, S2, m2, H2, k2, st2, f1.trans f2, r2⟩
  | false => exact thn (hb pins s1 σ H1 m1 S1 l _ st1 k1) fun u2 s2 ⟨w2, S2, m2, H2, k2, st2, f2, r2⟩ => ⟨w2, S2, m2, H2, k2, st2, f1.trans f2, r2⟩
/-! ### argument lists -/
theorem ja_nil : JA J [] (fun _ S => .ok [] S) := fun _ pins s σ H m S l K st k => Calls.spliced_nil (Post.at st .refl k ⟨[], .nil, .nil⟩)
theorem ja_cons {es : List Expr} {fs : Sl → Sto → RE (List W)} (ha : JE J e fa) (hr : JA J es fs) (hs : starEach (e :: es) J.X.env = (false, eval e J.X.env) :: starEach es J.X.env) :
    JA J (e :: es) (fun l S => (fa l S).bind fun w S => (fs l S).bind fun ws S => .ok (w :: ws) S) := by
  intro pos pins s σ H m S l K st k
  rw [hs]
  show wpAny _ _ (spliced ((false, eval e J.X.env) :: backTo pos (starEach es J.X.env))) _ _ s
  refine Calls.spliced_cons (thn (ha pins s σ H m S l _ st (RE.el_bind k)) fun u1 s1 ⟨v, S1, m1, H1, k1, st1, f1, x, r1, q1⟩ => ?_)
  refine thn (hr pos pins s1 σ H1 m1 S1 l _ st1 (RE.el_bind k1)) fun us s2 ⟨ws, S2, m2, H2, k2, st2, f2, xs, r2, q2⟩ => ?_
  exact ⟨_, S2, m2, H2, k2, st2, f1.trans f2, _, .cons (f2.rw r1) r2, .cons q1 q2⟩
/-! ### parts of a slice -/
theorem jo_none : JO J none (fun _ S => .ok none S) := fun pins s σ H m S l K st k => by
  rw [evalPart_none]
  exact wpAny_pure (Post.at st .refl k .none)
theorem jo_some (ha : JE J e fa) (hp : evalPart (some e) J.X.env = eval e J.X.env) : JO J (some e) (fun l S => (asD (fa l S)).bind fun x S => (match x with
    | .int i => .ok (some i) S
    | _ => .bad)) := by
  intro pins s σ H m S l K st k
  rw [hp]
  refine thn (ha.dat pins s σ H m S l _ st (RE.el_bind k)) fun u1 s1 ⟨d, S1, m1, H1, k1, st1, f1, x, r1, q1⟩ => ?_
  cases d with
  | int i =>
    obtain rfl := r1.int
    obtain ⟨t, rfl⟩ := q1
    exact Post.at st1 f1 k1 (.int i t)
  | _ => exact k1.elim
/-! ### subscripts -/
theorem je_sl (ok : J.Ok) {lo hi : Option Expr} {fl fh : Sl → Sto → RE (Option Int)} {p2 : Pos} (ha : JE J a fa) (hl : JO J lo fl) (hh : JO J hi fh) : JE J (.Subscript a (.Slice lo hi none p2) pos)
    (fun l S => (fa l S).bind fun v S => (fl l S).bind fun i S => (fh l S).bind fun j S => .of S (((look1 S v).bind fun x => slD x i j).map .d)) := by
  intro pins s σ H m S l K st k
  refine Subscript_ (thn (ha pins s σ H m S l _ st (RE.el_bind k)) fun u1 s1 ⟨v, S1, m1, H1, k1, st1, f1, x, r1, q1⟩ => ?_)
  refine wpAny_Slice (thn (hl pins s1 σ H1 m1 S1 l _ st1 (RE.el_bind k1)) fun vl s2 ⟨i, S2, m2, H2, k2, st2, f2, p2⟩ => thn (hh pins s2 σ H2 m2 S2 l _ st2 (RE.el_bind k2)) fun vh s3 ⟨j, S3, m3, H3, k3, st3, f3, p3⟩ => ?_)
  rw [evalPart_none]
  refine wpAny_pure ?_
  obtain ⟨z, e, k4⟩ := RE.el_of k3
  obtain ⟨d, e2, rfl⟩ := Option.map_eq_some_iff.mp e
  obtain ⟨dx, e3, e4⟩ := Option.bind_eq_some_iff.mp e2
  have st4 : Sta J pins σ m3 S3 l H3 { s3 with heap := s3.heap.push { cls := .type "slice", data := .fields #[vl, vh, .none] } } :=
    ⟨st3.tok, st3.inv.kept (t' := s3.toks) fun _ _ q => Heap.get?_push_of_some _ q, st3.fra, st3.rel⟩
  obtain ⟨T, id, hT, ht, hg⟩ := sl_D ok.hK pins { s3 with heap := s3.heap.push { cls := .type "slice", data := .fields #[vl, vh, .none] } } σ H3 x u1 vl vh i j s3.heap.objs.size (QV J m3 H3 K) st4.inv q1 (Heap.IsSliceOf.new ..) p2 p3
    ⟨_, dx, d, look_RT st4.rel.st (f3.rw (f2.rw r1)) e3, e4, fun p hp => st4.free hp, fun v' H' n rd => QV.nw st4 k4 n rd⟩
  refine fin st4 ((f1.trans f2).trans f3) ?_
  exact tail_any (ops := [.ref s3.heap.objs.size, u1]) ht hT hg (by with_unfolding_all rfl)
theorem RWs.ix {Y : Cfg} {av m : List Addr} {H : Hp} {ws : List W} {vs : List V} (r : RWs Y av m H ws vs) {i : Int} {w : W} (e : ixAt ws i = some w) : ∃ v, L2.atI vs i = some v ∧ RW Y av m H w v := by
  rw [show (fun v => L2.atI vs i = some v ∧ RW Y av m H w v) = fun v => ixAt vs i = some v ∧ RW Y av m H w v from funext fun v => by rw [ixAt_eq]]
  unfold ixAt at e ⊢
  rw [← r.length]
  split at e
  · rename_i h
    rw [if_pos h]
    split at e
    · rename_i h2
      rw [if_pos h2]
      exact r.get e
    · cases e
  · rename_i h
    rw [if_neg h]
    split at e
    · rename_i h2
      rw [if_pos h2]
      exact r.get e
    · cases e
theorem je_ix (ok : J.Ok) (ha : JE J a fa) (hb : JE J b fb) (hs : ∀ o i, subscripted b false o i = operate [o, i] (getItem o i)) :
    JE J (.Subscript a b pos) (fun l S => (fa l S).bind fun v S => (asD (fb l S)).bind fun i S => evIx S v i) := by
  intro pins s σ H m S l K st k
  refine Subscript_ (thn (ha pins s σ H m S l _ st (RE.el_bind k)) fun u1 s1 ⟨v, S1, m1, H1, k1, st1, f1, x, r1, q1⟩ => thn (hb.dat pins s1 σ H1 m1 S1 l _ st1 (RE.el_bind k1)) fun u2 s2 ⟨i, S2, m2, H2, k2, st2, f2, y, r2, q2⟩ => ?_)
  refine fin st2 (f1.trans f2) ?_
  have rx := f2.rw r1
  unfold evIx at k2
  cases v with
  | d x0 =>
    obtain ⟨z, e, k3⟩ := RE.el_of k2
    obtain ⟨d, e2, rfl⟩ := Option.map_eq_some_iff.mp e
    exact ix_D ok.hK a b pins s2 σ H2 x y u1 u2 _ st2.inv q1 q2 ⟨_, x0, i, d, .inl rx, r2, e2, fun v' rd => QV.same (w := .d d) st2 k3 rd⟩ (hs _ _)
  | r n =>
    obtain ⟨p, hp, rfl⟩ := rx
    dsimp only at k2
    split at k2
    · rename_i xs i e
      obtain rfl := r2.int
      obtain ⟨w, e1, k3⟩ := RE.el_of k2
      obtain ⟨p', hp', vs, h1, h2⟩ := st2.rel.st.at_ n _ e
      rw [hp] at hp'
      cases hp'
      obtain ⟨v', e3, r3⟩ := h2.ix e1
      exact ix_list a b pins s2 σ H2 _ _ u1 u2 _ st2.inv q1 q2 ⟨p, vs, i, v', rfl, rfl, .inl (.inl h1), e3, QV.same st2 k3 r3⟩ (hs _ _)
    · exact k2.elim
  | f g cs => exact k2.elim
/-! ### a tuple, a list -/
theorem RSt.lenA {Y : Cfg} {av m : List Addr} {H : Hp} {ws : List W} {vs : List V} (r : RWs Y av m H ws vs) : ws.length = vs.length := r.length
theorem je_tup {es : List Expr} {fs : Sl → Sto → RE (List W)} {x1 : Nat} (h : JA J es fs) : JE J (.Tuple es x1 pos) (fun l S => (fs l S).bind fun ws S => (match W.dats ws with
    | some ds => if ds.length ≤ sz then .ok (.d (.tup ds)) S else .bad
    | none => .bad)) := by
  intro pins s σ H m S l K st k
  refine wpAny_Tuple_spliced (thn (h pos pins s σ H m S l _ st (RE.el_bind k)) fun us s1 ⟨ws, S1, m1, H1, k1, st1, f1, vs, r1, q1⟩ => ?_)
  dsimp only at k1
  split at k1
  · rename_i ds e
    split at k1
    · rename_i hl
      have rd := r1.dats e
      have hz : vs.length ≤ sizeLine := by rw [← sz_line, ← rd.length]; exact hl
      refine ⟨by rw [← q1.length]; exact hz, ?_⟩
      have hf : H1 s1.heap.objs.size = none := st1.inv.hok.fresh (Nat.le_refl _)
      refine ⟨.d (.tup ds), S1, m1, upd H1 s1.heap.objs.size (.frz { cls := .type "tuple", data := .seq us.toArray } (.tup vs)), k1, ?_, f1.trans (.laid hf), .ref s1.heap.objs.size, RD.new_tup (fun p hp => st1.free hp) rd hf rfl, rfl⟩
      exact st1.mv (s1 := { s1 with heap := s1.heap.push _ }) st1.tok (st1.inv.laid (t' := s1.toks) (fun _ _ q => Heap.get?_push_of_some _ q) (Nat.le_refl _) ⟨Heap.get?_push_size _ rfl, hz, us, q1, IsTup.new _ _⟩) (.laid hf) (st1.rel.st.laid hf)
    · exact k1.elim
  · exact k1.elim
theorem RO.new_lst {Y : Cfg} {av m : List Addr} {H : Hp} {S : Sto} {p : Addr} {ws : List W} {vs : List V} (r : RWs Y av m H ws vs) (hp : H p = none) : RO Y av (m ++ [p]) (upd H p (.lst vs)) p (.lst ws) :=
  ⟨vs, upd_same, (Fra.push hp).rws r⟩
theorem je_lst {es : List Expr} {fs : Sl → Sto → RE (List W)} {keep : Bool} (h : JA J es fs) : JE J (.List es pos) (fun l S => (fs l S).bind fun ws S => if ws.length ≤ sz then (if keep then .ok (.r S.length) (S ++ [.lst ws]) else match W.dats ws with
    | some ds => .ok (.d (.lst ds)) S
    | none => .bad) else .bad) := by
  intro pins s σ H m S l K st k
  refine wpAny_List_spliced (thn (h pos pins s σ H m S l _ st (RE.el_bind k)) fun us s1 ⟨ws, S1, m1, H1, k1, st1, f1, vs, r1, q1⟩ => ?_)
  dsimp only at k1
  split at k1
  · rename_i hl
    have hz : vs.length ≤ sizeLine := by rw [← sz_line, ← r1.length]; exact hl
    refine ⟨by rw [← q1.length]; exact hz, ?_⟩
    have hf : H1 s1.heap.objs.size = none := st1.inv.hok.fresh (Nat.le_refl _)
    have hI : Inv J.X pins σ (upd H1 s1.heap.objs.size (.lst vs)) { s1 with heap := s1.heap.push { cls := .type "list", data := .seq us.toArray } } :=
      st1.inv.laid (t' := s1.toks) (fun _ _ q => Heap.get?_push_of_some _ q) (Nat.le_refl _) ⟨hz, us, 0, q1, Heap.get?_push_size _ rfl⟩
    split at k1
    · refine ⟨_, _, m1 ++ [s1.heap.objs.size], _, k1, st1.mv (s1 := { s1 with heap := s1.heap.push _ }) st1.tok hI (.push hf) (st1.rel.st.push hf (RO.new_lst (S := S1) r1 hf)), f1.trans (.push hf), .ref s1.heap.objs.size, ⟨_, ?_, rfl⟩, rfl⟩
      rw [← st1.rel.st.len, List.getElem?_append_right (Nat.le_refl _), Nat.sub_self]
      rfl
    · split at k1
      · rename_i ds e
        exact ⟨_, _, m1, _, k1, st1.mv (s1 := { s1 with heap := s1.heap.push _ }) st1.tok hI (.laid hf) (st1.rel.st.laid hf), f1.trans (.laid hf), .ref s1.heap.objs.size, RD.new_lst (fun p hp => st1.free hp) (r1.dats e) hf, rfl⟩
      · exact k1.elim
  · exact k1.elim
/-! ### e.f -/
theorem zip_look {f : Str} : ∀ {fs : List Str} {vs : List V} {k : Nat} {v : V}, fs.Nodup → fs[k]? = some f → vs[k]? = some v → (fs.zip vs).lookup f = some v
  | [], _, _, _, _, e, _ => by simp at e
  | _ :: _, [], _, _, _, _, e => by simp at e
  | a :: fs, b :: vs, 0, v, _, e1, e2 => by
    simp at e1 e2
    subst e1 e2
    simp [List.lookup]
  | a :: fs, b :: vs, k + 1, v, nd, e1, e2 => by
    simp only [List.getElem?_cons_succ] at e1 e2
    have hne : (f == a) = false := by
      refine beq_eq_false_iff_ne.mpr fun z => ?_
      subst z
      exact (List.nodup_cons.mp nd).1 (List.mem_of_getElem? e1)
    show ((a, b) :: fs.zip vs).lookup f = some v
    simp only [List.lookup, hne]
    exact zip_look (List.nodup_cons.mp nd).2 e1 e2
/-- a field of a class -/
structure FldOk (J : Jx) (c k : Nat) (f : Str) : Prop where
  cls : Cls J.X.K (J.Y.cA c)
  no : NoAttr J.X.K (J.Y.cA c) f
  at_ : (J.Y.fs c)[k]? = some f
  nd : (J.Y.fs c).Nodup
theorem je_fld {c k : Nat} {f : Str} (F : FldOk J c k f) (ha : JE J a fa) (hb : attributeBase a f J.X.env (eval a J.X.env) = eval a J.X.env) : JE J (.Attribute a f pos) (fun l S => (fa l S).bind fun v S => evFld c k S v) := by
  intro pins s σ H m S l K st kk
  refine attr_of hb (thn (ha pins s σ H m S l _ st (RE.el_bind kk)) fun u1 s1 ⟨v, S1, m1, H1, k1, st1, f1, x, r1, q1⟩ => ?_)
  have go : ∀ {p dx : Addr} {vs : List V} {w : W} {y : V}, x = .ref p → H1 p = some (.ins (J.Y.cA c) dx ((J.Y.fs c).zip vs)) → vs[k]? = some y → RW J.Y J.av m1 H1 w y → K w S1 →
      wpAny (model J.X.prog J.X.w) J.X.A (getAttr u1 f true) (Post J pins σ l m H (RelW J.Y J.av) K) J.X.xe s1 := by
    intro p dx vs w y ex hp e rw' kw
    subst ex
    cases q1
    refine fin st1 f1 ?_
    exact getattr_ok st1.inv hp F.cls F.no (zip_look F.nd F.at_ e) fun u' s2 I2 ru => ⟨y, H1, I2, ru, QV.same st1 kw rw'⟩
  unfold evFld at k1
  dsimp only at k1
  split at k1
  · rename_i c' xs
    split at k1
    · rename_i hc
      subst hc
      split at k1
      · rename_i x0 e
        cases r1 with
        | ins hp n hl r =>
          obtain ⟨y, e1, r2⟩ := r.get e
          exact go (w := .d x0) rfl hp e1 r2 k1
      · exact k1.elim
    · exact k1.elim
  · rename_i n
    split at k1
    · rename_i c' xs e0
      split at k1
      · rename_i hc
        subst hc
        split at k1
        · rename_i x0 e
          obtain ⟨p, hp, rfl⟩ := r1
          obtain ⟨p', hp', dx, vs, h1, h2, h3⟩ := st1.rel.st.at_ n _ e0
          rw [hp] at hp'
          cases hp'
          obtain ⟨y, e1, r2⟩ := h3.get e
          exact go rfl h1 e1 r2 k1
        · exact k1.elim
      · exact k1.elim
    · exact k1.elim
  · exact k1.elim
end
end Kr
/-! KrJ2: built-in functions, methods of built-in types. -/
namespace Kr
open PySem PySem.Spec PyProof.Rows L2

inductive RTs (Y : Cfg) (z : List Addr) (H : Hp) : List D → List V → Prop
  | nil : RTs Y z H [] []
  | cons {d : D} {v : V} {ds : List D} {vs : List V} (h : RT Y z H d v) (r : RTs Y z H ds vs) : RTs Y z H (d :: ds) (v :: vs)
theorem looks_RT {J : Jx} {m : List Addr} {S : Sto} {H : Hp} (st : RSt J.Y J.av m S H) : ∀ {ws : List W} {vs : List V} {ds : List D}, RWs J.Y J.av m H ws vs → looks S ws = some ds → RTs J.Y (J.av ++ m) H ds vs
  | _, _, _, .nil, e => by cases e; exact .nil
  | w :: ws, _, _, .cons h r, e => by
    obtain ⟨x, e1, e2⟩ := Option.bind_eq_some_iff.mp (show ((look1 S w).bind fun x => (looks S ws).map (x :: ·)) = some _ from e)
    obtain ⟨ds, e3, rfl⟩ := Option.map_eq_some_iff.mp e2
    exact .cons (look_RT st h e1) (looks_RT st r e3)

/-! ### functions -/
def biN : Bi → Option Str
  | .len => some "len" | .abs => some "abs" | .int => some "int" | .str => some "str" | .bool => some "bool" | .list => some "list" | .tuple => some "tuple" | .max => some "max" | .min => some "min" | _ => none
def biV : Bi → Value
  | .len => .builtin "len" | .abs => .builtin "abs" | .max => .builtin "max" | .min => .builtin "min" | .int => .type "int" | .str => .type "str" | .bool => .type "bool" | .list => .type "list" | .tuple => .type "tuple" | _ => .none
theorem boot_bi {b : Bi} {x : Str} (h : biN b = some x) : bootBuiltins x = some (biV b) ∧ x ≠ "__name__" ∧ (x == ("__debug__" : Str)) = false := by
  cases b <;> cases h <;> exact ⟨by decide +kernel, by decide +kernel, by decide +kernel⟩
def rBi (Y : Cfg) (b : Bi) : List V → Hp → VK → Prop := fun xs H Q => ∃ z ds dr, RTs Y z H ds xs ∧ evBi b ds = some dr ∧ (∀ p, H p = none → p ∉ z) ∧ ∀ v H', Nw H H' → RD Y z H' dr v → Q v H'
section
variable {X : Cx} {Y : Cfg}
open PySem.Sem (wp) in
theorem meets_bool_tup (l : Addr) (items : Array Value) (hfit : (items.size : Int) < 2 ^ 63) :
    Meets (Builtin.«bool.__new__» ⟨[.type "bool", .ref l], []⟩) (fun _ R s => IsTup s.heap l items ∧ R (.ok (.ret (.bool (!items.isEmpty)))) { s with toks := s.toks + 1 + 1 }) :=
  Meets.of_wp fun prog w A R s hs => by
    obtain ⟨ht, hs⟩ := hs
    obtain ⟨hp, g, d, tk, os⟩ := s
    have f1 := F.conv_sub_bool
    repeat (any_goals (first | assumption | (with_reducible refine truthy_tuple ht hfit ?_) | wp_step))
    all_goals first | exact ⟨_, rfl, hs⟩ | exact hs | skip
theorem call_boolT : CallR X (.type "bool") (fun xs H Q => ∃ (a : Addr) (zs : List V), xs = [.ref a] ∧ SqT X.K H a zs ∧ Q (.bl (!zs.isEmpty)) H) := by
  intro pins s σ H xs us Q I r h
  obtain ⟨a, zs, rfl, hq, q⟩ := h
  obtain ⟨u, rfl, ru⟩ := vals1 r
  cases ru
  obtain ⟨is, rv, pl, hz⟩ := I.tuple hq
  have hl := line63
  have hlen := rv.length
  refine call_bool_1 (meets_bool_tup a is.toArray (by simp only [List.size_toArray]; omega)) ⟨pl, rfl, ?_⟩
  exact ⟨.bl (!zs.isEmpty), H, I.tok _, by rw [isEmpty_of rv]; rfl, q⟩
theorem call_tupF : CallR X (.type "tuple") (fun xs H Q => ∃ p ys, xs = [.ref p] ∧ SqL X.K H p ys ∧ ∀ l o, H l = none → o.dict = none → Q (.ref l) (upd H l (.frz o (.tup ys)))) := by
  intro pins s σ H xs us Q I r h
  obtain ⟨p, ys, rfl, hq, q⟩ := h
  obtain ⟨u, rfl, rx⟩ := vals1 r
  cases rx
  obtain ⟨is, r', pl, hz⟩ := I.list hq
  have hlen := r'.length
  refine call_tuple_list pl.isList (fun h' kp => ?_) (by simp only [List.size_toArray] <;> omega)
  have I1 : Inv X pins σ H { s with heap := h' } := I.kept (t' := s.toks) kp
  have I2 : Inv X pins σ (upd H h'.objs.size (.frz { cls := .type "tuple", data := .seq is.toArray } (.tup ys))) { s with heap := h'.push { cls := .type "tuple", data := .seq is.toArray } } :=
    I1.laid (t' := s.toks) (fun b o e => Heap.get?_push_of_some _ e) (Nat.le_refl _) ⟨Heap.get?_push_size _ rfl, hz, is, r', IsTup.new _ _⟩
  exact ⟨.ref h'.objs.size, _, I2, rfl, q _ _ (I1.hok.fresh (Nat.le_refl _)) rfl⟩
theorem RTs.one {z : List Addr} {H : Hp} {d : D} {xs : List V} (r : RTs Y z H [d] xs) : ∃ x, xs = [x] ∧ RT Y z H d x := by
  cases r with | cons h q => cases q; exact ⟨_, rfl, h⟩
theorem RTs.two {z : List Addr} {H : Hp} {d e : D} {xs : List V} (r : RTs Y z H [d, e] xs) : ∃ x y, xs = [x, y] ∧ RT Y z H d x ∧ RT Y z H e y := by
  cases r with | cons h q => cases q with | cons h2 q2 => cases q2; exact ⟨_, _, rfl, h, h2⟩
theorem isEmpty_len {α β : Type} {xs : List α} {ys : List β} (h : xs.length = ys.length) : xs.isEmpty = ys.isEmpty := by
  cases xs <;> cases ys <;> first | rfl | simp at h
theorem call_bi (hK : X.K = Y.K) (hc : X.calm = true) (b : Bi) : CallR X (biV b) (rBi Y b) := by
  intro pins s σ H xs us Q I r h
  obtain ⟨z, ds, dr, rs, e, hz, q⟩ := h
  have q0 : ∀ v, RD Y z H dr v → Q v H := fun v rv => q v H (.inl rfl) rv
  unfold evBi at e
  split at e
  · split at e
    · rename_i x c
      cases e
      obtain ⟨x', rfl, rx⟩ := rs.one
      obtain ⟨rfl, _⟩ := rx.str
      exact call_len_str pins s σ H _ us Q I r ⟨_, rfl, by rw [mkS_len, ← sz_line]; exact c, by rw [mkS_len]; exact q0 _ (.int _)⟩
    · cases e
  · cases e
    obtain ⟨x', rfl, rx⟩ := rs.one
    obtain ⟨_, p, vs, rfl, sq, rd⟩ := rx.tup
    rw [← hK] at sq
    exact call_len_seq pins s σ H _ us Q I r ⟨p, vs, rfl, .inr sq, by rw [← rd.length]; exact q0 _ (.int _)⟩
  · cases e
    obtain ⟨x', rfl, rx⟩ := rs.one
    obtain ⟨p, vs, rfl, sq, rd⟩ := rx.lst
    exact call_len_seq pins s σ H _ us Q I r ⟨p, vs, rfl, .inl (.inl (.inl sq)), by rw [← rd.length]; exact q0 _ (.int _)⟩
  · cases e
    obtain ⟨x', rfl, rx⟩ := rs.one
    obtain ⟨p, rfl, sq⟩ := rx.scr
    rw [← hK] at sq
    exact call_len_seq pins s σ H _ us Q I r ⟨p, _, rfl, .inl sq, by rw [List.length_map]; exact q0 _ (.int _)⟩
  · cases e
    obtain ⟨x', rfl, rx⟩ := rs.one
    obtain rfl := rx.int
    exact call_abs pins s σ H _ us Q I r ⟨_, rfl, q0 _ (.int _)⟩
  · cases e
    obtain ⟨x', rfl, rx⟩ := rs.one
    obtain rfl := rx.int
    exact call_int1 pins s σ H _ us Q I r (.inl ⟨_, rfl, q0 _ (.int _)⟩)
  · cases e
    obtain ⟨x', rfl, rx⟩ := rs.one
    obtain rfl := rx.bl
    exact call_int1 pins s σ H _ us Q I r (.inr ⟨_, rfl, q0 _ (.int _)⟩)
  · split at e
    · rename_i x c
      obtain ⟨n, e1, rfl⟩ := Option.map_eq_some_iff.mp e
      obtain ⟨x', rfl, rx⟩ := rs.one
      obtain ⟨rfl, _⟩ := rx.str
      exact call_int_str pins s σ H _ us Q I r ⟨_, n, rfl, readI_val e1 (by omega), by rw [mkS_len]; omega, q0 _ (.int _)⟩
    · cases e
  · split at e
    · rename_i i c
      cases e
      obtain ⟨x', rfl, rx⟩ := rs.one
      obtain rfl := rx.int
      refine call_str_int pins s σ H _ us Q I r ⟨_, rfl, by omega, ?_⟩
      rw [intT_str]
      exact q0 _ (.str _ (intT_asc _))
    · cases e
  · obtain ⟨x', rfl, rx⟩ := rs.one
    split at e
    · cases e
      obtain rfl := rx.int
      exact call_bool1 pins s σ H _ us Q I r (.inl ⟨_, rfl, q0 _ (.bl _)⟩)
    · cases e
      obtain rfl := rx.bl
      exact call_bool1 pins s σ H _ us Q I r (.inr ⟨_, rfl, q0 _ (.bl _)⟩)
    · cases e
      obtain ⟨_, p, vs, rfl, sq, rd⟩ := rx.tup
      rw [← hK] at sq
      exact call_boolT pins s σ H _ us Q I r ⟨p, vs, rfl, sq, by rw [← isEmpty_len rd.length]; exact q0 _ (.bl _)⟩
    · cases e
  · cases e
    obtain ⟨x', rfl, rx⟩ := rs.one
    obtain ⟨p, vs, rfl, sq, rd⟩ := rx.lst
    exact call_tupF pins s σ H _ us Q I r ⟨p, vs, rfl, .inl (.inl sq), fun l o hl ho => q _ _ (.inr ⟨l, _, hl, rfl⟩) (RD.new_tup hz rd hl ho)⟩
  · cases e
    obtain ⟨x', rfl, rx⟩ := rs.one
    obtain ⟨r0, p, vs, rfl, sq, rd⟩ := rx.tup
    rw [← hK] at sq
    exact call_tupleT pins s σ H _ us Q I r ⟨p, vs, rfl, sq, q0 _ r0⟩
  · cases e
    obtain ⟨x', y', rfl, rx, ry⟩ := rs.two
    obtain rfl := rx.int
    obtain rfl := ry.int
    exact call_max2 hc pins s σ H _ us Q I r ⟨_, _, rfl, q0 _ (.int _)⟩
  · cases e
    obtain ⟨x', y', rfl, rx, ry⟩ := rs.two
    obtain rfl := rx.int
    obtain rfl := ry.int
    exact call_min2 hc pins s σ H _ us Q I r ⟨_, _, rfl, q0 _ (.int _)⟩
  · cases e
    obtain ⟨x', rfl, rx⟩ := rs.one
    obtain ⟨p, vs, rfl, sq, rd⟩ := rx.lst
    exact call_list_of pins s σ H _ us Q I r ⟨p, vs, rfl, .inl (.inl (.inl sq)), fun l hl => q _ _ (.inr ⟨l, _, hl, rfl⟩) (RD.new_lst hz rd hl)⟩
  · cases e
    obtain ⟨x', rfl, rx⟩ := rs.one
    obtain ⟨_, p, vs, rfl, sq, rd⟩ := rx.tup
    rw [← hK] at sq
    exact call_list_of pins s σ H _ us Q I r ⟨p, vs, rfl, .inr sq, fun l hl => q _ _ (.inr ⟨l, _, hl, rfl⟩) (RD.new_lst hz rd hl)⟩
  · cases e
end
section
variable {J : Jx} {e : Expr} {es : List Expr} {fs : Sl → Sto → RE (List W)} {p pos : Pos} {x : Str}
theorem je_blt (ok : J.Ok) (hc : J.X.calm = true) {b : Bi} (hb : biN b = some x) (hg : Gl J.X x) (hm : J.X.mg x = none) (ha : JA J (e :: es) fs) (he : starEach (e :: es) J.X.env = (false, eval e J.X.env) :: starEach es J.X.env)
    (hpl : (backTo pos (starEach es J.X.env)).any (·.1) = false) : JE J (.Call (.Name x p) (e :: es) [] pos) (fun l S => (fs l S).bind fun ws S => .of S (((looks S ws).bind (evBi b)).map .d)) := by
  intro pins s σ H m S l K st k
  obtain ⟨hv, hn, hd⟩ := boot_bi hb
  refine wpAny_Call_Name_kw (ld_blt st.inv hg hm hv ?_ hn hd)
  have hA := ha pos pins s σ H m S l _ st (RE.el_bind k)
  have go : wpAny (model J.X.prog J.X.w) J.X.A (spliced (backTo pos (starEach (e :: es) J.X.env))) (fun us s1 => wpAny (model J.X.prog J.X.w) J.X.A (call (biV b) us) (Post J pins σ l m H (RelW J.Y J.av) K) J.X.xe s1) J.X.xe s := by
    refine thn hA fun us s1 ⟨ws, S1, m1, H1, k1, st1, f1, vs, r1, q1⟩ => ?_
    obtain ⟨w, e1, k2⟩ := RE.el_of k1
    obtain ⟨d, e2, rfl⟩ := Option.map_eq_some_iff.mp e1
    obtain ⟨ds, e3, e4⟩ := Option.bind_eq_some_iff.mp e2
    exact fin st1 f1 (call_bi ok.hK hc b pins s1 σ H1 vs us _ st1.inv q1 ⟨_, ds, d, looks_RT st1.rel.st r1 e3, e4, fun p hp => st1.free hp, fun v' H' n rd => QV.nw st1 k2 n rd⟩)
  cases b <;> cases hb
  · exact PyProof.Rows.callWith_builtin1 go he hpl
  · exact PyProof.Rows.callWith_builtin1 go he hpl
  · exact PyProof.Rows.callWith_type1 go he hpl
  · exact PyProof.Rows.callWith_type1 go he hpl
  · exact PyProof.Rows.callWith_type1 go he hpl
  · exact PyProof.Rows.callWith_type1 go he hpl
  · exact PyProof.Rows.callWith_type1 go he hpl
  · exact PyProof.Rows.callWith_builtin1 go he hpl
  · exact PyProof.Rows.callWith_builtin1 go he hpl
end
end Kr
/-! KrJ3: methods of built-in types. -/
namespace Kr
open PySem PySem.Spec PyProof.Rows L2

def meId : Me → Option (Str × String)
  | .strip => some ("strip", "str.strip") | .rstrip => some ("rstrip", "str.rstrip") | .split => some ("split", "str.split") | .rjust => some ("rjust", "str.rjust") | .join => some ("join", "str.join") | _ => none
theorem me_slot {m : Me} {n : Str} {id : String} (h : meId m = some (n, id)) : Slot "str" n id ∧ typeOf (.builtin id) = pure (.type "method_descriptor") := by
  cases m <;> cases h
  · exact ⟨PySem.F.slot_str_strip, PySem.F.type_str_strip⟩
  · exact ⟨PySem.F.slot_str_rstrip, PySem.F.type_str_rstrip⟩
  · exact ⟨PySem.F.slot_str_split, PySem.F.type_str_split⟩
  · exact ⟨PySem.F.slot_str_rjust, PySem.F.type_str_rjust⟩
  · exact ⟨PySem.F.slot_str_join, PySem.F.type_str_join⟩
def rMe (Y : Cfg) (m : Me) : V → List V → Hp → VK → Prop := fun x xs H Q => ∃ z t ds dr, x = .str (mkS t) ∧ Asc t ∧ RTs Y z H ds xs ∧ evMe m (.str t) ds = some dr ∧ (∀ p, H p = none → p ∉ z) ∧ ∀ v H', Nw H H' → RD Y z H' dr v → Q v H'
section
variable {X : Cx} {Y : Cfg}
theorem replicate_asc {n c : Nat} (h : c < 128) : Asc (List.replicate n c) := fun a ha => by rw [(List.mem_replicate.mp ha).2]; exact h
theorem mt_rjustF : MtR X "str.rjust" (fun x xs H Q => ∃ (a : Str) (i : Int) (c : Nat), x = .str a ∧ xs = [.int i, .str (mkS [c])] ∧ PadOk i = true ∧ Q (.str (Txt.rjustF a i c)) H) := by
  intro pins s σ H x xs v us Q I rx rs h
  obtain ⟨a, i, c, rfl, rfl, hp, q⟩ := h
  obtain ⟨t, rfl⟩ := rx
  obtain ⟨u1, u2, rfl, ⟨t1, rfl⟩, ⟨t2, rfl⟩⟩ := vals2 rs
  exact rjust_fill hp (by rw [mkS_len]; rfl) fun t' k => ⟨.str (Txt.rjustF a i c), H, I.tok k, ⟨t', rfl⟩, q⟩
theorem padOk_of {i : Int} (h1 : -1000000 ≤ i) (h2 : i ≤ 1000000) : PadOk i = true := by
  unfold PadOk fitsSsize PySem.Builtin.Str.tooLong
  rw [sizeLine_eq]
  simp
  omega
theorem mt_me (hK : X.K = Y.K) (m : Me) {n : Str} {id : String} (h : meId m = some (n, id)) : MtR X id (rMe Y m) := by
  intro pins s σ H x xs v us Q I rx rs hr
  obtain ⟨z, t, ds, dr, rfl, ht, rt, e, hz, q⟩ := hr
  have q0 : ∀ v, RD Y z H dr v → Q v H := fun v rv => q v H (.inl rfl) rv
  unfold evMe at e
  split at e
  · cases h
    rename_i a b heq
    cases heq
    obtain ⟨x1, rfl, r1⟩ := rt.one
    obtain ⟨rfl, _⟩ := r1.str
    split at e
    · rename_i c
      cases e
      refine mt_stripChars pins s σ H _ _ v us Q I rx rs ⟨_, _, rfl, rfl, by rw [mkS_len, ← sz_line]; exact c, ?_⟩
      rw [strip_list]
      exact q0 _ (.str _ (ht.sub fun c h => stripT_mem h))
    · cases e
  · cases h
    rename_i a b heq
    cases heq
    obtain ⟨x1, rfl, r1⟩ := rt.one
    obtain ⟨rfl, _⟩ := r1.str
    split at e
    · rename_i c
      cases e
      refine mt_rstripChars pins s σ H _ _ v us Q I rx rs ⟨_, _, rfl, rfl, by rw [mkS_len, ← sz_line]; exact c, ?_⟩
      rw [rstrip_list]
      exact q0 _ (.str _ (ht.sub fun c h => rstripT_mem h))
    · cases e
  · cases h
    rename_i a b heq
    cases heq
    obtain ⟨x1, rfl, r1⟩ := rt.one
    obtain ⟨rfl, hb⟩ := r1.str
    split at e
    · rename_i c
      cases e
      refine mt_split pins s σ H _ _ v us Q I rx rs ⟨_, _, rfl, rfl, by rw [mkS_len]; rfl, by rw [mkS_len, ← sz_line]; exact c, fun p hp => ?_⟩
      rw [split_list _ (hb b (List.mem_singleton.mpr rfl))]
      refine q _ _ (.inr ⟨p, _, hp, rfl⟩) (RD.new_lst hz (RDs.strs fun x hx => ht.sub fun c hc => splitT_mem hx hc) hp)
    · cases e
  · cases h
    rename_i a i b heq
    cases heq
    obtain ⟨x1, x2, rfl, r1, r2⟩ := rt.two
    obtain rfl := r1.int
    obtain ⟨rfl, hb⟩ := r2.str
    split at e
    · rename_i c
      cases e
      refine mt_rjustF pins s σ H _ _ v us Q I rx rs ⟨_, i, b, rfl, rfl, padOk_of c.2.1 c.2.2, ?_⟩
      rw [rjust_list]
      exact q0 _ (.str _ (Asc.app (replicate_asc (hb b (List.mem_singleton.mpr rfl))) ht))
    · cases e
  · cases h
    rename_i a ys heq
    cases heq
    obtain ⟨x1, rfl, r1⟩ := rt.one
    obtain ⟨p, vs, rfl, sq, rd⟩ := r1.lst
    obtain ⟨zs, e1, e2⟩ := Option.bind_eq_some_iff.mp e
    obtain ⟨e3, e4⟩ := rd.strsOf e1
    subst e3
    split at e2
    · rename_i c
      cases e2
      refine mt_join pins s σ H _ _ v us Q I rx rs ⟨_, p, zs.map mkS, rfl, rfl, .inl (.inl (.inl sq)), ?_, ?_⟩
      · rw [List.map_map, List.length_map, mkS_len]
        have : ((fun x => x.length) ∘ mkS) = (fun x : List Nat => x.length) := funext fun x => mkS_len x
        rw [this]
        exact c
      · rw [joins]
        refine q0 _ (.str _ fun c hc => ?_)
        rcases joinT_mem hc with h | ⟨w, h1, h2⟩
        · exact ht c h
        · exact e4 w h1 c h2
    · cases e2
  · cases h
  · cases e
end
section
variable {J : Jx} {o e : Expr} {es : List Expr} {fo : Sl → Sto → RE W} {fs : Sl → Sto → RE (List W)} {apos pos : Pos} {n : Str}
/-- the shape of a method's call -/
structure BmOk (J : Jx) (o : Expr) (n : Str) (apos pos : Pos) (e : Expr) (es : List Expr) : Prop where
  base : attributeBase o n J.X.env (eval o J.X.env) = eval o J.X.env
  few : ((backTo pos (starEach (e :: es) J.X.env)).all (fun x => !x.1) && (backToKw pos (keywordEach [] J.X.env)).all (fun x => x.1.isSome) && decide ((e :: es).length + ([] : List Keyword).length + (if ([] : List Keyword).isEmpty then 0 else 1) < 30)) = true
  line : (apos.endLine == pos.line) = true
  st : starEach (e :: es) J.X.env = (false, eval e J.X.env) :: starEach es J.X.env
  pl : (backTo pos (starEach es J.X.env)).any (·.1) = false
/-- the receiver, the arguments, then the method's own code -/
theorem bm_go {m : Me} (B : BmOk J o n apos pos e es) (ho : JE J o fo) (ha : JA J (e :: es) fs)
    (h : ∀ (pins : List (Addr × Obj)) (σ : L2.St) (m1 : List Addr) (S : Sto) (l : Sl) (H : Hp) (s : Shared) (v : W) (x : V) (u : Value), Sta J pins σ m1 S l H s → RW J.Y J.av m1 H v x → RelV x u → rcv m S v = true →
      ∃ T id, PlainAttrs T ∧ Slot T n id ∧ typeOf (.builtin id) = pure (.type "method_descriptor") ∧ s.TypeIs u T ∧ (∀ a, u = .ref a → ∃ ob, s.heap.get? a = some ob ∧ ob.dict = none) ∧
        ∀ (m2 : List Addr) (S2 : Sto) (H2 : Hp) (s2 : Shared) (ws : List W) (vs : List V) (us : List Value) (K2 : W → Sto → Prop), Sta J pins σ m2 S2 l H2 s2 → Fra m1 H m2 H2 → RWs J.Y J.av m2 H2 ws vs → Vals vs us → (evBm m S2 v ws).el K2 (J.Xc σ l) →
          wpAny (model J.X.prog J.X.w) J.X.A (call (.builtin id) (u :: us)) (EP J.X pins σ (QV J m2 H2 K2)) J.X.xe s2) :
    JE J (.Call (.Attribute o n apos) (e :: es) [] pos) (fun l S => (fo l S).bind fun v S => if rcv m S v then (fs l S).bind fun ws S => evBm m S v ws else .bad) := by
  intro pins s σ H m1 S l K st k
  refine wpAny_Call_method_late B.base B.few B.line rfl (thn (ho pins s σ H m1 S l _ st (RE.el_bind k)) fun u s1 ⟨v, S1, m1', H1, k1, st1, f1, x, r1, q1⟩ => ?_)
  dsimp only at k1
  split at k1
  · rename_i hr
    have k1' := RE.el_bind k1
    obtain ⟨T, id, pa, slot, hty, h1, h2, h3⟩ := h pins σ m1' S1 l H1 s1 v x u st1 r1 q1 hr
    refine ⟨T, id, pa, slot, hty, h1, h2, ?_⟩
    have hA := ha pos pins s1 σ H1 m1' S1 l _ st1 k1'
    rw [B.st] at hA ⊢
    refine Calls.callWith_builtin (by show (false || (backTo pos (starEach es J.X.env)).any (·.1)) = false; rw [B.pl]; rfl) (Calls.evalArgs_plain ?_)
    refine thn hA fun us s2 ⟨ws, S2, m2, H2, k2, st2, f2, vs, r2, q2⟩ => ?_
    exact fin st2 (f1.trans f2) (h3 m2 S2 H2 s2 ws vs us K st2 f2 r2 q2 k2)
  · exact k1.elim
/-- a method of a text -/
theorem je_bmS (ok : J.Ok) {m : Me} {id : String} (hm : meId m = some (n, id)) (B : BmOk J o n apos pos e es) (ho : JE J o fo) (ha : JA J (e :: es) fs) :
    JE J (.Call (.Attribute o n apos) (e :: es) [] pos) (fun l S => (fo l S).bind fun v S => if rcv m S v then (fs l S).bind fun ws S => evBm m S v ws else .bad) := by
  refine bm_go B ho ha fun pins σ m1 S l H s v x u st r q hr => ?_
  obtain ⟨slot, hty⟩ := me_slot hm
  obtain ⟨t, rfl⟩ : ∃ t, v = .d (.str t) := by
    cases m <;> cases hm <;> (cases v with
      | d x => cases x <;> first | exact ⟨_, rfl⟩ | cases hr
      | r n => cases hr
      | f g cs => cases hr)
  cases r with
  | str _ hasc =>
    obtain ⟨tk, rfl⟩ := q
    refine ⟨"str", id, PySem.F.plainAttrs_str, slot, hty, typeIs_str _ _ _, (fun _ e => nomatch e), fun m2 S2 H2 s2 ws vs us K2 st2 f2 rws rvs k2 => ?_⟩
    have k3 : (RE.of S2 ((((some (D.str t)).bind fun x => (looks S2 ws).bind fun ys => evMe m x ys)).map W.d)).el K2 (J.Xc σ l) := by
      cases m <;> cases hm <;> exact k2
    obtain ⟨w, e1, k4⟩ := RE.el_of k3
    obtain ⟨d, e2, rfl⟩ := Option.map_eq_some_iff.mp e1
    obtain ⟨ds, e3, e4⟩ := Option.bind_eq_some_iff.mp (show ((looks S2 ws).bind fun ys => evMe m (.str t) ys) = some d from e2)
    exact mt_me ok.hK m hm pins s2 σ H2 (.str (mkS t)) vs _ us _ st2.inv ⟨_, rfl⟩ rvs ⟨_, t, ds, d, rfl, hasc, looks_RT st2.rel.st rws e3, e4, fun p hp => st2.free hp, fun v' H' n rd => QV.nw st2 k4 n rd⟩
theorem je_app (B : BmOk J o "append" apos pos e es) (ho : JE J o fo) (ha : JA J (e :: es) fs) :
    JE J (.Call (.Attribute o "append" apos) (e :: es) [] pos) (fun l S => (fo l S).bind fun v S => if rcv .append S v then (fs l S).bind fun ws S => evBm .append S v ws else .bad) := by
  refine bm_go B ho ha fun pins σ m1 S l H s v x u st r q hr => ?_
  unfold rcv at hr
  dsimp only at hr
  split at hr
  · rename_i n
    split at hr
    · rename_i xs e0
      obtain ⟨p, hp, rfl⟩ := r
      cases q
      obtain ⟨p', hp', vs0, h1, h2⟩ := st.rel.st.at_ n _ e0
      rw [hp] at hp'
      cases hp'
      obtain ⟨hz0, its, nn, rv, hobj⟩ := (show ObjOk J.X.prog J.X.w H s.heap p (.lst vs0) from st.inv.hok p _ h1)
      refine ⟨"list", "list.append", PySem.F.plainAttrs_list, PySem.F.slot_list_append, PySem.F.type_list_append, ⟨_, hobj, rfl⟩, fun a e => ?_, fun m2 S2 H2 s2 ws vs us K2 st2 f2 rws rvs k2 => ?_⟩
      · cases e
        exact ⟨_, hobj, rfl⟩
      · unfold evBm at k2
        dsimp only at k2
        split at k2
        · rename_i n' w heq
          cases heq
          split at k2
          · rename_i xs2 e2
            split at k2
            · rename_i hl
              obtain ⟨p2, hp2, vs2, h3, h4⟩ := st2.rel.st.at_ n _ e2
              have : p2 = p := by
                have := f2.pre n p hp
                rw [hp2] at this
                exact Option.some.inj this
              subst this
              cases rws with
              | @cons _ y _ _ rw1 rwn =>
                cases rwn
                have hm : p2 ∈ m2 := List.mem_of_getElem? hp2
                refine mt_append pins s2 σ H2 (.ref p2) _ _ us _ st2.inv rfl rvs ⟨p2, vs2, _, rfl, rfl, h3, by rw [← sz_line, ← h4.length]; exact hl, ?_⟩
                have fw : Fra m2 H2 m2 (upd H2 p2 (.lst (vs2 ++ [y]))) := Fra.write hm
                exact ⟨.d .non, _, m2, k2, fw, st2.rel.st.write hp2 ⟨_, upd_same, RWs.app (fw.rws h4) (.cons (fw.rw rw1) .nil)⟩, .non⟩
            · exact k2.elim
          · exact k2.elim
        · exact k2.elim
    · cases hr
  · cases hr
theorem je_cnt (ok : J.Ok) (B : BmOk J o "count" apos pos e es) (ho : JE J o fo) (ha : JA J (e :: es) fs) :
    JE J (.Call (.Attribute o "count" apos) (e :: es) [] pos) (fun l S => (fo l S).bind fun v S => if rcv .count S v then (fs l S).bind fun ws S => evBm .count S v ws else .bad) := by
  refine bm_go B ho ha fun pins σ m1 S l H s v x u st r q hr => ?_
  obtain ⟨ys, rfl⟩ : ∃ ys, v = .d (.tup ys) := by
    unfold rcv at hr
    dsimp only at hr
    split at hr
    · exact ⟨_, rfl⟩
    · cases hr
  have hT : ∃ p, x = .ref p ∧ s.TypeIs u "tuple" ∧ ∃ ob, s.heap.get? p = some ob ∧ ob.dict = none := by
    have hr : RD J.Y (J.av ++ m1) H (.tup ys) x := r
    cases hr with
    | tup h _ _ =>
      obtain ⟨ob, h1, h2⟩ := h
      cases q
      obtain ⟨h3, hz, its, rv, o', h4, h5, _⟩ := st.inv.hok _ _ h1
      rw [h3] at h4
      cases h4
      exact ⟨_, rfl, ⟨ob, h3, h5⟩, ob, h3, h2⟩
    | tupK h _ =>
      obtain ⟨ob, its, nn, h1, h2, h3, _⟩ := h
      cases q
      rw [← ok.hK] at h1
      exact ⟨_, rfl, ⟨ob, st.inv.kIn _ _ h1, h2⟩, ob, st.inv.kIn _ _ h1, h3⟩
  obtain ⟨p, rfl, hT1, ob, hT2, hT3⟩ := hT
  cases q
  refine ⟨"tuple", "tuple.count", PySem.F.plainAttrs_tuple, PySem.F.slot_tuple_count, PySem.F.type_tuple_count, hT1, fun a e => ?_, fun m2 S2 H2 s2 ws vs us K2 st2 f2 rws rvs k2 => ?_⟩
  · cases e
    exact ⟨ob, hT2, hT3⟩
  · obtain ⟨w, e1, k4⟩ := RE.el_of (show (RE.of S2 (((looks S2 ws).bind fun zs => evMe .count (.tup ys) zs).map W.d)).el K2 (J.Xc σ l) from k2)
    obtain ⟨d, e2, rfl⟩ := Option.map_eq_some_iff.mp e1
    obtain ⟨ds, e3, e4⟩ := Option.bind_eq_some_iff.mp e2
    have rt := looks_RT st2.rel.st rws e3
    unfold evMe at e4
    split at e4
    case h_6 ys' x' heq =>
      cases heq
      split at e4
      · rename_i c
        cases e4
        obtain ⟨f1, f3⟩ := Bool.and_eq_true_iff.mp c
        obtain ⟨x1, rfl, r1⟩ := rt.one
        have rr : RT J.Y (J.av ++ m2) H2 (.tup ys) (.ref p) := .inl (f2.rd r)
        obtain ⟨u1, rfl, q1⟩ := vals1 rvs
        obtain ⟨_, p', vs', ep, sq, rds⟩ := rr.tup
        cases ep
        have d1 := r1.dp f1
        have d2 := rds.dp f3
        rw [← ok.hK] at d1 d2 sq
        obtain ⟨as, g1⟩ := Dp.reads st2.inv _ x1 u1 d1 q1
        obtain ⟨its, rv, pl, hz⟩ := st2.inv.tuple sq
        obtain ⟨bs, g2⟩ := Dp.readsAll st2.inv _ vs' its d2 rv
        obtain ⟨l1, m3⟩ := r1.lay f1
        obtain ⟨l2, m4⟩ := rr.lay (show D.flat 21 (.tup ys) = true from f3)
        refine PySem.SeqAt.count_tuple_data (vs := its.toArray) pl g2 g1 (PyData.plainAll_of_canLay0 _ (by simpa [toPy, PyData.canLay0] using l2)) (PyData.plain_of_canLay0 _ l1) ?_ ?_
        · have := ok.un
          omega
        · rw [countP_eq 20 _ f1 20 _ f3]
          exact ⟨.int _, H2, st2.inv.tok _, ⟨_, rfl⟩, QV.same (w := .d (.int _)) st2 k4 (.int _)⟩
      · cases e4
    all_goals first | (rename_i heq _; cases heq; done) | (rename_i heq; cases heq; done) | cases e4
/-- e.replace(c, z), both written -/
theorem je_repl {c : Nat} {z : List Nat} {j k : Nat} {c0 c1 : Pos} (hc : c < 128) (hz : Asc z) (ho : JE J o fo) (hyz : (mkS [c] == mkS z) = false)
    (hst : starEach [.Constant (.str (mkS [c])) j c0, .Constant (.str (mkS z)) k c1] J.X.env = [(false, eval (.Constant (.str (mkS [c])) j c0) J.X.env), (false, eval (.Constant (.str (mkS z)) k c1) J.X.env)])
    (hbase : attributeBase o "replace" J.X.env (eval o J.X.env) = eval o J.X.env) (hline : (apos.endLine == pos.line) = true) :
    JE J (.Call (.Attribute o "replace" apos) [.Constant (.str (mkS [c])) j c0, .Constant (.str (mkS z)) k c1] [] pos) (fun l S => (fo l S).bind fun v S => .of S (((look1 S v).bind (evRepl c z)).map .d)) := by
  intro pins s σ H m S l K st kk
  refine PySem.Call_method2 hbase hst hline (thn (ho pins s σ H m S l _ st (RE.el_bind kk)) fun u s1 ⟨v, S1, m1, H1, k1, st1, f1, x, r1, q1⟩ => ?_)
  obtain ⟨w, e1, k2⟩ := RE.el_of k1
  obtain ⟨d, e2, rfl⟩ := Option.map_eq_some_iff.mp e1
  obtain ⟨dx, e3, e4⟩ := Option.bind_eq_some_iff.mp e2
  have rx := look_RT st1.rel.st r1 e3
  unfold evRepl at e4
  split at e4
  · rename_i t
    obtain ⟨rfl, ht⟩ := rx.str
    obtain ⟨tk, rfl⟩ := q1
    split at e4
    · rename_i hl
      cases e4
      refine ⟨"str", _, PySem.F.plainAttrs_str, PySem.F.slot_str_replace, PySem.F.type_str_replace, typeIs_str _ _ _, (fun _ e => nomatch e), Calls.callWith_builtin rfl (Calls.evalArgs_plain (Calls.spliced_cons ?_))⟩
      refine Calls.Constant_str (Calls.spliced_cons (Calls.Constant_str (Calls.spliced_nil ?_)))
      have h0 := st1.tok
      refine fin (s := { s1 with toks := s1.toks + 1 + 1 }) (st1.tok' (by omega)) f1 ?_
      refine PySem.SC.replace (by show s1.toks ≠ 0; omega) (by show s1.toks + 1 ≠ 0; omega) (by show s1.toks ≠ s1.toks + 1; omega) hyz ?_ fun t' kt => ?_
      · rw [mkS_len, mkS_len]
        have : (t.length + 1) * z.length ≤ 100001 * 10 := Nat.mul_le_mul (by omega) hl.2
        omega
      · rw [repl_list]
        refine ⟨.str _, H1, st1.inv.tok kt, ⟨t', rfl⟩, QV.same (w := .d (.str _)) st1 k2 (.str _ fun a ha => ?_)⟩
        rcases replT_mem ha with h | h
        · exact hz a h
        · exact ht a h
    · cases e4
  · cases e4
end
end Kr
/-! KrJ4: isinstance, calls of defs, of classes, of methods. -/
namespace Kr
open PySem PySem.Spec PyProof.Rows L2

/-! ### isinstance -/
def tyN : Ty → String
  | .int => "int" | .str => "str" | .bool => "bool" | .tuple => "tuple" | .list => "list"
theorem boot_ty (t : Ty) : bootBuiltins (Str.ofString (tyN t)) = some (.type (tyN t)) ∧ Str.ofString (tyN t) ≠ "__name__" ∧ (Str.ofString (tyN t) == ("__debug__" : Str)) = false := by
  cases t <;> exact ⟨by decide +kernel, by decide +kernel, by decide +kernel⟩
theorem isi_D {K : PySem.W.Frag} {Y : Cfg} (hK : K = Y.K) {z : List Addr} {H : Hp} {d : D} {v : V} {t : Ty} {b : Bool} (r : RT Y z H d v) (e : isiD t d = some b) : ∃ u, TyX K H v u ∧ PySem.W.kitOne K u (.type (tyN t)) = some b := by
  cases d with
  | non =>
    obtain rfl := r.non
    cases e
    exact ⟨_, .base .non, kit_ty (by cases t <;> decide +kernel)⟩
  | bl x =>
    obtain rfl := r.bl
    cases e
    exact ⟨_, .base (.bl _), kit_ty (by cases t <;> decide +kernel)⟩
  | int i =>
    obtain rfl := r.int
    cases e
    exact ⟨_, .base (.int _), kit_ty (by cases t <;> decide +kernel)⟩
  | str x =>
    obtain ⟨rfl, _⟩ := r.str
    cases e
    exact ⟨_, .base (.str _), kit_ty (by cases t <;> decide +kernel)⟩
  | tup xs =>
    obtain ⟨r, _⟩ := r.tup
    cases e
    refine ⟨.type "tuple", ?_, kit_ty (by cases t <;> decide +kernel)⟩
    cases r with
    | tup h _ _ => obtain ⟨o, h, _⟩ := h; exact .fTuple h
    | tupK h _ => obtain ⟨o, its, n, h1, h2, _⟩ := h; rw [← hK] at h1; exact .kTuple h1 h2
  | lst xs =>
    obtain ⟨p, vs, rfl, h, _⟩ := r.lst
    cases e
    exact ⟨_, .base (.lst h), kit_ty (by cases t <;> decide +kernel)⟩
  | ins => cases e
  | scr => cases e
section
variable {J : Jx} {a : Expr} {fa : Sl → Sto → RE W} {p p2 pos : Pos}
theorem je_isi (ok : J.Ok) (t : Ty) (hg : Gl J.X "isinstance") (hm : J.X.mg "isinstance" = none) (hg2 : Gl J.X (Str.ofString (tyN t))) (hm2 : J.X.mg (Str.ofString (tyN t)) = none) (ha : JE J a fa)
    (hs1 : starEach [a, .Name (Str.ofString (tyN t)) p2] J.X.env = (false, eval a J.X.env) :: starEach [.Name (Str.ofString (tyN t)) p2] J.X.env)
    (hs2 : starEach [.Name (Str.ofString (tyN t)) p2] J.X.env = (false, eval (.Name (Str.ofString (tyN t)) p2) J.X.env) :: starEach [] J.X.env) (hpl : (backTo pos (starEach [.Name (Str.ofString (tyN t)) p2] J.X.env)).any (·.1) = false) :
    JE J (.Call (.Name "isinstance" p) [a, .Name (Str.ofString (tyN t)) p2] [] pos) (fun l S => (asD (fa l S)).bind fun x S => .of S ((isiD t x).map fun k => .d (.bl k))) := by
  intro pins s σ H m S l K st k
  refine wpAny_Call_Name_kw (ld_blt st.inv hg hm boot_isinstance ?_ (by decide) (by decide))
  refine PyProof.Rows.callWith_builtin1 ?_ hs1 hpl
  rw [hs1]
  show wpAny _ _ (spliced ((false, eval a J.X.env) :: backTo pos (starEach [.Name (Str.ofString (tyN t)) p2] J.X.env))) _ _ s
  refine Calls.spliced_cons (thn (ha.dat pins s σ H m S l _ st (RE.el_bind k)) fun u1 s1 ⟨d, S1, m1, H1, k1, st1, f1, x, r1, q1⟩ => ?_)
  rw [hs2]
  show wpAny _ _ (spliced ((false, eval (.Name (Str.ofString (tyN t)) p2) J.X.env) :: backTo pos (starEach [] J.X.env))) _ _ _
  obtain ⟨h1, h2, h3⟩ := boot_ty t
  refine Calls.spliced_cons (ld_blt st1.inv hg2 hm2 h1 (Calls.spliced_nil ?_) h2 h3)
  obtain ⟨w, e, k2⟩ := RE.el_of k1
  obtain ⟨b, e2, rfl⟩ := Option.map_eq_some_iff.mp e
  obtain ⟨u, ty, ko⟩ := isi_D ok.hK r1 e2
  refine fin st1 f1 (call_isi pins s1 σ H1 [x, .ty (tyN t)] _ _ st1.inv (.cons q1 (.cons rfl .nil)) ⟨x, .ty (tyN t), u, _, b, rfl, .ty _, ty, ko, QV.same (w := .d (.bl b)) st1 k2 (.bl b)⟩)
end

/-! ### promises -/
def spRun (Y : Cfg) (C : Cl) (f : Nat) : Sp := fun vs H Q E => ∃ av m S ws, RSt Y av m S H ∧ RWs Y av m H ws vs ∧
  (C f ws S).el (fun w S' => ∀ m' H' v, Fra m H m' H' → RSt Y av m' S' H' → RW Y av m' H' w v → Q v H') (fun c S' => ∀ m' H', Fra m H m' H' → RSt Y av m' S' H' → E (.ref (Y.xA c)) none H')
/-- a promise that is kept once a token is out -/
structure FnT (P : Program) (w : World) (K : PySem.W.Frag) (mg : Str → Option Value) (base : Heap) (k : Nat) (f : Addr) (fd : FuncData) (ps : List Str) (sp : Sp) : Prop where
  len : ∀ vs H Q E, sp vs H Q E → vs.length = ps.length
  run : ∀ (A : Around) (outer : List Env) (s : Shared) (H : Hp) (args : Args) (us : List Value) (vs : List V) (Q : VK) (E : XK), 1 ≤ s.toks → Room k A → Env0 P w K mg base A outer s H → BindsTo s fd args (ps.zip us) → Vals vs us → sp vs H Q E →
    codeAny (model P w) A (.call (.ref f) args) (CR (CX P w) outer P w H s Q E) s
/-- the def f stands at a, and keeps its promise -/
structure FnAt (P : Program) (w : World) (K : PySem.W.Frag) (mg : Str → Option Value) (base : Heap) (Y : Cfg) (C : Cl) (k f : Nat) (a : Addr) : Prop where
  ok : ∃ fd ps, FnT P w K mg base k a fd ps (spRun Y C f) ∧ Binds K fd ps []
  kp : PySem.W.keepIn K (.ref a) = true
section
variable {J : Jx} {pins : List (Addr × Obj)} {σ : L2.St} {m m1 : List Addr} {S S1 : Sto} {l : Sl} {H H1 : Hp} {s s1 : Shared} {C : Cl} {k f : Nat} {a : Addr}
theorem run_at (tk : Takes J.X J.Wx) (F : FnAt J.X.prog J.X.w J.X.K J.X.mg J.X.base J.Y C k f a) (hr : Room k J.X.A) {us : List Value} {vs : List V} {Q : VK} (t0 : 1 ≤ s.toks) (I : Inv J.X pins σ H s) (r : Vals vs us) (h : spRun J.Y C f vs H Q fun c d H' => J.Wx c d σ H') :
    wpAny (model J.X.prog J.X.w) J.X.A (call (.ref a) us) (EP J.X pins σ Q) J.X.xe s := by
  obtain ⟨fd, ps, F, hb⟩ := F.ok
  have hl : us.length = ps.length := by rw [← r.length]; exact F.len _ _ _ _ h
  have hb2 := hb s us st_kin (by rw [List.append_nil]; exact hl)
  rw [List.append_nil] at hb2
  refine wpAny_call (codeAny_mono (F.run J.X.A J.X.stack s H ⟨us, []⟩ us vs Q _ t0 hr I.env0 hb2 r h) fun r s' hq => ?_)
  cases r with
  | error e => exact tk e s' (XE.of_call I (fun _ _ _ z => z) hq)
  | ok fl =>
    cases fl with
    | ret u => exact I.after hq
    | next => exact hq.elim
    | brk => exact hq.elim
    | cont => exact hq.elim
where st_kin := I.kIn
/-- a callee over an empty store left the caller's as it was -/
theorem back_rst (st : RSt J.Y J.av m S H) {H' : Hp} (f : ∀ p o, H p = some o → H' p = some o) : Fra m H m H' ∧ RSt J.Y J.av m S H' := by
  have fr : Fra m H m H' := ⟨fun p o h _ => f p o h, fun _ _ _ n => n, fun _ _ e => e⟩
  refine ⟨fr, st.len, st.nd, fun n o e => ?_, fun a ha => ?_⟩
  · obtain ⟨a, e1, r⟩ := st.at_ n o e
    obtain ⟨u, hu, _⟩ := r.there
    exact ⟨a, e1, r.fra fr (by rw [hu, f a u hu])⟩
  · obtain ⟨o, e⟩ := st.av_ a ha
    exact ⟨o, f a o e⟩
theorem rst_empty (st : RSt J.Y J.av m S H) : RSt J.Y (J.av ++ m) [] [] H :=
  ⟨rfl, by rw [List.append_nil]; exact st.nd, fun n o e => by simp at e, fun a ha => st.tracked ha⟩
theorem RWs.data {Y : Cfg} {av : List Addr} : ∀ {ws : List W} {vs : List V} {ds : List D}, RWs Y av m H ws vs → W.dats ws = some ds → RWs Y (av ++ m) [] H ws vs := by
  intro ws vs ds r e
  have := r.dats e
  rw [W.dats_map e]
  have h2 : RDs Y (av ++ m ++ []) H ds vs := by rw [List.append_nil]; exact this
  exact RWs.of h2
theorem RD.sub {Y : Cfg} {z z' : List Addr} {d : D} {v : V} (r : RD Y z H d v) (h : ∀ p ∈ z', p ∈ z) : RD Y z' H d v := r.keep fun p o e n => ⟨e, fun q => n (h p q)⟩
theorem RDs.sub {Y : Cfg} {z z' : List Addr} {d : List D} {v : List V} (r : RDs Y z H d v) (h : ∀ p ∈ z', p ∈ z) : RDs Y z' H d v := r.keep fun p o e n => ⟨e, fun q => n (h p q)⟩
/-- what a callee that was handed data alone hands back -/
theorem leave_ok {keep : Bool} {K : W → Sto → Prop} {r : RE W} (st : Sta J pins σ m S l H s) (k : (leave keep S r).el K (J.Xc σ l)) :
    r.el (fun w S' => ∀ m' H' v, Fra [] H m' H' → RSt J.Y (J.av ++ m) m' S' H' → RW J.Y (J.av ++ m) m' H' w v → QV J m H K v H') (fun c S' => ∀ m' H', Fra [] H m' H' → RSt J.Y (J.av ++ m) m' S' H' → J.Wx (.ref (J.Y.xA c)) none σ H') := by
  have old : ∀ {m' : List Addr} {H' : Hp}, Fra [] H m' H' → ∀ p o, H p = some o → H' p = some o := fun f p o h => f.keep p o h (by simp)
  cases r with
  | ok w S' =>
    intro m' H' v f rs rw'
    obtain ⟨fr, rst⟩ := back_rst st.rel.st (old f)
    cases w with
    | d x => exact ⟨.d x, S, m, k, fr, rst, RD.sub rw' fun p hp => List.mem_append_left _ hp⟩
    | r n =>
      obtain ⟨a, ha, rfl⟩ := rw'
      have k : ((match S'[n]? with
        | some (.lst ws) => (match W.dats ws with
          | some xs => if keep then RE.ok (.r S.length) (S ++ [.lst ws]) else .ok (.d (.lst xs)) S
          | none => .bad)
        | _ => .bad) : RE W).el K (J.Xc σ l) := k
      split at k
      · rename_i ws e
        split at k
        · rename_i xs e2
          obtain ⟨b, hb, vs, h1, h2⟩ := rs.at_ n _ e
          rw [ha] at hb
          cases hb
          have am : a ∈ m' := List.mem_of_getElem? ha
          have hna : a ∉ J.av ++ m := fun q => (List.nodup_append.mp rs.nd).2.2 a q a am rfl
          have rds := h2.dats e2
          have fr2 : Fra m H (m ++ [a]) H' := by
            refine ⟨fun p o h _ => old f p o h, fun p o h n q => ?_, fun i b e => ?_⟩
            · rcases List.mem_append.mp q with q | q
              · exact n q
              · have : p = a := by simpa using q
                subst this
                exact f.new p o h (by simp) am
            · rw [List.getElem?_append_left (List.getElem?_eq_some_iff.mp e).1]
              exact e
          split at k
          · refine ⟨.r S.length, S ++ [O.lst ws], m ++ [a], k, fr2, ?_, a, ?_, rfl⟩
            · refine ⟨by rw [List.length_append, List.length_append, rst.len]; rfl, ?_, fun i o e3 => ?_, rst.av_⟩
              · rw [← List.append_assoc]
                refine List.nodup_append.mpr ⟨rst.nd, by simp, fun p hp b hb e => ?_⟩
                have : b = a := by simpa using hb
                rw [e, this] at hp
                exact hna hp
              · by_cases hi : i < S.length
                · rw [List.getElem?_append_left hi] at e3
                  obtain ⟨b, e4, ro⟩ := st.rel.st.at_ i o e3
                  obtain ⟨u, hu, _⟩ := ro.there
                  exact ⟨b, fr2.pre i b e4, ro.fra fr2 (by rw [hu, old f b u hu])⟩
                · have hi2 : i = S.length := by
                    have := (List.getElem?_eq_some_iff.mp e3).1
                    rw [List.length_append, List.length_singleton] at this
                    omega
                  subst hi2
                  rw [List.getElem?_append_right (Nat.le_refl _), Nat.sub_self] at e3
                  cases e3
                  refine ⟨a, ?_, vs, h1, ?_⟩
                  · rw [← rst.len, List.getElem?_append_right (Nat.le_refl _), Nat.sub_self]
                    rfl
                  · rw [W.dats_map e2]
                    refine RWs.of (rds.sub fun p hp => ?_)
                    rw [← List.append_assoc] at hp
                    rcases List.mem_append.mp hp with hp | hp
                    · exact List.mem_append_left _ hp
                    · have : p = a := by simpa using hp
                      subst this
                      exact List.mem_append_right _ am
            · rw [← rst.len, List.getElem?_append_right (Nat.le_refl _), Nat.sub_self]
              rfl
          · exact ⟨.d (.lst xs), S, m, k, fr, rst, .lst h1 hna (rds.sub fun p hp => List.mem_append_left _ hp)⟩
        · exact k.elim
      · exact k.elim
    | f g cs => exact k.elim
  | ex c S' =>
    intro m' H' f rs
    obtain ⟨fr, rst⟩ := back_rst st.rel.st (old f)
    exact k m H' (st.fra.trans fr) (st.rel.fra fr rst)
  | bad => exact k
/-- the call itself: data alone, or with the store -/
theorem call_ok {keep : Bool} {K : W → Sto → Prop} {ws : List W} {vs : List V} (st : Sta J pins σ m S l H s) (r : RWs J.Y J.av m H ws vs) (k : (callW C keep f ws S).el K (J.Xc σ l)) :
    spRun J.Y C f vs H (QV J m H K) fun c d H' => J.Wx c d σ H' := by
  unfold callW at k
  split at k
  · rename_i ds e
    exact ⟨J.av ++ m, [], [], ws, rst_empty st.rel.st, r.data e, leave_ok st k⟩
  · refine ⟨J.av, m, S, ws, st.rel.st, r, ?_⟩
    generalize C f ws S = q at k
    cases q with
    | ok w S' => exact fun m' H' v fr rs rw' => ⟨w, S', m', k, fr, rs, rw'⟩
    | ex c S' => exact fun m' H' fr rs => k m' H' (st.fra.trans fr) (st.rel.fra fr rs)
    | bad => exact k
end
section
variable {J : Jx} {C : Cl} {k f : Nat} {a : Addr} {e o : Expr} {es : List Expr} {fo : Sl → Sto → RE W} {fs : Sl → Sto → RE (List W)} {p pos apos : Pos} {x : Str} {keep : Bool}
theorem je_call (ok : J.Ok) (F : FnAt J.X.prog J.X.w J.X.K J.X.mg J.X.base J.Y C k f a) (hr : Room k J.X.A) (hg : Gl J.X x) (hm : J.X.mg x = some (.ref a)) (hd : (x == ("__debug__" : Str)) = false) (ha : JA J (e :: es) fs)
    (he : starEach (e :: es) J.X.env = (false, eval e J.X.env) :: starEach es J.X.env) (hpl : (backTo pos (starEach es J.X.env)).any (·.1) = false) :
    JE J (.Call (.Name x p) (e :: es) [] pos) (fun l S => (fs l S).bind fun ws S => callW C keep f ws S) := by
  intro pins s σ H m S l K st kk
  refine wpAny_Call_Name_kw (ld_glob st.inv hg hm ?_ hd)
  refine PySem.W.callWith_K (h₀ := J.X.base) st.inv.ok.mod.kin F.kp (thn (ha pos pins s σ H m S l _ st (RE.el_bind kk)) fun us s1 ⟨ws, S1, m1, H1, k1, st1, f1, vs, r1, q1⟩ => ⟨st1.inv.kIn, ?_⟩) he hpl
  exact fin st1 f1 (run_at ok.tk F hr st1.tok st1.inv q1 (call_ok st1 r1 k1))
theorem je_call0 (ok : J.Ok) (F : FnAt J.X.prog J.X.w J.X.K J.X.mg J.X.base J.Y C k f a) (hr : Room k J.X.A) (hg : Gl J.X x) (hm : J.X.mg x = some (.ref a)) (hd : (x == ("__debug__" : Str)) = false) :
    JE J (.Call (.Name x p) [] [] pos) (fun l S => (RE.ok [] S).bind fun ws S => callW C keep f ws S) := by
  intro pins s σ H m S l K st kk
  refine wpAny_Call_Name_kw (ld_glob st.inv hg hm ?_ hd)
  refine PySem.W.callWith_K0 st.inv.kIn F.kp ?_
  exact fin st .refl (run_at (us := []) (vs := []) ok.tk F hr st.tok st.inv .nil (call_ok st .nil kk))
theorem zip_none {m : Str} : ∀ {fs : List Str} {vs : List V}, m ∉ fs → (fs.zip vs).lookup m = none
  | [], _, _ => rfl
  | _ :: _, [], _ => rfl
  | a :: fs, b :: vs, h => by
    have hne : (m == a) = false := beq_eq_false_iff_ne.mpr fun z => h (by rw [z]; exact List.mem_cons_self)
    show ((a, b) :: fs.zip vs).lookup m = none
    simp only [List.lookup, hne]
    exact zip_none fun q => h (List.mem_cons_of_mem _ q)
/-- an instance that is read -/
theorem cls_of {pins : List (Addr × Obj)} {σ : L2.St} {m : List Addr} {S : Sto} {l : Sl} {H : Hp} {s : Shared} {c : Nat} {v : W} {y : V} (st : Sta J pins σ m S l H s) (r : RW J.Y J.av m H v y) (e : clsOf S v = some c) :
    ∃ p dx vs, y = .ref p ∧ H p = some (.ins (J.Y.cA c) dx ((J.Y.fs c).zip vs)) := by
  unfold clsOf at e
  split at e
  · cases e
    have r : RD J.Y (J.av ++ m) H (.ins c _) y := r
    cases r with
    | ins h _ _ _ => exact ⟨_, _, _, rfl, h⟩
  · rename_i n
    split at e
    · rename_i c' xs e1
      cases e
      obtain ⟨q, hq, rfl⟩ := r
      obtain ⟨q', hq', dx, vs, h1, _⟩ := st.rel.st.at_ n _ e1
      rw [hq] at hq'
      cases hq'
      exact ⟨q, dx, vs, rfl, h1⟩
    · cases e
  · cases e
structure MtOk (J : Jx) (c : Nat) (n : Str) (a : Addr) : Prop where
  cls : Cls J.X.K (J.Y.cA c)
  mt : Meth J.X.K (J.Y.cA c) n a
  no : n ∉ J.Y.fs c
theorem je_mth (ok : J.Ok) {c : Nat} {n : Str} {pl : Sem Bool} (M : MtOk J c n a) (F : FnAt J.X.prog J.X.w J.X.K J.X.mg J.X.base J.Y C k f a) (hr : Room k J.X.A) (ho : JE J o fo) (ha : JA J (e :: es) fs)
    (hst : starEach (e :: es) J.X.env = (false, eval e J.X.env) :: starEach es J.X.env) (hpl : (backTo pos (starEach es J.X.env)).any (·.1) = false)
    (ht : eval (.Call (.Attribute o n apos) (e :: es) [] pos) J.X.env = (do
      let ov ← eval o J.X.env
      standAt apos.atName
      let (f, first) ← holding [ov] (getMethod ov n pl)
      callWith pos f first (backTo pos (starEach (e :: es) J.X.env)) (backToKw pos (keywordEach [] J.X.env)))) :
    JE J (.Call (.Attribute o n apos) (e :: es) [] pos) (fun l S => (fo l S).bind fun v S => if clsOf S v = some c then (fs l S).bind fun ws S => callW C keep f (v :: ws) S else .bad) := by
  intro pins s σ H m S l K st kk
  refine PySem.W.methodCall_KW (pl := pl) (thn (ho pins s σ H m S l _ st (RE.el_bind kk)) fun u s1 ⟨v, S1, m1, H1, k1, st1, f1, y, r1, q1⟩ => ?_) ht
  dsimp only at k1
  split at k1
  · rename_i hc
    obtain ⟨q, dx, vs0, rfl, hq⟩ := cls_of st1 r1 hc
    cases q1
    refine getmeth_ok st1.inv hq M.cls M.mt (zip_none M.no) ?_
    refine PySem.W.callWith_K (first := [.ref q]) (h₀ := J.X.base) st.inv.ok.mod.kin M.mt.kp (thn (ha pos pins s1 σ H1 m1 S1 l _ st1 (RE.el_bind k1)) fun us s2 ⟨ws, S2, m2, H2, k2, st2, f2, vs, r2, q2⟩ => ⟨st2.inv.kIn, ?_⟩) hst hpl
    exact fin st2 (f1.trans f2) (run_at (us := .ref q :: us) (vs := .ref q :: vs) ok.tk F hr st2.tok st2.inv (.cons rfl q2) (call_ok st2 (.cons (f2.rw r1) r2) k2))
  · exact k1.elim
theorem je_mth0 (ok : J.Ok) {c : Nat} {n : Str} {pl : Sem Bool} (M : MtOk J c n a) (F : FnAt J.X.prog J.X.w J.X.K J.X.mg J.X.base J.Y C k f a) (hr : Room k J.X.A) (ho : JE J o fo)
    (ht : eval (.Call (.Attribute o n apos) [] [] pos) J.X.env = (do
      let ov ← eval o J.X.env
      standAt apos.atName
      let (f, first) ← holding [ov] (getMethod ov n pl)
      callWith pos f first (backTo pos (starEach [] J.X.env)) (backToKw pos (keywordEach [] J.X.env)))) :
    JE J (.Call (.Attribute o n apos) [] [] pos) (fun l S => (fo l S).bind fun v S => if clsOf S v = some c then (RE.ok [] S).bind fun ws S => callW C keep f (v :: ws) S else .bad) := by
  intro pins s σ H m S l K st kk
  refine PySem.W.methodCall_KW (pl := pl) (thn (ho pins s σ H m S l _ st (RE.el_bind kk)) fun u s1 ⟨v, S1, m1, H1, k1, st1, f1, y, r1, q1⟩ => ?_) ht
  dsimp only at k1
  split at k1
  · rename_i hc
    obtain ⟨q, dx, vs0, rfl, hq⟩ := cls_of st1 r1 hc
    cases q1
    refine getmeth_ok st1.inv hq M.cls M.mt (zip_none M.no) ?_
    exact PySem.W.callWith_K0 (first := [.ref q]) st1.inv.kIn M.mt.kp (fin st1 f1 (run_at (us := [.ref q]) (vs := [.ref q]) ok.tk F hr st1.tok st1.inv (.cons rfl .nil) (call_ok st1 (.cons r1 .nil) k1)))
  · exact k1.elim
end
end Kr
/-! KrJ5: a class called. -/
namespace Kr
open PySem PySem.Spec PyProof.Rows L2
section
variable {J : Jx} {pins : List (Addr × Obj)} {σ : L2.St} {m m1 : List Addr} {S S1 : Sto} {l : Sl} {H H1 : Hp} {s s1 : Shared} {C : Cl} {k f : Nat} {a A : Addr}
theorem make_at (tk : Takes J.X J.Wx) (M : Mk J.X.K A a) (F : FnAt J.X.prog J.X.w J.X.K J.X.mg J.X.base J.Y C k f a) (hr : Room (k + 1) J.X.A) {us : List Value} {vs : List V} {Q : VK} (t0 : 1 ≤ s.toks) (I : Inv J.X pins σ H s) (r : Vals vs us)
    (h : ∀ x dx, H x = none → H dx = none → dx ≠ x → spRun J.Y C f (.ref x :: vs) (upd (upd H dx (.own x)) x (.ins A dx [])) (fun v H2 => v = .non ∧ Q (.ref x) H2) fun c d H' => J.Wx c d σ H') :
    wpAny (model J.X.prog J.X.w) J.X.A (call (.ref A) us) (EP J.X pins σ Q) J.X.xe s := by
  obtain ⟨fd, ps, F, hb⟩ := F.ok
  have hq := h (s.heap.objs.size + 1) s.heap.objs.size (I.hok.fresh (Nat.le_succ _)) (I.hok.fresh (Nat.le_refl _)) (Nat.ne_of_lt (Nat.lt_succ_self _))
  have I2 := Inv.made (C := A) I
  have r2 : Vals (V.ref (s.heap.objs.size + 1) :: vs) (Value.ref (s.heap.objs.size + 1) :: us) := .cons rfl r
  have hl : (Value.ref (s.heap.objs.size + 1) :: us).length = ps.length := by
    rw [← r2.length]
    exact F.len _ _ _ _ hq
  have hb2 := hb _ (Value.ref (s.heap.objs.size + 1) :: us) I2.kIn (by rw [List.append_nil]; exact hl)
  rw [List.append_nil] at hb2
  refine wpAny_call (make_map (f := a) I.kIn M.makes M.init (beq_iff_eq.mp M.fn) (codeAny_mono (F.run _ J.X.stack _ _ ⟨Value.ref (s.heap.objs.size + 1) :: us, []⟩ (Value.ref (s.heap.objs.size + 1) :: us) _ _ _ t0 (hr.make A us [])
    (I2.env0.make A us []) hb2 r2 hq) fun r s' hq' => ?_))
  cases r with
  | error e => exact tk e s' (XE.of_call I2 (fun _ _ _ z => z) hq')
  | ok fl =>
    cases fl with
    | ret u =>
      obtain ⟨v, H', I3, rv, ev, q3⟩ := I2.after hq'
      subst ev
      exact ⟨rv, V.ref (s.heap.objs.size + 1), H', I3, rfl, q3⟩
    | next => exact hq'.elim
    | brk => exact hq'.elim
    | cont => exact hq'.elim
theorem RSt.made {Y : Cfg} {av : List Addr} {c : Nat} {x dx : Addr} (st : RSt Y av m S H) (hx : H x = none) (hd : H dx = none) (ne : dx ≠ x) :
    RSt Y av (m ++ [x]) (S ++ [.ins c []]) (upd (upd H dx (.own x)) x (.ins (Y.cA c) dx [])) ∧ Fra m H (m ++ [x]) (upd (upd H dx (.own x)) x (.ins (Y.cA c) dx [])) := by
  have hx2 : upd H dx (.own x) x = none := by rw [upd_ne (Ne.symm ne)]; exact hx
  refine ⟨(st.laid (o := .own x) hd).push hx2 ⟨dx, [], ?_, Nat.zero_le _, .nil⟩, (Fra.laid hd).trans (Fra.push hx2)⟩
  rw [upd_same, List.zip_nil_right]
theorem mk_ok {keep : Bool} {K : W → Sto → Prop} {c : Nat} {ws : List W} {vs : List V} (st : Sta J pins σ m S l H s) (r : RWs J.Y J.av m H ws vs) (k : (mkW C keep c f ws S).el K (J.Xc σ l)) :
    ∀ x dx, H x = none → H dx = none → dx ≠ x → spRun J.Y C f (.ref x :: vs) (upd (upd H dx (.own x)) x (.ins (J.Y.cA c) dx [])) (fun v H2 => v = .non ∧ QV J m H K (.ref x) H2) fun c d H' => J.Wx c d σ H' := by
  intro x dx hx hd ne
  unfold mkW at k
  split at k
  · obtain ⟨rs, fr⟩ := st.rel.st.made (c := c) hx hd ne
    refine ⟨J.av, m ++ [x], S ++ [.ins c []], .r S.length :: ws, rs, .cons ⟨x, ?_, rfl⟩ (fr.rws r), ?_⟩
    · rw [← st.rel.st.len, List.getElem?_append_right (Nat.le_refl _), Nat.sub_self]
      rfl
    · generalize C f (.r S.length :: ws) (S ++ [.ins c []]) = q at k
      have hmx : (m ++ [x])[S.length]? = some x := by
        rw [← st.rel.st.len, List.getElem?_append_right (Nat.le_refl _), Nat.sub_self]
        rfl
      split at k
      · rename_i S'
        intro m' H' v f2 rs2 rv
        cases rv
        exact ⟨rfl, .r S.length, S', m', k, fr.trans f2, rs2, x, f2.pre _ _ hmx, rfl⟩
      · exact fun m' H' f2 rs2 => k m' H' (st.fra.trans (fr.trans f2)) (st.rel.fra (fr.trans f2) rs2)
      · exact k.elim
  · split at k
    · rename_i ds e
      obtain ⟨rs, fr⟩ := (rst_empty st.rel.st).made (c := c) hx hd ne
      have hold : ∀ {m' : List Addr} {H' : Hp}, Fra [x] (upd (upd H dx (.own x)) x (.ins (J.Y.cA c) dx [])) m' H' → ∀ p o, H p = some o → H' p = some o := fun {m' H'} f2 p o h => by
        have n1 : p ≠ x := ne_of_none h hx
        have n2 : p ≠ dx := ne_of_none h hd
        exact f2.keep p o (by rw [upd_ne n1, upd_ne n2]; exact h) (by simpa using n1)
      refine ⟨J.av ++ m, [x], [.ins c []], .r 0 :: ws, rs, .cons ⟨x, rfl, rfl⟩ (fr.rws (r.data e)), ?_⟩
      generalize C f (.r 0 :: ws) [.ins c []] = q at k
      split at k
      · rename_i S'
        intro m' H' v f2 rs2 rv
        cases rv
        refine ⟨rfl, ?_⟩
        obtain ⟨fr3, rst⟩ := back_rst st.rel.st (hold f2)
        split at k
        · rename_i c' xs e2
          split at k
          · rename_i hc
            subst hc
            split at k
            · rename_i ds2 e3
              obtain ⟨b, hb, dx', vs', h1, h2, h3⟩ := rs2.at_ 0 _ e2
              have hb2 := f2.pre 0 x rfl
              rw [hb] at hb2
              cases hb2
              have hm : x ∈ m' := List.mem_of_getElem? hb
              have hna : x ∉ J.av ++ m := fun q => (List.nodup_append.mp rs2.nd).2.2 x q x hm rfl
              exact ⟨.d (.ins c' ds2), S, m, k, fr3, rst, .ins h1 hna h2 ((h3.dats e3).sub fun p hp => List.mem_append_left _ hp)⟩
            · exact k.elim
          · exact k.elim
        · exact k.elim
      · rename_i c' S'
        exact fun m' H' f2 rs2 => k m H' (st.fra.trans (back_rst st.rel.st (hold f2)).1) (st.rel.fra (back_rst st.rel.st (hold f2)).1 (back_rst st.rel.st (hold f2)).2)
      · exact k.elim
    · exact k.elim
end
section
variable {J : Jx} {C : Cl} {k f c : Nat} {a : Addr} {e : Expr} {es : List Expr} {fs : Sl → Sto → RE (List W)} {p pos : Pos} {x : Str} {keep : Bool}
theorem je_mk (ok : J.Ok) (M : Mk J.X.K (J.Y.cA c) a) (F : FnAt J.X.prog J.X.w J.X.K J.X.mg J.X.base J.Y C k f a) (hr : Room (k + 1) J.X.A) (hg : Gl J.X x) (hm : J.X.mg x = some (.ref (J.Y.cA c))) (hd : (x == ("__debug__" : Str)) = false) (ha : JA J (e :: es) fs)
    (he : starEach (e :: es) J.X.env = (false, eval e J.X.env) :: starEach es J.X.env) (hpl : (backTo pos (starEach es J.X.env)).any (·.1) = false) :
    JE J (.Call (.Name x p) (e :: es) [] pos) (fun l S => (fs l S).bind fun ws S => mkW C keep c f ws S) := by
  intro pins s σ H m S l K st kk
  refine wpAny_Call_Name_kw (ld_glob st.inv hg hm ?_ hd)
  refine PySem.W.callWith_K (h₀ := J.X.base) st.inv.ok.mod.kin M.kp (thn (ha pos pins s σ H m S l _ st (RE.el_bind kk)) fun us s1 ⟨ws, S1, m1, H1, k1, st1, f1, vs, r1, q1⟩ => ⟨st1.inv.kIn, ?_⟩) he hpl
  exact fin st1 f1 (make_at ok.tk M F hr st1.tok st1.inv q1 (mk_ok st1 r1 k1))
end
end Kr
/-! KrJ6: what is walked, targets. -/
namespace Kr
open PySem PySem.Spec PyProof.Rows L2

/-! ### what is walked -/
/-- the evaluator's walk and the iterator's go together -/
def WalkOk (Y : Cfg) (av m : List Addr) (H : Hp) (v : Iv) (I : L2.It) : Prop :=
  ∀ (av' m2 : List Addr) (S2 : Sto) (H2 : Hp) (i : Nat), (∀ p o, H p = some o → p ∉ av ++ m → H2 p = some o ∧ p ∉ av' ++ m2) → (∀ (n : Nat) (a : Addr), m[n]? = some a → m2[n]? = some a) → RSt Y av' m2 S2 H2 →
    (∀ w, ivAt S2 i v = some (some w) → I.go i H2 ∧ ∀ x H3, I.yld i H2 x H3 → Fra m2 H2 m2 H3 ∧ RSt Y av' m2 S2 H3 ∧ RW Y av' m2 H3 w x) ∧ (ivAt S2 i v = some none → I.stop i H2)
def RWalk (J : Jx) (m : List Addr) (H : Hp) (K : Iv → Sto → Prop) : L2.It → Hp → Prop := fun I H' => ∃ v S' m', K v S' ∧ Fra m H m' H' ∧ RSt J.Y J.av m' S' H' ∧ WalkOk J.Y J.av m' H' v I
def JI (J : Jx) (tg iter : Expr) (f : Sl → Sto → RE Iv) : Prop :=
  ∀ (pins : List (Addr × Obj)) (s : Shared) (σ : L2.St) (H : Hp) (m : List Addr) (S : Sto) (l : Sl) (K : Iv → Sto → Prop), Sta J pins σ m S l H s → (f l S).el K (J.Xc σ l) →
    wpAny (model J.X.prog J.X.w) J.X.A (eval iter J.X.env) (fun v s1 => wpAny (model J.X.prog J.X.w) J.X.A (pyIter v) (PIE J.X pins σ tg (RWalk J m H K)) J.X.xe s1) J.X.xe s
section
variable {Y : Cfg} {av av' m m2 : List Addr} {H H2 : Hp} {z z' : List Addr}
/-- a written part's tuple is there in every heap -/
theorem vals_walk {vs : List V} {xs : List W} (r : RWs Y av m H xs vs) (hd : ∀ w ∈ xs, ∃ d, w = .d d) (hk : ∀ p o, H p = some o → p ∉ av ++ m → H2 p = some o ∧ p ∉ av' ++ m2) : RWs Y av' m2 H2 xs vs := by
  induction r with
  | nil => exact .nil
  | cons h r ih =>
    obtain ⟨d, rfl⟩ := hd _ List.mem_cons_self
    have h : RD Y (av ++ m) H d _ := h
    exact .cons (show RW Y av' m2 H2 (.d d) _ from h.keep hk) (ih fun w hw => hd w (List.mem_cons_of_mem _ hw))
theorem walk_tup {K : PySem.W.Frag} {p : Addr} {ds : List D} {vs : List V} (hp : (TupAt H p vs ∧ p ∉ av ++ m) ∨ KTup Y.K p vs) (hK : K = Y.K) (r : RDs Y (av ++ m) H ds vs) : WalkOk Y av m H (.vs (ds.map .d)) (Itt K p) := by
  intro av' m2 S2 H2 i hk _ st
  have sq : SqT K H2 p vs := by
    rcases hp with ⟨h, n⟩ | h
    · exact (h.keep n hk).1.sq
    · rw [hK]; exact h.sq
  have r2 : RDs Y (av' ++ m2) H2 ds vs := r.keep hk
  constructor
  · intro w e
    have e : some (ds.map W.d)[i]? = some (some w) := e
    rw [List.getElem?_map] at e
    obtain ⟨d, e1, rfl⟩ := Option.map_eq_some_iff.mp (Option.some.inj e)
    obtain ⟨x, e2, rx⟩ := r2.get e1
    refine ⟨⟨vs, x, sq, e2⟩, fun y H3 hy => ?_⟩
    obtain ⟨rfl, hy⟩ := hy
    have := hy vs sq
    rw [e2] at this
    cases this
    exact ⟨.refl, st, rx⟩
  · intro e
    have e : some (ds.map W.d)[i]? = some none := e
    refine ⟨vs, sq, ?_⟩
    have := List.getElem?_eq_none_iff.mp (Option.some.inj e)
    rw [List.length_map, r2.length] at this
    exact this
theorem walk_lst {K : PySem.W.Frag} {p : Addr} {ds : List D} {vs : List V} (h : H p = some (.lst vs)) (n : p ∉ av ++ m) (r : RDs Y (av ++ m) H ds vs) : WalkOk Y av m H (.vs (ds.map .d)) (Itl K p) := by
  intro av' m2 S2 H2 i hk _ st
  have sq : SqL K H2 p vs := .inl (.inl (hk _ _ h n).1)
  have r2 : RDs Y (av' ++ m2) H2 ds vs := r.keep hk
  constructor
  · intro w e
    have e : some (ds.map W.d)[i]? = some (some w) := e
    rw [List.getElem?_map] at e
    obtain ⟨d, e1, rfl⟩ := Option.map_eq_some_iff.mp (Option.some.inj e)
    obtain ⟨x, e2, rx⟩ := r2.get e1
    refine ⟨⟨vs, x, sq, e2⟩, fun y H3 hy => ?_⟩
    obtain ⟨rfl, hy⟩ := hy
    have := hy vs sq
    rw [e2] at this
    cases this
    exact ⟨.refl, st, rx⟩
  · intro e
    have e : some (ds.map W.d)[i]? = some none := e
    refine ⟨vs, sq, ?_⟩
    have := List.getElem?_eq_none_iff.mp (Option.some.inj e)
    rw [List.length_map, r2.length] at this
    exact this
theorem walk_ref {K : PySem.W.Frag} {p : Addr} {n : Nat} (hp : m[n]? = some p) : WalkOk Y av m H (.ref n) (Itl K p) := by
  intro av' m2 S2 H2 i _ hm st
  have hp2 := hm n p hp
  have go : ∀ {ws : List W}, S2[n]? = some (.lst ws) → ∃ vs, SqL K H2 p vs ∧ RWs Y av' m2 H2 ws vs := fun {ws} e => by
    obtain ⟨q, hq, vs, h1, h2⟩ := st.at_ n _ e
    rw [hp2] at hq
    cases hq
    exact ⟨vs, .inl (.inl h1), h2⟩
  constructor
  · intro w e
    unfold ivAt at e
    dsimp only at e
    split at e
    · rename_i ws e0
      obtain ⟨vs, sq, rws⟩ := go e0
      obtain ⟨x, e2, rx⟩ := rws.get (Option.some.inj e)
      refine ⟨⟨vs, x, sq, e2⟩, fun y H3 hy => ?_⟩
      obtain ⟨rfl, hy⟩ := hy
      have := hy vs sq
      rw [e2] at this
      cases this
      exact ⟨.refl, st, rx⟩
    · cases e
  · intro e
    unfold ivAt at e
    dsimp only at e
    split at e
    · rename_i ws e0
      obtain ⟨vs, sq, rws⟩ := go e0
      refine ⟨vs, sq, ?_⟩
      rw [← rws.length]
      exact List.getElem?_eq_none_iff.mp (Option.some.inj e)
    · cases e
theorem walk_str {t : List Nat} (ha : Asc t) : WalkOk Y av m H (.vs (t.map fun c => .d (.str [c]))) (Its (mkS t)) := by
  intro av' m2 S2 H2 i _ _ st
  constructor
  · intro w e
    have e : some (t.map fun c => W.d (.str [c]))[i]? = some (some w) := e
    rw [List.getElem?_map] at e
    obtain ⟨c, e1, rfl⟩ := Option.map_eq_some_iff.mp (Option.some.inj e)
    refine ⟨?_, fun y H3 hy => ?_⟩
    · show i < (mkS t).cps.size
      have := (List.getElem?_eq_some_iff.mp e1).1
      simpa [mkS] using this
    · obtain ⟨rfl, c', hc, rfl⟩ := hy
      have : c' = c := by
        have h2 : t[i]? = some c' := by simpa [mkS] using hc
        rw [e1] at h2
        exact (Option.some.inj h2).symm
      subst this
      exact ⟨.refl, st, .str [c'] fun a hh => by
        have : a = c' := by simpa using hh
        subst this
        exact ha _ (List.mem_of_getElem? e1)⟩
  · intro e
    have e : some (t.map fun c => W.d (.str [c]))[i]? = some none := e
    show (mkS t).cps.size ≤ i
    have := List.getElem?_eq_none_iff.mp (Option.some.inj e)
    simpa [mkS] using this
theorem walk_rng {a : Int} {n : Nat} : WalkOk Y av m H (.vs (range1 n a)) (Itr a n) := by
  intro av' m2 S2 H2 i _ _ st
  have hat : (range1 n a)[i]? = if i < n then some (.d (.int (a + i))) else none := by
    unfold range1
    rw [List.getElem?_map]
    by_cases h : i < n
    · rw [List.getElem?_range h, if_pos h]
      rfl
    · rw [List.getElem?_eq_none (by rw [List.length_range]; omega), if_neg h]
      rfl
  constructor
  · intro w e
    have e : (range1 n a)[i]? = some w := Option.some.inj e
    rw [hat] at e
    split at e
    · rename_i h
      cases e
      refine ⟨h, fun y H3 hy => ?_⟩
      obtain ⟨rfl, rfl⟩ := hy
      exact ⟨.refl, st, .int _⟩
    · cases e
  · intro e
    have e : (range1 n a)[i]? = none := Option.some.inj e
    rw [hat] at e
    split at e
    · cases e
    · rename_i h
      exact Nat.le_of_not_lt h
end
section
variable {J : Jx} {tg e a b : Expr} {fe fa fb : Sl → Sto → RE W} {p pos : Pos}
theorem ji_seq (ok : J.Ok) (he : JE J e fe) : JI J tg e (fun l S => (fe l S).bind fun w S => seqIv S w) := by
  intro pins s σ H m S l K st k
  refine thn (he pins s σ H m S l _ st (RE.el_bind k)) fun u s1 ⟨w, S1, m1, H1, k1, st1, f1, x, r1, q1⟩ => ?_
  unfold seqIv at k1
  dsimp only at k1
  have lst : ∀ {p : Addr} {vs : List V} {v : Iv}, x = .ref p → SqL J.X.K H1 p vs → K v S1 → WalkOk J.Y J.av m1 H1 v (Itl J.X.K p) → wpAny (model J.X.prog J.X.w) J.X.A (pyIter u) (PIE J.X pins σ tg (RWalk J m H K)) J.X.xe s1 := by
    intro p vs v ex sq kv wo
    subst ex
    cases q1
    obtain ⟨its, rv, pl, hz⟩ := st1.inv.list sq
    refine wpAny_pyIter_list pl.isList ?_
    exact pi_one (tk := s1.toks) st1.inv _ (turn_list p _) ⟨_, Heap.get?_push_size _ rfl, rfl, rfl⟩ ⟨v, S1, m1, kv, f1, st1.rel.st, wo⟩
  split at k1
  · rename_i d
    obtain ⟨v, e1, k2⟩ := RE.el_of k1
    obtain ⟨xs, e2, rfl⟩ := Option.map_eq_some_iff.mp e1
    have r1 : RD J.Y (J.av ++ m1) H1 d x := r1
    cases r1 with
    | str t ha =>
      cases e2
      obtain ⟨tk, rfl⟩ := q1
      have q : RWalk J m H K (Its (mkS t)) H1 := ⟨_, S1, m1, k2, f1, st1.rel.st, walk_str ha⟩
      cases hx : (mkS t).cps.all (· < 128)
      · exact wpAny_pyIter_wide hx (pi_one (tk := s1.toks) st1.inv _ (turn_str _ (mkS t) tk "str_iterator" (.inr rfl)) ⟨_, Heap.get?_push_size _ rfl, rfl, rfl⟩ q)
      · exact wpAny_pyIter_ascii hx (pi_one (tk := s1.toks) st1.inv _ (turn_str _ (mkS t) tk "str_ascii_iterator" (.inl rfl)) ⟨_, Heap.get?_push_size _ rfl, rfl, rfl⟩ q)
    | @tup p ds vs h n r =>
      cases e2
      cases q1
      obtain ⟨its, rv, pl, hz⟩ := st1.inv.tuple (h.sq (K := J.X.K))
      refine wpAny_pyIter_tuple (show s1.heap.IsTuple p its.toArray from pl) ?_
      exact pi_one (tk := s1.toks) st1.inv _ (turn_tuple p _) ⟨_, Heap.get?_push_size _ rfl, rfl, rfl⟩ ⟨_, S1, m1, k2, f1, st1.rel.st, walk_tup (.inl ⟨h, n⟩) ok.hK r⟩
    | @tupK p ds vs h r =>
      cases e2
      cases q1
      have h2 := h
      rw [← ok.hK] at h2
      obtain ⟨its, rv, pl, hz⟩ := st1.inv.tuple (h2.sq (K := J.X.K))
      refine wpAny_pyIter_tuple (show s1.heap.IsTuple p its.toArray from pl) ?_
      exact pi_one (tk := s1.toks) st1.inv _ (turn_tuple p _) ⟨_, Heap.get?_push_size _ rfl, rfl, rfl⟩ ⟨_, S1, m1, k2, f1, st1.rel.st, walk_tup (.inr h) ok.hK r⟩
    | @lst p ds vs h n r =>
      cases e2
      exact lst rfl (.inl (.inl h)) k2 (walk_lst h n r)
    | non => cases e2
    | bl => cases e2
    | int => cases e2
    | ins => cases e2
    | scr => cases e2
    | scrK => cases e2
  · rename_i n
    split at k1
    · rename_i ws e0
      obtain ⟨p, hp, rfl⟩ := r1
      obtain ⟨q, hq, vs, h1, h2⟩ := st1.rel.st.at_ n _ e0
      rw [hp] at hq
      cases hq
      exact lst rfl (.inl (.inl h1)) k1 (walk_ref hp)
    · exact k1.elim
  · exact k1.elim
theorem rngOk_of {i : Int} (h : rngOk i = true) : -(2 ^ 62) ≤ i ∧ i < 2 ^ 62 := by
  unfold rngOk at h
  simp only [Bool.and_eq_true, decide_eq_true_eq] at h
  omega
theorem ji_rng1 (hg : Gl J.X "range") (hm : J.X.mg "range" = none) (ha : JE J a fa) (hs : starEach [a] J.X.env = [(false, eval a J.X.env)]) :
    JI J tg (.Call (.Name "range" p) [a] [] pos) (fun l S => (asD (fa l S)).bind fun x S => (match x with
    | .int i => if rngOk i then .ok (.vs (range1 (rngN 0 i) 0)) S else .bad
    | _ => .bad)) := by
  intro pins s σ H m S l K st k
  refine Call_ (ld_blt st.inv hg hm boot_range (PyProof.Rows.callWith_type1 ?_ hs rfl))
  rw [hs]
  show wpAny _ _ (spliced ((false, eval a J.X.env) :: backTo pos [])) _ _ s
  refine Calls.spliced_cons (thn (ha.dat pins s σ H m S l _ st (RE.el_bind k)) fun u1 s1 ⟨d, S1, m1, H1, k1, st1, f1, x, r1, q1⟩ => Calls.spliced_nil ?_)
  cases d with
  | int i =>
    obtain rfl := r1.int
    obtain ⟨t, rfl⟩ := q1
    dsimp only at k1
    split at k1
    · rename_i h
      obtain ⟨h1, h2⟩ := rngOk_of h
      refine call_range_1 (range_it st1.inv (by omega) (by omega) h1 h2 ⟨_, S1, m1, k1, f1, st1.rel.st, ?_⟩)
      exact walk_rng
    · exact k1.elim
  | _ => exact k1.elim
theorem ji_rng2 (hg : Gl J.X "range") (hm : J.X.mg "range" = none) (ha : JE J a fa) (hb : JE J b fb) (hs : starEach [a, b] J.X.env = [(false, eval a J.X.env), (false, eval b J.X.env)]) (hs2 : starEach [b] J.X.env = [(false, eval b J.X.env)]) :
    JI J tg (.Call (.Name "range" p) [a, b] [] pos) (fun l S => (asD (fa l S)).bind fun x S => (asD (fb l S)).bind fun y S => (match x, y with
    | .int i, .int j => if rngOk i && rngOk j then .ok (.vs (range1 (rngN i j) i)) S else .bad
    | _, _ => .bad)) := by
  intro pins s σ H m S l K st k
  refine Call_ (ld_blt st.inv hg hm boot_range (PyProof.Rows.callWith_type1 ?_ (by rw [hs, hs2]) (by rw [hs2]; rfl)))
  rw [hs]
  show wpAny _ _ (spliced ((false, eval a J.X.env) :: backTo pos [(false, eval b J.X.env)])) _ _ s
  refine Calls.spliced_cons (thn (ha.dat pins s σ H m S l _ st (RE.el_bind k)) fun u1 s1 ⟨d, S1, m1, H1, k1, st1, f1, x, r1, q1⟩ => ?_)
  show wpAny _ _ (spliced ((false, eval b J.X.env) :: backTo pos [])) _ _ s1
  refine Calls.spliced_cons (thn (hb.dat pins s1 σ H1 m1 S1 l _ st1 (RE.el_bind k1)) fun u2 s2 ⟨d2, S2, m2, H2, k2, st2, f2, y, r2, q2⟩ => Calls.spliced_nil ?_)
  dsimp only at k2
  split at k2
  · obtain rfl := r1.int
    obtain rfl := r2.int
    obtain ⟨t, rfl⟩ := q1
    obtain ⟨t', rfl⟩ := q2
    split at k2
    · rename_i h
      obtain ⟨ha, hb⟩ := Bool.and_eq_true_iff.mp h
      obtain ⟨h1, h2⟩ := rngOk_of ha
      obtain ⟨h3, h4⟩ := rngOk_of hb
      exact call_range_2 (range_it st2.inv h1 h2 h3 h4 ⟨_, S2, m2, k2, f1.trans f2, st2.rel.st, walk_rng⟩)
    · exact k2.elim
  · exact k2.elim
end
/-! ### targets -/
def RS.nxt (K : Sl → Sto → Prop) : RS → Prop
  | .nx l S => K l S
  | _ => False
theorem RS.nxt_sq {K : Sl → Sto → Prop} {r : RS} {f : Sl → Sto → RS} (h : (r.sq f).nxt K) : r.nxt fun l S => (f l S).nxt K := by
  cases r <;> exact h
def JG (J : Jx) (tg : Expr) (is : List Nat) (g : W → Sl → Sto → RS) : Prop :=
  ∀ (pins : List (Addr × Obj)) (s : Shared) (σ : L2.St) (H : Hp) (m : List Addr) (S : Sto) (l : Sl) (w : W) (v : V) (u : Value) (K : Sl → Sto → Prop), Sta J pins σ m S l H s → RW J.Y J.av m H w v → RelV v u → (g w l S).nxt K →
    wpAny (model J.X.prog J.X.w) J.X.A (assign tg J.X.env u) (fun _ s' => ∃ σ' l' S', K l' S' ∧ Sta J pins σ' m S' l' H s' ∧ (σ'.length = σ.length ∧ ∀ j, j ∉ is → σ'[j]? = σ[j]?)) J.X.xe s
def JGs (J : Jx) (ts : List Expr) (is : List Nat) (g : List D → Sl → Sto → RS) : Prop :=
  ∀ (pins : List (Addr × Obj)) (s : Shared) (σ : L2.St) (H : Hp) (m : List Addr) (S : Sto) (l : Sl) (ds : List D) (vs : List V) (us : List Value) (K : Sl → Sto → Prop), Sta J pins σ m S l H s → RDs J.Y (J.av ++ m) H ds vs → Vals vs us → (g ds l S).nxt K →
    wpAny (model J.X.prog J.X.w) J.X.A (assignInOrder ((assignEach ts J.X.env).map (·.2)) us) (fun _ s' => ∃ σ' l' S', K l' S' ∧ Sta J pins σ' m S' l' H s' ∧ (σ'.length = σ.length ∧ ∀ j, j ∉ is → σ'[j]? = σ[j]?)) J.X.xe s
section
variable {J : Jx} {pos : Pos}
theorem Sta.set {pins : List (Addr × Obj)} {σ : L2.St} {m : List Addr} {S : Sto} {l : Sl} {H : Hp} {s s' : Shared} {i : Nat} {w : W} {v : V} (st : Sta J pins σ m S l H s) (t : 1 ≤ s'.toks) (I : Inv J.X pins (σ.set i (some v)) H s') (r : RW J.Y J.av m H w v) :
    Sta J pins (σ.set i (some v)) m S (l.set i (some w)) H s' := ⟨t, I, st.fra, st.rel.set r⟩
theorem store_go {pins : List (Addr × Obj)} {σ : L2.St} {m : List Addr} {S : Sto} {l : Sl} {H : Hp} {s : Shared} {i : Nat} {x : Str} {w : W} {v : V} {u : Value} {Q : Unit → Shared → Prop} (st : Sta J pins σ m S l H s) (hN : J.X.N.Nodup) (hi : J.X.N[i]? = some x) (hx : Loc J.X.env.scope x)
    (hf : J.X.fn x = true ∨ J.X.env.scope.names.lookup x = some .local) (r : RW J.Y J.av m H w v) (q : RelV v u) (h : ∀ s', Sta J pins (σ.set i (some v)) m S (l.set i (some w)) H s' → Q () s') : wpAny (model J.X.prog J.X.w) J.X.A (storeName J.X.env x u) Q J.X.xe s := by
  refine wpAny_mono (PySem.wpAny_toks_of st.tok (store_ok (Q := fun _ s2 => Inv J.X pins (σ.set i (some v)) H s2) st.inv hN hi hx q (fun _ I2 => I2) hf)) (fun _ s2 z => h s2 (st.set z.1 z.2 r)) fun _ _ z => z.2
theorem jg_nam {i : Nat} {x : Str} (hN : J.X.N.Nodup) (hi : J.X.N[i]? = some x) (hx : Loc J.X.env.scope x) (hf : J.X.fn x = true ∨ J.X.env.scope.names.lookup x = some .local) : JG J (.Name x pos) [i] (fun w l S => if i < l.length then .nx (l.set i (some w)) S else .bad) := by
  intro pins s σ H m S l w v u K st r q k
  dsimp only at k
  split at k
  · exact wpAny_assign_Name (store_go st hN hi hx hf r q fun s' st' => ⟨_, _, _, k, st', List.length_set, fun j hj => List.getElem?_set_ne (fun e => hj (List.mem_singleton.mpr e.symm))⟩)
  · exact k.elim
theorem jgs_nil : JGs J [] [] (fun xs l S => (match xs with
    | [] => .nx l S
    | _ :: _ => .bad)) := by
  intro pins s σ H m S l ds vs us K st r q k
  cases r with
  | nil =>
    cases q
    exact assignInOrder_nil ⟨_, _, _, k, st, rfl, fun _ _ => rfl⟩
  | cons h r => exact k.elim
theorem jgs_cons {e : Expr} {es : List Expr} {is js : List Nat} {g : W → Sl → Sto → RS} {gs : List D → Sl → Sto → RS} (h1 : JG J e is g) (h2 : JGs J es js gs) (hs : (assignEach (e :: es) J.X.env).map (·.2) = assign e J.X.env :: (assignEach es J.X.env).map (·.2)) :
    JGs J (e :: es) (is ++ js) (fun xs l S => (match xs with
    | [] => .bad
    | x :: xs => (g (.d x) l S).sq fun l S => gs xs l S)) := by
  intro pins s σ H m S l ds vs us K st r q k
  cases r with
  | nil => exact k.elim
  | @cons d v ds vs hd r =>
    cases q with
    | cons qd q =>
      rw [hs]
      refine assignInOrder_cons (thn (h1 pins s σ H m S l (.d d) v _ _ st hd qd (RS.nxt_sq k)) fun _ s1 ⟨σ1, l1, S1, k1, st1, e1, e2⟩ => ?_)
      refine thn (h2 pins s1 σ1 H m S1 l1 _ _ _ K st1 r q k1) fun _ s2 ⟨σ2, l2, S2, k2, st2, e3, e4⟩ => ⟨σ2, l2, S2, k2, st2, e3.trans e1, fun j hj => ?_⟩
      rw [e4 j fun z => hj (List.mem_append_right _ z), e2 j fun z => hj (List.mem_append_left _ z)]
theorem jg_tup {es : List Expr} {k : Nat} {is : List Nat} {gs : List D → Sl → Sto → RS} {n : Nat} (hc : J.X.calm = true) (ok : J.Ok) (h : JGs J es is gs) (hn : (assignEach es J.X.env).length = n) (hlen : ∀ xs l S K, (gs xs l S).nxt K → xs.length = n) (hst : (assignEach es J.X.env).findIdx? (·.1) = none) :
    JG J (.Tuple es k pos) is (fun w l S => (match w with
    | .d (.tup xs) => gs xs l S
    | _ => .bad)) := by
  intro pins s σ H m S l w v u K st r q kk
  dsimp only at kk
  split at kk
  · rename_i xs
    obtain ⟨_, p, vs, rfl, sq, rd⟩ := RT.tup (.inl r : RT J.Y (J.av ++ m) H (.tup xs) v)
    cases q
    rw [← ok.hK] at sq
    obtain ⟨its, rv, ht, hz⟩ := st.inv.tuple sq
    refine assign_Tuple_tuple (st.inv.ok.hd hc) ht (by simp [hn, ← hlen _ _ _ _ kk, rd.length, rv.length]) hst fun h' hx => ?_
    have st1 : Sta J pins σ m S l H { s with heap := h' } := ⟨st.tok, st.inv.kept (t' := s.toks) fun b o e => hx b o (Nat.ne_of_lt (Heap.lt_size e)) e, st.fra, st.rel⟩
    exact h pins _ σ H m S l xs vs _ K st1 rd (by simpa using rv) kk
  · exact kk.elim
end
end Kr
/-! KrJ7: statements. -/
namespace Kr
open PySem PySem.Spec PyProof.Rows L2

structure Ks where
  nx : Sl → Sto → Prop
  rt : W → Sto → Prop
  bk : Sl → Sto → Prop
  ct : Sl → Sto → Prop
def RS.el (K : Ks) (X : Nat → Sl → Sto → Prop) : RS → Prop
  | .nx l S => K.nx l S
  | .ret w S => K.rt w S
  | .brk l S => K.bk l S
  | .cnt l S => K.ct l S
  | .ex c l S => X c l S
  | .bad => False
section
variable {α : Type} {K : Ks} {X : Nat → Sl → Sto → Prop} {r : RE α} {q : RS} {l : Sl}
theorem RE.st_el {f : α → Sto → RS} (h : (r.st l f).el K X) : r.el (fun a S => (f a S).el K X) (fun c S => X c l S) := by
  cases r <;> exact h
theorem RS.sq_el {f : Sl → Sto → RS} (h : (q.sq f).el K X) : q.el { K with nx := fun l S => (f l S).el K X } X := by
  cases q <;> exact h
theorem RE.el_x {M : α → Sto → Prop} {X X' : Nat → Sto → Prop} (h : r.el M X) (i : ∀ c S, X c S → X' c S) : r.el M X' := by
  cases r with
  | ok a S => exact h
  | ex c S => exact i _ _ h
  | bad => exact h
theorem RS.nxt_el (h : q.el K X) (hn : ∀ l S, q ≠ .nx l S → q.el K X → False) : q.nxt K.nx := by
  cases q with
  | nx l S => exact h
  | _ => exact hn [] [] (fun e => nomatch e) h
end
def Jx.Xs (J : Jx) (c : Nat) (l : Sl) (S : Sto) : Prop := ∀ m' H' σ', Fra J.m0 J.H0 m' H' → Rel J.Y J.av m' S l σ' H' → J.Wx (.ref (J.Y.xA c)) none σ' H'
theorem Jx.Xs.c {J : Jx} {σ : L2.St} {l : Sl} {c : Nat} {S : Sto} (h : J.Xs c l S) : J.Xc σ l c S := fun m' H' f r => h m' H' σ f r
def PostS (J : Jx) (pins : List (Addr × Obj)) (m : List Addr) (H : Hp) (K : Ks) (f : Flow) (s' : Shared) : Prop := match f with
  | .next => ∃ l' S' m' H' σ', K.nx l' S' ∧ Sta J pins σ' m' S' l' H' s' ∧ Fra m H m' H'
  | .brk => ∃ l' S' m' H' σ', K.bk l' S' ∧ Sta J pins σ' m' S' l' H' s' ∧ Fra m H m' H'
  | .cont => ∃ l' S' m' H' σ', K.ct l' S' ∧ Sta J pins σ' m' S' l' H' s' ∧ Fra m H m' H'
  | .ret u => ∃ w S' m' H' l' σ' v, K.rt w S' ∧ Sta J pins σ' m' S' l' H' s' ∧ Fra m H m' H' ∧ RW J.Y J.av m' H' w v ∧ RelV v u
def JS (J : Jx) (st : Stmt) (f : Sl → Sto → RS) : Prop :=
  ∀ (pins : List (Addr × Obj)) (s : Shared) (σ : L2.St) (H : Hp) (m : List Addr) (S : Sto) (l : Sl) (K : Ks), Sta J pins σ m S l H s → (f l S).el K J.Xs → wpAny (model J.X.prog J.X.w) J.X.A (exec st J.X.env) (PostS J pins m H K) J.X.xe s
def JSs (J : Jx) (sts : List Stmt) (f : Sl → Sto → RS) : Prop :=
  ∀ (pins : List (Addr × Obj)) (s : Shared) (σ : L2.St) (H : Hp) (m : List Addr) (S : Sto) (l : Sl) (K : Ks), Sta J pins σ m S l H s → (f l S).el K J.Xs → wpAny (model J.X.prog J.X.w) J.X.A (execs sts J.X.env) (PostS J pins m H K) J.X.xe s
section
variable {J : Jx} {pins : List (Addr × Obj)} {σ : L2.St} {m m1 : List Addr} {S : Sto} {l : Sl} {H H1 : Hp} {s : Shared} {K K' : Ks} {f : Flow}
theorem PostS.fra (h : PostS J pins m1 H1 K f s) (g : Fra m H m1 H1) : PostS J pins m H K f s := by
  cases f with
  | next => obtain ⟨l', S', m', H', σ', k, st, fr⟩ := h; exact ⟨l', S', m', H', σ', k, st, g.trans fr⟩
  | brk => obtain ⟨l', S', m', H', σ', k, st, fr⟩ := h; exact ⟨l', S', m', H', σ', k, st, g.trans fr⟩
  | cont => obtain ⟨l', S', m', H', σ', k, st, fr⟩ := h; exact ⟨l', S', m', H', σ', k, st, g.trans fr⟩
  | ret u => obtain ⟨w, S', m', H', l', σ', v, k, st, fr, r⟩ := h; exact ⟨w, S', m', H', l', σ', v, k, st, g.trans fr, r⟩
/-- an expression's value in a statement -/
theorem JE.go {e : Expr} {fe : Sl → Sto → RE W} {g : W → Sto → RS} (he : JE J e fe) (st : Sta J pins σ m S l H s) (k : ((fe l S).st l g).el K J.Xs) {Q : Value → Shared → Prop}
    (h : ∀ u s1 w S1 m1 H1 v, (g w S1).el K J.Xs → Sta J pins σ m1 S1 l H1 s1 → Fra m H m1 H1 → RW J.Y J.av m1 H1 w v → RelV v u → Q u s1) : wpAny (model J.X.prog J.X.w) J.X.A (eval e J.X.env) Q J.X.xe s :=
  thn (he pins s σ H m S l _ st (RE.el_x (RE.st_el k) fun c S x => Jx.Xs.c x)) fun u s1 ⟨w, S1, m1, H1, k1, st1, f1, v, r1, q1⟩ => h u s1 w S1 m1 H1 v k1 st1 f1 r1 q1
theorem JT.go {e : Expr} {ft : Sl → Sto → RE Bool} {g : Bool → Sto → RS} (ht : JT J e ft) (st : Sta J pins σ m S l H s) (k : ((ft l S).st l g).el K J.Xs) {Q : Bool → Shared → Prop}
    (h : ∀ s1 b S1 m1 H1, (g b S1).el K J.Xs → Sta J pins σ m1 S1 l H1 s1 → Fra m H m1 H1 → Q b s1) : wpAny (model J.X.prog J.X.w) J.X.A (isTrue e J.X.env (eval e J.X.env)) Q J.X.xe s :=
  thn (ht pins s σ H m S l _ st (RE.el_x (RE.st_el k) fun c S x => Jx.Xs.c x)) fun u s1 ⟨w, S1, m1, H1, k1, st1, f1, e⟩ => by subst e; exact h s1 w S1 m1 H1 k1 st1 f1
end
section
variable {J : Jx} {pos : Pos} {e o : Expr} {fe fo : Sl → Sto → RE W}
theorem jss_nil : JSs J [] (fun l S => .nx l S) := fun pins s σ H m S l K st k => wpAny_execs_nil ⟨l, S, m, H, σ, k, st, .refl⟩
theorem jss_cons {a : Stmt} {r : List Stmt} {f g : Sl → Sto → RS} (h1 : JS J a f) (h2 : JSs J r g) : JSs J (a :: r) (fun l S => (f l S).sq fun l S => g l S) := by
  intro pins s σ H m S l K st k
  refine wpAny_execs_cons (thn (h1 pins s σ H m S l _ st (RS.sq_el k)) fun fl s1 q => ?_)
  cases fl with
  | next =>
    obtain ⟨l', S', m', H', σ', k', st', fr⟩ := q
    exact thn (h2 pins s1 σ' H' m' S' l' K st' k') fun _ _ z => z.fra fr
  | ret v => exact q
  | brk => exact q
  | cont => exact q
theorem js_pass : JS J (.Pass pos) (fun l S => .nx l S) := fun pins s σ H m S l K st k => wpAny_Pass ⟨l, S, m, H, σ, k, st, .refl⟩
theorem js_brk : JS J (.Break pos) (fun l S => .brk l S) := fun pins s σ H m S l K st k => wpAny_Break ⟨l, S, m, H, σ, k, st, .refl⟩
theorem js_cnt : JS J (.Continue pos) (fun l S => .cnt l S) := fun pins s σ H m S l K st k => wpAny_Continue ⟨l, S, m, H, σ, k, st, .refl⟩
theorem js_doc {x : Str} {j : Nat} {p : Pos} : JS J (.Expr (.Constant (.str x) j p) pos) (fun l S => .nx l S) := fun pins s σ H m S l K st k =>
  wpAny_Expr (Calls.Constant_str ⟨l, S, m, H, σ, k, st.up, .refl⟩) st.inv.quiet
theorem js_expr (he : JE J e fe) (hs : swapsWith e none pos.line J.X.env = pure false) : JS J (.Expr e pos) (fun l S => (fe l S).st l fun _ S => .nx l S) := by
  intro pins s σ H m S l K st k
  exact wpAny_Expr_any (he.go st k fun u s1 w S1 m1 H1 v k1 st1 f1 r q => ⟨l, S1, m1, H1, σ, k1, st1, f1⟩) st.inv.quiet hs
theorem js_ret (he : JE J e fe) : JS J (.Return (some e) pos) (fun l S => (fe l S).st l fun w S => .ret w S) := by
  intro pins s σ H m S l K st k
  exact wpAny_Return_some (he.go st k fun u s1 w S1 m1 H1 v k1 st1 f1 r q => ⟨w, S1, m1, H1, l, σ, v, k1, st1, f1, r, q⟩)
theorem js_retN : JS J (.Return none pos) (fun _ S => .ret (.d .non) S) := fun pins s σ H m S l K st k => wpAny_Return_none ⟨.d .non, S, m, H, l, σ, .non, k, st, .refl, .non, rfl⟩
theorem js_ite {c : Expr} {a b : List Stmt} {ft : Sl → Sto → RE Bool} {f g : Sl → Sto → RS} (hc : JT J c ft) (ha : JSs J a f) (hb : JSs J b g) : JS J (.If c a b pos) (fun l S => (ft l S).st l fun k S => if k then f l S else g l S) := by
  intro pins s σ H m S l K st k
  refine wpAny_If (hc.go st k fun s1 t S1 m1 H1 k1 st1 f1 => ?_)
  cases t with
  | true => exact thn (ha pins s1 σ H1 m1 S1 l K st1 k1) fun _ _ z => z.fra f1
  | false => exact thn (hb pins s1 σ H1 m1 S1 l K st1 k1) fun _ _ z => z.fra f1
/-- only nx comes of a target -/
def Nxo (g : W → Sl → Sto → RS) : Prop := ∀ w l S, (∃ l' S', g w l S = .nx l' S') ∨ g w l S = .bad
theorem Nxo.el {g : W → Sl → Sto → RS} (n : Nxo g) {w : W} {l : Sl} {S : Sto} {K : Ks} {X : Nat → Sl → Sto → Prop} (h : (g w l S).el K X) : (g w l S).nxt K.nx := by
  rcases n w l S with ⟨l', S', e⟩ | e
  · rw [e] at h ⊢; exact h
  · rw [e] at h; exact h.elim
theorem js_asg {tg : Expr} {is : List Nat} {g : W → Sl → Sto → RS} (he : JE J e fe) (hg : JG J tg is g) (hn : Nxo g) (hs : swapsWithSole [tg] e pos.line J.X.env = pure false) (hw : swappedStores [tg] e J.X.env = pure none) (h1 : (assignEach [tg] J.X.env).map (·.2) = [assign tg J.X.env]) :
    JS J (.Assign [tg] e pos) (fun l S => (fe l S).st l fun w S => g w l S) := by
  intro pins s σ H m S l K st k
  refine wpAny_Assign_stores (he.go st k fun u s1 w S1 m1 H1 v k1 st1 f1 r q => ?_) hs hw
  rw [h1]
  exact thn (hg pins s1 σ H1 m1 S1 l w v u K.nx st1 r q (hn.el k1)) fun _ s2 ⟨σ2, l2, S2, k2, st2, _⟩ => ⟨l2, S2, m1, H1, σ2, k2, st2, f1⟩
theorem js_set {i : Nat} {x : Str} {pos' : Pos} (hN : J.X.N.Nodup) (hi : J.X.N[i]? = some x) (hx : Loc J.X.env.scope x) (hf : J.X.fn x = true ∨ J.X.env.scope.names.lookup x = some .local) (he : JE J e fe) (hs : swapsWith e (some (.Name x pos')) pos.line J.X.env = pure false) :
    JS J (.Assign [.Name x pos'] e pos) (fun l S => (fe l S).st l fun w S => if i < l.length then .nx (l.set i (some w)) S else .bad) := by
  intro pins s σ H m S l K st k
  refine wpAny_Assign_Name (he.go st k fun u s1 w S1 m1 H1 v k1 st1 f1 r q => ?_) hs
  split at k1
  · exact store_go st1 hN hi hx hf r q fun s2 st2 => ⟨_, S1, m1, H1, _, k1, st2, f1⟩
  · exact k1.elim
/-! ### while, for -/
theorem js_whl {c : Expr} {b : List Stmt} {ft : Sl → Sto → RE Bool} {f : Sl → Sto → RS} (hp : PassesOwn (model J.X.prog J.X.w) J.X.A J.X.env J.X.xe) (hc : JT J c ft) (hb : JSs J b f) (n : Nat) : JS J (.While c b [] pos) (evWhile ft f n) := by
  intro pins s σ H m S l K st k
  refine wpAny_While (codeAny_whileLoop (fun n s' => ∃ l' S' m' H' σ', Sta J pins σ' m' S' l' H' s' ∧ Fra m H m' H' ∧ (evWhile ft f n l' S').el K J.Xs) ?_ n ⟨l, S, m, H, σ, st, .refl, k⟩)
  rintro n s1 ⟨l1, S1, m1, H1, σ1, st1, f1, k1⟩
  cases n with
  | zero => exact k1.elim
  | succ n =>
    unfold evWhile at k1
    refine wpAny_passesOwn hp (hc.go st1 k1 fun s2 t S2 m2 H2 k2 st2 f2 => ?_)
    cases t with
    | true =>
      rw [if_pos rfl]
      have k2 : (match f l1 S2 with
        | .nx l S => evWhile ft f n l S
        | .cnt l S => evWhile ft f n l S
        | .brk l S => .nx l S
        | r => r).el K J.Xs := k2
      have k3 : (f l1 S2).el { nx := fun l S => (evWhile ft f n l S).el K J.Xs, rt := K.rt, bk := K.nx, ct := fun l S => (evWhile ft f n l S).el K J.Xs } J.Xs := by
        generalize f l1 S2 = r at k2
        cases r <;> exact k2
      refine wpAny_passesOwn hp (thn (hb pins s2 σ1 H2 m2 S2 l1 _ st2 k3) fun fl s3 q3 => ?_)
      have f12 := f1.trans f2
      cases fl with
      | next => obtain ⟨l', S', m', H', σ', k', st', fr⟩ := q3; exact ⟨n, Nat.lt_succ_self n, l', S', m', H', σ', st', f12.trans fr, k'⟩
      | cont => obtain ⟨l', S', m', H', σ', k', st', fr⟩ := q3; exact ⟨n, Nat.lt_succ_self n, l', S', m', H', σ', st', f12.trans fr, k'⟩
      | brk => obtain ⟨l', S', m', H', σ', k', st', fr⟩ := q3; exact ⟨l', S', m', H', σ', k', st', f12.trans fr⟩
      | ret v => obtain ⟨w, S', m', H', l', σ', v', k', st', fr, r⟩ := q3; exact ⟨w, S', m', H', l', σ', v', k', st', f12.trans fr, r⟩
    | false =>
      rw [if_neg Bool.false_ne_true]
      exact wpAny_execs_nil ⟨l1, S2, m2, H2, σ1, k2, st2, f1.trans f2⟩
theorem evFor_X (g : W → Sl → Sto → RS) (b : Sl → Sto → RS) (xs : List W) : ∀ (k i : Nat) (l : Sl) (S : Sto), xs.length + 1 = k + i → i ≤ xs.length → evForX g b (.vs xs) k i l S = evFor g b (xs.drop i) l S
  | 0, i, l, S, h, h2 => by
    omega
  | k + 1, i, l, S, h, h2 => by
    unfold evForX
    by_cases hi : i < xs.length
    · rw [List.drop_eq_getElem_cons hi]
      unfold evFor
      have e : ivAt S i (.vs xs) = some (some xs[i]) := by
        show some xs[i]? = _
        rw [List.getElem?_eq_getElem hi]
      rw [e]
      dsimp only
      have ih := fun l S => evFor_X g b xs k (i + 1) l S (by omega) hi
      simp only [ih]
    · rw [List.drop_of_length_le (by omega)]
      have e : ivAt S i (.vs xs) = some none := by
        show some xs[i]? = _
        rw [List.getElem?_eq_none (by omega)]
      rw [e]
      rfl
def ivN : Iv → Nat
  | .vs xs => xs.length + 1
  | .ref _ => 100000
theorem evForI_X (g : W → Sl → Sto → RS) (b : Sl → Sto → RS) (v : Iv) (l : Sl) (S : Sto) : evForI g b v l S = evForX g b v (ivN v) 0 l S := by
  cases v with
  | vs xs =>
    show evFor g b xs l S = evForX g b (.vs xs) (xs.length + 1) 0 l S
    rw [evFor_X g b xs (xs.length + 1) 0 l S rfl (Nat.zero_le _), List.drop_zero]
  | ref n => rfl
theorem Sta.unpin {pins pl : List (Addr × Obj)} {σ : L2.St} {m : List Addr} {S : Sto} {l : Sl} {H : Hp} {s : Shared} (st : Sta J (pins ++ pl) σ m S l H s) : Sta J pins σ m S l H s := ⟨st.tok, st.inv.unpinned, st.fra, st.rel⟩
theorem js_for {tg iter : Expr} {b : List Stmt} {fi : Sl → Sto → RE Iv} {is : List Nat} {g : W → Sl → Sto → RS} {f : Sl → Sto → RS} (hp : PassesOwn (model J.X.prog J.X.w) J.X.A J.X.env J.X.xe) (hc : J.X.calm = true) (hi : JI J tg iter fi) (hg : JG J tg is g) (hn : Nxo g) (hb : JSs J b f)
    (hs : ∀ x, foldedSetIterable iter J.X.env x = pure x) : JS J (.For tg iter b [] pos) (fun l S => (fi l S).st l fun v S => evForI g f v l S) := by
  intro pins s σ H m S l K st k
  refine wpAny_For (wpAny_mono (PySem.wpAny_toks_of st.tok (hi pins s σ H m S l _ st (RE.el_x (RE.st_el k) fun c S x => Jx.Xs.c x))) (fun v s1 z1 => wpAny_mono (PySem.wpAny_toks_of z1.1 z1.2) (fun itv s2 h2 => ?_) fun _ _ z => z.2) fun _ _ z => z.2) hs
  obtain ⟨tk2, it, fp, tn, I, H2, e, I2, T, st2, f2, iv, S2, m2, k2, fr2, rs2, wo⟩ := h2
  subst e
  have stat : ∀ {H' : Hp}, (∀ b ∈ fp, H' b = none) → ∀ b ∈ fp, FpOk J.X pins H' b := fun hn b hb => ⟨hn b hb, (f2 b hb).2⟩
  rw [evForI_X] at k2
  refine codeAny_forLoop_any (fun n s' => ∃ i l' S' m' H' σ', Sta J pins σ' m' S' l' H' s' ∧ Fra m H m' H' ∧ Fra m2 H2 m' H' ∧ tn i s'.heap ∧ (∀ b ∈ fp, H' b = none) ∧ (evForX g f iv n i l' S').el K J.Xs) ?_ (ivN iv) ⟨0, l, S2, m2, H2, σ, st.mv tk2 I2 fr2 rs2, fr2, .refl, st2, fun b hb => (f2 b hb).1, k2⟩
  rintro n s3 ⟨i, l3, S3, m3, H3, σ3, st3, fr3, fr23, tn3, fp3, k3⟩
  cases n with
  | zero => exact k3.elim
  | succ n =>
    unfold evForX at k3
    have wk := wo J.av m3 S3 H3 i (fun p o h q => ⟨fr23.keep p o h fun z => q (List.mem_append_right _ z), fun z => (List.mem_append.mp z).elim (fun z => q (List.mem_append_left _ z)) (fr23.new p o h fun z => q (List.mem_append_right _ z))⟩) fr23.pre st3.rel.st
    generalize hat : ivAt S3 i iv = at3 at k3 wk
    cases at3 with
    | none => exact k3.elim
    | some ow =>
      cases ow with
      | none =>
        refine wpAny_passesOwn hp (wpAny_mono (PySem.wpAny_toks_of st3.tok (T.done J.X rfl rfl rfl hc i pins s3 σ3 H3 J.X.xe st3.inv (stat fp3) tn3 (wk.2 rfl))) (fun r s4 z4 => ?_) fun _ _ z => z.2)
        obtain ⟨tk4, hr, I4⟩ := z4
        subst hr
        exact wpAny_execs_nil ⟨l3, S3, m3, H3, σ3, k3, ⟨tk4, I4, st3.fra, st3.rel⟩, fr3⟩
      | some w =>
        obtain ⟨go, yl⟩ := wk.1 w rfl
        refine wpAny_passesOwn hp (wpAny_mono (PySem.wpAny_toks_of st3.tok (T.item J.X rfl rfl rfl hc i pins s3 σ3 H3 J.X.xe st3.inv (stat fp3) tn3 go)) (fun r s4 z4 => ?_) fun _ _ z => z.2)
        obtain ⟨tk4, u, hr, h4⟩ := z4
        subst hr
        refine wpAny_passesOwn hp (wpAny_mono (PySem.wpAny_toks_of tk4 h4) (fun _ s5 z5 => ?_) fun _ _ z => z.2)
        obtain ⟨tk5, x, H5, I5, r5, y5, tn5, fp5⟩ := z5
        obtain ⟨fr5, rs5, rw5⟩ := yl x H5 y5
        have st5 : Sta J (pins ++ pinsAt fp s5.heap) σ3 m3 S3 l3 H5 s5 := ⟨tk5, I5.pinned (stat fp5) (T.obj _ _ tn5), st3.fra.trans fr5, st3.rel.fra fr5 rs5⟩
        have k3' : (g w l3 S3).nxt fun l S => (f l S).el ⟨fun l S => (evForX g f iv n (i + 1) l S).el K J.Xs, K.rt, K.nx, fun l S => (evForX g f iv n (i + 1) l S).el K J.Xs⟩ J.Xs := by
          dsimp only at k3
          rcases hn w l3 S3 with ⟨l', S', e⟩ | e
          · rw [e] at k3 ⊢
            show (f l' S').el _ _
            dsimp only [RS.sq] at k3
            generalize f l' S' = r at k3
            cases r <;> exact k3
          · rw [e] at k3
            exact k3.elim
        refine wpAny_passesOwn hp (thn (hg _ s5 σ3 H5 m3 S3 l3 w x u _ st5 rw5 r5 k3') fun _ s6 ⟨σ6, l6, S6, k7, st6, _⟩ => ?_)
        refine wpAny_passesOwn hp (thn (hb _ s6 σ6 H5 m3 S6 l6 _ st6 k7) fun fl s7 q7 => ?_)
        have again : ∀ {l' : Sl} {S' : Sto} {m' : List Addr} {H' : Hp} {σ' : L2.St}, (evForX g f iv n (i + 1) l' S').el K J.Xs → Sta J (pins ++ pinsAt fp s5.heap) σ' m' S' l' H' s7 → Fra m3 H5 m' H' →
            ∃ j, j < n + 1 ∧ ∃ i l' S' m' H' σ', Sta J pins σ' m' S' l' H' s7 ∧ Fra m H m' H' ∧ Fra m2 H2 m' H' ∧ tn i s7.heap ∧ (∀ b ∈ fp, H' b = none) ∧ (evForX g f iv j i l' S').el K J.Xs := fun {l' S' m' H' σ'} k' st' fr' => by
          refine ⟨n, Nat.lt_succ_self n, i + 1, l', S', m', H', σ', st'.unpin, (fr3.trans fr5).trans fr', (fr23.trans fr5).trans fr', T.keep _ _ _ tn5 fun b hb o e => (st'.inv.pin (b, o) (List.mem_append_right _ (List.mem_append_right _ (mem_pinsAt hb e)))).1, fun b hb => ?_, k'⟩
          obtain ⟨o, e, _⟩ := T.obj _ _ tn5 b hb
          exact (st'.inv.pin (b, o) (List.mem_append_right _ (List.mem_append_right _ (mem_pinsAt hb e)))).2.1
        have f35 := fr3.trans fr5
        cases fl with
        | next => obtain ⟨l', S', m', H', σ', k', st', fr⟩ := q7; exact again k' st' fr
        | cont => obtain ⟨l', S', m', H', σ', k', st', fr⟩ := q7; exact again k' st' fr
        | brk => obtain ⟨l', S', m', H', σ', k', st', fr⟩ := q7; exact ⟨l', S', m', H', σ', k', st'.unpin, f35.trans fr⟩
        | ret v => obtain ⟨w', S', m', H', l', σ', v', k', st', fr, r⟩ := q7; exact ⟨w', S', m', H', l', σ', v', k', st'.unpin, f35.trans fr, r⟩
end
end Kr
/-! KrJ8: fields set, several names at once, raise, try. -/
namespace Kr
open PySem PySem.Spec PyProof.Rows L2

theorem putF_set {f : Str} {y : V} : ∀ {fs : List Str} {vs : List V} {k : Nat}, fs.Nodup → fs[k]? = some f → k < vs.length → putF f y (fs.zip vs) = fs.zip (vs.set k y)
  | [], _, _, _, e, _ => by simp at e
  | _ :: _, [], _, _, _, h => by simp at h
  | a :: fs, b :: vs, 0, _, e, _ => by
    simp at e
    subst e
    show (if a = a then (a, y) :: fs.zip vs else _) = _
    rw [if_pos rfl]
    rfl
  | a :: fs, b :: vs, k + 1, nd, e, h => by
    simp only [List.getElem?_cons_succ] at e
    have hne : ¬ a = f := fun z => (List.nodup_cons.mp nd).1 (z ▸ List.mem_of_getElem? e)
    show (if a = f then _ else (a, b) :: putF f y (fs.zip vs)) = _
    rw [if_neg hne, putF_set (List.nodup_cons.mp nd).2 e (by simpa using h)]
    rfl
theorem putF_new {f : Str} {y : V} : ∀ {fs : List Str} {vs : List V}, fs.Nodup → fs[vs.length]? = some f → putF f y (fs.zip vs) = fs.zip (vs ++ [y])
  | [], _, _, e => by simp at e
  | a :: fs, [], _, e => by
    simp at e
    subst e
    simp [putF]
  | a :: fs, b :: vs, nd, e => by
    simp only [List.length_cons, List.getElem?_cons_succ] at e
    have hne : ¬ a = f := fun z => (List.nodup_cons.mp nd).1 (z ▸ List.mem_of_getElem? e)
    show (if a = f then _ else (a, b) :: putF f y (fs.zip vs)) = _
    rw [if_neg hne, putF_new (List.nodup_cons.mp nd).2 e]
    rfl
def evSetf (c k : Nat) (w : W) (l : Sl) (S : Sto) (v : W) : RS := match v with
    | .r n => (match S[n]? with
      | some (.ins c' xs) => if c' = c then (match putW k w xs with
        | some ys => .nx l (S.set n (.ins c ys))
        | none => .bad) else .bad
      | _ => .bad)
    | _ => .bad
section
variable {J : Jx} {pos : Pos} {e o : Expr} {fe fo : Sl → Sto → RE W}
theorem RE.st_of {α : Type} {r : RE α} {l : Sl} {f : α → Sto → RS} {K : Ks} {X : Nat → Sl → Sto → Prop} (h : r.el (fun a S => (f a S).el K X) (fun c S => X c l S)) : (r.st l f).el K X := by
  cases r <;> exact h
theorem js_setf {c k : Nat} {f : Str} {pos' : Pos} (F : FldOk J c k f) (hl : (J.Y.fs c).length < 1000) (he : JE J e fe) (ho : JE J o fo) (hs : swapsWith e (some (.Attribute o f pos')) pos.line J.X.env = pure false) :
    JS J (.Assign [.Attribute o f pos'] e pos) (fun l S => (fe l S).st l fun w S => (fo l S).st l fun v S => evSetf c k w l S v) := by
  intro pins s σ H m S l K st kk
  refine plainObj_wpAny_Assign_Attribute (he.go st kk fun u s1 w S1 m1 H1 y k1 st1 f1 r1 q1 => ho.go st1 k1 fun ov s2 v S2 m2 H2 x k2 st2 f2 r2 q2 => ?_) hs
  unfold evSetf at k2
  split at k2
  · rename_i n
    split at k2
    · rename_i c' xs e0
      split at k2
      · rename_i hc
        subst hc
        split at k2
        · rename_i ys e1
          obtain ⟨p, hp, rfl⟩ := r2
          cases q2
          obtain ⟨p', hp', dx, vs, h1, h2, h3⟩ := st2.rel.st.at_ n _ e0
          rw [hp] at hp'
          cases hp'
          have hz : ((J.Y.fs c').zip vs).length < 1000 := by rw [List.length_zip]; omega
          have hm : p ∈ m2 := List.mem_of_getElem? hp
          have hlen := h3.length
          have kf : k < (J.Y.fs c').length := (List.getElem?_eq_some_iff.mp F.at_).1
          refine wpAny_mono (PySem.wpAny_toks_of st2.tok (setattr_ok (Q := fun _ s3 => Inv J.X pins σ (upd H2 p (.ins (J.Y.cA c') dx (putF f y ((J.Y.fs c').zip vs)))) s3) st2.inv h1 F.cls F.no hz q1 fun s3 I3 => I3)) (fun _ s3 z => ?_) fun _ _ z => z.2
          have fw : Fra m2 H2 m2 (upd H2 p (.ins (J.Y.cA c') dx (putF f y ((J.Y.fs c').zip vs)))) := Fra.write hm
          have rw1 := fw.rw (f2.rw r1)
          have ro : RO J.Y J.av m2 (upd H2 p (.ins (J.Y.cA c') dx (putF f y ((J.Y.fs c').zip vs)))) p (.ins c' ys) := by
            unfold putW at e1
            split at e1
            · rename_i hk
              cases e1
              refine ⟨dx, vs.set k y, ?_, by rw [List.length_set]; exact h2, RWs.set rw1 k (fw.rws h3)⟩
              rw [upd_same, putF_set F.nd F.at_ (by omega)]
            · split at e1
              · rename_i hk
                cases e1
                refine ⟨dx, vs ++ [y], ?_, by rw [List.length_append, List.length_singleton]; omega, RWs.app (fw.rws h3) (.cons rw1 .nil)⟩
                have ha := F.at_
                rw [hk, hlen] at ha
                rw [upd_same, putF_new F.nd ha]
              · cases e1
          exact ⟨l, _, m2, _, σ, k2, ⟨z.1, z.2, (st2.fra).trans fw, st2.rel.fra fw (st2.rel.st.write hp ro)⟩, (f1.trans f2).trans fw⟩
        · exact k2.elim
      · exact k2.elim
    · exact k2.elim
  · exact k2.elim
/-! ### several names at once, from the right -/
theorem bind_go {pins : List (Addr × Obj)} {σ : L2.St} {m : List Addr} {S : Sto} {l : Sl} {H : Hp} {s : Shared} {i : Nat} {x : Str} {w : W} {v : V} {u : Value} {Q : Unit → Shared → Prop} (st : Sta J pins σ m S l H s) (hN : J.X.N.Nodup) (hi : J.X.N[i]? = some x)
    (hx : J.X.env.scope.names.lookup x = some .local) (r : RW J.Y J.av m H w v) (q : RelV v u) (h : ∀ s', Sta J pins (σ.set i (some v)) m S (l.set i (some w)) H s' → Q () s') : wpAny (model J.X.prog J.X.w) J.X.A (bindName J.X.env x u) Q J.X.xe s :=
  wpAny_bindName (store_go st hN hi (.inl hx) (.inr hx) r q h)
theorem par_go {tg e : Expr} {fe : Sl → Sto → RE W} {g : W → Sl → Sto → RS} {names : List Str} {n : Nat} {pins : List (Addr × Obj)} {σ : L2.St} {m : List Addr} {S : Sto} {l : Sl} {H : Hp} {s : Shared} {K : Ks} (ok : J.Ok) (hc : J.X.calm = true) (hnm : names.length = n) (he : JE J e fe)
    (hw : swappedStores [tg] e J.X.env = pure (some names)) (hs : swapsWithSole [tg] e pos.line J.X.env = pure false) (st : Sta J pins σ m S l H s) (k : ((fe l S).st l fun w S => g w l S).el K J.Xs)
    (hg : ∀ w S1, (g w l S1).el K J.Xs → ∃ ds, w = .d (.tup ds) ∧ ds.length = n)
    (h : ∀ (ds : List D) (vs : List V) (us : List Value) (S1 : Sto) (m1 : List Addr) (H1 : Hp) (s1 : Shared), (g (.d (.tup ds)) l S1).el K J.Xs → Sta J pins σ m1 S1 l H1 s1 → Fra m H m1 H1 → RDs J.Y (J.av ++ m1) H1 ds vs → Vals vs us → us.length = n →
      wpAny (model J.X.prog J.X.w) J.X.A (assignInOrder (names.reverse.map fun x => bindName J.X.env x) us.reverse) (fun _ s' => PostS J pins m H K .next s') J.X.xe s1) :
    wpAny (model J.X.prog J.X.w) J.X.A (exec (.Assign [tg] e pos) J.X.env) (PostS J pins m H K) J.X.xe s := by
  rw [exec_Assign_arm]
  refine wpAny_bind (wpAny_standAt ?_)
  rw [hs]
  refine wpAny_bind (wpAny_pure ?_)
  rw [if_neg (by decide)]
  refine wpAny_bind (he.go st k fun u s1 w S1 m1 H1 v k1 st1 f1 r1 q1 => ?_)
  obtain ⟨ds, rfl, hl⟩ := hg w S1 k1
  obtain ⟨_, p, vs, rfl, sq, rd⟩ := RT.tup (.inl r1 : RT J.Y (J.av ++ m1) H1 (.tup ds) v)
  cases q1
  rw [← ok.hK] at sq
  obtain ⟨its, rv, ht, hz⟩ := st1.inv.tuple sq
  rw [hw]
  refine wpAny_bind (wpAny_pure ?_)
  show wpAny (model J.X.prog J.X.w) J.X.A (do rule "assign.swapped-stores"; let items ← unpackItems (.ref p) names.length none; assignInOrder (names.reverse.map fun n => bindName J.X.env n) items.reverse; pure Flow.next) _ _ _
  have hlu : its.length = n := by rw [← rv.length, ← rd.length]; exact hl
  rw [hnm]
  have e1 : its.toArray.size = n := by rw [List.size_toArray]; exact hlu
  rw [← e1]
  refine wpAny_bind (wpAny_rule (wpAny_bind (unpackItems_tuple (items := its.toArray) (st.inv.ok.hd hc) ht fun h' hx' => ?_)))
  have st2 : Sta J pins σ m1 S1 l H1 { s1 with heap := h' } := ⟨st1.tok, st1.inv.kept (t' := s1.toks) fun b o e => hx' b o (Nat.ne_of_lt (Heap.lt_size e)) e, st1.fra, st1.rel⟩
  have := h ds vs its S1 m1 H1 _ k1 st2 f1 rd rv hlu
  refine wpAny_bind (thn ?_ fun _ s' z => wpAny_pure z)
  simpa using this
theorem js_par2 {i j : Nat} {x y : Str} {px py pt : Pos} {kt : Nat} {g : W → Sl → Sto → RS} (ok : J.Ok) (hc : J.X.calm = true) (hN : J.X.N.Nodup) (hi : J.X.N[i]? = some x) (hj : J.X.N[j]? = some y) (hij : i ≠ j) (hx : J.X.env.scope.names.lookup x = some .local) (hy : J.X.env.scope.names.lookup y = some .local)
    (he : JE J e fe) (hw : swappedStores [.Tuple [.Name x px, .Name y py] kt pt] e J.X.env = pure (some [x, y])) (hs : swapsWithSole [.Tuple [.Name x px, .Name y py] kt pt] e pos.line J.X.env = pure false)
    (hg : ∀ w l S K X, (g w l S).el K X → ∃ a b, w = .d (.tup [a, b]) ∧ K.nx ((l.set i (some (.d a))).set j (some (.d b))) S) : JS J (.Assign [.Tuple [.Name x px, .Name y py] kt pt] e pos) (fun l S => (fe l S).st l fun w S => g w l S) := by
  intro pins s σ H m S l K st k
  refine par_go (n := 2) ok hc rfl he hw hs st k (fun w S1 k1 => ?_) fun ds vs us S1 m1 H1 s1 k1 st1 f1 rd rv hl => ?_
  · obtain ⟨a, b, rfl, _⟩ := hg w l S1 K J.Xs k1
    exact ⟨_, rfl, rfl⟩
  · obtain ⟨a, b, e1, k2⟩ := hg _ l S1 K J.Xs k1
    cases e1
    cases rd with
    | @cons _ va _ _ ra rd =>
      cases rd with
      | @cons _ vb _ _ rb rd =>
        cases rd
        obtain ⟨u1, u2, rfl, q1, q2⟩ := vals2 rv
        show wpAny _ _ (assignInOrder [fun v => bindName J.X.env y v, fun v => bindName J.X.env x v] [u2, u1]) _ _ _
        refine assignInOrder_cons (bind_go (w := .d b) st1 hN hj hy rb q2 fun s2 st2 => assignInOrder_cons (bind_go (w := .d a) st2 hN hi hx ra q1 fun s3 st3 => assignInOrder_nil ?_))
        rw [List.set_comm _ _ hij] at k2
        exact ⟨_, S1, m1, H1, _, k2, st3, f1⟩
theorem js_par3 {i j n : Nat} {x y z : Str} {px py pz pt : Pos} {kt : Nat} {g : W → Sl → Sto → RS} (ok : J.Ok) (hc : J.X.calm = true) (hN : J.X.N.Nodup) (hi : J.X.N[i]? = some x) (hj : J.X.N[j]? = some y) (hn : J.X.N[n]? = some z) (hij : i ≠ j) (hin : i ≠ n) (hjn : j ≠ n)
    (hx : J.X.env.scope.names.lookup x = some .local) (hy : J.X.env.scope.names.lookup y = some .local) (hz : J.X.env.scope.names.lookup z = some .local)
    (he : JE J e fe) (hw : swappedStores [.Tuple [.Name x px, .Name y py, .Name z pz] kt pt] e J.X.env = pure (some [x, y, z])) (hs : swapsWithSole [.Tuple [.Name x px, .Name y py, .Name z pz] kt pt] e pos.line J.X.env = pure false)
    (hg : ∀ w l S K X, (g w l S).el K X → ∃ a b c, w = .d (.tup [a, b, c]) ∧ K.nx (((l.set i (some (.d a))).set j (some (.d b))).set n (some (.d c))) S) : JS J (.Assign [.Tuple [.Name x px, .Name y py, .Name z pz] kt pt] e pos) (fun l S => (fe l S).st l fun w S => g w l S) := by
  intro pins s σ H m S l K st k
  refine par_go (n := 3) ok hc rfl he hw hs st k (fun w S1 k1 => ?_) fun ds vs us S1 m1 H1 s1 k1 st1 f1 rd rv hl => ?_
  · obtain ⟨a, b, c, rfl, _⟩ := hg w l S1 K J.Xs k1
    exact ⟨_, rfl, rfl⟩
  · obtain ⟨a, b, c, e1, k2⟩ := hg _ l S1 K J.Xs k1
    cases e1
    cases rd with
    | @cons _ va _ _ ra rd =>
      cases rd with
      | @cons _ vb _ _ rb rd =>
        cases rd with
        | @cons _ vc _ _ rc rd =>
          cases rd
          cases rv with
          | @cons _ u1 _ _ q1 rv =>
            cases rv with
            | @cons _ u2 _ _ q2 rv =>
              cases rv with
              | @cons _ u3 _ _ q3 rv =>
                cases rv
                show wpAny _ _ (assignInOrder [fun v => bindName J.X.env z v, fun v => bindName J.X.env y v, fun v => bindName J.X.env x v] [u3, u2, u1]) _ _ _
                refine assignInOrder_cons (bind_go (w := .d c) st1 hN hn hz rc q3 fun s2 st2 => assignInOrder_cons (bind_go (w := .d b) st2 hN hj hy rb q2 fun s3 st3 => assignInOrder_cons (bind_go (w := .d a) st3 hN hi hx ra q1 fun s4 st4 => assignInOrder_nil ?_)))
                have e2 : ((l.set n (some (W.d c))).set j (some (.d b))).set i (some (.d a)) = ((l.set i (some (.d a))).set j (some (.d b))).set n (some (.d c)) := by
                  rw [List.set_comm _ _ hij, List.set_comm (l := l.set j _) _ _ hin, List.set_comm (l := l) _ _ hjn]
                rw [← e2] at k2
                exact ⟨_, S1, m1, H1, _, k2, st4, f1⟩
/-! ### raise -/
structure ExOk (J : Jx) (c : Nat) (x : Str) : Prop where
  ex : ∃ B newId initId bmB, ExcBaseFacts B newId initId bmB ∧ PySem.W.excIn J.X.K (J.Y.xA c) bmB newId = true
  kp : PySem.W.keepIn J.X.K (.ref (J.Y.xA c)) = true
  rs : Raises J.X (.ref (J.Y.xA c))
theorem js_raise {c : Nat} {x msg : Str} {p p2 cpos : Pos} {j : Nat} (ok : J.Ok) (hc : J.X.calm = true) (E : ExOk J c x) (hg : Gl J.X x) (hm : J.X.mg x = some (.ref (J.Y.xA c))) (hd : (x == ("__debug__" : Str)) = false) :
    JS J (.Raise (some (.Call (.Name x p) [.Constant (.str msg) j p2] [] cpos)) none pos) (fun l S => .ex c l S) := by
  intro pins s σ H m S l K st k
  obtain ⟨B, nw, ini, bmB, F, q⟩ := E.ex
  refine thn ((ps_raise hc ok.tk (pmk_own F q hm E.kp E.rs hg hd)).run pins s σ H ⟨fun _ _ => False, fun _ _ => False, fun _ _ => False, fun _ _ => False⟩ st.inv (k m H σ st.fra st.rel)) fun fl s1 q => ?_
  cases fl with
  | next => obtain ⟨_, _, _, z⟩ := q; exact z.elim
  | brk => obtain ⟨_, _, _, z⟩ := q; exact z.elim
  | cont => obtain ⟨_, _, _, z⟩ := q; exact z.elim
  | ret u => obtain ⟨_, _, _, _, _, z⟩ := q; exact z.elim
end
end Kr
/-! KrJ9: op=, try. -/
namespace Kr
open PySem PySem.Spec PyProof.Rows L2
def evAug (i : Nat) (o : Bop) (r : Sl → Sto → RE W) (l : Sl) (S : Sto) : RS := match l[i]? with
    | some (some (.d x)) => (asD (r l S)).st l fun y S => (match intOp o x y with
      | some z => .nx (l.set i (some (.d z))) S
      | none => .bad)
    | _ => .bad
def evAugf (c k : Nat) (ro : Sl → Sto → RE W) (b : Bop) (re : Sl → Sto → RE W) (l : Sl) (S : Sto) : RS := (ro l S).st l fun v S => (match v with
    | .r n => (match S[n]? with
      | some (.ins c' xs) => if c' = c then (match xs[k]? with
        | some (.d x) => (asD (re l S)).st l fun y S => (match intOp b x y with
          | some z => (match S[n]? with
            | some (.ins c' ys) => if c' = c then (match putW k (.d z) ys with
              | some ys => .nx l (S.set n (.ins c ys))
              | none => .bad) else .bad
            | _ => .bad)
          | none => .bad)
        | _ => .bad) else .bad
      | _ => .bad)
    | _ => .bad)
section
variable {J : Jx} {pos : Pos} {e o : Expr} {fe fo : Sl → Sto → RE W}
theorem intOp_some {o : Bop} {x y z : D} (h : intOp o x y = some z) : ∃ i j, x = .int i ∧ y = .int j ∧ ((o = .add ∧ z = .int (i + j)) ∨ (o = .sub ∧ z = .int (i - j))) := by
  unfold intOp at h
  split at h
  · cases h; exact ⟨_, _, rfl, rfl, .inl ⟨rfl, rfl⟩⟩
  · cases h; exact ⟨_, _, rfl, rfl, .inr ⟨rfl, rfl⟩⟩
  · cases h
theorem JE.goD {pins : List (Addr × Obj)} {σ : L2.St} {m : List Addr} {S : Sto} {l : Sl} {H : Hp} {s : Shared} {K : Ks} {g : D → Sto → RS} (he : JE J e fe) (st : Sta J pins σ m S l H s) (k : ((asD (fe l S)).st l g).el K J.Xs) {Q : Value → Shared → Prop}
    (h : ∀ u s1 d S1 m1 H1 v, (g d S1).el K J.Xs → Sta J pins σ m1 S1 l H1 s1 → Fra m H m1 H1 → RT J.Y (J.av ++ m1) H1 d v → RelV v u → Q u s1) : wpAny (model J.X.prog J.X.w) J.X.A (eval e J.X.env) Q J.X.xe s :=
  thn (he.dat pins s σ H m S l _ st (RE.el_x (RE.st_el k) fun c S x => Jx.Xs.c x)) fun u s1 ⟨w, S1, m1, H1, k1, st1, f1, v, r1, q1⟩ => h u s1 w S1 m1 H1 v k1 st1 f1 r1 q1
theorem inop_go {pins : List (Addr × Obj)} {σ : L2.St} {m : List Addr} {S : Sto} {l : Sl} {H : Hp} {s : Shared} {o : Bop} {x y z : D} {vx vy : V} {ux uy : Value} {Q : Value → Shared → Prop} (st : Sta J pins σ m S l H s) (e : intOp o x y = some z) (rx : RT J.Y (J.av ++ m) H x vx) (ry : RT J.Y (J.av ++ m) H y vy)
    (qx : RelV vx ux) (qy : RelV vy uy) (h : ∀ u s' v, Sta J pins σ m S l H s' → RW J.Y J.av m H (.d z) v → RelV v u → Q u s') : wpAny (model J.X.prog J.X.w) J.X.A (inplaceOp (bopOf o) ux uy) Q J.X.xe s := by
  obtain ⟨i, j, rfl, rfl, c⟩ := intOp_some e
  obtain rfl := rx.int
  obtain rfl := ry.int
  rcases c with ⟨rfl, rfl⟩ | ⟨rfl, rfl⟩
  · refine wpAny_mono (PySem.wpAny_toks_of st.tok (in_add pins s σ H _ _ ux uy (fun v H' => v = .int (i + j) ∧ H' = H) st.inv qx qy ⟨i, j, rfl, rfl, rfl, rfl⟩)) (fun u s' zz => ?_) fun _ _ z => z.2
    obtain ⟨tk, v, H', I, r, rfl, rfl⟩ := zz
    exact h u s' _ ⟨tk, I, st.fra, st.rel⟩ (.int _) r
  · refine wpAny_mono (PySem.wpAny_toks_of st.tok (in_sub pins s σ H _ _ ux uy (fun v H' => v = .int (i - j) ∧ H' = H) st.inv qx qy ⟨i, j, rfl, rfl, rfl, rfl⟩)) (fun u s' zz => ?_) fun _ _ z => z.2
    obtain ⟨tk, v, H', I, r, rfl, rfl⟩ := zz
    exact h u s' _ ⟨tk, I, st.fra, st.rel⟩ (.int _) r
theorem js_aug {i : Nat} {x : Str} {pos' : Pos} (o : Bop) (hN : J.X.N.Nodup) (hi : J.X.N[i]? = some x) (hx : Loc J.X.env.scope x) (hf : J.X.fn x = true ∨ J.X.env.scope.names.lookup x = some .local) (he : JE J e fe) : JS J (.AugAssign (.Name x pos') (bopOf o) e pos) (evAug i o fe) := by
  intro pins s σ H m S l K st k
  unfold evAug at k
  split at k
  · rename_i x0 e0
    obtain ⟨v, e1, r⟩ := st.rel.sl.2 i _ e0
    obtain ⟨mm, hn, hl⟩ := st.inv.loc
    have vis : Vis J.X.env.scope x := by rcases hx with k | k; exact .inl k; exact .inr (.inl k)
    obtain ⟨u, ru, lk⟩ := hl i x v hi e1 vis
    refine wpAny_AugAssign_Name ?_
    have go : wpAny (model J.X.prog J.X.w) J.X.A (eval e J.X.env) (fun w s₂ => wpAny (model J.X.prog J.X.w) J.X.A (inplaceOp (bopOf o) u w) (fun r s₃ => wpAny (model J.X.prog J.X.w) J.X.A (storeName J.X.env x r) (fun _ => PostS J pins m H K .next) J.X.xe s₃) J.X.xe s₂) J.X.xe s := by
      refine he.goD st k fun u2 s1 d S1 m1 H1 v2 k1 st1 f1 r2 q2 => ?_
      split at k1
      · rename_i z ez
        refine inop_go st1 ez (.inl (f1.rd r)) r2 ru q2 fun u3 s3 v3 st3 r3 q3 => ?_
        exact store_go st3 hN hi hx hf r3 q3 fun s4 st4 => ⟨_, S1, m1, H1, _, k1, st4, f1⟩
      · exact k1.elim
    rcases lk with ⟨hk, hm⟩ | ⟨hk, c, hc, hcell⟩
    · exact wpAny_loadName_local st.inv.ok.kind hk hn hm go
    · rcases hk with hk | hk
      · exact wpAny_loadName_cell st.inv.ok.kind hk hc hcell go
      · rcases hx with k | k
        · have : J.X.env.scope.names.lookup x = some .free := hk
          rw [k] at this
          cases this
        · have : J.X.env.scope.names.lookup x = some .free := hk
          rw [k] at this
          cases this
  · exact k.elim
/-- a field is written -/
theorem setf_go {pins : List (Addr × Obj)} {σ : L2.St} {m : List Addr} {S : Sto} {l : Sl} {H : Hp} {s : Shared} {c k n : Nat} {f : Str} {p : Addr} {xs ys : List W} {w : W} {y : V} {u : Value} {Q : Unit → Shared → Prop} (F : FldOk J c k f) (hl : (J.Y.fs c).length < 1000) (st : Sta J pins σ m S l H s)
    (hp : m[n]? = some p) (e0 : S[n]? = some (.ins c xs)) (e1 : putW k w xs = some ys) (r : RW J.Y J.av m H w y) (q : RelV y u) (h : ∀ s' H', Sta J pins σ m (S.set n (.ins c ys)) l H' s' → Fra m H m H' → Q () s') :
    wpAny (model J.X.prog J.X.w) J.X.A (setAttr (.ref p) f u) Q J.X.xe s := by
  obtain ⟨p', hp', dx, vs, h1, h2, h3⟩ := st.rel.st.at_ n _ e0
  rw [hp] at hp'
  cases hp'
  have hz : ((J.Y.fs c).zip vs).length < 1000 := by rw [List.length_zip]; omega
  have hm : p ∈ m := List.mem_of_getElem? hp
  have hlen := h3.length
  have kf : k < (J.Y.fs c).length := (List.getElem?_eq_some_iff.mp F.at_).1
  refine wpAny_mono (PySem.wpAny_toks_of st.tok (setattr_ok (Q := fun _ s3 => Inv J.X pins σ (upd H p (.ins (J.Y.cA c) dx (putF f y ((J.Y.fs c).zip vs)))) s3) st.inv h1 F.cls F.no hz q fun s3 I3 => I3)) (fun _ s3 z => ?_) fun _ _ z => z.2
  have fw : Fra m H m (upd H p (.ins (J.Y.cA c) dx (putF f y ((J.Y.fs c).zip vs)))) := Fra.write hm
  have rw1 := fw.rw r
  have ro : RO J.Y J.av m (upd H p (.ins (J.Y.cA c) dx (putF f y ((J.Y.fs c).zip vs)))) p (.ins c ys) := by
    unfold putW at e1
    split at e1
    · cases e1
      refine ⟨dx, vs.set k y, ?_, by rw [List.length_set]; exact h2, RWs.set rw1 k (fw.rws h3)⟩
      rw [upd_same, putF_set F.nd F.at_ (by omega)]
    · split at e1
      · rename_i hk
        cases e1
        refine ⟨dx, vs ++ [y], ?_, by rw [List.length_append, List.length_singleton]; omega, RWs.app (fw.rws h3) (.cons rw1 .nil)⟩
        have ha := F.at_
        rw [hk, hlen] at ha
        rw [upd_same, putF_new F.nd ha]
      · cases e1
  exact h s3 _ ⟨z.1, z.2, st.fra.trans fw, st.rel.fra fw (st.rel.st.write hp ro)⟩ fw
theorem js_augf {c k : Nat} {f : Str} {tpos : Pos} (b : Bop) (F : FldOk J c k f) (hl : (J.Y.fs c).length < 1000) (ho : JE J o fo) (he : JE J e fe) : JS J (.AugAssign (.Attribute o f tpos) (bopOf b) e pos) (evAugf c k fo b fe) := by
  intro pins s σ H m S l K st kk
  unfold evAugf at kk
  refine wpAny_AugAssign_AttributeAny (ho.go st kk fun ov s1 v S1 m1 H1 x k1 st1 f1 r1 q1 => ?_)
  split at k1
  · rename_i n
    split at k1
    · rename_i c' xs e0
      split at k1
      · rename_i hc
        subst hc
        split at k1
        · rename_i d0 ek
          obtain ⟨p, hp, rfl⟩ := r1
          cases q1
          obtain ⟨p', hp', dx, vs, h1, h2, h3⟩ := st1.rel.st.at_ n _ e0
          rw [hp] at hp'
          cases hp'
          obtain ⟨y, e1, r2⟩ := h3.get ek
          refine wpAny_mono (PySem.wpAny_toks_of st1.tok (getattr_ok (Q := fun u s2 => Inv J.X pins σ H1 s2 ∧ RelV y u) st1.inv h1 F.cls F.no (zip_look F.nd F.at_ e1) fun u' s2 I2 ru => ⟨I2, ru⟩)) (fun u s2 z => ?_) fun _ _ z => z.2
          obtain ⟨tk, I2, ru⟩ := z
          have st2 : Sta J pins σ m1 S1 l H1 s2 := ⟨tk, I2, st1.fra, st1.rel⟩
          refine he.goD st2 k1 fun u3 s3 d3 S3 m3 H3 v3 k3 st3 f3 r3 q3 => ?_
          split at k3
          · rename_i z ez
            refine inop_go st3 ez (.inl (f3.rd r2)) r3 ru q3 fun u4 s4 v4 st4 r4 q4 => ?_
            split at k3
            · rename_i c2 ys e5
              split at k3
              · rename_i hc2
                subst hc2
                split at k3
                · rename_i ys2 e6
                  exact setf_go F hl st4 (f3.pre n p hp) e5 e6 r4 q4 fun s5 H5 st5 f5 => ⟨l, _, m3, H5, σ, k3, st5, (f1.trans f3).trans f5⟩
                · exact k3.elim
              · exact k3.elim
            · exact k3.elim
          · exact k3.elim
        · exact k1.elim
      · exact k1.elim
    · exact k1.elim
  · exact k1.elim
end
end Kr
/-! KrJA: list comprehensions. -/
namespace Kr
open PySem PySem.Spec PyProof.Rows L2

/-- a block's context -/
structure BlkOf (J : Jx) (scope : Scope) (J' : Jx) : Prop where
  x : ∃ s H C cl fp, J'.X = J.X.blk s H scope (compEnvC scope cl C J.X.env) fp
  y : J'.Y = J.Y
  w : J'.Wx = fun _ _ _ _ => False
theorem takes_no {X : Cx} : Takes X (fun _ _ _ _ => False) := fun _ _ ⟨_, _, _, _, _, _, _, _, _, _, _, _, _, _, _, _, w⟩ => w.elim
theorem BlkOf.ok {J J' : Jx} {scope : Scope} (b : BlkOf J scope J') (ok : J.Ok) : J'.Ok := by
  obtain ⟨s, H, C, cl, fp, e⟩ := b.x
  refine ⟨?_, ?_, ?_⟩
  · rw [e, b.y]; exact ok.hK
  · rw [b.w]; exact takes_no
  · rw [e]; exact ok.un
section
variable {Y : Cfg} {av av' m m' : List Addr} {H H' : Hp} {S : Sto} {l : Sl} {σ : L2.St}
/-- data and objects seen over other places that are not touched -/
theorem RW.keepA (hk : ∀ p o, H p = some o → p ∉ av ++ m → H' p = some o ∧ p ∉ av' ++ m') (hm : ∀ (n : Nat) (a : Addr), m[n]? = some a → m'[n]? = some a) {w : W} {v : V} (r : RW Y av m H w v) : RW Y av' m' H' w v := by
  cases w with
  | d x => exact RD.keep hk r
  | r n => obtain ⟨a, e, q⟩ := r; exact ⟨a, hm n a e, q⟩
  | f g cs => exact r
theorem RWs.keepA (hk : ∀ p o, H p = some o → p ∉ av ++ m → H' p = some o ∧ p ∉ av' ++ m') (hm : ∀ (n : Nat) (a : Addr), m[n]? = some a → m'[n]? = some a) : ∀ {ws : List W} {vs : List V}, RWs Y av m H ws vs → RWs Y av' m' H' ws vs
  | _, _, .nil => .nil
  | _, _, .cons h r => .cons (RW.keepA hk hm h) (RWs.keepA hk hm r)
theorem RO.keepA (hk : ∀ p o, H p = some o → p ∉ av ++ m → H' p = some o ∧ p ∉ av' ++ m') (hm : ∀ (n : Nat) (a : Addr), m[n]? = some a → m'[n]? = some a) {a : Addr} {o : O} (ha : H a = H' a) (r : RO Y av m H a o) : RO Y av' m' H' a o := by
  cases o with
  | lst ws => obtain ⟨vs, h, q⟩ := r; exact ⟨vs, ha ▸ h, RWs.keepA hk hm q⟩
  | ins c ws => obtain ⟨dx, vs, h, z, q⟩ := r; exact ⟨dx, vs, ha ▸ h, z, RWs.keepA hk hm q⟩
  | dct _ => exact False.elim r
  | dtp _ => exact False.elim r
theorem wipeS_len (l : Sl) : ∀ vs : List Nat, (wipeS l vs).length = l.length
  | [] => rfl
  | v :: vs => by unfold wipeS; rw [List.length_set, wipeS_len l vs]
theorem wipeS_get {l : Sl} {i : Nat} {w : W} : ∀ {vs : List Nat}, (wipeS l vs)[i]? = some (some w) → l[i]? = some (some w) ∧ i ∉ vs
  | [], h => ⟨h, by simp⟩
  | v :: vs, h => by
    unfold wipeS at h
    by_cases hi : v = i
    · subst hi
      by_cases hv : v < (wipeS l vs).length
      · rw [List.getElem?_set_self hv] at h; cases h
      · rw [List.getElem?_eq_none (by simpa using hv)] at h; cases h
    · rw [List.getElem?_set_ne hi] at h
      obtain ⟨h1, h2⟩ := wipeS_get h
      exact ⟨h1, by simp only [List.mem_cons, not_or]; exact ⟨fun e => hi e.symm, h2⟩⟩
theorem wipe_keep {σ : L2.St} {i : Nat} : ∀ {vs : List Nat}, i ∉ vs → (wipe σ vs)[i]? = σ[i]?
  | [], _ => rfl
  | v :: vs, h => by
    simp only [List.mem_cons, not_or] at h
    unfold wipe
    rw [List.getElem?_set_ne (fun e => h.1 e.symm)]
    exact wipe_keep h.2
theorem RSl.wipe (r : RSl Y av m H l σ) (vs : List Nat) : RSl Y av m H (wipeS l vs) (L2.wipe σ vs) := by
  refine ⟨by rw [wipeS_len, wipe_length]; exact r.1, fun i w e => ?_⟩
  obtain ⟨h1, h2⟩ := wipeS_get e
  obtain ⟨v, h3, h4⟩ := r.2 i w h1
  exact ⟨v, by rw [wipe_keep h2]; exact h3, h4⟩
theorem RSl.keepA (hk : ∀ p o, H p = some o → p ∉ av ++ m → H' p = some o ∧ p ∉ av' ++ m') (hm : ∀ (n : Nat) (a : Addr), m[n]? = some a → m'[n]? = some a) (r : RSl Y av m H l σ) : RSl Y av' m' H' l σ :=
  ⟨r.1, fun i w e => let ⟨v, h3, h4⟩ := r.2 i w e; ⟨v, h3, RW.keepA hk hm h4⟩⟩
end
theorem evLc_X (u : W → List D → Sto → RE (List D)) (xs : List W) : ∀ (k i : Nat) (acc : List D) (S : Sto), xs.length + 1 = k + i → i ≤ xs.length → evLcX u (.vs xs) k i acc S = evLc u (xs.drop i) acc S
  | 0, i, acc, S, h, h2 => by
    omega
  | k + 1, i, acc, S, h, h2 => by
    unfold evLcX
    by_cases hi : i < xs.length
    · rw [List.drop_eq_getElem_cons hi]
      unfold evLc
      have e : ivAt S i (.vs xs) = some (some xs[i]) := by
        show some xs[i]? = _
        rw [List.getElem?_eq_getElem hi]
      rw [e]
      dsimp only
      have ih := fun acc S => evLc_X u xs k (i + 1) acc S (by omega) hi
      simp only [ih]
    · rw [List.drop_of_length_le (by omega)]
      have e : ivAt S i (.vs xs) = some none := by
        show some xs[i]? = _
        rw [List.getElem?_eq_none (by omega)]
      rw [e]
      rfl
theorem evLcI_X (u : W → List D → Sto → RE (List D)) (v : Iv) (S : Sto) : evLcI u v S = evLcX u v (ivN v) 0 [] S := by
  cases v with
  | vs xs =>
    show evLc u xs [] S = evLcX u (.vs xs) (xs.length + 1) 0 [] S
    rw [evLc_X u xs (xs.length + 1) 0 [] S rfl (Nat.zero_le _), List.drop_zero]
  | ref n => rfl
/-- a clause's tests -/
def JTs (J : Jx) (ifs : List Expr) (f : Sl → Sto → RE Bool) : Prop :=
  Jg J (fun _ _ a b => a = b) (forIn ifs true fun c r => if r = true then do let ok ← isTrue c J.X.env (eval c J.X.env); pure (ForInStep.yield ok) else pure (ForInStep.yield r)) f
theorem jts_nil {J : Jx} : JTs J [] (fun _ S => .ok true S) := fun pins s σ H m S l K st k => wpAny_tests_nil (Post.at st .refl k rfl)
theorem jts_one {J : Jx} {c : Expr} {f : Sl → Sto → RE Bool} (h : JT J c f) : JTs J [c] f := fun pins s σ H m S l K st k => wpAny_tests_one (h pins s σ H m S l K st k)
def evLcEnd (keep : Bool) (ys : List D) (S : Sto) : RE W := if keep then .ok (.r S.length) (S ++ [.lst (ys.map .d)]) else .ok (.d (.lst ys)) S
section
variable {J : Jx} {elt tg iter : Expr} {ifs : List Expr} {scope : Scope} {own : List (Str × Nat)} {pos pos' : Pos} {fi : Sl → Sto → RE Iv} {g : W → Sl → Sto → RS} {ft : Sl → Sto → RE Bool} {fe : Sl → Sto → RE W} {keep : Bool}
theorem lc_go {pins : List (Addr × Obj)} {s : Shared} {σ : L2.St} {H : Hp} {m : List Addr} {S : Sto} {l : Sl} {K : W → Sto → Prop} {use : Option (Value → Sem Unit)} {Qf : Value → Shared → Prop} (hc : J.X.calm = true) (hN : J.X.N.Nodup) (st : Sta J pins σ m S l H s) (hi : JI J tg iter fi)
    (ok : BlkOk J.X.N J.X.env.scope scope own) (hg : ∀ J', BlkOf J scope J' → JG J' tg (own.map (·.2)) g) (hnx : Nxo g) (ht : ∀ J', BlkOf J scope J' → JTs J' ifs ft) (he : ∀ J', BlkOf J scope J' → JE J' elt fe)
    (hs : ∀ x, foldedSetIterable iter J.X.env x = pure x)
    (k : ((fi l S).bind fun v S => (evLcI (lcTurn g ft fe (wipeS l (own.map (·.2)))) v S).bind fun ys S => evLcEnd keep ys S).el K (J.Xc σ l))
    (hRR : ∀ D C s' mn H' w S' m', K w S' → Sta J pins σ m' S' l H' s' → Fra m H m' H' → RW J.Y J.av m' H' w (.ref D) → s'.heap.Ns C mn → FpOk J.X pins H' C → compPost (model J.X.prog J.X.w) J.X.A J.X.xe use Qf (.ref D) C (.ok .next) s') :
    wpAny (model J.X.prog J.X.w) J.X.A (comprehension (.ListComp elt [⟨tg, iter, ifs, 0⟩] scope pos) scope J.X.env pos' (newList []) false (eval iter J.X.env) use) Qf J.X.xe s := by
  have hfree : ∀ y ∈ scope.names, y.2 = .free → ∃ c, J.X.env.cells.lookup y.1 = some c := fun y hy e => by
    rcases ok.free y hy e with k | k
    · exact st.inv.ok.has _ (.inl k)
    · exact st.inv.ok.has _ (.inr k)
  refine wpAny_comprehension_free (use := use) rfl hs (closure_ok hfree) ok.kind (fun y hy e => by rw [ok.uniq y hy, e])
    (wpAny_mono (PySem.wpAny_toks_of st.tok (hi pins s σ H m S l _ st (RE.el_bind k))) (fun xv s1 z1 => wpAny_mono (PySem.wpAny_toks_of z1.1 z1.2) (fun itv s2 z2 => ?_) fun _ _ z => z.2) fun _ _ z => z.2)
  obtain ⟨tk2, it, fp, tn, I, H2, e, I2, T, tn2, f2, iv, S2, m2, k2, fr2, rs2, wo⟩ := z2
  subst e
  have k3 := RE.el_bind k2
  rw [evLcI_X] at k3
  refine wpAny_newObj_type (newEnv_comp ?_) (by show 0 ≤ sizeLine; decide)
  generalize hD : s2.heap.objs.size = D
  have hDn : H2 D = none := I2.hok.fresh (Nat.le_of_eq hD)
  have nDm : D ∉ J.av ++ m2 := rs2.fresh hDn
  generalize hs3 : ({ s2 with heap := s2.heap.push { cls := .type "list", data := .seq ([] : List Value).toArray } } : Shared) = s3
  have I3 : Inv J.X pins σ (upd H2 D (.lst [])) s3 := by
    rw [← hs3]
    refine I2.laid (t' := s2.toks) (fun b o e => Heap.get?_push_of_some _ e) (Nat.le_of_eq hD) ⟨Nat.zero_le _, [], 0, .nil, ?_⟩
    rw [← hD]
    exact Heap.get?_push_size _ rfl
  have tk3 : 1 ≤ s3.toks := by rw [← hs3]; exact tk2
  have h3 : s3.heap = s2.heap.push { cls := .type "list", data := .seq ([] : List Value).toArray } := by rw [← hs3]
  have f3 : ∀ b ∈ fp, FpOk J.X pins (upd H2 D (.lst [])) b ∧ b < s3.heap.objs.size := fun b hb => by
    obtain ⟨o, e, _⟩ := T.obj _ _ tn2 b hb
    have hlt := Heap.lt_size e
    refine ⟨⟨?_, (f2 b hb).2⟩, by rw [h3, Heap.size_push]; exact Nat.lt_succ_of_lt hlt⟩
    rw [upd_ne (by rw [← hD]; exact Nat.ne_of_lt hlt)]
    exact (f2 b hb).1
  have tn3 : tn 0 s3.heap := T.keep _ _ _ tn2 fun b _ o e => by rw [h3]; exact Heap.get?_push_of_some _ e
  have I4 := block_start I3 ok hN f3
  -- what was there is there, and is not D
  have kD : ∀ p o, H2 p = some o → p ∉ J.av ++ m2 → upd H2 D (.lst []) p = some o ∧ p ∉ (J.av ++ [D]) ++ m2 := fun p o h n => by
    have ne : p ≠ D := ne_of_none h hDn
    refine ⟨by rw [upd_ne ne]; exact h, fun z => ?_⟩
    rcases List.mem_append.mp z with z | z
    · rcases List.mem_append.mp z with z | z
      · exact n (List.mem_append_left _ z)
      · exact ne (by simpa using z)
    · exact n (List.mem_append_right _ z)
  have rs3 : RSt J.Y (J.av ++ [D]) m2 S2 (upd H2 D (.lst [])) := by
    refine ⟨rs2.len, ?_, fun n o e => ?_, fun a ha => ?_⟩
    · rw [List.append_assoc]
      refine List.nodup_append.mpr ⟨(List.nodup_append.mp rs2.nd).1, ?_, fun a ha b hb e => ?_⟩
      · exact List.nodup_cons.mpr ⟨fun z => nDm (List.mem_append_right _ z), (List.nodup_append.mp rs2.nd).2.1⟩
      · rcases List.mem_cons.mp hb with z | z
        · rw [e, z] at ha
          exact nDm (List.mem_append_left _ ha)
        · exact (List.nodup_append.mp rs2.nd).2.2 a ha b z e
    · obtain ⟨a, e1, r⟩ := rs2.at_ n o e
      obtain ⟨u, hu, _⟩ := r.there
      exact ⟨a, e1, r.keepA kD (fun _ _ e => e) (by rw [upd_ne (ne_of_none hu hDn)])⟩
    · rcases List.mem_append.mp ha with z | z
      · obtain ⟨o, e⟩ := rs2.av_ a z
        exact ⟨o, by rw [upd_ne (ne_of_none e hDn)]; exact e⟩
      · have : a = D := by simpa using z
        rw [this]
        exact ⟨_, upd_same⟩
  have kF : ∀ {m' : List Addr} {H' : Hp}, Fra m2 H2 m' H' → ∀ p o, H2 p = some o → p ∉ J.av ++ m2 → H' p = some o ∧ p ∉ (J.av ++ [D]) ++ m' := fun {m' H'} fr p o h n => by
    have nm : p ∉ m2 := fun z => n (List.mem_append_right _ z)
    refine ⟨fr.keep p o h nm, fun z => ?_⟩
    rcases List.mem_append.mp z with z | z
    · rcases List.mem_append.mp z with z | z
      · exact n (List.mem_append_left _ z)
      · exact ne_of_none h hDn (by simpa using z)
    · exact fr.new p o h nm z
  have sl2 := fr2.rsl st.rel.sl
  have sl3 : RSl J.Y (J.av ++ [D]) m2 (upd H2 D (.lst [])) l σ := (fr2.rsl st.rel.sl).keepA kD fun _ _ e => e
  show codeAny _ _ (.compStart (.ListComp elt [⟨tg, iter, ifs, 0⟩] scope pos) 0 (.ref it) (.ref D) (compEnvC scope (cellsFrom (s3.heap.objs.size + 1) scope.names (cloFrom J.X.env.cells scope.names [])) s3.heap.objs.size J.X.env)) (compPost (model J.X.prog J.X.w) J.X.A J.X.xe use Qf (.ref D) s3.heap.objs.size) { s3 with heap := pushCells (s3.heap.push { cls := .type "dict", data := .dict #[] }) scope.names }
  generalize hce : compEnvC scope (cellsFrom (s3.heap.objs.size + 1) scope.names (cloFrom J.X.env.cells scope.names [])) s3.heap.objs.size J.X.env = ce at I4 ⊢
  have cL : ce.locals = s3.heap.objs.size := by subst hce; rfl
  generalize hH3 : upd H2 D (.lst []) = H3 at I3 I4 f3 kD rs3 sl3
  have hH3D : H3 D = some (.lst []) := by rw [← hH3]; exact upd_same
  generalize hs4 : ({ s3 with heap := pushCells (s3.heap.push { cls := .type "dict", data := .dict #[] }) scope.names } : Shared) = s4 at I4 ⊢
  have tn4 : tn 0 s4.heap := T.keep _ _ _ tn3 fun b _ o e => by rw [← hs4]; exact pushCells_keeps _ _ _ _ (Heap.get?_push_of_some _ e)
  have tk4 : 1 ≤ s4.toks := by rw [← hs4]; exact tk3
  let B : Jx := { X := J.X.blk s3 H3 scope ce fp, Y := J.Y, av := J.av ++ [D], m0 := m2, H0 := H2, Wx := fun _ _ _ _ => False }
  have hB : BlkOf J scope B := ⟨⟨s3, H3, s3.heap.objs.size, cellsFrom (s3.heap.objs.size + 1) scope.names (cloFrom J.X.env.cells scope.names []), fp, by show J.X.blk s3 H3 scope ce fp = _; rw [hce]⟩, rfl, rfl⟩
  have pg := hg B hB
  have pt := ht B hB
  have pe := he B hB
  have nfp : ∀ b ∈ fp, H3 b = none := fun b hb => (f3 b hb).1.1
  have stat : ∀ {σ' : L2.St} {H' : Hp} {s' : Shared}, Inv (J.X.blk s3 H3 scope ce fp) [] σ' H' s' → (∀ b ∈ fp, H' b = none) → ∀ b ∈ fp, FpOk (J.X.blk s3 H3 scope ce fp) [] H' b := fun {σ' H' s'} I' hn b hb =>
    ⟨hn b hb, (I'.ok.exf b hb).1, I'.ok.exfs b hb, .inl hb, fun x c e => (I'.ok.exf b hb).2 x c e, fun p hp => absurd (show p ∈ ([] : List (Addr × Obj)) ++ [] from hp) (by simp)⟩
  have loop : codeAny (model J.X.prog J.X.w) J.X.A (.compLoop (.ListComp elt [⟨tg, iter, ifs, 0⟩] scope pos) 0 (.ref it) (.ref D) ce) (compPost (model J.X.prog J.X.w) J.X.A J.X.xe use Qf (.ref D) s3.heap.objs.size) s4 := by
    refine compLoop_any (fun n s' => ∃ i m' S' H' ys acc, Sta B [] (wipe σ (own.map (·.2))) m' S' (wipeS l (own.map (·.2))) H' s' ∧ H' D = some (.lst acc) ∧ RDs J.Y ((J.av ++ [D]) ++ m') H' ys acc ∧ tn i s'.heap ∧ (∀ b ∈ fp, H' b = none) ∧
      (evLcX (lcTurn g ft fe (wipeS l (own.map (·.2)))) iv n i ys S').el (fun ys S => (evLcEnd keep ys S).el K (J.Xc σ l)) (J.Xc σ l)) ?_ (ivN iv) ⟨0, m2, S2, H3, [], [], ⟨tk4, I4, by show Fra m2 H2 m2 H3; rw [← hH3]; exact Fra.laid hDn, rs3, sl3.wipe _⟩, hH3D, .nil, tn4, nfp, k3⟩
    rintro n s5 ⟨i, m5, S5, H5, ys, acc, st5, hD5, rd5, tn5, n5, k5⟩
    cases n with
    | zero => exact k5.elim
    | succ n =>
      unfold evLcX at k5
      have fr25 : Fra m2 H2 m5 H5 := st5.fra
      have wk := wo (J.av ++ [D]) m5 S5 H5 i (kF fr25) fr25.pre st5.rel.st
      generalize hat : ivAt S5 i iv = at5 at k5 wk
      cases at5 with
      | none => exact k5.elim
      | some ow =>
        cases ow with
        | none =>
          have td := T.done (J.X.blk s3 H3 scope ce fp) rfl rfl rfl hc i [] s5 _ H5 (fun _ _ => False) st5.inv (stat st5.inv n5) tn5 (wk.2 rfl)
          refine wpAny_mono (PySem.wpAny_toks_of st5.tok td) (fun r s6 z6 => ?_) fun _ _ z => z.2.elim
          obtain ⟨tk6, hr, I6⟩ := z6
          subst hr
          have I7 : Inv J.X pins σ H5 s6 := I3.call' (ch := fp) I6.os I6.base I6.hok I6.bare fun b hb => ⟨(f3 b hb).1.2.2.2.1, (f3 b hb).1.2.1, (f3 b hb).1.2.2.2.2.1, (f3 b hb).1.2.2.2.2.2⟩
          have nC : H5 s3.heap.objs.size = none := by
            have z : H5 ce.locals = none := I6.free
            rw [cL] at z
            exact z
          obtain ⟨mn, hn, _⟩ := I6.loc
          have hn : s6.heap.Ns ce.locals mn := hn
          rw [cL] at hn
          have k6 : (evLcEnd keep ys S5).el K (J.Xc σ l) := k5
          have rs5 := st5.rel.st
          have nD5 : D ∉ J.av ++ m5 := fun z => by
            have hnd := rs5.nd
            rw [List.append_assoc] at hnd
            rcases List.mem_append.mp z with z | z
            · exact (List.nodup_append.mp hnd).2.2 D z D (List.mem_cons_self) rfl
            · exact (List.nodup_cons.mp (List.nodup_append.mp hnd).2.1).1 z
          have nd5 : (J.av ++ m5).Nodup := by
            have hnd := rs5.nd
            rw [List.append_assoc] at hnd
            refine List.nodup_append.mpr ⟨(List.nodup_append.mp hnd).1, (List.nodup_cons.mp (List.nodup_append.mp hnd).2.1).2, fun a ha b hb e => (List.nodup_append.mp hnd).2.2 a ha b (List.mem_cons_of_mem _ hb) e⟩
          have old : ∀ p o, H2 p = some o → p ∉ m2 → H5 p = some o := fr25.keep
          have hFp := I3.fpOk (Nat.le_refl _) nC
          unfold evLcEnd at k6
          split at k6
          · have fr6 : Fra m2 H2 (m5 ++ [D]) H5 := by
              refine ⟨old, fun p o h n z => ?_, fun j a e => ?_⟩
              · rcases List.mem_append.mp z with z | z
                · exact fr25.new p o h n z
                · exact ne_of_none h hDn (by simpa using z)
              · have := fr25.pre j a e
                rw [List.getElem?_append_left (List.getElem?_eq_some_iff.mp this).1]
                exact this
            have kk : ∀ p o, H5 p = some o → p ∉ (J.av ++ [D]) ++ m5 → H5 p = some o ∧ p ∉ J.av ++ (m5 ++ [D]) := fun p o h n => ⟨h, fun z => n (by
              simp only [List.mem_append] at z ⊢
              rcases z with z | z | z
              · exact .inl (.inl z)
              · exact .inr z
              · exact .inl (.inr z))⟩
            have hmA : ∀ (j : Nat) (a : Addr), m5[j]? = some a → (m5 ++ [D])[j]? = some a := fun j a e => by
              rw [List.getElem?_append_left (List.getElem?_eq_some_iff.mp e).1]
              exact e
            have rs6 : RSt J.Y J.av (m5 ++ [D]) (S5 ++ [.lst (ys.map .d)]) H5 := by
              refine ⟨by rw [List.length_append, List.length_append, rs5.len]; rfl, ?_, fun j o e => ?_, fun a ha => rs5.av_ a (List.mem_append_left _ ha)⟩
              · rw [← List.append_assoc]
                refine List.nodup_append.mpr ⟨nd5, by simp, fun a ha b hb e => ?_⟩
                have : b = D := by simpa using hb
                rw [e, this] at ha
                exact nD5 ha
              · by_cases hj : j < S5.length
                · rw [List.getElem?_append_left hj] at e
                  obtain ⟨a, e1, r⟩ := rs5.at_ j o e
                  exact ⟨a, hmA j a e1, r.keepA kk hmA rfl⟩
                · have hj2 : j = S5.length := by
                    have := (List.getElem?_eq_some_iff.mp e).1
                    rw [List.length_append, List.length_singleton] at this
                    omega
                  subst hj2
                  rw [List.getElem?_append_right (Nat.le_refl _), Nat.sub_self] at e
                  cases e
                  refine ⟨D, ?_, acc, hD5, RWs.of (rd5.keep kk)⟩
                  rw [← rs5.len, List.getElem?_append_right (Nat.le_refl _), Nat.sub_self]
                  rfl
            refine hRR D _ s6 mn H5 _ _ _ k6 (st.mv tk6 I7 (fr2.trans fr6) rs6) (fr2.trans fr6) ⟨D, ?_, rfl⟩ hn hFp
            rw [← rs5.len, List.getElem?_append_right (Nat.le_refl _), Nat.sub_self]
            rfl
          · have fr6 : Fra m2 H2 m5 H5 := fr25
            have kk : ∀ p o, H5 p = some o → p ∉ (J.av ++ [D]) ++ m5 → H5 p = some o ∧ p ∉ J.av ++ m5 := fun p o h n => ⟨h, fun z => n (by
              simp only [List.mem_append] at z ⊢
              rcases z with z | z
              · exact .inl (.inl z)
              · exact .inr z)⟩
            have rs6 : RSt J.Y J.av m5 S5 H5 := ⟨rs5.len, nd5, fun j o e => by
              obtain ⟨a, e1, r⟩ := rs5.at_ j o e
              exact ⟨a, e1, r.keepA kk (fun _ _ e => e) rfl⟩, fun a ha => rs5.av_ a (List.mem_append_left _ ha)⟩
            exact hRR D _ s6 mn H5 _ _ _ k6 (st.mv tk6 I7 (fr2.trans fr6) rs6) (fr2.trans fr6) (show RD J.Y (J.av ++ m5) H5 (.lst ys) (.ref D) from .lst hD5 nD5 (rd5.keep kk)) hn hFp
        | some w =>
          obtain ⟨go, yl⟩ := wk.1 w rfl
          have ti := T.item (J.X.blk s3 H3 scope ce fp) rfl rfl rfl hc i [] s5 _ H5 (fun _ _ => False) st5.inv (stat st5.inv n5) tn5 go
          refine wpAny_mono (PySem.wpAny_toks_of st5.tok ti) (fun r s6 z6 => ?_) fun _ _ z => z.2.elim
          obtain ⟨tk6, u, hr, h6⟩ := z6
          subst hr
          refine wpAny_mono (PySem.wpAny_toks_of tk6 h6) (fun _ s7 z7 => ?_) fun _ _ z => z.2.elim
          obtain ⟨tk7, x, H7, I7, r7, y7, tn7, n7⟩ := z7
          obtain ⟨fr7, rs7, rw7⟩ := yl x H7 y7
          have st7 : Sta B ([] ++ pinsAt fp s7.heap) (wipe σ (own.map (·.2))) m5 S5 (wipeS l (own.map (·.2))) H7 s7 := ⟨tk7, I7.pinned (stat I7 n7) (T.obj _ _ tn7), st5.fra.trans fr7, st5.rel.fra fr7 rs7⟩
          have nDm5 : D ∉ m5 := fun z => by
            have hnd := st5.rel.st.nd
            exact (List.nodup_append.mp hnd).2.2 D (List.mem_append_right _ (List.mem_singleton.mpr rfl)) D z rfl
          have hD7 : H7 D = some (.lst acc) := fr7.keep D _ hD5 nDm5
          -- what the turn does
          dsimp only at k5
          have k5' := RE.el_bind k5
          unfold lcTurn at k5'
          rcases hnx w (wipeS l (own.map (·.2))) S5 with ⟨l8, S8, e8⟩ | e8
          · rw [e8] at k5'
            dsimp only at k5'
            refine wpAny_mono (pg _ s7 _ H7 m5 S5 _ w x u (fun l' S' => l' = l8 ∧ S' = S8) st7 rw7 r7 (by rw [e8]; exact ⟨rfl, rfl⟩)) (fun _ s8 z8 => ?_) fun _ _ z => z.elim
            obtain ⟨σ8, l8', S8', ⟨rfl, rfl⟩, st8, len8, keep8⟩ := z8
            -- the turn's end
            have turnEnd : ∀ {s' : Shared} {m' : List Addr} {S' : Sto} {H' : Hp} {ys' : List Kr.D} {acc' : List V}, Sta B ([] ++ pinsAt fp s7.heap) σ8 m' S' l8' H' s' → H' D = some (.lst acc') → RDs J.Y ((J.av ++ [D]) ++ m') H' ys' acc' →
                (evLcX (lcTurn g ft fe (wipeS l (own.map (·.2)))) iv n (i + 1) ys' S').el (fun ys S => (evLcEnd keep ys S).el K (J.Xc σ l)) (J.Xc σ l) →
                ∃ j, j < n + 1 ∧ ∃ i m' S' H' ys acc, Sta B [] (wipe σ (own.map (·.2))) m' S' (wipeS l (own.map (·.2))) H' s' ∧ H' D = some (.lst acc) ∧ RDs J.Y ((J.av ++ [D]) ++ m') H' ys acc ∧ tn i s'.heap ∧ (∀ b ∈ fp, H' b = none) ∧
                  (evLcX (lcTurn g ft fe (wipeS l (own.map (·.2)))) iv j i ys S').el (fun ys S => (evLcEnd keep ys S).el K (J.Xc σ l)) (J.Xc σ l) := fun {s' m' S' H' ys' acc'} st' hd' rd' k' => by
              have pin' : ∀ b ∈ fp, ∀ o, s7.heap.get? b = some o → s'.heap.get? b = some o ∧ H' b = none := fun b hb o e =>
                let z := st'.inv.pin (b, o) (List.mem_append_right _ (List.mem_append_right _ (mem_pinsAt hb e)))
                ⟨z.1, z.2.1⟩
              refine ⟨n, Nat.lt_succ_self n, i + 1, m', S', H', ys', acc', ⟨st'.tok, (st'.inv.unpinned (pins := [])).weak len8.symm (fun j v e => ?_), st'.fra, st'.rel.st, (sl2.keepA (kF (show Fra m2 H2 m' H' from st'.fra)) (show Fra m2 H2 m' H' from st'.fra).pre).wipe _⟩, hd', rd', T.keep _ _ _ tn7 fun b hb o e => (pin' b hb o e).1, fun b hb => ?_, k'⟩
              · rw [keep8 j (wipe_some e).2]
                exact e
              · obtain ⟨o, e, _⟩ := T.obj _ _ tn7 b hb
                exact (pin' b hb o e).2
            have rd7 : RDs J.Y ((J.av ++ [D]) ++ m5) H7 ys acc := fr7.rds rd5
            generalize hrt : ft l8' S8' = rt at k5'
            cases rt with
            | ex c S9 => exact k5'.elim
            | bad => exact k5'.elim
            | ok b S9 =>
              refine wpAny_mono (pt _ s8 σ8 H7 m5 S8' l8' (fun t S' => t = b ∧ S' = S9) st8 (by rw [hrt]; exact ⟨rfl, rfl⟩)) (fun t s9 z9 => ?_) fun _ _ z => z.elim
              obtain ⟨t', S9', m9, H9, ⟨rfl, rfl⟩, st9, fr9, et⟩ := z9
              subst et
              have hD9 : H9 D = some (.lst acc) := fr9.keep D _ hD7 nDm5
              have rd9 : RDs J.Y ((J.av ++ [D]) ++ m9) H9 ys acc := fr9.rds rd7
              have nD9 : D ∉ m9 := fr9.new D _ hD7 nDm5
              cases t' with
              | false =>
                simp only [Bool.false_eq_true, if_false]
                exact turnEnd st9 hD9 rd9 k5'
              | true =>
                simp only [if_true]
                dsimp only at k5'
                generalize hre : fe l8' S9' = re at k5'
                cases re with
                | ex c S10 => exact k5'.elim
                | bad => exact k5'.elim
                | ok wy S10 =>
                  refine wpAny_mono (pe _ s9 σ8 H9 m9 S9' l8' (fun t S' => t = wy ∧ S' = S10) st9 (by rw [hre]; exact ⟨rfl, rfl⟩)) (fun uy s10 z10 => ?_) fun _ _ z => z.elim
                  obtain ⟨wy', S10', m10, H10, ⟨rfl, rfl⟩, st10, fr10, vy, ry, qy⟩ := z10
                  have hD10 : H10 D = some (.lst acc) := fr10.keep D _ hD9 nD9
                  have rd10 : RDs J.Y ((J.av ++ [D]) ++ m10) H10 ys acc := fr10.rds rd9
                  have nD10 : D ∉ m10 := fr10.new D _ hD9 nD9
                  cases wy' with
                  | r nn => exact k5'.elim
                  | f gg cs => exact k5'.elim
                  | d y =>
                    dsimp only at k5'
                    split at k5'
                    · rename_i hz
                      have hza : acc.length < sizeLine := by rw [← sz_line, ← rd10.length]; exact hz
                      refine wpAny_mono (PySem.wpAny_toks_of st10.tok (app_ok (X := J.X.blk s3 H3 scope ce fp) (Q := fun _ s11 => Inv (J.X.blk s3 H3 scope ce fp) ([] ++ pinsAt fp s7.heap) σ8 (upd H10 D (.lst (acc ++ [vy]))) s11) st10.inv hD10 hza qy fun s11 I11 => I11)) (fun _ s11 z11 => ?_) fun _ _ z => z.2
                      have ry : RD J.Y ((J.av ++ [D]) ++ m10) H10 y vy := ry
                      have hkD : ∀ p o, H10 p = some o → p ∉ (J.av ++ [D]) ++ m10 → upd H10 D (.lst (acc ++ [vy])) p = some o ∧ p ∉ (J.av ++ [D]) ++ m10 := fun p o h n => ⟨by
                        have ne : p ≠ D := fun z => n (by rw [z]; exact List.mem_append_left _ (List.mem_append_right _ (List.mem_singleton.mpr rfl)))
                        rw [upd_ne ne]
                        exact h, n⟩
                      have f0 : Fra m2 H2 m10 H10 := st10.fra
                      have frD : Fra m2 H2 m10 (upd H10 D (.lst (acc ++ [vy]))) := ⟨fun p o h n => by
                        rw [upd_ne (ne_of_none h hDn)]
                        exact f0.keep p o h n, f0.new, f0.pre⟩
                      have rs10 := st10.rel.st
                      have rs11 : RSt J.Y (J.av ++ [D]) m10 S10' (upd H10 D (.lst (acc ++ [vy]))) := ⟨rs10.len, rs10.nd, fun j o e => by
                        obtain ⟨a, e1, r⟩ := rs10.at_ j o e
                        have ne : a ≠ D := fun z => nD10 (by rw [← z]; exact List.mem_of_getElem? e1)
                        exact ⟨a, e1, r.keepA hkD (fun _ _ e => e) (by rw [upd_ne ne])⟩, fun a ha => by
                        by_cases z : a = D
                        · rw [z]; exact ⟨_, upd_same⟩
                        · obtain ⟨o, e⟩ := rs10.av_ a ha
                          exact ⟨o, by rw [upd_ne z]; exact e⟩⟩
                      refine turnEnd (ys' := ys ++ [y]) (acc' := acc ++ [vy]) ⟨z11.1, z11.2, frD, rs11, st10.rel.sl.keepA hkD fun _ _ e => e⟩ upd_same (RDs.app (rd10.keep hkD) (.cons (ry.keep hkD) .nil)) k5'
                    · exact k5'.elim
          · rw [e8] at k5'
            exact k5'.elim
  exact codeAny_compStart_list loop (T.self J.X.A 0 _ _ _ tn4 loop)
theorem je_lc (hc : J.X.calm = true) (hN : J.X.N.Nodup) (hi : JI J tg iter fi) (ok : BlkOk J.X.N J.X.env.scope scope own) (hg : ∀ J', BlkOf J scope J' → JG J' tg (own.map (·.2)) g) (hnx : Nxo g) (ht : ∀ J', BlkOf J scope J' → JTs J' ifs ft) (he : ∀ J', BlkOf J scope J' → JE J' elt fe)
    (hs : ∀ x, foldedSetIterable iter J.X.env x = pure x) :
    JE J (.ListComp elt [⟨tg, iter, ifs, 0⟩] scope pos) (fun l S => (fi l S).bind fun v S => (evLcI (lcTurn g ft fe (wipeS l (own.map (·.2)))) v S).bind fun ys S => evLcEnd keep ys S) := by
  intro pins s σ H m S l K st k
  rw [eval_ListComp]
  refine lc_go hc hN st hi ok hg hnx ht he hs k fun D C s' mn H' w S' m' kw st' fr rw' hn f => ⟨mn, hn, fun h'' sb => ?_⟩
  obtain ⟨f0, f1, f2, f3, f4, f5⟩ := f
  exact ⟨w, S', m', H', kw, ⟨st'.tok, st'.inv.turned (t' := s'.toks) (fun b o hb e => (sb.2 b hb).trans e) f0 f1 f3 f4 f5, st'.fra, st'.rel⟩, fr, .ref D, rw', rfl⟩
/-- name = [..] on one line, the name a local -/
theorem js_setlc {i : Nat} {y : Str} {py spos : Pos} (hc : J.X.calm = true) (hN : J.X.N.Nodup) (hy : J.X.N[i]? = some y) (hyl : J.X.env.scope.names.lookup y = some .local)
    (hsw : swapsWith (.ListComp elt [⟨tg, iter, ifs, 0⟩] scope pos) (some (.Name y py)) spos.line J.X.env = pure true) (hi : JI J tg iter fi) (ok : BlkOk J.X.N J.X.env.scope scope own) (hg : ∀ J', BlkOf J scope J' → JG J' tg (own.map (·.2)) g) (hnx : Nxo g) (ht : ∀ J', BlkOf J scope J' → JTs J' ifs ft)
    (he : ∀ J', BlkOf J scope J' → JE J' elt fe) (hs : ∀ x, foldedSetIterable iter J.X.env x = pure x) :
    JS J (.Assign [.Name y py] (.ListComp elt [⟨tg, iter, ifs, 0⟩] scope pos) spos) (fun l S => ((fi l S).bind fun v S => (evLcI (lcTurn g ft fe (wipeS l (own.map (·.2)))) v S).bind fun ys S => evLcEnd keep ys S).st l fun w S => if i < l.length then .nx (l.set i (some w)) S else .bad) := by
  intro pins s σ H m S l K st k
  have k := RE.el_x (RE.st_el k) fun c S x => Jx.Xs.c (σ := σ) x
  rw [exec_Assign_Name_used _ _ _ _ hsw]
  refine wpAny_bind (wpAny_standAt (wpAny_bind ?_))
  show wpAny _ J.X.A (do let _ ← comprehension (.ListComp elt [⟨tg, iter, ifs, 0⟩] scope pos) scope J.X.env (firstIterPos [⟨tg, iter, ifs, 0⟩] pos) (newList []) false (eval iter J.X.env) (some (assign (.Name y py) J.X.env))) _ _ s
  refine wpAny_bind (wpAny_mono (PySem.wpAny_toks_of st.tok (lc_go (Qf := fun _ s' => ∃ w S' m' H' v, (if i < l.length then RS.nx (l.set i (some w)) S' else .bad).el K J.Xs ∧ L2.Inv J.X pins (σ.set i (some v)) H' s' ∧ Fra m H m' H' ∧ RSt J.Y J.av m' S' H' ∧ RW J.Y J.av m' H' w v) hc hN st hi ok hg hnx ht he hs k fun L C s' mn H' w S' m' kw st' fr rw' hn f => ?_)) (fun _ s' hq => wpAny_pure (wpAny_pure ?_)) fun _ _ z => z.2)
  · show wpAny _ _ (assign (.Name y py) J.X.env (.ref L)) _ _ _
    refine wpAny_assign_Name (store_ok2 (v := V.ref L) st'.inv hN hy (.inl hyl) rfl (fun s2 I2 ⟨a, sb, ha⟩ => ?_) (.inr hyl))
    obtain ⟨f0, f1, f2, f3, f4, f5⟩ := f
    have haC : C ≠ a := by
      rcases ha with z | z
      · rw [z]; exact f1
      · exact fun e => f4 y a z e.symm
    exact ⟨mn, hn.sameBut sb haC, fun h3 sb3 => ⟨w, S', m', H', .ref L, kw, I2.turned (t' := s2.toks) (fun b o hb e => (sb3.2 b hb).trans e) f0 f1 f3 f4 f5, fr, st'.rel.st, rw'⟩⟩
  · obtain ⟨tk, w, S', m', H', v, kw, I, fr, rs, rw'⟩ := hq
    split at kw
    · exact ⟨_, S', m', H', _, kw, ⟨tk, I, st.fra.trans fr, (st.rel.fra fr rs).set rw'⟩, fr⟩
    · exact kw.elim
end
end Kr
/-! KrC: what the shape of a text grants. -/
namespace Kr
open PySem PySem.Spec PyProof.Rows L2
/-- no star, no slice, no set -/
def pl : Expr → Bool
  | .Constant _ _ _ => true | .Name _ _ => true | .BinOp _ _ _ _ => true | .UnaryOp _ _ _ => true | .BoolOp _ _ _ => true | .Compare _ _ _ _ => true | .Call _ _ _ _ => true | .IfExp _ _ _ _ => true
  | .Attribute _ _ _ => true | .Subscript _ _ _ => true | .Tuple _ _ _ => true | .List _ _ => true | .ListComp _ _ _ _ => true | .Dict _ _ _ => true | _ => false
def pls : List Expr → Bool
  | [] => true
  | e :: es => pl e && pls es
theorem star_cons {e : Expr} {es : List Expr} {env : Env} (h : pl e = true) : starEach (e :: es) env = (false, eval e env) :: starEach es env := by
  cases e <;> first | rfl | cases h
theorem star_any {env : Env} {pos : Pos} : ∀ {es : List Expr}, pls es = true → (backTo pos (starEach es env)).any (·.1) = false
  | [], _ => rfl
  | e :: es, h => by
    obtain ⟨h1, h2⟩ := Bool.and_eq_true_iff.mp (show (pl e && pls es) = true from h)
    rw [star_cons h1]
    show (false || (backTo pos (starEach es env)).any (·.1)) = false
    rw [star_any h2]
    rfl
theorem star_all {env : Env} {pos : Pos} : ∀ {es : List Expr}, pls es = true → (backTo pos (starEach es env)).all (fun x => !x.1) = true
  | [], _ => rfl
  | e :: es, h => by
    obtain ⟨h1, h2⟩ := Bool.and_eq_true_iff.mp (show (pl e && pls es) = true from h)
    rw [star_cons h1]
    show (true && (backTo pos (starEach es env)).all (fun x => !x.1)) = true
    rw [star_all h2]
    rfl
theorem few_ok {env : Env} {pos : Pos} {es : List Expr} (h : pls es = true) (hl : es.length < 30) :
    ((backTo pos (starEach es env)).all (fun x => !x.1) && (backToKw pos (keywordEach [] env)).all (fun x => x.1.isSome) && decide (es.length + ([] : List Keyword).length + (if ([] : List Keyword).isEmpty then 0 else 1) < 30)) = true := by
  rw [star_all h]
  show (true && true && decide (es.length + 0 + 0 < 30)) = true
  simpa using hl
theorem subs_ok {b : Expr} (h : pl b = true) (o i : Value) : subscripted b false o i = operate [o, i] (getItem o i) := by
  cases b <;> first | rfl | cases h
theorem set_ok {e : Expr} {env : Env} (h : pl e = true) (x : Value) : foldedSetIterable e env x = pure x := by
  cases e <;> first | rfl | cases h
theorem marks_ok {b : Expr} {op : CmpOp} (h : pl b = true) : behindInMarks op b = false := by
  cases b <;> first | rfl | cases h
theorem last_ok {b c : Expr} {op op' : CmpOp} (h : pl c = true) : lastMarks [op, op'] [b, c] = false := marks_ok h
theorem part_ok {e : Expr} {env : Env} (h : pl e = true) : evalPart (some e) env = eval e env := by
  cases e <;> first | rfl | cases h
def notComp : Expr → Bool
  | .ListComp _ _ _ _ => false | .SetComp _ _ _ _ => false | .DictComp _ _ _ _ _ => false | _ => true
theorem swaps_no {e : Expr} {t : Option Expr} {n : Nat} {env : Env} (h : notComp e = true) : swapsWith e t n env = pure false := by
  cases e <;> first | rfl | cases h
def abOk : Expr → Bool
  | .Call (.Name id _) [] [] _ => id != "super"
  | _ => true
theorem ab_ok {o : Expr} {f : Str} {env : Env} {x : Sem Value} (h : abOk o = true) : attributeBase o f env x = x := by
  unfold attributeBase
  split
  · rename_i id _ _
    have h : (id != "super") = true := h
    rw [h, Bool.true_or, Bool.true_or, Bool.true_or, if_pos rfl]
  · rfl
/-- a test that is its value's truth -/
def plainT : Expr → Bool
  | .Constant _ _ _ => true | .Name _ _ => true | .BinOp _ _ _ _ => true | .Call _ _ _ _ => true | .Attribute _ _ _ => true | .Subscript _ _ _ => true | .Tuple _ _ _ => true | .List _ _ => true | _ => false
theorem plainT_ok {e : Expr} {env : Env} (h : plainT e = true) (whole : Sem Value) : isTrue e env whole = (do let v ← whole; standAt e.pos; holding [v] (truthy v)) := by
  cases e <;> first | rfl | cases h
theorem call_tree {o : Expr} {n : Str} {apos pos : Pos} {args : List Expr} {env : Env} (h : abOk o = true) (hp : pls args = true) (hl : args.length < 30) (hline : (apos.endLine == pos.line) = true) : ∃ pl, eval (.Call (.Attribute o n apos) args [] pos) env = (do
      let ov ← eval o env
      standAt apos.atName
      let (f, first) ← holding [ov] (getMethod ov n pl)
      callWith pos f first (backTo pos (starEach args env)) (backToKw pos (keywordEach [] env))) := by
  have few : methodCallForm (args.length + ([] : List Keyword).length) (backTo pos (starEach args env)) (backToKw pos (keywordEach [] env)) = true := by
    have := few_ok (env := env) (pos := pos) hp hl
    exact this
  refine ⟨?_, ?_⟩
  rotate_left
  · rw [arm_eval_Call, ab_ok h]
    unfold methodCall
    rw [few]
    unfold methodCallPos calleeOf
    rw [hline]
    rfl
end Kr
/-! KrK: the text and its IR are held together. -/
namespace Kr
open PySem PySem.Spec PyProof.Rows L2

/-- a row's numbers and names -/
structure Row where
  G : Tab
  fnm : Nat → Option Str
  mnm : Nat → Nat → Option Str
  cnm : Nat → Option Str
  xnm : Nat → Option Str
  gnm : Nat → Option Str
  fs : Nat → List Str
/-- where a name is read -/
structure Sc where
  N : List Str
  sc : Scope
  fnb : Str → Bool
def vis (s : Sc) (x : Str) : Bool := match s.sc.names.lookup x with
  | some .local => true
  | some .cell => true
  | some .free => true
  | _ => false
def gl (s : Sc) (x : Str) : Bool := match s.sc.names.lookup x with
  | some .globalImplicit => true
  | _ => false
def loc (s : Sc) (x : Str) : Bool := match s.sc.names.lookup x with
  | some .local => true
  | some .cell => s.fnb x
  | _ => false
def isLoc (s : Sc) (x : Str) : Bool := match s.sc.names.lookup x with
  | some .local => true
  | _ => false
def okN (x : Str) : Bool := !(x == ("__debug__" : Str)) && !(x == ("__classdict__" : Str))
def eqO (a : Option Str) (x : Str) : Bool := match a with
  | some y => y == x
  | none => false
def bltFree : List Str := ["len", "abs", "int", "str", "bool", "list", "tuple", "max", "min", "isinstance", "range"]
/-- a comprehension's own scope -/
def Sc.blk (s : Sc) (scope : Scope) : Sc := ⟨s.N, relS scope s.sc, fun x => scope.names.lookup x == some .cell⟩
def ownOf (N : List Str) (own : List Nat) : List (Str × Nat) := own.map fun i => (N.getD i "", i)
def constIs : D → Expr → Bool
  | .non, .Constant .none _ _ => true
  | .bl b, .Constant (.bool c) _ _ => b == c
  | .int i, .Constant (.int j) _ _ => i == j
  | .str x, .Constant (.str y) _ _ => y.cps.toList == x && x.all (· < 128)
  | _, _ => false
def Tg.ix : Tg → List Nat
  | .nam i => [i]
  | .tup gs => Tgs.ix gs
  | .sub _ _ => []
where Tgs.ix : Tgs → List Nat
  | .nil => []
  | .cons g gs => Tg.ix g ++ Tgs.ix gs
def Tgs.len : Tgs → Nat
  | .nil => 0
  | .cons _ gs => gs.len + 1
mutual
def chkG (s : Sc) : Tg → Expr → Bool
  | .nam i, .Name x _ => eqO s.N[i]? x && loc s x
  | .tup gs, .Tuple es _ _ => chkGs s gs es
  | _, _ => false
def chkGs (s : Sc) : Tgs → List Expr → Bool
  | .nil, [] => true
  | .cons g gs, e :: es => chkG s g e && chkGs s gs es
  | _, _ => false
end
def meNm : Me → Str
  | .strip => "strip" | .rstrip => "rstrip" | .split => "split" | .replace => "replace" | .rjust => "rjust" | .join => "join" | .count => "count" | .index => "index" | .append => "append" | .pop => "pop" | .extend => "extend" | .get => "get" | .update => "update"
def isS (m : Me) : Bool := match m with
  | .strip => true | .rstrip => true | .split => true | .rjust => true | .join => true | _ => false
/-- a method's call: the shape -/
def bmShape (o : Expr) (apos pos : Pos) (as : List Expr) : Bool := abOk o && (apos.endLine == pos.line) && decide (as.length < 30) && !as.isEmpty
mutual
def chkE (R : Row) (s : Sc) : E → Expr → Bool
  | .cst d, e => constIs d e
  | .var i, .Name x _ => eqO s.N[i]? x && vis s x && okN x
  | .glb g, .Name x _ => eqO (R.gnm g) x && gl s x && okN x
  | .bin o a b, .BinOp ea op eb _ => decide (op = bopOf o) && chkE R s a ea && chkE R s b eb
  | .neg a, .UnaryOp .USub ea _ => chkE R s a ea
  | .cmp o a b, .Compare ea [op] [eb] _ => decide (op = copOf o) && chkE R s a ea && chkE R s b eb && pl eb
  | .chn o p a b c, .Compare ea [op, op'] [eb, ec] _ => decide (op = copOf o) && decide (op' = copOf p) && chkE R s a ea && chkE R s b eb && chkE R s c ec && pl ec
  | .and es, .BoolOp .And as _ => chkEs R s es as && !as.isEmpty
  | .or es, .BoolOp .Or as _ => chkEs R s es as && !as.isEmpty
  | .not a, .UnaryOp .Not ea _ => chkE R s a ea
  | .ite t a b, .IfExp et ea eb _ => chkT R s t et && chkE R s a ea && chkE R s b eb
  | .call _ f as, .Call (.Name x _) es [] _ => eqO (R.fnm f) x && gl s x && okN x && chkEs R s as es
  | .mk _ c as, .Call (.Name x _) es [] _ => eqO (R.cnm c) x && (R.G.ini c).isSome && gl s x && okN x && chkEs R s as es && !es.isEmpty
  | .mth _ c f o as, .Call (.Attribute eo n apos) es [] pos => eqO (R.mnm c f) n && (R.cnm c).isSome && chkE R s o eo && chkEs R s as es && abOk eo && (apos.endLine == pos.line) && decide (es.length < 30)
  | .blt b as, .Call (.Name x _) es [] _ => eqO (biN b) x && gl s x && chkEs R s as es && !es.isEmpty
  | .isi a t, .Call (.Name x _) [ea, .Name y _] [] _ => (x == ("isinstance" : Str)) && gl s x && (y == Str.ofString (tyN t)) && gl s y && chkE R s a ea && pl ea
  | .bm m o as, .Call (.Attribute eo n apos) es [] pos => (n == meNm m) && (isS m || decide (m = .append) || decide (m = .count)) && chkE R s o eo && chkEs R s as es && bmShape eo apos pos es
  | .repl o c z, .Call (.Attribute eo n apos) [.Constant (.str y) _ _, .Constant (.str y') _ _] [] pos => (n == ("replace" : Str)) && (y.cps.toList == [c]) && decide (c < 128) && (y'.cps.toList == z) && z.all (· < 128) && !(z == [c]) && chkE R s o eo && abOk eo && (apos.endLine == pos.line)
  | .fld c k o, .Attribute eo f _ => eqO (R.fs c)[k]? f && (R.cnm c).isSome && chkE R s o eo && abOk eo
  | .ix a b, .Subscript ea eb _ => chkE R s a ea && chkE R s b eb && pl eb
  | .sl a lo hi, .Subscript ea (.Slice el eh none _) _ => chkE R s a ea && chkO R s lo el && chkO R s hi eh
  | .tup as, .Tuple es _ _ => chkEs R s as es
  | .lst _ as, .List es _ => chkEs R s as es
  | .lc _ own g i t e, .ListComp elt [⟨tg, iter, ifs, 0⟩] scope _ => blkC s.N s.sc scope (ownOf s.N own) && chkI R s i iter && pl iter && chkG (s.blk scope) g tg && (g.ix.all own.contains) && chkOt R (s.blk scope) t ifs && chkE R (s.blk scope) e elt
  | _, _ => false
def chkEs (R : Row) (s : Sc) : Es → List Expr → Bool
  | .nil, [] => true
  | .cons e es, a :: as => pl a && chkE R s e a && chkEs R s es as
  | _, _ => false
def chkO (R : Row) (s : Sc) : Oe → Option Expr → Bool
  | .none, none => true
  | .some e, some a => chkE R s e a && pl a
  | _, _ => false
def chkOt (R : Row) (s : Sc) : Ot → List Expr → Bool
  | .none, [] => true
  | .some t, [a] => chkT R s t a
  | _, _ => false
def chkT (R : Row) (s : Sc) : T → Expr → Bool
  | .val e, a => chkE R s e a && plainT a
  | .cmp o a b, .Compare ea [op] [eb] _ => decide (op = copOf o) && chkE R s a ea && chkE R s b eb && pl eb
  | .chn o p a b c, .Compare ea [op, op'] [eb, ec] _ => decide (op = copOf o) && decide (op' = copOf p) && chkE R s a ea && chkE R s b eb && chkE R s c ec && pl ec
  | .and ts, .BoolOp .And as _ => chkTs R s ts as && !as.isEmpty
  | .or ts, .BoolOp .Or as _ => chkTs R s ts as && !as.isEmpty
  | .not a, .UnaryOp .Not ea _ => chkT R s a ea
  | _, _ => false
def chkTs (R : Row) (s : Sc) : Ts → List Expr → Bool
  | .nil, [] => true
  | .cons t ts, a :: as => chkT R s t a && chkTs R s ts as
  | _, _ => false
def chkI (R : Row) (s : Sc) : It → Expr → Bool
  | .seq e, a => chkE R s e a
  | .rng1 a, .Call (.Name x _) [ea] [] _ => (x == ("range" : Str)) && gl s x && chkE R s a ea && pl ea
  | .rng2 a b, .Call (.Name x _) [ea, eb] [] _ => (x == ("range" : Str)) && gl s x && chkE R s a ea && pl ea && chkE R s b eb && pl eb
  | _, _ => false
end
/-- what a, b = x, y does -/
def ssB (sc : Scope) (ts vs : List Expr) : Option (Option (List Str)) :=
  if !(ts.length == 2 || ts.length == 3) || vs.length != ts.length then some none
  else if vs.any (fun | .Starred .. => true | _ => false) then some none
  else
    let line := (ts.head?.map (·.pos.line)).getD 0
    let names := ts.filterMap fun
      | .Name id pos => if sc.names.lookup id == some .local && pos.line == line then some id else none
      | _ => none
    if names.length != ts.length || names.eraseDups.length != names.length then some none
    else if vs.all (foldedForSure 8) then some none
    else if vs.all (constantsAlone 8) then none
    else some (some names)
def notTup : Expr → Bool
  | .Tuple _ _ _ => false | _ => true
def swB (s : Sc) (x : Str) (px : Pos) (scope : Scope) (pos : Pos) : Bool :=
  isLoc s x && px.line == pos.line && !(scope.names.any fun (n, k) => n == x && (k == .local || k == .cell))
/-- the names of a swap -/
def parOk (s : Sc) : Tgs → List Expr → List Str → Bool
  | .cons (.nam i) (.cons (.nam j) .nil), [.Name x _, .Name y _], [x', y'] => (x == x') && (y == y') && eqO s.N[i]? x && eqO s.N[j]? y && !(i == j) && isLoc s x && isLoc s y
  | .cons (.nam i) (.cons (.nam j) (.cons (.nam k) .nil)), [.Name x _, .Name y _, .Name z _], [x', y', z'] => (x == x') && (y == y') && (z == z') && eqO s.N[i]? x && eqO s.N[j]? y && eqO s.N[k]? z && !(i == j) && !(i == k) && !(j == k) && isLoc s x && isLoc s y && isLoc s z
  | _, _, _ => false
def isLC : Expr → Bool
  | .ListComp _ _ _ _ => true
  | _ => false
def tupChk (s : Sc) (gs : Tgs) (ts : List Expr) (a : Expr) : Bool := if notTup a then chkGs s gs ts else (match a with
    | .Tuple vs _ _ => (match ssB s.sc ts vs with
      | some none => chkGs s gs ts
      | some (some names) => parOk s gs ts names
      | none => false)
    | _ => false)
def chkH (R : Row) (s : Sc) : List (Nat × Nat × D) → List ExceptHandler → Bool
  | [], [] => true
  | (k, i, d) :: hs, .ExceptHandler (some (.Name x _)) none [.Assign [.Name y _] c _] _ :: as => eqO (R.xnm k) x && gl s x && okN x && eqO s.N[i]? y && isLoc s y && constIs d c && chkH R s hs as
  | _, _ => false
mutual
def chkS (R : Row) (s : Sc) : St → Stmt → Bool
  | .doc, .Expr (.Constant (.str _) _ _) _ => true
  | .pass, .Pass _ => true
  | .brk, .Break _ => true
  | .cnt, .Continue _ => true
  | .expr e, .Expr a _ => chkE R s e a && notComp a
  | .asg (.nam i) e, .Assign [.Name x px] a _ => eqO s.N[i]? x && loc s x && chkE R s e a && (notComp a || isLC a)
  | .asg (.tup gs) e, .Assign [.Tuple ts _ _] a _ => chkE R s e a && notComp a && tupChk s gs ts a
  | .setf c k o e, .Assign [.Attribute eo f _] a _ => eqO (R.fs c)[k]? f && (R.cnm c).isSome && chkE R s o eo && chkE R s e a && notComp a
  | .aug i o e, .AugAssign (.Name x _) op a _ => eqO s.N[i]? x && loc s x && decide (op = bopOf o) && chkE R s e a
  | .augf c k o b e, .AugAssign (.Attribute eo f _) op a _ => eqO (R.fs c)[k]? f && (R.cnm c).isSome && decide (op = bopOf b) && chkE R s o eo && chkE R s e a
  | .ret e, .Return (some a) _ => chkE R s e a
  | .retN, .Return none _ => true
  | .ite t a b, .If c sa sb _ => chkT R s t c && chkB R s a sa && chkB R s b sb
  | .whl t b, .While c sb [] _ => chkT R s t c && chkB R s b sb
  | .loop g i b, .For tg iter sb [] _ => chkG s g tg && chkI R s i iter && pl iter && chkB R s b sb
  | .raise c, .Raise (some (.Call (.Name x _) [.Constant (.str _) _ _] [] _)) none _ => eqO (R.xnm c) x && gl s x && okN x
  | .tri b hs, .Try sb hds [] [] _ => chkB R s b sb && chkH R s hs hds && !hds.isEmpty
  | _, _ => false
def chkB (R : Row) (s : Sc) : Ss → List Stmt → Bool
  | .nil, [] => true
  | .cons a as, b :: bs => chkS R s a b && chkB R s as bs
  | _, _ => false
end
end Kr
/-! KrS: what is held together is true of the text: expressions. -/
namespace Kr
open PySem PySem.Spec PyProof.Rows L2

/-- what a row's head grants; C: what a call does, lv: the room that it needs -/
structure Facts (R : Row) (C : Cl) (lv : Nat) (P : Program) (w : World) (K : PySem.W.Frag) (mg : Str → Option Value) (base : Heap) (Y : Cfg) : Prop where
  glb : ∀ g x d, R.gnm g = some x → R.G.glb g = some d → ∃ u, mg x = some u ∧ KD Y d u
  fn : ∀ f x, R.fnm f = some x → ∃ a, mg x = some (.ref a) ∧ FnAt P w K mg base Y C lv f a
  mt : ∀ c f n, R.mnm c f = some n → ∃ a, Meth K (Y.cA c) n a ∧ FnAt P w K mg base Y C lv f a
  cl : ∀ c x, R.cnm c = some x → mg x = some (.ref (Y.cA c)) ∧ Cls K (Y.cA c)
  mkr : ∀ c x f, R.cnm c = some x → R.G.ini c = some f → ∃ a, Mk K (Y.cA c) a ∧ FnAt P w K mg base Y C lv f a
  fld : ∀ (c k : Nat) (f x : Str), R.cnm c = some x → (R.fs c)[k]? = some f → NoAttr K (Y.cA c) f
  fsY : Y.fs = R.fs
  nd : ∀ c, (R.fs c).Nodup ∧ (R.fs c).length < 1000
  mno : ∀ c f n, R.mnm c f = some n → n ∉ R.fs c
  exc : ∀ c x, R.xnm c = some x → mg x = some (.ref (Y.xA c)) ∧ (∃ B newId initId bmB, ExcBaseFacts B newId initId bmB ∧ PySem.W.excIn K (Y.xA c) bmB newId = true) ∧ PySem.W.keepIn K (.ref (Y.xA c)) = true ∧
    PySem.W.subIn K (.ref (Y.xA c)) (.type "BaseException") = some true ∧ PySem.W.typeIn K (.ref (Y.xA c)) = some (.type "type")
  sub : ∀ c k b, R.G.sub c k = some b → PySem.W.exmOne K (.ref (Y.xA c)) (.ref (Y.xA k)) = some b
  blt : ∀ x ∈ bltFree, mg x = none
structure Cxt (R : Row) (C : Cl) (lv : Nat) (J : Jx) (s : Sc) : Prop where
  ok : J.Ok
  calm : J.X.calm = true
  room : Room (lv + 1) J.X.A
  N : J.X.N = s.N
  nd : s.N.Nodup
  sc : J.X.env.scope = s.sc
  fn : J.X.fn = s.fnb
  F : Facts R C lv J.X.prog J.X.w J.X.K J.X.mg J.X.base J.Y
section
variable {R : Row} {C : Cl} {lv : Nat} {J : Jx} {s : Sc}
theorem Cxt.vis (c : Cxt R C lv J s) {x : Str} (h : Kr.vis s x = true) : Vis J.X.env.scope x := by
  rw [c.sc]
  unfold Kr.vis at h
  unfold Vis
  split at h
  · rename_i e; exact .inl e
  · rename_i e; exact .inr (.inl e)
  · rename_i e; exact .inr (.inr e)
  · cases h
theorem Cxt.gl (c : Cxt R C lv J s) {x : Str} (h : Kr.gl s x = true) : Gl J.X x := by
  show J.X.env.scope.names.lookup x = some .globalImplicit
  rw [c.sc]
  unfold Kr.gl at h
  split at h
  · rename_i e; exact e
  · cases h
theorem Cxt.loc (c : Cxt R C lv J s) {x : Str} (h : Kr.loc s x = true) : Loc J.X.env.scope x ∧ (J.X.fn x = true ∨ J.X.env.scope.names.lookup x = some .local) := by
  rw [c.sc, c.fn]
  unfold Kr.loc at h
  unfold L2.Loc
  split at h
  · rename_i e; exact ⟨.inl e, .inr e⟩
  · rename_i e; exact ⟨.inr e, .inl h⟩
  · cases h
theorem Cxt.isLoc (c : Cxt R C lv J s) {x : Str} (h : Kr.isLoc s x = true) : J.X.env.scope.names.lookup x = some .local := by
  rw [c.sc]
  unfold Kr.isLoc at h
  split at h
  · rename_i e; exact e
  · cases h
theorem eqO_ok {a : Option Str} {x : Str} (h : eqO a x = true) : a = some x := by
  cases a with
  | none => cases h
  | some y => exact congrArg some (beq_iff_eq.mp h)
theorem okN_ok {x : Str} (h : okN x = true) : (x == ("__debug__" : Str)) = false ∧ (x == ("__classdict__" : Str)) = false := by
  obtain ⟨a, b⟩ := Bool.and_eq_true_iff.mp h
  exact ⟨by simpa using a, by simpa using b⟩
theorem Cxt.nm (c : Cxt R C lv J s) {i : Nat} {x : Str} (h : eqO s.N[i]? x = true) : J.X.N[i]? = some x := by
  rw [c.N]; exact eqO_ok h
theorem Cxt.ndx (c : Cxt R C lv J s) : J.X.N.Nodup := by rw [c.N]; exact c.nd
theorem Cxt.blk (c : Cxt R C lv J s) {scope : Scope} {J' : Jx} (b : BlkOf J scope J') : Cxt R C lv J' (s.blk scope) := by
  have ok := b.ok c.ok
  obtain ⟨s0, H, Cc, cl, fp, e⟩ := b.x
  have ey := b.y
  obtain ⟨X', Y', av, m0, H0, Wx⟩ := J'
  simp only at e ey
  subst e ey
  refine ⟨ok, c.calm, c.room, c.N, c.nd, ?_, rfl, c.F⟩
  show relS scope J.X.env.scope = relS scope s.sc
  rw [c.sc]
theorem JG.mono {tg : Expr} {is is' : List Nat} {g : W → Sl → Sto → RS} (h : JG J tg is g) (hm : ∀ i ∈ is, i ∈ is') : JG J tg is' g := fun pins s σ H m S l w v u K st r q k =>
  thn (h pins s σ H m S l w v u K st r q k) fun _ s' ⟨σ', l', S', k', st', e1, e2⟩ => ⟨σ', l', S', k', st', e1, fun j hj => e2 j fun z => hj (hm j z)⟩
/-! ### targets -/
theorem each_one {t : Expr} {env : Env} (h : pl t = true) : assignEach [t] env = [(false, assign t env)] := by
  cases t <;> first | rfl | cases h
theorem each_cons {t : Expr} {ts : List Expr} {env : Env} (h : pl t = true) : assignEach (t :: ts) env = (false, assign t env) :: assignEach ts env := by
  cases t <;> first | rfl | cases h
theorem chkG_pl {g : Tg} {e : Expr} (h : chkG s g e = true) : pl e = true := by
  cases g with
  | nam i => cases e <;> first | rfl | exact (Bool.false_ne_true h).elim
  | tup gs => cases e <;> first | rfl | exact (Bool.false_ne_true h).elim
  | sub o i => cases e <;> exact (Bool.false_ne_true h).elim
theorem chkGs_each : ∀ {gs : Tgs} {es : List Expr} {env : Env}, chkGs s gs es = true → (assignEach es env).length = gs.len ∧ (assignEach es env).findIdx? (·.1) = none
  | .nil, [], env, _ => ⟨rfl, rfl⟩
  | .nil, _ :: _, _, h => (Bool.false_ne_true h).elim
  | .cons g gs, [], _, h => (Bool.false_ne_true h).elim
  | .cons g gs, e :: es, env, h => by
    obtain ⟨h1, h2⟩ := Bool.and_eq_true_iff.mp (show (chkG s g e && chkGs s gs es) = true from h)
    obtain ⟨i1, i2⟩ := chkGs_each (env := env) h2
    rw [each_cons (chkG_pl h1)]
    refine ⟨by rw [List.length_cons, i1]; rfl, ?_⟩
    rw [List.findIdx?_cons]
    simp [i2]
mutual
theorem evG_nx (G : Tab) (C : Cl) : ∀ (g : Tg) (w : W) (l : Sl) (S : Sto), (∃ l' S', evG G C g w l S = .nx l' S') ∨ evG G C g w l S = .bad
  | .nam i, w, l, S => by
    show (∃ l' S', (if i < l.length then RS.nx (l.set i (some w)) S else .bad) = .nx l' S') ∨ (if i < l.length then RS.nx (l.set i (some w)) S else .bad) = .bad
    split
    · exact .inl ⟨_, _, rfl⟩
    · exact .inr rfl
  | .tup gs, w, l, S => by
    cases w with
    | d x =>
      cases x with
      | tup xs => exact evGs_nx G C gs xs l S
      | _ => exact .inr rfl
    | _ => exact .inr rfl
  | .sub _ _, _, _, _ => .inr rfl
theorem evGs_nx (G : Tab) (C : Cl) : ∀ (gs : Tgs) (xs : List D) (l : Sl) (S : Sto), (∃ l' S', evGs G C gs xs l S = .nx l' S') ∨ evGs G C gs xs l S = .bad
  | .nil, [], l, S => .inl ⟨_, _, rfl⟩
  | .nil, _ :: _, l, S => .inr rfl
  | .cons g gs, [], l, S => .inr rfl
  | .cons g gs, x :: xs, l, S => by
    show (∃ l' S', ((evG G C g (.d x) l S).sq fun l S => evGs G C gs xs l S) = .nx l' S') ∨ ((evG G C g (.d x) l S).sq fun l S => evGs G C gs xs l S) = .bad
    rcases evG_nx G C g (.d x) l S with ⟨l', S', e⟩ | e
    · rw [e]
      exact evGs_nx G C gs xs l' S'
    · rw [e]
      exact .inr rfl
end
theorem evGs_len (G : Tab) (C : Cl) : ∀ (gs : Tgs) (xs : List D) (l : Sl) (S : Sto) (K : Sl → Sto → Prop), (evGs G C gs xs l S).nxt K → xs.length = gs.len
  | .nil, [], l, S, K, h => rfl
  | .nil, _ :: _, l, S, K, h => h.elim
  | .cons g gs, [], l, S, K, h => h.elim
  | .cons g gs, x :: xs, l, S, K, h => by
    have h : ((evG G C g (.d x) l S).sq fun l S => evGs G C gs xs l S).nxt K := h
    rcases evG_nx G C g (.d x) l S with ⟨l', S', e⟩ | e
    · rw [e] at h
      show xs.length + 1 = gs.len + 1
      rw [evGs_len G C gs xs l' S' K h]
    · rw [e] at h
      exact h.elim
mutual
theorem sndG : ∀ (g : Tg) {J : Jx} {s : Sc} {e : Expr}, Cxt R C lv J s → chkG s g e = true → JG J e g.ix (evG R.G C g)
  | .nam i, J, s, e, c, h => by
    cases e with
    | Name x p =>
      obtain ⟨h1, h2⟩ := Bool.and_eq_true_iff.mp (show (eqO s.N[i]? x && loc s x) = true from h)
      exact jg_nam c.ndx (c.nm h1) (c.loc h2).1 (c.loc h2).2
    | _ => exact (Bool.false_ne_true h).elim
  | .tup gs, J, s, e, c, h => by
    cases e with
    | Tuple es k p =>
      have h : chkGs s gs es = true := h
      obtain ⟨h1, h2⟩ := chkGs_each (env := J.X.env) h
      exact jg_tup c.calm c.ok (sndGs gs c h) h1 (evGs_len R.G C gs) h2
    | _ => exact (Bool.false_ne_true h).elim
  | .sub o i, J, s, e, c, h => by cases e <;> exact (Bool.false_ne_true h).elim
theorem sndGs : ∀ (gs : Tgs) {J : Jx} {s : Sc} {es : List Expr}, Cxt R C lv J s → chkGs s gs es = true → JGs J es (Tg.ix.Tgs.ix gs) (evGs R.G C gs)
  | .nil, J, s, [], c, h => jgs_nil
  | .nil, J, s, _ :: _, c, h => (Bool.false_ne_true h).elim
  | .cons g gs, J, s, [], c, h => (Bool.false_ne_true h).elim
  | .cons g gs, J, s, e :: es, c, h => by
    obtain ⟨h1, h2⟩ := Bool.and_eq_true_iff.mp (show (chkG s g e && chkGs s gs es) = true from h)
    refine jgs_cons (sndG g c h1) (sndGs gs c h2) ?_
    rw [each_cons (chkG_pl h1)]
    rfl
end
end
end Kr
/-! KrS2: what is held together is true of the text: expressions. -/
namespace Kr
open PySem PySem.Spec PyProof.Rows L2
theorem ba2 {a b : Bool} (h : (a && b) = true) : a = true ∧ b = true := Bool.and_eq_true_iff.mp h
theorem ne_nil {as : List Expr} (h : (!as.isEmpty) = true) : ∃ e es, as = e :: es := by
  cases as with
  | nil => cases h
  | cons e es => exact ⟨e, es, rfl⟩
theorem str_of {y : Str} {x : List Nat} (h : (y.cps.toList == x) = true) : y = mkS x := str_ext (beq_iff_eq.mp h)
theorem asc_of {x : List Nat} (h : x.all (· < 128) = true) : Asc x := fun c hc => by
  have := List.all_eq_true.mp h c hc
  simpa using this
theorem je_cst {J : Jx} {d : D} {e : Expr} (h : constIs d e = true) : JE J e (fun _ S => .ok (.d d) S) := by
  unfold constIs at h
  split at h
  · exact je_none
  · rename_i b c _ _
    have : b = c := by simpa using h
    subst this
    exact je_bool
  · rename_i b c _ _
    have : b = c := by simpa using h
    subst this
    exact je_int
  · obtain ⟨h1, h2⟩ := ba2 h
    rw [str_of h1]
    exact je_str (asc_of h2)
  · cases h
section
variable {R : Row} {C : Cl} {lv : Nat} {J : Jx} {s : Sc}
theorem Facts.fldOk (c : Cxt R C lv J s) {k n : Nat} {f : Str} (h1 : eqO (R.fs k)[n]? f = true) (h2 : (R.cnm k).isSome = true) : FldOk J k n f := by
  obtain ⟨x, e⟩ := Option.isSome_iff_exists.mp h2
  have e1 := eqO_ok h1
  refine ⟨(c.F.cl k x e).2, c.F.fld k n f x e e1, ?_, ?_⟩
  · rw [c.F.fsY]; exact e1
  · rw [c.F.fsY]; exact (c.F.nd k).1
theorem Cxt.blt (c : Cxt R C lv J s) {x : Str} (h : x ∈ bltFree) : J.X.mg x = none := c.F.blt x h
theorem biN_free {b : Bi} {x : Str} (h : biN b = some x) : x ∈ bltFree := by
  cases b <;> cases h <;> decide +kernel
theorem tyN_free (t : Ty) : Str.ofString (tyN t) ∈ bltFree := by
  cases t <;> decide +kernel
theorem chkEs_pls : ∀ {es : Es} {as : List Expr}, chkEs R s es as = true → pls as = true
  | .nil, [], _ => rfl
  | .nil, _ :: _, h => (Bool.false_ne_true h).elim
  | .cons e es, [], h => (Bool.false_ne_true h).elim
  | .cons e es, a :: as, h => by
    obtain ⟨h, h3⟩ := ba2 (show (pl a && chkE R s e a && chkEs R s es as) = true from h)
    obtain ⟨h1, h2⟩ := ba2 h
    show (pl a && pls as) = true
    rw [h1, chkEs_pls h3]
    rfl
theorem ownOf_ix (N : List Str) (own : List Nat) : (ownOf N own).map (·.2) = own := by
  unfold ownOf
  rw [List.map_map]
  exact List.map_id own
theorem bmOk_of {eo : Expr} {n : Str} {apos pos : Pos} {e : Expr} {es : List Expr} (h : bmShape eo apos pos (e :: es) = true) (hp : pls (e :: es) = true) : BmOk J eo n apos pos e es := by
  obtain ⟨h, _⟩ := ba2 h
  obtain ⟨h, h3⟩ := ba2 h
  obtain ⟨h1, h2⟩ := ba2 h
  obtain ⟨p1, p2⟩ := ba2 (show (pl e && pls es) = true from hp)
  exact ⟨ab_ok h1, few_ok hp (of_decide_eq_true h3), h2, star_cons p1, star_any p2⟩
theorem lc_shape {kp : Bool} {own : List Nat} {g : Tg} {i : It} {t : Ot} {e0 : E} {e : Expr} (h : chkE R s (.lc kp own g i t e0) e = true) : ∃ elt tg iter ifs scope p, e = .ListComp elt [⟨tg, iter, ifs, 0⟩] scope p ∧
    (blkC s.N s.sc scope (ownOf s.N own) && chkI R s i iter && pl iter && chkG (s.blk scope) g tg && (g.ix.all own.contains) && chkOt R (s.blk scope) t ifs && chkE R (s.blk scope) e0 elt) = true := by
  unfold chkE at h
  split at h <;> rename_i heq <;> first | (cases heq; done) | skip
  · cases heq
    exact ⟨_, _, _, _, _, _, rfl, h⟩
  · cases h
mutual
theorem sndE : ∀ (e : E) {J : Jx} {s : Sc} {a : Expr}, Cxt R C lv J s → chkE R s e a = true → JE J a (evE R.G C e)
  | .cst d, J, s, a, c, h => je_cst h
  | .var i, J, s, a, c, h => by
    cases a with
    | Name x p =>
      obtain ⟨h, h3⟩ := ba2 (show (eqO s.N[i]? x && vis s x && okN x) = true from h)
      obtain ⟨h1, h2⟩ := ba2 h
      exact je_var (c.nm h1) (c.vis h2) (okN_ok h3).1 (okN_ok h3).2
    | _ => exact (Bool.false_ne_true h).elim
  | .glb g, J, s, a, c, h => by
    cases a with
    | Name x p =>
      obtain ⟨h, h3⟩ := ba2 (show (eqO (R.gnm g) x && gl s x && okN x) = true from h)
      obtain ⟨h1, h2⟩ := ba2 h
      intro pins s' σ H m S l K st k
      have k : (match R.G.glb g with
        | some d => RE.ok (W.d d) S
        | none => RE.bad).el K (J.Xc σ l) := k
      cases e : R.G.glb g with
      | none => rw [e] at k; exact k.elim
      | some d =>
        rw [e] at k
        obtain ⟨u, e1, e2⟩ := c.F.glb g x d (eqO_ok h1) e
        exact je_glob (c.gl h2) e1 e2 (okN_ok h3).1 pins s' σ H m S l K st k
    | _ => exact (Bool.false_ne_true h).elim
  | .bin o a b, J, s, e, c, h => by
    cases e with
    | BinOp ea op eb p =>
      obtain ⟨h, h3⟩ := ba2 (show (decide (op = bopOf o) && chkE R s a ea && chkE R s b eb) = true from h)
      obtain ⟨h1, h2⟩ := ba2 h
      cases of_decide_eq_true h1
      exact je_bin c.ok o (sndE a c h2) (sndE b c h3)
    | _ => exact (Bool.false_ne_true h).elim
  | .neg a, J, s, e, c, h => by
    cases e with
    | UnaryOp op ea p =>
      cases op with
      | USub => exact je_neg (sndE a c h)
      | _ => exact (Bool.false_ne_true h).elim
    | _ => exact (Bool.false_ne_true h).elim
  | .cmp o a b, J, s, e, c, h => by
    cases e with
    | Compare ea ops es p =>
      match ops, es, h with
      | [op], [eb], h =>
        obtain ⟨h, h4⟩ := ba2 (show (decide (op = copOf o) && chkE R s a ea && chkE R s b eb && pl eb) = true from h)
        obtain ⟨h, h3⟩ := ba2 h
        obtain ⟨h1, h2⟩ := ba2 h
        cases of_decide_eq_true h1
        exact je_cmp c.ok o (sndE a c h2) (sndE b c h3) (marks_ok h4)
      | [], _, h => exact (Bool.false_ne_true h).elim
      | [_], [], h => exact (Bool.false_ne_true h).elim
      | [_], _ :: _ :: _, h => exact (Bool.false_ne_true h).elim
      | _ :: _ :: _, _, h => exact (Bool.false_ne_true h).elim
    | _ => exact (Bool.false_ne_true h).elim
  | .chn o p a b c', J, s, e, c, h => by
    cases e with
    | Compare ea ops es p' =>
      match ops, es, h with
      | [op, op'], [eb, ec], h =>
        obtain ⟨h, h6⟩ := ba2 (show (decide (op = copOf o) && decide (op' = copOf p) && chkE R s a ea && chkE R s b eb && chkE R s c' ec && pl ec) = true from h)
        obtain ⟨h, h5⟩ := ba2 h
        obtain ⟨h, h4⟩ := ba2 h
        obtain ⟨h, h3⟩ := ba2 h
        obtain ⟨h1, h2⟩ := ba2 h
        cases of_decide_eq_true h1
        cases of_decide_eq_true h2
        exact je_chn c.ok o p (sndE a c h3) (sndE b c h4) (sndE c' c h5) (last_ok h6)
      | [], _, h => exact (Bool.false_ne_true h).elim
      | [_], _, h => exact (Bool.false_ne_true h).elim
      | [_, _], [], h => exact (Bool.false_ne_true h).elim
      | [_, _], [_], h => exact (Bool.false_ne_true h).elim
      | [_, _], _ :: _ :: _ :: _, h => exact (Bool.false_ne_true h).elim
      | _ :: _ :: _ :: _, _, h => exact (Bool.false_ne_true h).elim
    | _ => exact (Bool.false_ne_true h).elim
  | .and es, J, s, e, c, h => by
    cases e with
    | BoolOp op as p =>
      cases op with
      | And =>
        obtain ⟨h1, h2⟩ := ba2 (show (chkEs R s es as && !as.isEmpty) = true from h)
        exact sndAnd es c h1 h2
      | Or => exact (Bool.false_ne_true h).elim
    | _ => exact (Bool.false_ne_true h).elim
  | .or es, J, s, e, c, h => by
    cases e with
    | BoolOp op as p =>
      cases op with
      | Or =>
        obtain ⟨h1, h2⟩ := ba2 (show (chkEs R s es as && !as.isEmpty) = true from h)
        exact sndOr es c h1 h2
      | And => exact (Bool.false_ne_true h).elim
    | _ => exact (Bool.false_ne_true h).elim
  | .not a, J, s, e, c, h => by
    cases e with
    | UnaryOp op ea p =>
      cases op with
      | Not => exact je_not c.ok (sndE a c h)
      | _ => exact (Bool.false_ne_true h).elim
    | _ => exact (Bool.false_ne_true h).elim
  | .ite t a b, J, s, e, c, h => by
    cases e with
    | IfExp et ea eb p =>
      obtain ⟨h, h3⟩ := ba2 (show (chkT R s t et && chkE R s a ea && chkE R s b eb) = true from h)
      obtain ⟨h1, h2⟩ := ba2 h
      exact je_ite (sndT t c h1) (sndE a c h2) (sndE b c h3)
    | _ => exact (Bool.false_ne_true h).elim
  | .call kp f as, J, s, e, c, h => by
    cases e with
    | Call fn es kws p =>
      cases fn with
      | Name x p2 =>
        cases kws with
        | nil =>
          obtain ⟨h, h4⟩ := ba2 (show (eqO (R.fnm f) x && gl s x && okN x && chkEs R s as es) = true from h)
          obtain ⟨h, h3⟩ := ba2 h
          obtain ⟨h1, h2⟩ := ba2 h
          obtain ⟨a, m1, F⟩ := c.F.fn f x (eqO_ok h1)
          cases es with
          | nil =>
            cases as with
            | nil => exact je_call0 c.ok F (c.room.mono (Nat.le_succ _)) (c.gl h2) m1 (okN_ok h3).1
            | cons => exact (Bool.false_ne_true h4).elim
          | cons e0 es =>
            obtain ⟨p1, p2⟩ := ba2 (show (pl e0 && pls es) = true from chkEs_pls h4)
            exact je_call c.ok F (c.room.mono (Nat.le_succ _)) (c.gl h2) m1 (okN_ok h3).1 (sndA as c h4) (star_cons p1) (star_any p2)
        | cons => exact (Bool.false_ne_true h).elim
      | _ => exact (Bool.false_ne_true h).elim
    | _ => exact (Bool.false_ne_true h).elim
  | .lcall i as, J, s, e, c, h => by cases e <;> exact (Bool.false_ne_true h).elim
  | .mk kp k as, J, s, e, c, h => by
    cases e with
    | Call fn es kws p =>
      cases fn with
      | Name x p2 =>
        cases kws with
        | nil =>
          obtain ⟨h, h6⟩ := ba2 (show (eqO (R.cnm k) x && (R.G.ini k).isSome && gl s x && okN x && chkEs R s as es && !es.isEmpty) = true from h)
          obtain ⟨h, h5⟩ := ba2 h
          obtain ⟨h, h4⟩ := ba2 h
          obtain ⟨h, h3⟩ := ba2 h
          obtain ⟨h1, h2⟩ := ba2 h
          obtain ⟨f, ef⟩ := Option.isSome_iff_exists.mp h2
          obtain ⟨e0, es', rfl⟩ := ne_nil h6
          obtain ⟨q1, q2⟩ := ba2 (show (pl e0 && pls es') = true from chkEs_pls h5)
          obtain ⟨a, M, F⟩ := c.F.mkr k x f (eqO_ok h1) ef
          have := je_mk (keep := kp) (p := p2) (pos := p) c.ok M F c.room (c.gl h3) (c.F.cl k x (eqO_ok h1)).1 (okN_ok h4).1 (sndA as c h5) (star_cons q1) (star_any q2)
          intro pins s' σ H m S l K st kk
          refine this pins s' σ H m S l K st ?_
          have kk : ((evA R.G C as l S).bind fun ws S => (match R.G.ini k with
            | some f => mkW C kp k f ws S
            | none => .bad)).el K (J.Xc σ l) := kk
          rw [ef] at kk
          exact kk
        | cons => exact (Bool.false_ne_true h).elim
      | _ => exact (Bool.false_ne_true h).elim
    | _ => exact (Bool.false_ne_true h).elim
  | .mth kp k f o as, J, s, e, c, h => by
    cases e with
    | Call fn es kws p =>
      cases fn with
      | Attribute eo n apos =>
        cases kws with
        | nil =>
          obtain ⟨h, h7⟩ := ba2 (show (eqO (R.mnm k f) n && (R.cnm k).isSome && chkE R s o eo && chkEs R s as es && abOk eo && (apos.endLine == p.line) && decide (es.length < 30)) = true from h)
          obtain ⟨h, h6⟩ := ba2 h
          obtain ⟨h, h5⟩ := ba2 h
          obtain ⟨h, h4⟩ := ba2 h
          obtain ⟨h, h3⟩ := ba2 h
          obtain ⟨h1, h2⟩ := ba2 h
          obtain ⟨x, ex⟩ := Option.isSome_iff_exists.mp h2
          obtain ⟨a, M, F⟩ := c.F.mt k f n (eqO_ok h1)
          have mo : MtOk J k n a := ⟨(c.F.cl k x ex).2, M, by rw [c.F.fsY]; exact c.F.mno k f n (eqO_ok h1)⟩
          obtain ⟨pl0, ht⟩ := call_tree (n := n) (apos := apos) (pos := p) (args := es) (env := J.X.env) h5 (chkEs_pls h4) (of_decide_eq_true h7) h6
          cases es with
          | nil =>
            cases as with
            | nil => exact je_mth0 c.ok mo F (c.room.mono (Nat.le_succ _)) (sndE o c h3) ht
            | cons => exact (Bool.false_ne_true h4).elim
          | cons e0 es' =>
            obtain ⟨p1, p2⟩ := ba2 (show (pl e0 && pls es') = true from chkEs_pls h4)
            exact je_mth c.ok mo F (c.room.mono (Nat.le_succ _)) (sndE o c h3) (sndA as c h4) (star_cons p1) (star_any p2) ht
        | cons => exact (Bool.false_ne_true h).elim
      | _ => exact (Bool.false_ne_true h).elim
    | _ => exact (Bool.false_ne_true h).elim
  | .blt b as, J, s, e, c, h => by
    cases e with
    | Call fn es kws p =>
      cases fn with
      | Name x p2 =>
        cases kws with
        | nil =>
          obtain ⟨h, h4⟩ := ba2 (show (eqO (biN b) x && gl s x && chkEs R s as es && !es.isEmpty) = true from h)
          obtain ⟨h, h3⟩ := ba2 h
          obtain ⟨h1, h2⟩ := ba2 h
          obtain ⟨e0, es', rfl⟩ := ne_nil h4
          obtain ⟨p1, p2⟩ := ba2 (show (pl e0 && pls es') = true from chkEs_pls h3)
          exact je_blt c.ok c.calm (eqO_ok h1) (c.gl h2) (c.blt (biN_free (eqO_ok h1))) (sndA as c h3) (star_cons p1) (star_any p2)
        | cons => exact (Bool.false_ne_true h).elim
      | _ => exact (Bool.false_ne_true h).elim
    | _ => exact (Bool.false_ne_true h).elim
  | .isi a t, J, s, e, c, h => by
    cases e with
    | Call fn es kws p =>
      cases fn with
      | Name x p2 =>
        match es, kws, h with
        | [ea, ey], [], h =>
          cases ey with
          | Name y p3 =>
            obtain ⟨h, h6⟩ := ba2 (show ((x == ("isinstance" : Str)) && gl s x && (y == Str.ofString (tyN t)) && gl s y && chkE R s a ea && pl ea) = true from h)
            obtain ⟨h, h5⟩ := ba2 h
            obtain ⟨h, h4⟩ := ba2 h
            obtain ⟨h, h3⟩ := ba2 h
            obtain ⟨h1, h2⟩ := ba2 h
            cases beq_iff_eq.mp h1
            cases beq_iff_eq.mp h3
            exact je_isi c.ok t (c.gl h2) (c.blt (by decide +kernel)) (c.gl h4) (c.blt (tyN_free t)) (sndE a c h5) (star_cons h6) rfl rfl
          | _ => exact (Bool.false_ne_true h).elim
        | [], _, h => exact (Bool.false_ne_true h).elim
        | [_], _, h => exact (Bool.false_ne_true h).elim
        | _ :: y :: _ :: _, _, h => cases y <;> exact (Bool.false_ne_true h).elim
        | [_, y], _ :: _, h => cases y <;> exact (Bool.false_ne_true h).elim
      | _ => exact (Bool.false_ne_true h).elim
    | _ => exact (Bool.false_ne_true h).elim
  | .ise a k, J, s, e, c, h => by cases e <;> exact (Bool.false_ne_true h).elim
  | .bm m o as, J, s, e, c, h => by
    cases e with
    | Call fn es kws p =>
      cases fn with
      | Attribute eo n apos =>
        cases kws with
        | nil =>
          obtain ⟨h, h5⟩ := ba2 (show ((n == meNm m) && (isS m || decide (m = .append) || decide (m = .count)) && chkE R s o eo && chkEs R s as es && bmShape eo apos p es) = true from h)
          obtain ⟨h, h4⟩ := ba2 h
          obtain ⟨h, h3⟩ := ba2 h
          obtain ⟨h1, h2⟩ := ba2 h
          cases beq_iff_eq.mp h1
          obtain ⟨_, hn⟩ := ba2 h5
          obtain ⟨e0, es', rfl⟩ := ne_nil hn
          have B : BmOk J eo (meNm m) apos p e0 es' := bmOk_of h5 (chkEs_pls h4)
          have ho := sndE o c h3
          have ha := sndA as c h4
          cases m with
          | strip => exact je_bmS (m := .strip) c.ok rfl B ho ha
          | rstrip => exact je_bmS (m := .rstrip) c.ok rfl B ho ha
          | split => exact je_bmS (m := .split) c.ok rfl B ho ha
          | rjust => exact je_bmS (m := .rjust) c.ok rfl B ho ha
          | join => exact je_bmS (m := .join) c.ok rfl B ho ha
          | append => exact je_app B ho ha
          | count => exact je_cnt c.ok B ho ha
          | _ => cases h2
        | cons => exact (Bool.false_ne_true h).elim
      | _ => exact (Bool.false_ne_true h).elim
    | _ => exact (Bool.false_ne_true h).elim
  | .repl o k z, J, s, e, c, h => by
    obtain ⟨eo, n, apos, y, j1, p1, y', j2, p2, p, rfl, h⟩ : ∃ eo n apos y j1 p1 y' j2 p2 p, e = .Call (.Attribute eo n apos) [.Constant (.str y) j1 p1, .Constant (.str y') j2 p2] [] p ∧
        ((n == ("replace" : Str)) && (y.cps.toList == [k]) && decide (k < 128) && (y'.cps.toList == z) && z.all (· < 128) && !(z == [k]) && chkE R s o eo && abOk eo && (apos.endLine == p.line)) = true := by
      unfold chkE at h
      split at h <;> rename_i heq <;> first | (cases heq; done) | skip
      · cases heq
        exact ⟨_, _, _, _, _, _, _, _, _, _, rfl, h⟩
      · cases h
    obtain ⟨h, h9⟩ := ba2 h
    obtain ⟨h, h8⟩ := ba2 h
    obtain ⟨h, h7⟩ := ba2 h
    obtain ⟨h, h6⟩ := ba2 h
    obtain ⟨h, h5⟩ := ba2 h
    obtain ⟨h, h4⟩ := ba2 h
    obtain ⟨h, h3⟩ := ba2 h
    obtain ⟨h1, h2⟩ := ba2 h
    cases beq_iff_eq.mp h1
    rw [str_of h2, str_of h4]
    refine je_repl (of_decide_eq_true h3) (asc_of h5) (sndE o c h7) ?_ rfl (ab_ok h8) h9
    refine beq_eq_false_iff_ne.mpr fun q => ?_
    have q2 : [k] = z := by
      have := congrArg (fun x : Str => x.cps.toList) q
      simpa using this
    rw [← q2] at h6
    simp at h6
  | .fld k n o, J, s, e, c, h => by
    cases e with
    | Attribute eo f p =>
      obtain ⟨h, h4⟩ := ba2 (show (eqO (R.fs k)[n]? f && (R.cnm k).isSome && chkE R s o eo && abOk eo) = true from h)
      obtain ⟨h, h3⟩ := ba2 h
      obtain ⟨h1, h2⟩ := ba2 h
      exact je_fld (Facts.fldOk c h1 h2) (sndE o c h3) (ab_ok h4)
    | _ => exact (Bool.false_ne_true h).elim
  | .ix a b, J, s, e, c, h => by
    cases e with
    | Subscript ea eb p =>
      obtain ⟨h, h3⟩ := ba2 (show (chkE R s a ea && chkE R s b eb && pl eb) = true from h)
      obtain ⟨h1, h2⟩ := ba2 h
      exact je_ix c.ok (sndE a c h1) (sndE b c h2) (subs_ok h3)
    | _ => exact (Bool.false_ne_true h).elim
  | .sl a lo hi, J, s, e, c, h => by
    cases e with
    | Subscript ea eb p =>
      cases eb with
      | Slice el eh stp p2 =>
        cases stp with
        | none =>
          obtain ⟨h, h3⟩ := ba2 (show (chkE R s a ea && chkO R s lo el && chkO R s hi eh) = true from h)
          obtain ⟨h1, h2⟩ := ba2 h
          exact je_sl c.ok (sndE a c h1) (sndO lo c h2) (sndO hi c h3)
        | some => exact (Bool.false_ne_true h).elim
      | _ => exact (Bool.false_ne_true h).elim
    | _ => exact (Bool.false_ne_true h).elim
  | .rev a, J, s, e, c, h => by cases e <;> exact (Bool.false_ne_true h).elim
  | .tup as, J, s, e, c, h => by
    cases e with
    | Tuple es k p => exact je_tup (sndA as c h)
    | _ => exact (Bool.false_ne_true h).elim
  | .lst kp as, J, s, e, c, h => by
    cases e with
    | List es p => exact je_lst (keep := kp) (sndA as c h)
    | _ => exact (Bool.false_ne_true h).elim
  | .dct ks as, J, s, e, c, h => by cases e <;> exact (Bool.false_ne_true h).elim
  | .lc kp own g i t e0, J, s, e, c, h => by
    obtain ⟨elt, tg, iter, ifs, scope, p, rfl, h⟩ := lc_shape h
    obtain ⟨h, h7⟩ := ba2 h
    obtain ⟨h, h6⟩ := ba2 h
    obtain ⟨h, h5⟩ := ba2 h
    obtain ⟨h, h4⟩ := ba2 h
    obtain ⟨h, h3⟩ := ba2 h
    obtain ⟨h1, h2⟩ := ba2 h
    have bo : BlkOk J.X.N J.X.env.scope scope (ownOf s.N own) := by rw [c.N, c.sc]; exact blkOk_by h1
    have := je_lc (keep := kp) (own := ownOf s.N own) (pos := p) (g := evG R.G C g) (ft := evOt R.G C t) (fe := evE R.G C e0) c.calm c.ndx (sndI (tg := tg) i c h2) bo (fun J' b => (sndG g (c.blk b) h4).mono fun j hj => by
      rw [ownOf_ix]
      have := List.all_eq_true.mp h5 j hj
      simpa using this) (evG_nx R.G C g) (fun J' b => sndOt t (c.blk b) h6) (fun J' b => sndE e0 (c.blk b) h7) (set_ok h3)
    rw [ownOf_ix] at this
    exact this
theorem sndAnd : ∀ (es : Es) {J : Jx} {s : Sc} {as : List Expr} {p : Pos}, Cxt R C lv J s → chkEs R s es as = true → (!as.isEmpty) = true → JE J (.BoolOp .And as p) (evAnd R.G C es)
  | .nil, J, s, [], p, c, h, hn => by cases hn
  | .nil, J, s, _ :: _, p, c, h, hn => (Bool.false_ne_true h).elim
  | .cons e es, J, s, [], p, c, h, hn => (Bool.false_ne_true h).elim
  | .cons e .nil, J, s, [a], p, c, h, hn => by
    obtain ⟨h, h3⟩ := ba2 (show (pl a && chkE R s e a && chkEs R s .nil []) = true from h)
    exact je_one (sndE e c (ba2 h).2)
  | .cons e .nil, J, s, a :: _ :: _, p, c, h, hn => by
    obtain ⟨h, h3⟩ := ba2 (show (pl a && chkE R s e a && chkEs R s .nil (_ :: _)) = true from h)
    exact (Bool.false_ne_true h3).elim
  | .cons e (.cons e1 es), J, s, [a], p, c, h, hn => by
    obtain ⟨h, h3⟩ := ba2 (show (pl a && chkE R s e a && chkEs R s (.cons e1 es) []) = true from h)
    exact (Bool.false_ne_true h3).elim
  | .cons e (.cons e1 es), J, s, a :: b :: as, p, c, h, hn => by
    obtain ⟨h, h3⟩ := ba2 (show (pl a && chkE R s e a && chkEs R s (.cons e1 es) (b :: as)) = true from h)
    exact je_and (sndE e c (ba2 h).2) (sndAnd (.cons e1 es) c h3 rfl)
theorem sndOr : ∀ (es : Es) {J : Jx} {s : Sc} {as : List Expr} {p : Pos}, Cxt R C lv J s → chkEs R s es as = true → (!as.isEmpty) = true → JE J (.BoolOp .Or as p) (evOr R.G C es)
  | .nil, J, s, [], p, c, h, hn => by cases hn
  | .nil, J, s, _ :: _, p, c, h, hn => (Bool.false_ne_true h).elim
  | .cons e es, J, s, [], p, c, h, hn => (Bool.false_ne_true h).elim
  | .cons e .nil, J, s, [a], p, c, h, hn => by
    obtain ⟨h, h3⟩ := ba2 (show (pl a && chkE R s e a && chkEs R s .nil []) = true from h)
    exact je_one (sndE e c (ba2 h).2)
  | .cons e .nil, J, s, a :: _ :: _, p, c, h, hn => by
    obtain ⟨h, h3⟩ := ba2 (show (pl a && chkE R s e a && chkEs R s .nil (_ :: _)) = true from h)
    exact (Bool.false_ne_true h3).elim
  | .cons e (.cons e1 es), J, s, [a], p, c, h, hn => by
    obtain ⟨h, h3⟩ := ba2 (show (pl a && chkE R s e a && chkEs R s (.cons e1 es) []) = true from h)
    exact (Bool.false_ne_true h3).elim
  | .cons e (.cons e1 es), J, s, a :: b :: as, p, c, h, hn => by
    obtain ⟨h, h3⟩ := ba2 (show (pl a && chkE R s e a && chkEs R s (.cons e1 es) (b :: as)) = true from h)
    exact je_or (sndE e c (ba2 h).2) (sndOr (.cons e1 es) c h3 rfl)
theorem sndA : ∀ (es : Es) {J : Jx} {s : Sc} {as : List Expr}, Cxt R C lv J s → chkEs R s es as = true → JA J as (evA R.G C es)
  | .nil, J, s, [], c, h => ja_nil
  | .nil, J, s, _ :: _, c, h => (Bool.false_ne_true h).elim
  | .cons e es, J, s, [], c, h => (Bool.false_ne_true h).elim
  | .cons e es, J, s, a :: as, c, h => by
    obtain ⟨h, h3⟩ := ba2 (show (pl a && chkE R s e a && chkEs R s es as) = true from h)
    obtain ⟨h1, h2⟩ := ba2 h
    exact ja_cons (sndE e c h2) (sndA es c h3) (star_cons h1)
theorem sndO : ∀ (o : Oe) {J : Jx} {s : Sc} {a : Option Expr}, Cxt R C lv J s → chkO R s o a = true → JO J a (evO R.G C o)
  | .none, J, s, none, c, h => jo_none
  | .none, J, s, some _, c, h => (Bool.false_ne_true h).elim
  | .some e, J, s, none, c, h => (Bool.false_ne_true h).elim
  | .some e, J, s, some a, c, h => by
    obtain ⟨h1, h2⟩ := ba2 (show (chkE R s e a && pl a) = true from h)
    exact jo_some (sndE e c h1) (part_ok h2)
theorem sndOt : ∀ (o : Ot) {J : Jx} {s : Sc} {a : List Expr}, Cxt R C lv J s → chkOt R s o a = true → JTs J a (evOt R.G C o)
  | .none, J, s, [], c, h => jts_nil
  | .none, J, s, _ :: _, c, h => (Bool.false_ne_true h).elim
  | .some t, J, s, [], c, h => (Bool.false_ne_true h).elim
  | .some t, J, s, [a], c, h => jts_one (sndT t c h)
  | .some t, J, s, _ :: _ :: _, c, h => (Bool.false_ne_true h).elim
theorem sndT : ∀ (t : T) {J : Jx} {s : Sc} {a : Expr}, Cxt R C lv J s → chkT R s t a = true → JT J a (evT R.G C t)
  | .val e, J, s, a, c, h => by
    obtain ⟨h1, h2⟩ := ba2 (show (chkE R s e a && plainT a) = true from h)
    exact jt_val c.ok (sndE e c h1) (plainT_ok h2)
  | .cmp o a b, J, s, e, c, h => by
    cases e with
    | Compare ea ops es p =>
      match ops, es, h with
      | [op], [eb], h =>
        obtain ⟨h, h4⟩ := ba2 (show (decide (op = copOf o) && chkE R s a ea && chkE R s b eb && pl eb) = true from h)
        obtain ⟨h, h3⟩ := ba2 h
        obtain ⟨h1, h2⟩ := ba2 h
        cases of_decide_eq_true h1
        exact jt_cmp c.ok o (sndE a c h2) (sndE b c h3) (marks_ok h4)
      | [], _, h => exact (Bool.false_ne_true h).elim
      | [_], [], h => exact (Bool.false_ne_true h).elim
      | [_], _ :: _ :: _, h => exact (Bool.false_ne_true h).elim
      | _ :: _ :: _, _, h => exact (Bool.false_ne_true h).elim
    | _ => exact (Bool.false_ne_true h).elim
  | .chn o p a b c', J, s, e, c, h => by
    cases e with
    | Compare ea ops es p' =>
      match ops, es, h with
      | [op, op'], [eb, ec], h =>
        obtain ⟨h, h6⟩ := ba2 (show (decide (op = copOf o) && decide (op' = copOf p) && chkE R s a ea && chkE R s b eb && chkE R s c' ec && pl ec) = true from h)
        obtain ⟨h, h5⟩ := ba2 h
        obtain ⟨h, h4⟩ := ba2 h
        obtain ⟨h, h3⟩ := ba2 h
        obtain ⟨h1, h2⟩ := ba2 h
        cases of_decide_eq_true h1
        cases of_decide_eq_true h2
        exact jt_chn c.ok o p (sndE a c h3) (sndE b c h4) (sndE c' c h5) (last_ok h6)
      | [], _, h => exact (Bool.false_ne_true h).elim
      | [_], _, h => exact (Bool.false_ne_true h).elim
      | [_, _], [], h => exact (Bool.false_ne_true h).elim
      | [_, _], [_], h => exact (Bool.false_ne_true h).elim
      | [_, _], _ :: _ :: _ :: _, h => exact (Bool.false_ne_true h).elim
      | _ :: _ :: _ :: _, _, h => exact (Bool.false_ne_true h).elim
    | _ => exact (Bool.false_ne_true h).elim
  | .and ts, J, s, e, c, h => by
    cases e with
    | BoolOp op as p =>
      cases op with
      | And =>
        obtain ⟨h1, h2⟩ := ba2 (show (chkTs R s ts as && !as.isEmpty) = true from h)
        exact (sndTand ts c h1 h2).pt
      | Or => exact (Bool.false_ne_true h).elim
    | _ => exact (Bool.false_ne_true h).elim
  | .or ts, J, s, e, c, h => by
    cases e with
    | BoolOp op as p =>
      cases op with
      | Or =>
        obtain ⟨h1, h2⟩ := ba2 (show (chkTs R s ts as && !as.isEmpty) = true from h)
        exact (sndTor ts c h1 h2).pt
      | And => exact (Bool.false_ne_true h).elim
    | _ => exact (Bool.false_ne_true h).elim
  | .not a, J, s, e, c, h => by
    cases e with
    | UnaryOp op ea p =>
      cases op with
      | Not => exact jt_not (sndT a c h)
      | _ => exact (Bool.false_ne_true h).elim
    | _ => exact (Bool.false_ne_true h).elim
theorem sndTand : ∀ (ts : Ts) {J : Jx} {s : Sc} {as : List Expr} {p : Pos}, Cxt R C lv J s → chkTs R s ts as = true → (!as.isEmpty) = true → JTw J (.BoolOp .And as p) (evTand R.G C ts)
  | .nil, J, s, [], p, c, h, hn => by cases hn
  | .nil, J, s, _ :: _, p, c, h, hn => (Bool.false_ne_true h).elim
  | .cons t ts, J, s, [], p, c, h, hn => (Bool.false_ne_true h).elim
  | .cons t .nil, J, s, [a], p, c, h, hn => jt_and1 (sndT t c (ba2 (show (chkT R s t a && chkTs R s .nil []) = true from h)).1)
  | .cons t .nil, J, s, a :: _ :: _, p, c, h, hn => (Bool.false_ne_true (ba2 (show (chkT R s t a && chkTs R s .nil (_ :: _)) = true from h)).2).elim
  | .cons t (.cons t1 ts), J, s, [a], p, c, h, hn => (Bool.false_ne_true (ba2 (show (chkT R s t a && chkTs R s (.cons t1 ts) []) = true from h)).2).elim
  | .cons t (.cons t1 ts), J, s, a :: b :: as, p, c, h, hn => by
    obtain ⟨h1, h2⟩ := ba2 (show (chkT R s t a && chkTs R s (.cons t1 ts) (b :: as)) = true from h)
    exact jt_and (sndT t c h1) (sndTand (.cons t1 ts) c h2 rfl)
theorem sndTor : ∀ (ts : Ts) {J : Jx} {s : Sc} {as : List Expr} {p : Pos}, Cxt R C lv J s → chkTs R s ts as = true → (!as.isEmpty) = true → JTw J (.BoolOp .Or as p) (evTor R.G C ts)
  | .nil, J, s, [], p, c, h, hn => by cases hn
  | .nil, J, s, _ :: _, p, c, h, hn => (Bool.false_ne_true h).elim
  | .cons t ts, J, s, [], p, c, h, hn => (Bool.false_ne_true h).elim
  | .cons t .nil, J, s, [a], p, c, h, hn => jt_or1 (sndT t c (ba2 (show (chkT R s t a && chkTs R s .nil []) = true from h)).1)
  | .cons t .nil, J, s, a :: _ :: _, p, c, h, hn => (Bool.false_ne_true (ba2 (show (chkT R s t a && chkTs R s .nil (_ :: _)) = true from h)).2).elim
  | .cons t (.cons t1 ts), J, s, [a], p, c, h, hn => (Bool.false_ne_true (ba2 (show (chkT R s t a && chkTs R s (.cons t1 ts) []) = true from h)).2).elim
  | .cons t (.cons t1 ts), J, s, a :: b :: as, p, c, h, hn => by
    obtain ⟨h1, h2⟩ := ba2 (show (chkT R s t a && chkTs R s (.cons t1 ts) (b :: as)) = true from h)
    exact jt_or (sndT t c h1) (sndTor (.cons t1 ts) c h2 rfl)
theorem sndI : ∀ (i : It) {J : Jx} {s : Sc} {tg a : Expr}, Cxt R C lv J s → chkI R s i a = true → JI J tg a (evI R.G C i)
  | .seq e, J, s, tg, a, c, h => ji_seq c.ok (sndE e c h)
  | .rng1 a, J, s, tg, e, c, h => by
    cases e with
    | Call fn es kws p =>
      cases fn with
      | Name x p2 =>
        match es, kws, h with
        | [ea], [], h =>
          obtain ⟨h, h4⟩ := ba2 (show ((x == ("range" : Str)) && gl s x && chkE R s a ea && pl ea) = true from h)
          obtain ⟨h, h3⟩ := ba2 h
          obtain ⟨h1, h2⟩ := ba2 h
          cases beq_iff_eq.mp h1
          exact ji_rng1 (c.gl h2) (c.blt (by decide +kernel)) (sndE a c h3) (star_cons h4)
        | [], _, h => exact (Bool.false_ne_true h).elim
        | _ :: _ :: _, _, h => exact (Bool.false_ne_true h).elim
        | [_], _ :: _, h => exact (Bool.false_ne_true h).elim
      | _ => exact (Bool.false_ne_true h).elim
    | _ => exact (Bool.false_ne_true h).elim
  | .rng2 a b, J, s, tg, e, c, h => by
    cases e with
    | Call fn es kws p =>
      cases fn with
      | Name x p2 =>
        match es, kws, h with
        | [ea, eb], [], h =>
          obtain ⟨h, h6⟩ := ba2 (show ((x == ("range" : Str)) && gl s x && chkE R s a ea && pl ea && chkE R s b eb && pl eb) = true from h)
          obtain ⟨h, h5⟩ := ba2 h
          obtain ⟨h, h4⟩ := ba2 h
          obtain ⟨h, h3⟩ := ba2 h
          obtain ⟨h1, h2⟩ := ba2 h
          cases beq_iff_eq.mp h1
          have e2 : starEach [eb] J.X.env = [(false, eval eb J.X.env)] := star_cons h6
          exact ji_rng2 (c.gl h2) (c.blt (by decide +kernel)) (sndE a c h3) (sndE b c h5) (by rw [star_cons h4, e2]) e2
        | [], _, h => exact (Bool.false_ne_true h).elim
        | [_], _, h => exact (Bool.false_ne_true h).elim
        | _ :: _ :: _ :: _, _, h => exact (Bool.false_ne_true h).elim
        | [_, _], _ :: _, h => exact (Bool.false_ne_true h).elim
      | _ => exact (Bool.false_ne_true h).elim
    | _ => exact (Bool.false_ne_true h).elim
  | .rng3 _ _ _, J, s, tg, e, c, h => by cases e <;> exact (Bool.false_ne_true h).elim
  | .enum _, J, s, tg, e, c, h => by cases e <;> exact (Bool.false_ne_true h).elim
  | .zip _ _, J, s, tg, e, c, h => by cases e <;> exact (Bool.false_ne_true h).elim
  | .enzip _ _, J, s, tg, e, c, h => by cases e <;> exact (Bool.false_ne_true h).elim
end
end
end Kr
/-! KrS3: statements. -/
namespace Kr
open PySem PySem.Spec PyProof.Rows L2
structure CxtS (R : Row) (C : Cl) (lv : Nat) (J : Jx) (s : Sc) : Prop extends Cxt R C lv J s where
  hp : PassesOwn (model J.X.prog J.X.w) J.X.A J.X.env J.X.xe
  kd : s.sc.kind = .function
  hs : J.X.stack = J.X.env :: J.X.outer
  hf : J.X.env.frame = some J.X.env.locals
theorem ss_no {ts : List Expr} {k : Nat} {p : Pos} {a : Expr} {env : Env} (h : notTup a = true) : swappedStores [.Tuple ts k p] a env = pure none := by
  cases a <;> first | rfl | cases h
theorem blockKind_fn {env : Env} (h : env.scope.kind = .function) : env.blockKind = .function := by
  unfold Env.blockKind
  rw [h]
  rfl
theorem ss_ok {sc : Scope} {ts vs : List Expr} {k k2 : Nat} {p p2 : Pos} {env : Env} {r : Option (List Str)} (hsc : env.scope = sc) (hk : sc.kind = .function) (h : ssB sc ts vs = some r) :
    swappedStores [.Tuple ts k p] (.Tuple vs k2 p2) env = pure r := by
  have hb : env.blockKind = .function := blockKind_fn (by rw [hsc]; exact hk)
  unfold ssB at h
  unfold swappedStores Env.kindOf
  rw [hsc, hb]
  dsimp only
  have e0 : (ScopeKind.function != ScopeKind.function) = false := by decide
  rw [e0, Bool.or_false]
  split at h
  · rename_i c
    cases h
    exact (if_pos c).trans rfl
  · rename_i c
    refine (if_neg c).trans ?_
    split at h
    · rename_i c2
      cases h
      exact if_pos c2
    · rename_i c2
      refine (if_neg c2).trans ?_
      dsimp only at h
      split at h
      · rename_i c3
        cases h
        exact if_pos c3
      · rename_i c3
        refine (if_neg c3).trans ?_
        split at h
        · rename_i c4
          cases h
          exact if_pos c4
        · rename_i c4
          refine (if_neg c4).trans ?_
          split at h
          · cases h
          · rename_i c5
            cases h
            exact if_neg c5
section
variable {R : Row} {C : Cl} {lv : Nat} {J : Jx} {s : Sc}
theorem nam_el {i : Nat} {w : W} {l : Sl} {S : Sto} {f : Sl → Sto → RS} {K : Ks} {X : Nat → Sl → Sto → Prop} (h : ((if i < l.length then RS.nx (l.set i (some w)) S else .bad).sq f).el K X) : (f (l.set i (some w)) S).el K X := by
  by_cases c : i < l.length
  · rw [if_pos c] at h
    exact h
  · rw [if_neg c] at h
    exact False.elim h
theorem par2_shape {G : Tab} {C : Cl} {i j : Nat} (w : W) (l : Sl) (S : Sto) (K : Ks) (X : Nat → Sl → Sto → Prop) (h : (evG G C (.tup (.cons (.nam i) (.cons (.nam j) .nil))) w l S).el K X) :
    ∃ a b, w = .d (.tup [a, b]) ∧ K.nx ((l.set i (some (.d a))).set j (some (.d b))) S := by
  cases w with
  | d x =>
    cases x with
    | tup xs =>
      match xs, h with
      | [], h => exact False.elim h
      | [a], h => exact False.elim (nam_el (f := fun _ _ => .bad) h)
      | [a, b], h => exact ⟨a, b, rfl, nam_el (f := fun l S => .nx l S) (nam_el (f := fun l S => (if j < l.length then RS.nx (l.set j (some (.d b))) S else .bad).sq fun l S => .nx l S) h)⟩
      | a :: b :: c :: r, h => exact False.elim (nam_el (f := fun l S => .bad) (nam_el (f := fun l S => (if j < l.length then RS.nx (l.set j (some (.d b))) S else .bad).sq fun l S => .bad) h))
    | _ => exact False.elim h
  | _ => exact False.elim h
theorem par3_shape {G : Tab} {C : Cl} {i j n : Nat} (w : W) (l : Sl) (S : Sto) (K : Ks) (X : Nat → Sl → Sto → Prop) (h : (evG G C (.tup (.cons (.nam i) (.cons (.nam j) (.cons (.nam n) .nil)))) w l S).el K X) :
    ∃ a b c, w = .d (.tup [a, b, c]) ∧ K.nx (((l.set i (some (.d a))).set j (some (.d b))).set n (some (.d c))) S := by
  cases w with
  | d x =>
    cases x with
    | tup xs =>
      match xs, h with
      | [], h => exact False.elim h
      | [a], h => exact False.elim (nam_el (f := fun _ _ => .bad) h)
      | [a, b], h => exact False.elim (nam_el (f := fun l S => .bad) (nam_el (f := fun l S => (if j < l.length then RS.nx (l.set j (some (.d b))) S else .bad).sq fun l S => .bad) h))
      | [a, b, c], h =>
        have h1 := nam_el (f := fun l S => (if j < l.length then RS.nx (l.set j (some (.d b))) S else .bad).sq fun l S => (if n < l.length then RS.nx (l.set n (some (.d c))) S else .bad).sq fun l S => .nx l S) h
        have h2 := nam_el (f := fun l S => (if n < l.length then RS.nx (l.set n (some (.d c))) S else .bad).sq fun l S => .nx l S) h1
        exact ⟨a, b, c, rfl, nam_el (f := fun l S => .nx l S) h2⟩
      | a :: b :: c :: d :: r, h =>
        have h1 := nam_el (f := fun l S => (if j < l.length then RS.nx (l.set j (some (.d b))) S else .bad).sq fun l S => (if n < l.length then RS.nx (l.set n (some (.d c))) S else .bad).sq fun l S => .bad) h
        have h2 := nam_el (f := fun l S => (if n < l.length then RS.nx (l.set n (some (.d c))) S else .bad).sq fun l S => .bad) h1
        exact False.elim (nam_el (f := fun l S => .bad) h2)
    | _ => exact False.elim h
  | _ => exact False.elim h
/-- a, b = .. -/
theorem snd_tup (c : CxtS R C lv J s) {gs : Tgs} {e : E} {ts : List Expr} {k : Nat} {p pos : Pos} {a : Expr} (h1 : chkE R s e a = true) (h2 : notComp a = true)
    (h3 : tupChk s gs ts a = true) : JS J (.Assign [.Tuple ts k p] a pos) (evS R.G C (.asg (.tup gs) e)) := by
  have he := sndE e c.toCxt h1
  have hsw : swapsWithSole [.Tuple ts k p] a pos.line J.X.env = pure false := swaps_no (t := some (.Tuple ts k p)) (n := pos.line) (env := J.X.env) h2
  have gen : chkGs s gs ts = true → swappedStores [.Tuple ts k p] a J.X.env = pure none → JS J (.Assign [.Tuple ts k p] a pos) (evS R.G C (.asg (.tup gs) e)) := fun hg hw =>
    js_asg (g := evG R.G C (.tup gs)) he (sndG (.tup gs) c.toCxt (show chkG s (.tup gs) (.Tuple ts k p) = true from hg)) (evG_nx R.G C (.tup gs)) hsw hw rfl
  unfold tupChk at h3
  by_cases hn : notTup a = true
  · rw [if_pos hn] at h3
    exact gen h3 (ss_no hn)
  · rw [if_neg hn] at h3
    cases a with
    | Tuple vs k2 p2 =>
      dsimp only at h3
      cases es : ssB s.sc ts vs with
      | none => rw [es] at h3; cases h3
      | some r =>
        rw [es] at h3
        have hw := ss_ok (k := k) (p := p) (k2 := k2) (p2 := p2) c.sc c.kd es
        cases r with
        | none => exact gen h3 hw
        | some names =>
          dsimp only at h3
          unfold parOk at h3
          split at h3
          · obtain ⟨h, a7⟩ := ba2 h3
            obtain ⟨h, a6⟩ := ba2 h
            obtain ⟨h, a5⟩ := ba2 h
            obtain ⟨h, a4⟩ := ba2 h
            obtain ⟨h, a3⟩ := ba2 h
            obtain ⟨x1, x2⟩ := ba2 h
            cases beq_iff_eq.mp x1
            cases beq_iff_eq.mp x2
            exact js_par2 (g := evG R.G C (.tup _)) c.ok c.calm c.ndx (c.nm a3) (c.nm a4) (by simpa using a5) (c.isLoc a6) (c.isLoc a7) he hw hsw par2_shape
          · obtain ⟨h, hc⟩ := ba2 h3
            obtain ⟨h, hb⟩ := ba2 h
            obtain ⟨h, ha⟩ := ba2 h
            obtain ⟨h, a9⟩ := ba2 h
            obtain ⟨h, a8⟩ := ba2 h
            obtain ⟨h, a7⟩ := ba2 h
            obtain ⟨h, a6⟩ := ba2 h
            obtain ⟨h, a5⟩ := ba2 h
            obtain ⟨h, a4⟩ := ba2 h
            obtain ⟨h, x3⟩ := ba2 h
            obtain ⟨x1, x2⟩ := ba2 h
            cases beq_iff_eq.mp x1
            cases beq_iff_eq.mp x2
            cases beq_iff_eq.mp x3
            exact js_par3 (g := evG R.G C (.tup _)) c.ok c.calm c.ndx (c.nm a4) (c.nm a5) (c.nm a6) (by simpa using a7) (by simpa using a8) (by simpa using a9) (c.isLoc ha) (c.isLoc hb) (c.isLoc hc) he hw hsw par3_shape
          · cases h3
    | _ => cases h3
/-- name = .. -/
theorem snd_nam (c : CxtS R C lv J s) {i : Nat} {e : E} {x : Str} {px pos : Pos} {a : Expr} (h1 : eqO s.N[i]? x = true) (h2 : loc s x = true) (h3 : chkE R s e a = true) (h4 : (notComp a || isLC a) = true) : JS J (.Assign [.Name x px] a pos) (evS R.G C (.asg (.nam i) e)) := by
  have he := sndE e c.toCxt h3
  obtain ⟨l1, l2⟩ := c.loc h2
  by_cases hn : notComp a = true
  · exact js_set c.ndx (c.nm h1) l1 l2 he (swaps_no hn)
  · cases a with
    | ListComp elt gs scope p =>
      cases hb : (J.X.env.blockKind == .function && J.X.env.kindOf x == some .local && px.line == p.line && !(scope.names.any fun (n, k) => n == x && (k == .local || k == .cell))) with
      | false =>
        exact js_set c.ndx (c.nm h1) l1 l2 he (by
          show pure (J.X.env.blockKind == .function && J.X.env.kindOf x == some .local && px.line == p.line && !(scope.names.any fun (n, k) => n == x && (k == .local || k == .cell))) = _
          rw [hb])
      | true =>
        have hsw : swapsWith (.ListComp elt gs scope p) (some (.Name x px)) pos.line J.X.env = pure true := by
          show pure (J.X.env.blockKind == .function && J.X.env.kindOf x == some .local && px.line == p.line && !(scope.names.any fun (n, k) => n == x && (k == .local || k == .cell))) = _
          rw [hb]
        have hy : J.X.env.scope.names.lookup x = some .local := by
          obtain ⟨hb, _⟩ := ba2 hb
          obtain ⟨hb, _⟩ := ba2 hb
          obtain ⟨_, hb⟩ := ba2 hb
          exact beq_iff_eq.mp hb
        cases e with
        | lc kp own g i0 t e0 =>
          obtain ⟨elt', tg, iter, ifs, scope', p', e1, h⟩ := lc_shape h3
          cases e1
          obtain ⟨h, h7⟩ := ba2 h
          obtain ⟨h, h6⟩ := ba2 h
          obtain ⟨h, h5⟩ := ba2 h
          obtain ⟨h, h4⟩ := ba2 h
          obtain ⟨h, h3⟩ := ba2 h
          obtain ⟨h1', h2⟩ := ba2 h
          have bo : BlkOk J.X.N J.X.env.scope scope (ownOf s.N own) := by rw [c.N, c.sc]; exact blkOk_by h1'
          have := js_setlc (keep := kp) (own := ownOf s.N own) (pos := p) (spos := pos) (py := px) (g := evG R.G C g) (ft := evOt R.G C t) (fe := evE R.G C e0) c.calm c.ndx (c.nm h1) hy hsw (sndI (tg := tg) i0 c.toCxt h2) bo (fun J' b => (sndG g (c.toCxt.blk b) h4).mono fun j hj => by
            rw [ownOf_ix]
            have := List.all_eq_true.mp h5 j hj
            simpa using this) (evG_nx R.G C g) (fun J' b => sndOt t (c.toCxt.blk b) h6) (fun J' b => sndE e0 (c.toCxt.blk b) h7) (set_ok h3)
          rw [ownOf_ix] at this
          exact this
        | cst d => cases d <;> exact (Bool.false_ne_true h3).elim
        | _ => exact (Bool.false_ne_true h3).elim
    | _ => first | exact absurd rfl hn | exact (Bool.false_ne_true h4).elim
theorem exOk_of (c : Cxt R C lv J s) {k : Nat} {x : Str} (h : R.xnm k = some x) : ExOk J k x := by
  obtain ⟨_, h2, h3, h4, h5⟩ := c.F.exc k x h
  exact ⟨h2, h3, raises_own h4 h5⟩
end
end Kr
/-! KrS4: try. -/
namespace Kr
open PySem PySem.Spec PyProof.Rows L2
/-- a statement's end, but for the token -/
def Sta0 (J : Jx) (pins : List (Addr × Obj)) (σ : L2.St) (m : List Addr) (S : Sto) (l : Sl) (H : Hp) (s : Shared) : Prop := L2.Inv J.X pins σ H s ∧ Fra J.m0 J.H0 m H ∧ Rel J.Y J.av m S l σ H
def PostS0 (J : Jx) (pins : List (Addr × Obj)) (m : List Addr) (H : Hp) (K : Ks) (f : Flow) (s' : Shared) : Prop := match f with
  | .next => ∃ l' S' m' H' σ', K.nx l' S' ∧ Sta0 J pins σ' m' S' l' H' s' ∧ Fra m H m' H'
  | .brk => ∃ l' S' m' H' σ', K.bk l' S' ∧ Sta0 J pins σ' m' S' l' H' s' ∧ Fra m H m' H'
  | .cont => ∃ l' S' m' H' σ', K.ct l' S' ∧ Sta0 J pins σ' m' S' l' H' s' ∧ Fra m H m' H'
  | .ret u => ∃ w S' m' H' l' σ' v, K.rt w S' ∧ Sta0 J pins σ' m' S' l' H' s' ∧ Fra m H m' H' ∧ RW J.Y J.av m' H' w v ∧ RelV v u
theorem PostS0.tok {J : Jx} {pins : List (Addr × Obj)} {m : List Addr} {H : Hp} {K : Ks} {f : Flow} {s' : Shared} (t : 1 ≤ s'.toks) (h : PostS0 J pins m H K f s') : PostS J pins m H K f s' := by
  cases f with
  | next => obtain ⟨l', S', m', H', σ', k, ⟨a, b, c⟩, fr⟩ := h; exact ⟨l', S', m', H', σ', k, ⟨t, a, b, c⟩, fr⟩
  | brk => obtain ⟨l', S', m', H', σ', k, ⟨a, b, c⟩, fr⟩ := h; exact ⟨l', S', m', H', σ', k, ⟨t, a, b, c⟩, fr⟩
  | cont => obtain ⟨l', S', m', H', σ', k, ⟨a, b, c⟩, fr⟩ := h; exact ⟨l', S', m', H', σ', k, ⟨t, a, b, c⟩, fr⟩
  | ret u => obtain ⟨w, S', m', H', l', σ', v, k, ⟨a, b, c⟩, fr, r⟩ := h; exact ⟨w, S', m', H', l', σ', v, k, ⟨t, a, b, c⟩, fr, r⟩
/-- what the clauses wish of an exception of the body -/
def Wc (R : Row) (J : Jx) (m : List Addr) (H : Hp) (K : Ks) (hs : List (Nat × Nat × D)) : WX := fun cls d σ' H' =>
  ∃ c l' S' m', cls = .ref (J.Y.xA c) ∧ d = none ∧ Fra m H m' H' ∧ Rel J.Y J.av m' S' l' σ' H' ∧ (handle R.G hs c l' S').el K J.Xs
theorem pe_cst {Y : Cfg} {d : D} {e : Expr} (h : constIs d e = true) : ∃ v, (∀ X : Cx, PE X e (tC v)) ∧ ∀ z H, RD Y z H d v := by
  unfold constIs at h
  split at h
  · exact ⟨.non, fun X => pe_non, fun _ _ => .non⟩
  · rename_i b c _ _
    have : b = c := by simpa using h
    subst this
    exact ⟨.bl b, fun X => pe_bl, fun _ _ => .bl b⟩
  · rename_i b c _ _
    have : b = c := by simpa using h
    subst this
    exact ⟨.int b, fun X => pe_int, fun _ _ => .int b⟩
  · obtain ⟨h1, h2⟩ := ba2 h
    rw [str_of h1]
    exact ⟨.str _, fun X => pe_str, fun _ _ => .str _ (asc_of h2)⟩
  · cases h
theorem cst_notComp {d : D} {e : Expr} (h : constIs d e = true) : notComp e = true := by
  cases e with
  | Constant v j p => rfl
  | _ => cases d <;> exact (Bool.false_ne_true h).elim
section
variable {R : Row} {C : Cl} {lv : Nat} {J : Jx} {s : Sc}
/-- the context of a try's body -/
structure TryOf (J J' : Jx) : Prop where
  x : ∃ pn xe, J'.X = J.X.tr pn xe
  y : J'.Y = J.Y
  tk : Takes J'.X J'.Wx
  hp : PassesOwn (model J'.X.prog J'.X.w) J'.X.A J'.X.env J'.X.xe
theorem CxtS.try_ (c : CxtS R C lv J s) {J' : Jx} (t : TryOf J J') : CxtS R C lv J' s := by
  obtain ⟨pn, xe, e⟩ := t.x
  have ey := t.y
  have tk := t.tk
  have hp := t.hp
  obtain ⟨X', Y', av, m0, H0, Wx⟩ := J'
  simp only at e ey
  subst e ey
  exact { ok := ⟨c.ok.hK, tk, c.ok.un⟩, calm := c.calm, room := c.room, N := c.N, nd := c.nd, sc := c.sc, fn := c.fn, F := c.F, hp := hp, kd := c.kd, hs := c.hs, hf := c.hf }
theorem js_try {body : List Stmt} {hds : List ExceptHandler} {hs : List (Nat × Nat × D)} {fb : Sl → Sto → RS} {pos : Pos} (c : CxtS R C lv J s) (hb : ∀ J', TryOf J J' → JSs J' body fb) (hh : chkH R s hs hds = true) (hne : (!hds.isEmpty) = true) :
    JS J (.Try body hds [] [] pos) (fun l S => match fb l S with
    | .ex c l S => handle R.G hs c l S
    | r => r) := by
  intro pins s0 σ H m S l K st k
  have iok := st.inv.ok
  have hfr : J.X.A.frames = some (J.X.env :: J.X.outer) := by rw [iok.frames, c.hs]
  refine wpAny_mono (PySem.wpAny_toks_of st.tok ?_) (fun f s1 z => PostS0.tok z.1 z.2) fun _ _ z => z.2
  obtain ⟨h0, hds', rfl⟩ : ∃ h0 hds', hds = h0 :: hds' := by
    cases hds with
    | nil => cases hne
    | cons a b => exact ⟨a, b, rfl⟩
  refine wpAny_Try_except ?_
  let xe' : Value → Shared → Prop := fun e s₁ => wpAny (model J.X.prog J.X.w) J.X.A (noteFrame e J.X.env) (fun _ s₂ => wpAny (model J.X.prog J.X.w) J.X.A (setFlight e none) (fun _ s₃ =>
    wpAny (model J.X.prog J.X.w) J.X.A (handleBy e J.X.env (h0 :: hds')) (PostS0 J pins m H K) J.X.xe s₃) J.X.xe s₂) J.X.xe s₁
  let B : Jx := { X := J.X.tr (J.X.pn ++ pins) xe', Y := J.Y, av := J.av, m0 := m, H0 := H, Wx := Wc R J m H K hs }
  have takes : Takes B.X B.Wx := by
    intro u s' xx
    obtain ⟨a, Bh, sI, pins', σ', H', cls, d, rfl, J', nb, up, sky, na, os, ag, k0, l', S', m', rfl, rfl, fr', rel', kh⟩ := xx
    have I0 : L2.Inv J.X pins σ' H' sI := J'.ofTry iok
    have sky' : Sky Bh (J.X.env :: J.X.outer) a (Zc (.ref (J.Y.xA k0)) none) J.X.env.locals s'.heap := by rw [← c.hs]; exact sky
    show wpAny (model J.X.prog J.X.w) J.X.A (noteFrame (.ref a) J.X.env) _ _ _
    refine Sky.land Zc.steady hfr c.hf sky' fun h3 fl3 up3 => ?_
    have I3 : L2.Inv J.X pins σ' H' { s' with heap := h3 } := I0.landed nb fl3.1 (up.trans up3) os ag
    obtain ⟨oe3, vs3, he3, hz3, hd3⟩ := fl3.there
    have nfr : a ∉ frs (J.X.env :: J.X.outer) := fun hm => by
      obtain ⟨_, o', e', hnf⟩ := fl3.2.2.1.mem hm
      rw [he3] at e'
      cases e'
      exact hnf _ hd3
    have nL : a ≠ J.X.env.locals := fun z => nfr (List.mem_filterMap.mpr ⟨J.X.env, List.mem_cons_self, by rw [c.hf, z]⟩)
    have nF : a ∉ J.X.fs := fun hm => by
      obtain ⟨e, he, q⟩ := List.mem_filterMap.mp hm
      exact nfr (List.mem_filterMap.mpr ⟨e, List.mem_cons_of_mem _ he, q⟩)
    have S3 := I3.suite he3 hd3 na nL nF
    have LT : PySem.W.Looks (model J.X.prog J.X.w) h3 (typeOf (.ref a)) (.ref (J.Y.xA k0)) := fun A Q E s k q => wpAny_typeOf_ref (k _ _ he3) (by rw [hz3.1]; exact q)
    -- the clauses, one after the other
    have go : ∀ (hs' : List (Nat × Nat × D)) (hds2 : List ExceptHandler), chkH R s hs' hds2 = true → (handle R.G hs' k0 l' S').el K J.Xs → wpAny (model J.X.prog J.X.w) J.X.A (handleBy (.ref a) J.X.env hds2) (PostS0 J pins m H K) J.X.xe { s' with heap := h3 } := by
      intro hs'
      induction hs' with
      | nil =>
        intro hds2 hc hk
        cases hds2 with
        | cons => exact (Bool.false_ne_true hc).elim
        | nil =>
          have hk : J.Xs k0 l' S' := hk
          refine wpAny_handleBy_nil ?_
          obtain ⟨k1, k2, k3, oe, vs, T, oT, ts', he, hz, hd, h1, hr⟩ := id fl3
          unfold PySem.passOn
          refine wpAny_bind (wpAny_field he hd h1 ?_)
          rw [if_neg (show ¬ ((Value.ref T == Value.none) = true) from by simp)]
          have fin0 : wpAny (model J.X.prog J.X.w) J.X.A (setFlight (.ref a) J.X.env.frame) (fun _ s4 => wpAny (model J.X.prog J.X.w) J.X.A (throw (.ref a) : Sem Flow) (PostS0 J pins m H K) J.X.xe s4) J.X.xe { s' with heap := h3 } := by
            rw [c.hf]
            refine HandSPX.setFlight_upZ fl3 fun h4 hh4 up4 => wpAny_throw (c.ok.tk _ _ ?_)
            exact ⟨a, Bh, sI, pins, σ', H', _, _, rfl, I0, nb, (up.trans up3).trans up4, .inr (.inr (by rw [c.hs]; exact hh4)), na, os, ag, hk m' H' σ' (st.fra.trans fr') rel'⟩
          first
            | exact wpAny_bind (wpAny_pure (wpAny_bind fin0))
            | exact wpAny_bind fin0
      | cons hd0 hs2 ih =>
        intro hds2 hc hk
        obtain ⟨kk, i, d⟩ := hd0
        obtain ⟨x, np, y, py, ce, p3, p4, hds3, rfl, hc⟩ : ∃ x np y py ce p3 p4 hds3, hds2 = .ExceptHandler (some (.Name x np)) none [.Assign [.Name y py] ce p3] p4 :: hds3 ∧
            (eqO (R.xnm kk) x && gl s x && okN x && eqO s.N[i]? y && isLoc s y && constIs d ce && chkH R s hs2 hds3) = true := by
          unfold chkH at hc
          split at hc <;> first | (rename_i heq; cases heq; done) | skip
          · rename_i heq
            cases heq
            exact ⟨_, _, _, _, _, _, _, _, rfl, hc⟩
          · cases hc
        obtain ⟨hc, c7⟩ := ba2 hc
        obtain ⟨hc, c6⟩ := ba2 hc
        obtain ⟨hc, c5⟩ := ba2 hc
        obtain ⟨hc, c4⟩ := ba2 hc
        obtain ⟨hc, c3⟩ := ba2 hc
        obtain ⟨c1, c2⟩ := ba2 hc
        obtain ⟨xm, _⟩ := c.F.exc kk x (eqO_ok c1)
        have hk : (match R.G.sub k0 kk with
          | some true => if i < l'.length then RS.nx (l'.set i (some (.d d))) S' else .bad
          | some false => handle R.G hs2 k0 l' S'
          | none => .bad).el K J.Xs := hk
        cases es : R.G.sub k0 kk with
        | none => rw [es] at hk; exact False.elim hk
        | some b =>
          rw [es] at hk
          refine wpAny_handleBy_cons (codeAny_handlers_test ?_) (by intro q; cases q)
          have LM := PySem.W.exm_one (M := model J.X.prog J.X.w) I3.kIn LT (c.F.sub k0 kk b es)
          refine ld_glob (X := J.X.suite a ((a, oe3) :: (J.X.pn ++ pins))) S3 (c.toCxt.gl c2) xm (LM.here ?_) (okN_ok c3).1
          cases b with
          | true =>
            refine codeAny_handlers_suite ?_
            refine HandSPX.lands_againZ fl3 fun h4 fl4 up4 => ?_
            have I4 : L2.Inv J.X pins σ' H' { s' with heap := h4 } := I0.landed nb fl4.1 ((up.trans up3).trans up4) os ag
            obtain ⟨oe4, vs4, he4, hz4, hd4⟩ := fl4.there
            have S4 := I4.suite he4 hd4 na nL nF
            obtain ⟨v, pev, rdv⟩ := pe_cst (Y := J.Y) c6
            have ly : J.X.env.scope.names.lookup y = some .local := c.toCxt.isLoc c5
            have ps := pss_one (ps_set (X := J.X.suite a ((a, oe4) :: (J.X.pn ++ pins))) (pos := p3) (pos' := py) c.toCxt.ndx (c.toCxt.nm c4) (.inl ly) (pev _) (swaps_no (cst_notComp c6)) (.inr ly))
            refine wpAny_mono (ps.run [] _ _ H' { nx := fun σ6 H6 => σ6 = σ'.set i (some v) ∧ H6 = H', rt := fun _ _ => False } S4 ⟨rfl, rfl⟩) (fun f s6 hsp => ?_) (fun _ _ z => False.elim z)
            cases f with
            | next =>
              obtain ⟨σ6, H6, S6, e6, e7⟩ := hsp
              subst e6 e7
              have hk : (if i < l'.length then RS.nx (l'.set i (some (.d d))) S' else .bad).el K J.Xs := hk
              by_cases hil : i < l'.length
              · rw [if_pos hil] at hk
                exact ⟨_, S', m', H6, _, hk, ⟨S6.unsuite iok, st.fra.trans fr', rel'.set (show RW J.Y J.av m' H6 (.d d) v from rdv _ _)⟩, fr'⟩
              · rw [if_neg hil] at hk
                exact False.elim hk
            | brk => obtain ⟨_, _, _, z⟩ := hsp; exact z.elim
            | cont => obtain ⟨_, _, _, z⟩ := hsp; exact z.elim
            | ret u => obtain ⟨_, _, _, _, _, z⟩ := hsp; exact z.elim
          | false =>
            show wpAny _ J.X.A (handleBy (.ref a) J.X.env hds3) _ _ _
            exact ih hds3 c7 hk
    exact go hs (h0 :: hds') hh kh
  have tb : TryOf J B := ⟨⟨_, _, rfl⟩, rfl, takes, PassesOwn.looking⟩
  have stB : Sta B [] σ m S l H s0 := ⟨st.tok, st.inv.toTry _, .refl, st.rel⟩
  have kb : (fb l S).el K B.Xs := by
    dsimp only at k
    generalize fb l S = r at k
    cases r with
    | ex k0 l' S' => exact fun m' H' σ' fr rel => ⟨k0, l', S', m', rfl, rfl, fr, rel, k⟩
    | _ => exact k
  refine wpAny_mono (hb B tb [] s0 σ H m S l K stB kb) (fun f s1 hsp => ?_) (fun e s1 he => he)
  cases f with
  | next =>
    obtain ⟨l', S', m', H', σ', k', st', fr⟩ := hsp
    exact wpAny_execs_nil ⟨l', S', m', H', σ', k', ⟨st'.inv.ofTry iok, st.fra.trans fr, st'.rel⟩, fr⟩
  | brk =>
    obtain ⟨l', S', m', H', σ', k', st', fr⟩ := hsp
    exact ⟨l', S', m', H', σ', k', ⟨st'.inv.ofTry iok, st.fra.trans fr, st'.rel⟩, fr⟩
  | cont =>
    obtain ⟨l', S', m', H', σ', k', st', fr⟩ := hsp
    exact ⟨l', S', m', H', σ', k', ⟨st'.inv.ofTry iok, st.fra.trans fr, st'.rel⟩, fr⟩
  | ret u =>
    obtain ⟨w, S', m', H', l', σ', v, k', st', fr, r⟩ := hsp
    exact ⟨w, S', m', H', l', σ', v, k', ⟨st'.inv.ofTry iok, st.fra.trans fr, st'.rel⟩, fr, r⟩
end
end Kr
/-! KrS5: statements; a def keeps its promise. -/
namespace Kr
open PySem PySem.Spec PyProof.Rows L2
section
variable {R : Row} {C : Cl} {lv : Nat}
mutual
theorem sndS : ∀ (t : St) {J : Jx} {s : Sc} {a : Stmt}, CxtS R C lv J s → chkS R s t a = true → JS J a (evS R.G C t)
  | .doc, J, s, a, c, h => by
    cases a with
    | Expr e p =>
      cases e with
      | Constant v j p2 =>
        cases v with
        | str x => exact js_doc
        | _ => exact (Bool.false_ne_true h).elim
      | _ => exact (Bool.false_ne_true h).elim
    | _ => exact (Bool.false_ne_true h).elim
  | .pass, J, s, a, c, h => by
    cases a with
    | Pass p => exact js_pass
    | _ => exact (Bool.false_ne_true h).elim
  | .brk, J, s, a, c, h => by
    cases a with
    | Break p => exact js_brk
    | _ => exact (Bool.false_ne_true h).elim
  | .cnt, J, s, a, c, h => by
    cases a with
    | Continue p => exact js_cnt
    | _ => exact (Bool.false_ne_true h).elim
  | .expr e, J, s, a, c, h => by
    cases a with
    | Expr x p =>
      obtain ⟨h1, h2⟩ := ba2 (show (chkE R s e x && notComp x) = true from h)
      exact js_expr (sndE e c.toCxt h1) (swaps_no h2)
    | _ => exact (Bool.false_ne_true h).elim
  | .asg g e, J, s, a, c, h => by
    cases a with
    | Assign ts x p =>
      match ts, h with
      | [], h => cases g <;> exact (Bool.false_ne_true h).elim
      | t :: _ :: _, h => cases g <;> cases t <;> exact (Bool.false_ne_true h).elim
      | [t], h =>
        cases g with
        | nam i =>
          cases t with
          | Name y py =>
            obtain ⟨h, h4⟩ := ba2 (show (eqO s.N[i]? y && loc s y && chkE R s e x && (notComp x || isLC x)) = true from h)
            obtain ⟨h, h3⟩ := ba2 h
            obtain ⟨h1, h2⟩ := ba2 h
            exact snd_nam c h1 h2 h3 h4
          | _ => exact (Bool.false_ne_true h).elim
        | tup gs =>
          cases t with
          | Tuple es k p2 =>
            obtain ⟨h, h3⟩ := ba2 (show (chkE R s e x && notComp x && tupChk s gs es x) = true from h)
            obtain ⟨h1, h2⟩ := ba2 h
            exact snd_tup c h1 h2 h3
          | _ => exact (Bool.false_ne_true h).elim
        | sub o i => cases t <;> exact (Bool.false_ne_true h).elim
    | _ => cases g <;> exact (Bool.false_ne_true h).elim
  | .setf k n o e, J, s, a, c, h => by
    cases a with
    | Assign ts x p =>
      match ts, h with
      | [], h => exact (Bool.false_ne_true h).elim
      | t :: _ :: _, h => cases t <;> exact (Bool.false_ne_true h).elim
      | [t], h =>
        cases t with
        | Attribute eo f p2 =>
          obtain ⟨h, h5⟩ := ba2 (show (eqO (R.fs k)[n]? f && (R.cnm k).isSome && chkE R s o eo && chkE R s e x && notComp x) = true from h)
          obtain ⟨h, h4⟩ := ba2 h
          obtain ⟨h, h3⟩ := ba2 h
          obtain ⟨h1, h2⟩ := ba2 h
          exact js_setf (Facts.fldOk c.toCxt h1 h2) (by rw [c.F.fsY]; exact (c.F.nd k).2) (sndE e c.toCxt h4) (sndE o c.toCxt h3) (swaps_no h5)
        | _ => exact (Bool.false_ne_true h).elim
    | _ => exact (Bool.false_ne_true h).elim
  | .aug i o e, J, s, a, c, h => by
    cases a with
    | AugAssign t op x p =>
      cases t with
      | Name y py =>
        obtain ⟨h, h4⟩ := ba2 (show (eqO s.N[i]? y && loc s y && decide (op = bopOf o) && chkE R s e x) = true from h)
        obtain ⟨h, h3⟩ := ba2 h
        obtain ⟨h1, h2⟩ := ba2 h
        cases of_decide_eq_true h3
        exact js_aug o c.ndx (c.nm h1) (c.toCxt.loc h2).1 (c.toCxt.loc h2).2 (sndE e c.toCxt h4)
      | _ => exact (Bool.false_ne_true h).elim
    | _ => exact (Bool.false_ne_true h).elim
  | .augf k n o b e, J, s, a, c, h => by
    cases a with
    | AugAssign t op x p =>
      cases t with
      | Attribute eo f py =>
        obtain ⟨h, h5⟩ := ba2 (show (eqO (R.fs k)[n]? f && (R.cnm k).isSome && decide (op = bopOf b) && chkE R s o eo && chkE R s e x) = true from h)
        obtain ⟨h, h4⟩ := ba2 h
        obtain ⟨h, h3⟩ := ba2 h
        obtain ⟨h1, h2⟩ := ba2 h
        cases of_decide_eq_true h3
        exact js_augf b (Facts.fldOk c.toCxt h1 h2) (by rw [c.F.fsY]; exact (c.F.nd k).2) (sndE o c.toCxt h4) (sndE e c.toCxt h5)
      | _ => exact (Bool.false_ne_true h).elim
    | _ => exact (Bool.false_ne_true h).elim
  | .ret e, J, s, a, c, h => by
    cases a with
    | Return v p =>
      cases v with
      | some x => exact js_ret (sndE e c.toCxt h)
      | none => exact (Bool.false_ne_true h).elim
    | _ => exact (Bool.false_ne_true h).elim
  | .retN, J, s, a, c, h => by
    cases a with
    | Return v p =>
      cases v with
      | some x => exact (Bool.false_ne_true h).elim
      | none => exact js_retN
    | _ => exact (Bool.false_ne_true h).elim
  | .ite t x y, J, s, a, c, h => by
    cases a with
    | If e sa sb p =>
      obtain ⟨h, h3⟩ := ba2 (show (chkT R s t e && chkB R s x sa && chkB R s y sb) = true from h)
      obtain ⟨h1, h2⟩ := ba2 h
      exact js_ite (sndT t c.toCxt h1) (sndB x c h2) (sndB y c h3)
    | _ => exact (Bool.false_ne_true h).elim
  | .whl t x, J, s, a, c, h => by
    cases a with
    | While e sa oe p =>
      cases oe with
      | nil =>
        obtain ⟨h1, h2⟩ := ba2 (show (chkT R s t e && chkB R s x sa) = true from h)
        exact js_whl c.hp (sndT t c.toCxt h1) (sndB x c h2) 100000
      | cons => exact (Bool.false_ne_true h).elim
    | _ => exact (Bool.false_ne_true h).elim
  | .loop g i x, J, s, a, c, h => by
    cases a with
    | For tg iter sa oe p =>
      cases oe with
      | nil =>
        obtain ⟨h, h4⟩ := ba2 (show (chkG s g tg && chkI R s i iter && pl iter && chkB R s x sa) = true from h)
        obtain ⟨h, h3⟩ := ba2 h
        obtain ⟨h1, h2⟩ := ba2 h
        exact js_for c.hp c.calm (sndI i c.toCxt h2) (sndG g c.toCxt h1) (evG_nx R.G C g) (sndB x c h4) (set_ok h3)
      | cons => exact (Bool.false_ne_true h).elim
    | _ => exact (Bool.false_ne_true h).elim
  | .raise k, J, s, a, c, h => by
    obtain ⟨x, p1, m, j, p2, p3, p4, rfl, h⟩ : ∃ x p1 m j p2 p3 p4, a = .Raise (some (.Call (.Name x p1) [.Constant (.str m) j p2] [] p3)) none p4 ∧ (eqO (R.xnm k) x && gl s x && okN x) = true := by
      unfold chkS at h
      split at h <;> rename_i heq <;> first | (cases heq; done) | skip
      · cases heq
        exact ⟨_, _, _, _, _, _, _, rfl, h⟩
      · cases h
    obtain ⟨h, h3⟩ := ba2 h
    obtain ⟨h1, h2⟩ := ba2 h
    exact js_raise c.ok c.calm (exOk_of c.toCxt (eqO_ok h1)) (c.toCxt.gl h2) (c.F.exc k x (eqO_ok h1)).1 (okN_ok h3).1
  | .tri b hs, J, s, a, c, h => by
    cases a with
    | Try sb hds oe fe p =>
      cases oe with
      | nil =>
        cases fe with
        | nil =>
          obtain ⟨h, h3⟩ := ba2 (show (chkB R s b sb && chkH R s hs hds && !hds.isEmpty) = true from h)
          obtain ⟨h1, h2⟩ := ba2 h
          exact js_try c (fun J' t => sndB b (c.try_ t) h1) h2 h3
        | cons => exact (Bool.false_ne_true h).elim
      | cons => exact (Bool.false_ne_true h).elim
    | _ => exact (Bool.false_ne_true h).elim
  | .triAs _ _ _ _, J, s, a, c, h => by cases a <;> exact (Bool.false_ne_true h).elim
  | .ndef _ _ _, J, s, a, c, h => by cases a <;> exact (Bool.false_ne_true h).elim
theorem sndB : ∀ (t : Ss) {J : Jx} {s : Sc} {a : List Stmt}, CxtS R C lv J s → chkB R s t a = true → JSs J a (evB R.G C t)
  | .nil, J, s, [], c, h => jss_nil
  | .nil, J, s, _ :: _, c, h => (Bool.false_ne_true h).elim
  | .cons _ _, J, s, [], c, h => (Bool.false_ne_true h).elim
  | .cons t ts, J, s, a :: as, c, h => by
    obtain ⟨h1, h2⟩ := ba2 (show (chkS R s t a && chkB R s ts as) = true from h)
    exact jss_cons (sndS t c h1) (sndB ts c h2)
end
end
end Kr
/-! KrF: a def keeps its promise; a row's table. -/
namespace Kr
open PySem PySem.Spec PyProof.Rows L2
/-- a def's scope -/
def scB (N ps : List Str) (sc : Scope) : Bool :=
  (match sc.kind with | .function => true | _ => false) && !sc.isCoroutine && !sc.isGenerator && decide N.Nodup && decide (N.take ps.length = ps) &&
    (ps.all fun x => match sc.names.lookup x with | some .local => true | some .cell => true | _ => false) && (sc.names.all fun y => match y.2 with | .free => false | _ => true)
theorem scB_ok {N ps : List Str} {sc : Scope} (h : scB N ps sc = true) : FnScope N ps sc := by
  obtain ⟨h, h7⟩ := ba2 h
  obtain ⟨h, h6⟩ := ba2 h
  obtain ⟨h, h5⟩ := ba2 h
  obtain ⟨h, h4⟩ := ba2 h
  obtain ⟨h, h3⟩ := ba2 h
  obtain ⟨h1, h2⟩ := ba2 h
  refine ⟨?_, by simpa using h2, by simpa using h3, of_decide_eq_true h4, of_decide_eq_true h5, fun x hx => ?_, fun y hy e => ?_⟩
  · split at h1
    · assumption
    · cases h1
  · have := List.all_eq_true.mp h6 x hx
    split at this
    · exact .inl (by assumption)
    · exact .inr (by assumption)
    · cases this
  · have := List.all_eq_true.mp h7 y hy
    rw [e] at this
    cases this
/-- a def of a row: its number, where it stands, its names, its IR -/
structure Ent where
  id : Nat
  d : He.DefD
  N : List Str
  F : Fn
def Ent.ps (e : Ent) : List Str := e.N.take e.F.np
def chkFn (R : Row) (e : Ent) : Bool := decide (e.F.ns = e.N.length) && decide (e.F.np ≤ e.N.length) && scB e.N e.ps e.d.scope && chkB R ⟨e.N, e.d.scope, fun _ => true⟩ e.F.body e.d.body
def BindOk (e : Ent) : Prop := ∀ (kV doc pm : Value) (an : Option Addr) (cdv ct : Value) (us : List Value), us.length = e.F.np → bindArgs (PySem.W.fnOf e.d.name e.d.qual e.d.params e.d.body e.d.scope .none kV doc pm an cdv ct) ⟨us, []⟩ = pure (e.ps.zip us)
theorem rsl_start {Y : Cfg} {av m : List Addr} {H : Hp} {N : List Str} {ws : List W} {vs : List V} {n : Nat} (r : RWs Y av m H ws vs) (h1 : N.length = n) (h2 : ws.length ≤ n) :
    RSl Y av m H (ws.map some ++ List.replicate (n - ws.length) none) (start N vs) := by
  have hl := r.length
  refine ⟨by simp only [L2.start, List.length_append, List.length_map, List.length_replicate]; omega, fun i w e => ?_⟩
  by_cases hi : i < ws.length
  · rw [List.getElem?_append_left (by simpa using hi), List.getElem?_map] at e
    have e : (ws[i]?).map some = some (some w) := e
    obtain ⟨w', e1, e2⟩ := Option.map_eq_some_iff.mp e
    cases e2
    obtain ⟨v, e3, e4⟩ := r.get e1
    refine ⟨v, ?_, e4⟩
    unfold L2.start
    rw [List.getElem?_append_left (by simp only [List.length_map]; omega), List.getElem?_map, e3]
    rfl
  · rw [List.getElem?_append_right (by simp only [List.length_map]; omega)] at e
    rw [List.getElem?_replicate] at e
    split at e <;> cases e
section
variable {R : Row} {P : Program} {w : World} {K : PySem.W.Frag} {mg : Str → Option Value} {base : Heap} {Y : Cfg}
theorem ent_binds {e : Ent} {fd : FuncData} {f : Addr} (F : FunD K e.d.name e.d.qual e.d.params e.d.body e.d.scope [] [] f fd) (hb : BindOk e) (hl : e.ps.length = e.F.np) : Binds K fd e.ps [] :=
  F.bindsN fun kV doc pm an cdv ct us h => hb kV doc pm an cdv ct us (h.trans hl)
theorem fn_T {k : Nat} {e : Ent} {fd : FuncData} {f : Addr} (hK : Y.K = K) (F : FunD K e.d.name e.d.qual e.d.params e.d.body e.d.scope [] [] f fd) (hfn : R.G.fn e.id = some e.F) (hc : chkFn R e = true)
    (facts : Facts R (run R.G k) (2 * k) P w K mg base Y) : FnT P w K mg base (2 * (k + 1)) f fd e.ps (spRun Y (run R.G (k + 1)) e.id) := by
  obtain ⟨hc, c4⟩ := ba2 hc
  obtain ⟨hc, c3⟩ := ba2 hc
  obtain ⟨c1, c2⟩ := ba2 hc
  have c1 := of_decide_eq_true c1
  have c2 := of_decide_eq_true c2
  have hpl : e.ps.length = e.F.np := by unfold Ent.ps; rw [List.length_take]; omega
  have Sc0 := scB_ok c3
  have runE : ∀ ws S, run R.G (k + 1) e.id ws S = if ws.length = e.F.np ∧ e.F.np ≤ e.F.ns then (match evB R.G (run R.G k) e.F.body (ws.map some ++ List.replicate (e.F.ns - e.F.np) none) S with
      | .nx _ S => .ok (.d .non) S
      | .ret w S => .ok w S
      | .ex c _ S => .ex c S
      | _ => .bad) else .bad := fun ws S => by
    show (match R.G.fn e.id with
    | some F => if ws.length = F.np ∧ F.np ≤ F.ns then (match evB R.G (run R.G k) F.body (ws.map some ++ List.replicate (F.ns - F.np) none) S with
      | .nx _ S => RE.ok (W.d .non) S
      | .ret w S => .ok w S
      | .ex c _ S => .ex c S
      | _ => .bad) else .bad
    | none => .bad) = _
    rw [hfn]
  refine ⟨fun vs H Q E h => ?_, fun A outer s H args us vs Q E t0 hr e0 hb r hsp => ?_⟩
  · obtain ⟨av, m, S, ws, rs, rws, h⟩ := h
    rw [runE] at h
    by_cases hl : ws.length = e.F.np ∧ e.F.np ≤ e.F.ns
    · rw [← rws.length, hl.1, hpl]
    · rw [if_neg hl] at h
      exact False.elim h
  · obtain ⟨av, m, S, ws, rs, rws, hel⟩ := hsp
    rw [runE] at hel
    by_cases hl : ws.length = e.F.np ∧ e.F.np ≤ e.F.ns
    · rw [if_pos hl] at hel
      obtain ⟨oc, od, dV, kV, doc, pm, an, cdv, ct, osl, rfl, lk, hcd, _, _⟩ := F.ex
      have hlv : vs.length = e.ps.length := by rw [← rws.length, hl.1, hpl]
      have KX : K.In s.heap := e0.mod.kin.keeps fun b o e => (e0.bs b o e).1
      have lim : s.heap.NoLimit := e0.mod.nolimit.keeps fun b o e => (e0.bs b o e).1
      have hkind : ∀ y ∈ e.ps.zip us, e.d.scope.names.lookup y.1 = some .local ∨ (e.d.scope.names.lookup y.1 = some .cell ∧ ((cellsFrom (s.heap.objs.size + 1) e.d.scope.names []).lookup y.1).isSome = true) := fun ⟨n, v⟩ hy => by
        rcases Sc0.par n (List.of_mem_zip hy).1 with q | q
        · exact .inl q
        · exact .inr ⟨q, PySem.W.cellsFrom_some _ _ _ (.inl q)⟩
      refine codeAny_call_function hr.depth (KX _ _ lk) rfl Sc0.co Sc0.gen rfl (PySem.W.codeRec_of KX hcd) (hb _ _ _ _ ?_)
      refine PySem.wpAny_with_toks t0 (wpAny_newFunctionEnv_cells Sc0.kind hkind fun env he s1 x ht => ?_)
      subst he
      refine ⟨lim.keeps x.toInCall.keep, codeAny_func ?_⟩
      let X : Cx := cxOf (CX P w) P w K mg base e.N e.d.qual e.d.scope f cdv A outer s H E
      let J : Jx := { X := X, Y := Y, av := av, m0 := m, H0 := H, Wx := fun cls d _ H' => E cls d H' }
      have hr2 : Room (2 * k + 1) X.A := hr.deeper _
      have I : L2.Inv X [] (start e.N vs) H s1 := inv_start Sc0 hr.hd e0 hlv r x
      have cx : CxtS R (run R.G k) (2 * k) J ⟨e.N, e.d.scope, fun _ => true⟩ := by
        refine { ok := ⟨hK.symm, takes_of rfl rfl rfl rfl, ?_⟩, calm := rfl, room := hr2, N := rfl, nd := Sc0.nd, sc := rfl, fn := rfl, F := facts, hp := passes_of rfl, kd := Sc0.kind, hs := rfl, hf := rfl }
        have := hr2.un
        show X.A.units + 65 < cLine
        omega
      have st : Sta J [] (start e.N vs) m S (ws.map some ++ List.replicate (e.F.ns - e.F.np) none) H s1 := ⟨ht, I, .refl, rs, by rw [← hl.1]; exact rsl_start rws c1.symm (by omega)⟩
      have kb : (evB R.G (run R.G k) e.F.body (ws.map some ++ List.replicate (e.F.ns - e.F.np) none) S).el
          ⟨fun _ S' => ∀ m' H' v, Fra m H m' H' → RSt Y av m' S' H' → RW Y av m' H' (.d .non) v → Q v H', fun w S' => ∀ m' H' v, Fra m H m' H' → RSt Y av m' S' H' → RW Y av m' H' w v → Q v H', fun _ _ => False, fun _ _ => False⟩ J.Xs := by
        generalize evB R.G (run R.G k) e.F.body (ws.map some ++ List.replicate (e.F.ns - e.F.np) none) S = q at hel
        cases q with
        | nx l' S' => exact hel
        | ret w S' => exact hel
        | ex c l' S' => exact fun m' H' σ' fr rel => hel m' H' fr rel.st
        | _ => exact hel
      refine wpAny_mono (sndB e.F.body cx c4 [] s1 (start e.N vs) H m S _ _ st kb) (fun fl s' hs => ?_) fun e s' hs => hs
      have fin0 : ∀ {σ' : L2.St} {H' : Hp} {v : V} {u : Value}, L2.Inv X [] σ' H' s' → RelV v u → Q v H' → CE outer P w H s Q u s' := fun {σ' H' v u} J rv q => ⟨v, H', J.os, J.bare, J.base, J.hok, rv, q⟩
      cases fl with
      | ret u =>
        obtain ⟨w', S', m', H', l', σ', v, k', st', fr, rw', q⟩ := hs
        exact fin0 st'.inv q (k' m' H' v fr st'.rel.st rw')
      | next =>
        obtain ⟨l', S', m', H', σ', k', st', fr⟩ := hs
        exact fin0 (v := .non) (u := .none) st'.inv rfl (k' m' H' .non fr st'.rel.st .non)
      | brk => obtain ⟨_, _, _, _, _, z, _⟩ := hs; exact z.elim
      | cont => obtain ⟨_, _, _, _, _, z, _⟩ := hs; exact z.elim
    · rw [if_neg hl] at hel
      exact False.elim hel
end
end Kr
/-! KrT: a row's table, what its head grants. -/
namespace Kr
open PySem PySem.Spec PyProof.Rows L2
structure Tbl where
  ents : List Ent
  /-- number, name, fields, the number of __init__ -/
  cls : List (Nat × Str × List Str × Nat)
  xcs : List (Nat × Str)
  gls : List (Nat × Str × D)
  subs : List (Nat × Nat × Bool)
def Tbl.ent (T : Tbl) (f : Nat) : Option Ent := T.ents.find? (·.id == f)
def Tbl.cnm (T : Tbl) (c : Nat) : Option Str := (T.cls.lookup c).map (·.1)
def Tbl.xnm (T : Tbl) (c : Nat) : Option Str := T.xcs.lookup c
def Tbl.G (T : Tbl) : Tab where
  glb := fun g => (T.gls.lookup g).map (·.2)
  fn := fun f => (T.ent f).map (·.F)
  ini := fun c => (T.cls.lookup c).map (·.2.2)
  sub := fun c k => (T.subs.find? fun p => p.1 == c && p.2.1 == k).map (·.2.2)
def Tbl.row (T : Tbl) : Row where
  G := T.G
  fnm := fun f => (T.ent f).bind fun e => match e.d.at_.2 with
    | none => some e.d.at_.1
    | some _ => none
  mnm := fun c f => (T.ent f).bind fun e => match e.d.at_.2 with
    | none => none
    | some m => if T.cnm c = some e.d.at_.1 ∧ ¬ m = ("__init__" : Str) then some m else none
  cnm := T.cnm
  xnm := T.xnm
  gnm := fun g => (T.gls.lookup g).map (·.1)
  fs := fun c => match T.cls.lookup c with
    | some (_, fs, _) => fs
    | none => []
def faE (e : Ent) : List He.Fa := match e.d.at_.2 with
  | none => [.glo e.d.at_.1]
  | some m => if m = ("__init__" : Str) then [] else [.meth e.d.at_.1 m]
def faC (p : Nat × Str × List Str × Nat) : List He.Fa := .glo p.2.1 :: .cls p.2.1 :: .mkr p.2.1 :: p.2.2.1.map fun f => .noat p.2.1 f
def faX (p : Nat × Str) : List He.Fa := [.glo p.2, .exc p.2]
def faS (T : Tbl) (p : Nat × Nat × Bool) : List He.Fa := match T.xnm p.1, T.xnm p.2.1 with
  | some x, some y => [.exm x y p.2.2]
  | _, _ => []
def Tbl.fa (T : Tbl) : List He.Fa := T.ents.flatMap faE ++ (T.cls.flatMap faC ++ (T.xcs.flatMap faX ++ (T.subs.flatMap (faS T) ++ bltFree.map .free)))
/-- a constant of the top -/
def flatB : D → Value → Bool
  | .int i, .int j _ => decide (j = i)
  | .str x, .str y _ => y.cps.toList == x && x.all (· < 128)
  | _, _ => false
def flatsB : List D → List Value → Bool
  | [], [] => true
  | d :: ds, v :: vs => flatB d v && flatsB ds vs
  | _, _ => false
def kdV (K : PySem.W.Frag) (d : D) (u : Value) : Bool := match d, u with
  | .tup ds, .ref a => (match K.lookup a with
    | some ⟨.type c, none, .seq its _, _⟩ => decide (c = "tuple") && decide (its.size ≤ sizeLine) && flatsB ds its.toList
    | _ => false)
  | d, u => flatB d u
def kdB (K : PySem.W.Frag) (x : Str) (d : D) : Bool := match PySem.W.nsIn K mainGlobals x with
  | some (some u) => kdV K d u
  | _ => false
def Tbl.ex (T : Tbl) (K : PySem.W.Frag) : Bool := T.gls.all fun p => kdB K p.2.1 p.2.2
/-- what of a table is looked at once -/
def Tbl.ok (T : Tbl) : Bool :=
  decide (T.ents.map (·.id)).Nodup && T.ents.all (fun e => chkFn T.row e) &&
  T.cls.all (fun p => decide (T.cls.lookup p.1 = some p.2) && decide p.2.2.1.Nodup && decide (p.2.2.1.length < 1000) && (match T.ent p.2.2.2 with
    | some e => decide (e.d.at_ = (p.2.1, some ("__init__" : Str)))
    | none => false)) &&
  T.cls.all (fun p => T.ents.all fun e => match e.d.at_.2 with
    | some m => !(decide (e.d.at_.1 = p.2.1)) || !(p.2.2.1.contains m)
    | none => true) &&
  T.ents.all (fun e => e.d.dfl.isEmpty && e.d.kwd.isEmpty) &&
  T.subs.all (fun p => (T.xnm p.1).isSome && (T.xnm p.2.1).isSome)
def Tbl.cfg (T : Tbl) (K : PySem.W.Frag) : Cfg where
  K := K
  cA := fun c => match T.cls.lookup c with
    | some p => He.ga K p.1
    | none => 0
  xA := fun c => match T.xcs.lookup c with
    | some x => He.ga K x
    | none => 0
  fs := T.row.fs
theorem find_ent {T : Tbl} (nd : (T.ents.map (·.id)).Nodup) {e : Ent} (h : e ∈ T.ents) : T.ent e.id = some e := by
  unfold Tbl.ent
  generalize T.ents = l at nd h
  induction l with
  | nil => cases h
  | cons a l ih =>
    rw [List.find?_cons]
    rcases List.mem_cons.mp h with z | z
    · subst z
      simp
    · have ne : (a.id == e.id) = false := by
        refine beq_eq_false_iff_ne.mpr fun q => ?_
        have := (List.nodup_cons.mp (by simpa using nd : (a.id :: l.map (·.id)).Nodup)).1
        exact this (List.mem_map.mpr ⟨e, z, q.symm⟩)
      rw [ne]
      exact ih (List.nodup_cons.mp (by simpa using nd : (a.id :: l.map (·.id)).Nodup)).2 z
theorem ent_mem {T : Tbl} {f : Nat} {e : Ent} (h : T.ent f = some e) : e ∈ T.ents ∧ e.id = f := by
  unfold Tbl.ent at h
  exact ⟨List.mem_of_find?_eq_some h, by simpa using List.find?_some h⟩
theorem look_mem {α : Type} {l : List (Nat × α)} {n : Nat} {a : α} (h : l.lookup n = some a) : (n, a) ∈ l := by
  induction l with
  | nil => cases h
  | cons p l ih =>
    obtain ⟨k, b⟩ := p
    cases e : n == k with
    | true =>
      rw [List.lookup, e] at h
      cases h
      rw [beq_iff_eq.mp e]
      exact List.mem_cons_self
    | false =>
      rw [List.lookup, e] at h
      exact List.mem_cons_of_mem _ (ih h)
theorem flatB_ok {Y : Cfg} {d : D} {u : Value} (h : flatB d u = true) : ∃ v, RelV v u ∧ ∀ z H, RD Y z H d v := by
  unfold flatB at h
  split at h
  · cases of_decide_eq_true h
    exact ⟨.int _, ⟨_, rfl⟩, fun _ _ => .int _⟩
  · obtain ⟨h1, h2⟩ := ba2 h
    rw [str_of h1]
    exact ⟨.str _, ⟨_, rfl⟩, fun _ _ => .str _ (asc_of h2)⟩
  · cases h
theorem flatsB_ok {Y : Cfg} : ∀ {ds : List D} {us : List Value}, flatsB ds us = true → ∃ vs, Vals vs us ∧ ∀ z H, RDs Y z H ds vs
  | [], [], _ => ⟨[], .nil, fun _ _ => .nil⟩
  | [], _ :: _, h => (Bool.false_ne_true h).elim
  | _ :: _, [], h => (Bool.false_ne_true h).elim
  | d :: ds, u :: us, h => by
    obtain ⟨h1, h2⟩ := ba2 (show (flatB d u && flatsB ds us) = true from h)
    obtain ⟨v, r, q⟩ := flatB_ok (Y := Y) h1
    obtain ⟨vs, rs, qs⟩ := flatsB_ok (Y := Y) h2
    exact ⟨v :: vs, .cons r rs, fun z H => .cons (q z H) (qs z H)⟩
theorem kdV_ok {Y : Cfg} {K : PySem.W.Frag} (hK : Y.K = K) {d : D} {u : Value} (h : kdV K d u = true) : KD Y d u := by
  unfold kdV at h
  split at h
  · rename_i ds a
    split at h
    · rename_i c its n sl e
      obtain ⟨h, h3⟩ := ba2 h
      obtain ⟨h1, h2⟩ := ba2 h
      cases of_decide_eq_true h1
      obtain ⟨vs, r, q⟩ := flatsB_ok (Y := Y) h3
      exact ⟨.ref a, rfl, fun z H => .tupK ⟨_, its, n, by rw [hK]; exact e, rfl, rfl, rfl, of_decide_eq_true h2, r⟩ (q z H)⟩
    · cases h
  · exact flatB_ok h
section
variable {T : Tbl} {P : Program} {w : World} {K : PySem.W.Frag} {mg : Str → Option Value} {base h : Heap}
theorem Tbl.facts (ok : T.ok = true) (X : K.In h) (Gs : h.Ns mainGlobals mg) (c : He.SaysX T.fa (T.ents.map (·.d)) [] [] T.ex w h K) {C : Cl} {lv : Nat} (at_ : ∀ e ∈ T.ents, FnAt P w K mg base (T.cfg K) C lv e.id (He.fAd K e.d.at_)) :
    Facts T.row C lv P w K mg base (T.cfg K) := by
  obtain ⟨ok, o6⟩ := ba2 ok
  obtain ⟨ok, o5⟩ := ba2 ok
  obtain ⟨ok, o4⟩ := ba2 ok
  obtain ⟨ok, o3⟩ := ba2 ok
  obtain ⟨o1, o2⟩ := ba2 ok
  have cd := c.t.d
  have fE : ∀ e ∈ T.ents, ∀ f ∈ faE e, f ∈ T.fa := fun e he f hf => List.mem_append_left _ (List.mem_flatMap.mpr ⟨e, he, hf⟩)
  have fC : ∀ p ∈ T.cls, ∀ f ∈ faC p, f ∈ T.fa := fun e he f hf => List.mem_append_right _ (List.mem_append_left _ (List.mem_flatMap.mpr ⟨e, he, hf⟩))
  have fX : ∀ p ∈ T.xcs, ∀ f ∈ faX p, f ∈ T.fa := fun e he f hf => List.mem_append_right _ (List.mem_append_right _ (List.mem_append_left _ (List.mem_flatMap.mpr ⟨e, he, hf⟩)))
  have fS : ∀ p ∈ T.subs, ∀ f ∈ faS T p, f ∈ T.fa := fun e he f hf => List.mem_append_right _ (List.mem_append_right _ (List.mem_append_right _ (List.mem_append_left _ (List.mem_flatMap.mpr ⟨e, he, hf⟩))))
  have fB : ∀ x ∈ bltFree, He.Fa.free x ∈ T.fa := fun x hx => List.mem_append_right _ (List.mem_append_right _ (List.mem_append_right _ (List.mem_append_right _ (List.mem_map.mpr ⟨x, hx, rfl⟩))))
  have cAe : ∀ {k : Nat} {x : Str}, T.cnm k = some x → ∃ q, T.cls.lookup k = some q ∧ q.1 = x ∧ (k, q) ∈ T.cls ∧ (T.cfg K).cA k = He.ga K x := fun {k x} e => by
    obtain ⟨q, e1, e2⟩ := Option.map_eq_some_iff.mp e
    refine ⟨q, e1, e2, look_mem e1, ?_⟩
    show (match T.cls.lookup k with
      | some p => He.ga K p.1
      | none => 0) = _
    rw [e1, ← e2]
  have xAe : ∀ {k : Nat} {x : Str}, T.xnm k = some x → (k, x) ∈ T.xcs ∧ (T.cfg K).xA k = He.ga K x := fun {k x} e => by
    refine ⟨look_mem e, ?_⟩
    show (match T.xcs.lookup k with
      | some x => He.ga K x
      | none => 0) = _
    rw [show T.xcs.lookup k = some x from e]
  have fsE : ∀ {k : Nat} {q : Str × List Str × Nat}, T.cls.lookup k = some q → T.row.fs k = q.2.1 := fun {k q} e => by
    show (match T.cls.lookup k with
      | some (_, fs, _) => fs
      | none => []) = _
    rw [e]
  refine ⟨?_, ?_, ?_, ?_, ?_, ?_, rfl, ?_, ?_, ?_, ?_, ?_⟩
  · intro g x d e1 e2
    obtain ⟨q, a1, rfl⟩ := Option.map_eq_some_iff.mp (show (T.gls.lookup g).map (·.1) = some x from e1)
    obtain ⟨q', a3, a4⟩ := Option.map_eq_some_iff.mp (show (T.gls.lookup g).map (·.2) = some d from e2)
    rw [a1] at a3
    cases a3
    have hx := List.all_eq_true.mp c.more (g, q) (look_mem a1)
    have hx : kdB K q.1 q.2 = true := hx
    unfold kdB at hx
    split at hx
    · rename_i u en
      refine ⟨u, PySem.W.mg_of X Gs en, ?_⟩
      rw [← a4]
      exact kdV_ok rfl hx
    · cases hx
  · intro f x e1
    obtain ⟨e, a1, a2⟩ := Option.bind_eq_some_iff.mp (show ((T.ent f).bind fun e => match e.d.at_.2 with
      | none => some e.d.at_.1
      | some _ => none) = some x from e1)
    obtain ⟨m1, rfl⟩ := ent_mem a1
    split at a2
    · rename_i en
      cases a2
      have gl := He.glo_ok X Gs (cd.facts (fE e m1 (.glo e.d.at_.1) (by unfold faE; rw [en]; exact List.mem_singleton.mpr rfl)))
      refine ⟨He.fAd K e.d.at_, ?_, at_ e m1⟩
      rw [gl]
      unfold He.fAd
      rw [en]
    · cases a2
  · intro k f n e1
    obtain ⟨e, a1, a2⟩ := Option.bind_eq_some_iff.mp (show ((T.ent f).bind fun e => match e.d.at_.2 with
      | none => none
      | some m => if T.cnm k = some e.d.at_.1 ∧ ¬ m = ("__init__" : Str) then some m else none) = some n from e1)
    obtain ⟨m1, rfl⟩ := ent_mem a1
    split at a2
    · cases a2
    · rename_i m en
      split at a2
      · rename_i hc
        cases a2
        obtain ⟨hc, hi⟩ := hc
        obtain ⟨q, b1, b2, b3, b4⟩ := cAe hc
        · have mt := He.meth_ok (cd.facts (fE e m1 (.meth e.d.at_.1 n) (by unfold faE; rw [en]; dsimp only; rw [if_neg hi]; exact List.mem_singleton.mpr rfl)))
          refine ⟨He.fAd K e.d.at_, ?_, at_ e m1⟩
          rw [b4]
          have : He.fAd K e.d.at_ = He.ma K (He.ga K e.d.at_.1) n := by
            unfold He.fAd
            rw [en]
          rw [this]
          exact mt
      · cases a2
  · intro k x e1
    obtain ⟨q, b1, b2, b3, b4⟩ := cAe e1
    refine ⟨?_, ?_⟩
    · rw [b4, ← b2]
      exact He.glo_ok X Gs (cd.facts (fC _ b3 _ List.mem_cons_self))
    · rw [b4, ← b2]
      exact He.cls_ok (cd.facts (fC _ b3 _ (List.mem_cons_of_mem _ List.mem_cons_self)))
  · intro k x f e1 e2
    obtain ⟨q, b1, b2, b3, b4⟩ := cAe e1
    obtain ⟨q', a1, a2⟩ := Option.map_eq_some_iff.mp (show (T.cls.lookup k).map (·.2.2) = some f from e2)
    rw [b1] at a1
    cases a1
    have hx := List.all_eq_true.mp o3 (k, q) b3
    obtain ⟨hx, h4⟩ := ba2 hx
    dsimp only at h4
    rw [a2] at h4
    split at h4
    · rename_i e en
      obtain ⟨m1, rfl⟩ := ent_mem en
      have ea := of_decide_eq_true h4
      have mk := He.mkr_ok (cd.facts (fC _ b3 (.mkr q.1) (List.mem_cons_of_mem _ (List.mem_cons_of_mem _ List.mem_cons_self))))
      refine ⟨He.fAd K e.d.at_, ?_, at_ e m1⟩
      rw [b4, ea, ← b2]
      exact mk
    · cases h4
  · intro k n f x e1 e2
    obtain ⟨q, b1, b2, b3, b4⟩ := cAe e1
    rw [fsE b1] at e2
    rw [b4, ← b2]
    exact He.noat_ok (cd.facts (fC _ b3 (.noat q.1 f) (List.mem_cons_of_mem _ (List.mem_cons_of_mem _ (List.mem_cons_of_mem _ (List.mem_map.mpr ⟨f, List.mem_of_getElem? e2, rfl⟩))))))
  · intro k
    cases e : T.cls.lookup k with
    | none =>
      have : T.row.fs k = [] := by
        show (match T.cls.lookup k with
          | some (_, fs, _) => fs
          | none => []) = _
        rw [e]
      rw [this]
      exact ⟨List.nodup_nil, by decide⟩
    | some q =>
      rw [fsE e]
      have hx := List.all_eq_true.mp o3 (k, q) (look_mem e)
      obtain ⟨hx, _⟩ := ba2 hx
      obtain ⟨hx, h3⟩ := ba2 hx
      obtain ⟨_, h2⟩ := ba2 hx
      exact ⟨of_decide_eq_true h2, of_decide_eq_true h3⟩
  · intro k f n e1
    obtain ⟨e, a1, a2⟩ := Option.bind_eq_some_iff.mp (show ((T.ent f).bind fun e => match e.d.at_.2 with
      | none => none
      | some m => if T.cnm k = some e.d.at_.1 ∧ ¬ m = ("__init__" : Str) then some m else none) = some n from e1)
    obtain ⟨m1, rfl⟩ := ent_mem a1
    split at a2
    · cases a2
    · rename_i m en
      split at a2
      · rename_i hc
        cases a2
        obtain ⟨q, b1, b2, b3, b4⟩ := cAe hc.1
        rw [fsE b1]
        have hx := List.all_eq_true.mp (List.all_eq_true.mp o4 (k, q) b3) e m1
        dsimp only at hx
        rw [en] at hx
        dsimp only at hx
        intro hm
        rw [decide_eq_true (by rw [b2] : e.d.at_.1 = q.1)] at hx
        have : q.2.1.contains n = true := by simpa using hm
        rw [this] at hx
        cases hx
      · cases a2
  · intro k x e1
    obtain ⟨b1, b2⟩ := xAe e1
    rw [b2]
    obtain ⟨x1, x2, x3, x4⟩ := He.exc_ok (cd.facts (fX _ b1 (.exc x) (List.mem_cons_of_mem _ List.mem_cons_self)))
    exact ⟨He.glo_ok X Gs (cd.facts (fX _ b1 (.glo x) List.mem_cons_self)), ⟨_, _, _, _, PySem.F.excBase_ValueError, x1⟩, x2, x3, x4⟩
  · intro k n b e1
    obtain ⟨p, a1, rfl⟩ := Option.map_eq_some_iff.mp (show (T.subs.find? fun p => p.1 == k && p.2.1 == n).map (·.2.2) = some b from e1)
    have hm := List.mem_of_find?_eq_some a1
    have hp := List.find?_some a1
    obtain ⟨p1, p2⟩ := ba2 hp
    have p1 := beq_iff_eq.mp p1
    have p2 := beq_iff_eq.mp p2
    obtain ⟨h1, h2⟩ := ba2 (List.all_eq_true.mp o6 p hm)
    obtain ⟨x, ex⟩ := Option.isSome_iff_exists.mp h1
    obtain ⟨y, ey⟩ := Option.isSome_iff_exists.mp h2
    rw [← p1, ← p2, (xAe ex).2, (xAe ey).2]
    refine He.exm_ok (cd.facts (fS p hm (.exm x y p.2.2) ?_))
    unfold faS
    rw [ex, ey]
    exact List.mem_singleton.mpr rfl
  · intro x hx
    exact He.free_ok X Gs (cd.facts (fB x hx))
theorem Tbl.at_ (ok : T.ok = true) (hb : ∀ e ∈ T.ents, BindOk e) (X : K.In h) (Gs : h.Ns mainGlobals mg) (c : He.SaysX T.fa (T.ents.map (·.d)) [] [] T.ex w h K) :
    ∀ k, ∀ e ∈ T.ents, FnAt P w K mg base (T.cfg K) (run T.G k) (2 * k) e.id (He.fAd K e.d.at_) := by
  have ok0 := ok
  obtain ⟨ok, o6⟩ := ba2 ok
  obtain ⟨ok, o5⟩ := ba2 ok
  obtain ⟨ok, o4⟩ := ba2 ok
  obtain ⟨ok, o3⟩ := ba2 ok
  obtain ⟨o1, o2⟩ := ba2 ok
  have fun_ : ∀ e ∈ T.ents, ∃ fd, FunD K e.d.name e.d.qual e.d.params e.d.body e.d.scope [] [] (He.fAd K e.d.at_) fd := fun e he => by
    obtain ⟨fd, F⟩ := c.t.d.defs (List.mem_map.mpr ⟨e, he, rfl⟩)
    obtain ⟨d1, d2⟩ := ba2 (List.all_eq_true.mp o5 e he)
    have e1 : e.d.dvs K = [] := by
      unfold He.DefD.dvs
      rw [List.isEmpty_iff.mp d1]
      rfl
    have e2 : e.d.kws K = [] := by
      unfold He.DefD.kws
      rw [List.isEmpty_iff.mp d2]
      rfl
    rw [e1, e2] at F
    exact ⟨fd, F⟩
  have pl : ∀ e ∈ T.ents, e.ps.length = e.F.np := fun e he => by
    obtain ⟨hc, _⟩ := ba2 (List.all_eq_true.mp o2 e he)
    obtain ⟨hc, _⟩ := ba2 hc
    obtain ⟨_, c2⟩ := ba2 hc
    have := of_decide_eq_true c2
    unfold Ent.ps
    rw [List.length_take]
    omega
  intro k
  induction k with
  | zero =>
    intro e he
    obtain ⟨fd, F⟩ := fun_ e he
    refine ⟨⟨fd, e.ps, ⟨fun vs H Q E hs => ?_, fun A outer s H args us vs Q E t0 hr e0 hb r hs => ?_⟩, ent_binds F (hb e he) (pl e he)⟩, F.kp⟩
    · obtain ⟨_, _, _, _, _, _, z⟩ := hs
      exact False.elim z
    · obtain ⟨_, _, _, _, _, _, z⟩ := hs
      exact False.elim z
  | succ k ih =>
    intro e he
    obtain ⟨fd, F⟩ := fun_ e he
    have hfn : T.row.G.fn e.id = some e.F := by
      show (T.ent e.id).map (·.F) = some e.F
      rw [find_ent (of_decide_eq_true o1) he]
      rfl
    exact ⟨⟨fd, e.ps, fn_T (R := T.row) (K := K) (Y := T.cfg K) rfl F hfn (List.all_eq_true.mp o2 e he) (T.facts ok0 X Gs c ih), ent_binds F (hb e he) (pl e he)⟩, F.kp⟩
end
end Kr
/-! KrL: the law's def: no token is asked of the caller. -/
namespace Kr
open PySem PySem.Spec PyProof.Rows L2
/-- one parameter that is a local: behind its binding a token is out -/
theorem newEnv1 {M : Model} {A : Around} {E : Value → Shared → Prop} {s : Shared} {scope : Scope} {globals : Addr} {x : Str} {v : Value} {qual : Str} {func : Option Addr} {code : Value} {builtins : Addr} {Q : Env → Shared → Prop}
    (hk : scope.kind = .function) (hx : scope.names.lookup x = some .local)
    (hQ : ∀ env, env = newEnv scope s.heap.objs.size globals (cellsFrom (s.heap.objs.size + 1) scope.names []) qual func code none builtins →
      ∀ s', InCallC s env.locals (bindL env.kindOf [(x, v)] fun _ => none) env.cells (bindC env.kindOf [(x, v)] fun _ => none) s' → 1 ≤ s'.toks → Q env s') :
    wpAny M A (newFunctionEnv scope globals [] [(x, v)] qual func code none builtins) Q E s := by
  simp only [newFunctionEnv, Option.isSome_none, Bool.false_eq_true, if_false]
  refine wpAny_bind (wpAny_alloc ?_)
  refine wpAny_bind (wpAny_layCells _ (fun name kind cells => by cases hkc : kind == NameKind.cell <;> simp [hkc]) _ _ _ _ ?_)
  have ok := cellsFrom_ok scope.names (s.heap.push { cls := .type "frame", data := .dict #[] }) (s.heap.objs.size + 1) [] ⟨fun _ _ hm => (nomatch hm), List.Pairwise.nil⟩ (by rw [Heap.size_push]; exact Nat.le_refl _)
  rw [Heap.size_push] at ok
  rw [show ({ s with heap := s.heap.push { cls := .type "frame", data := .dict #[] } } : Shared).heap.objs.size = s.heap.objs.size + 1 from Heap.size_push ..]
  generalize henv : newEnv scope s.heap.objs.size globals (cellsFrom (s.heap.objs.size + 1) scope.names []) qual func code none builtins = env
  have hl : env.kindOf x = some .local := by rw [← henv]; exact hx
  have hkk : env.scope.kind = .function := by rw [← henv]; exact hk
  have x0 : InCallC s env.locals (fun _ => none) env.cells (fun _ => none) ({ s with heap := pushCells (s.heap.push { cls := .type "frame", data := .dict #[] }) scope.names } : Shared) := by
    rw [← henv]
    exact ⟨⟨⟨_, _, rfl⟩, (Heap.Ns.new s.heap (.type "frame")).keeps (pushCells_keeps _ _), fun b o e => pushCells_keeps _ _ b o (Heap.get?_push_of_some _ e), Nat.le_refl _⟩,
      fun n c hc => (ok.empty n c (mem_of_lookup hc)).1, ok.apart, fun n c hm => (ok.empty n c hm).2⟩
  have e1 : bindL env.kindOf [(x, v)] (fun _ => none) = fun y => if y = x then some v else none := by
    show (if env.kindOf x = some .local then (fun y => if y = x then some v else none) else fun _ => none) = _
    rw [if_pos hl]
  have e2 : bindC env.kindOf [(x, v)] (fun _ => none) = fun _ => none := by
    show (if env.kindOf x = some .local then (fun _ => none) else _) = _
    rw [if_pos hl]
  refine wpAny_bind ?_
  rw [List.forIn_cons]
  refine wpAny_bind (wpAny_bind ?_)
  have hst : wpAny M A (storeName env x v) (fun _ s' => InCallC s env.locals (fun y => if y = x then some v else none) env.cells (fun _ => none) s' ∧ 1 ≤ s'.toks) E ({ s with heap := pushCells (s.heap.push { cls := .type "frame", data := .dict #[] }) scope.names } : Shared) := by
    refine wpAny_storeName_local hl x0.toInCall.ns (fun h' hn' hs' => ⟨⟨⟨?_, hn', fun b o e => ?_, x0.toInCall.fresh⟩, fun k c hc => ?_, x0.apart, x0.above⟩, Nat.le_add_left _ _⟩) (by rw [hkk]; rfl)
    · exact ⟨h', _, rfl⟩
    · exact hs'.extBut b o (Nat.ne_of_lt (Nat.lt_of_lt_of_le (Heap.lt_size e) x0.toInCall.fresh)) (x0.toInCall.keep b o e)
    · exact (x0.cell k c hc).sameBut hs' (Nat.ne_of_gt (x0.above k c (mem_of_lookup hc)))
  have fin1 : ∀ s', InCallC s env.locals (fun y => if y = x then some v else none) env.cells (fun _ => none) s' → 1 ≤ s'.toks → Q env s' := fun s' xx tt => hQ env henv.symm s' (by rw [e1, e2]; exact xx) tt
  have hst' := hst
  rw [← henv] at hst'
  refine wpAny_mono hst' (fun _ s' z => wpAny_pure ?_) fun _ _ z => z
  show wpAny M A (forIn ([] : List (Str × Value)) PUnit.unit _) _ _ _
  rw [List.forIn_nil]
  refine wpAny_pure (wpAny_pure ?_)
  have := fin1 s'
  rw [← henv] at this
  exact this z.1 z.2
section
variable {R : Row} {P : Program} {w : World} {K : PySem.W.Frag} {mg : Str → Option Value} {base : Heap} {Y : Cfg}
theorem fn_law {k : Nat} {e : Ent} {fd : FuncData} {f : Addr} {x : Str} (hK : Y.K = K) (F : FunD K e.d.name e.d.qual e.d.params e.d.body e.d.scope [] [] f fd) (hfn : R.G.fn e.id = some e.F) (hc : chkFn R e = true)
    (facts : Facts R (run R.G k) (2 * k) P w K mg base Y) (hx : e.ps = [x]) (hl0 : e.d.scope.names.lookup x = some .local) : FnOk P w K mg base (CX P w) (2 * (k + 1)) f fd [x] (spRun Y (run R.G (k + 1)) e.id) := by
  obtain ⟨hc, c4⟩ := ba2 hc
  obtain ⟨hc, c3⟩ := ba2 hc
  obtain ⟨c1, c2⟩ := ba2 hc
  have c1 := of_decide_eq_true c1
  have c2 := of_decide_eq_true c2
  have hpl : e.ps.length = e.F.np := by unfold Ent.ps; rw [List.length_take]; omega
  have Sc0 := scB_ok c3
  have runE : ∀ ws S, run R.G (k + 1) e.id ws S = if ws.length = e.F.np ∧ e.F.np ≤ e.F.ns then (match evB R.G (run R.G k) e.F.body (ws.map some ++ List.replicate (e.F.ns - e.F.np) none) S with
      | .nx _ S => .ok (.d .non) S
      | .ret w S => .ok w S
      | .ex c _ S => .ex c S
      | _ => .bad) else .bad := fun ws S => by
    show (match R.G.fn e.id with
    | some F => if ws.length = F.np ∧ F.np ≤ F.ns then (match evB R.G (run R.G k) F.body (ws.map some ++ List.replicate (F.ns - F.np) none) S with
      | .nx _ S => RE.ok (W.d .non) S
      | .ret w S => .ok w S
      | .ex c _ S => .ex c S
      | _ => .bad) else .bad
    | none => .bad) = _
    rw [hfn]
  refine ⟨fun vs H Q E h => ?_, fun A outer s H args us vs Q E hr e0 hb r hsp => ?_⟩
  · obtain ⟨av, m, S, ws, rs, rws, h⟩ := h
    rw [runE] at h
    by_cases hl : ws.length = e.F.np ∧ e.F.np ≤ e.F.ns
    · rw [← rws.length, hl.1, ← hpl, hx]
    · rw [if_neg hl] at h
      exact False.elim h
  · obtain ⟨av, m, S, ws, rs, rws, hel⟩ := hsp
    rw [runE] at hel
    by_cases hl : ws.length = e.F.np ∧ e.F.np ≤ e.F.ns
    · rw [if_pos hl] at hel
      obtain ⟨oc, od, dV, kV, doc, pm, an, cdv, ct, osl, rfl, lk, hcd, _, _⟩ := F.ex
      have hlv : vs.length = e.ps.length := by rw [← rws.length, hl.1, hpl]
      have KX : K.In s.heap := e0.mod.kin.keeps fun b o e => (e0.bs b o e).1
      have lim : s.heap.NoLimit := e0.mod.nolimit.keeps fun b o e => (e0.bs b o e).1
      have hlu : us.length = 1 := by rw [← r.length, hlv, hx]; rfl
      obtain ⟨u, rfl⟩ : ∃ u, us = [u] := by
        match us, hlu with
        | [u], _ => exact ⟨u, rfl⟩
      refine codeAny_call_function hr.depth (KX _ _ lk) rfl Sc0.co Sc0.gen rfl (PySem.W.codeRec_of KX hcd) (hb _ _ _ _ ?_)
      refine newEnv1 Sc0.kind hl0 fun env he s1 xx ht => ?_
      subst he
      refine ⟨lim.keeps xx.toInCall.keep, codeAny_func ?_⟩
      let X : Cx := cxOf (CX P w) P w K mg base e.N e.d.qual e.d.scope f cdv A outer s H E
      let J : Jx := { X := X, Y := Y, av := av, m0 := m, H0 := H, Wx := fun cls d _ H' => E cls d H' }
      have hr2 : Room (2 * k + 1) X.A := hr.deeper _
      have I : L2.Inv X [] (start e.N vs) H s1 := inv_start (us := [u]) Sc0 hr.hd e0 hlv r (by rw [hx]; exact xx)
      have cx : CxtS R (run R.G k) (2 * k) J ⟨e.N, e.d.scope, fun _ => true⟩ := by
        refine { ok := ⟨hK.symm, takes_of rfl rfl rfl rfl, ?_⟩, calm := rfl, room := hr2, N := rfl, nd := Sc0.nd, sc := rfl, fn := rfl, F := facts, hp := passes_of rfl, kd := Sc0.kind, hs := rfl, hf := rfl }
        have := hr2.un
        show X.A.units + 65 < cLine
        omega
      have st : Sta J [] (start e.N vs) m S (ws.map some ++ List.replicate (e.F.ns - e.F.np) none) H s1 := ⟨ht, I, .refl, rs, by rw [← hl.1]; exact rsl_start rws c1.symm (by omega)⟩
      have kb : (evB R.G (run R.G k) e.F.body (ws.map some ++ List.replicate (e.F.ns - e.F.np) none) S).el
          ⟨fun _ S' => ∀ m' H' v, Fra m H m' H' → RSt Y av m' S' H' → RW Y av m' H' (.d .non) v → Q v H', fun w S' => ∀ m' H' v, Fra m H m' H' → RSt Y av m' S' H' → RW Y av m' H' w v → Q v H', fun _ _ => False, fun _ _ => False⟩ J.Xs := by
        generalize evB R.G (run R.G k) e.F.body (ws.map some ++ List.replicate (e.F.ns - e.F.np) none) S = q at hel
        cases q with
        | nx l' S' => exact hel
        | ret w S' => exact hel
        | ex c l' S' => exact fun m' H' σ' fr rel => hel m' H' fr rel.st
        | _ => exact hel
      refine wpAny_mono (sndB e.F.body cx c4 [] s1 (start e.N vs) H m S _ _ st kb) (fun fl s' hs => ?_) fun e s' hs => hs
      have fin0 : ∀ {σ' : L2.St} {H' : Hp} {v : V} {u : Value}, L2.Inv X [] σ' H' s' → RelV v u → Q v H' → CE outer P w H s Q u s' := fun {σ' H' v u} J rv q => ⟨v, H', J.os, J.bare, J.base, J.hok, rv, q⟩
      cases fl with
      | ret u =>
        obtain ⟨w', S', m', H', l', σ', v, k', st', fr, rw', q⟩ := hs
        exact fin0 st'.inv q (k' m' H' v fr st'.rel.st rw')
      | next =>
        obtain ⟨l', S', m', H', σ', k', st', fr⟩ := hs
        exact fin0 (v := .non) (u := .none) st'.inv rfl (k' m' H' .non fr st'.rel.st .non)
      | brk => obtain ⟨_, _, _, _, _, z, _⟩ := hs; exact z.elim
      | cont => obtain ⟨_, _, _, _, _, z, _⟩ := hs; exact z.elim
    · rw [if_neg hl] at hel
      exact False.elim hel
end
/-- what walk_ofE asks for -/
theorem Tbl.law {T : Tbl} {P : Program} {w : World} {K : PySem.W.Frag} {mg : Str → Option Value} {h : Heap} {fa : Addr} (ok : T.ok = true) (hb : ∀ e ∈ T.ents, BindOk e) (X : K.In h) (Gs : h.Ns mainGlobals mg)
    (c : He.SaysX T.fa (T.ents.map (·.d)) [] [] T.ex w h K) {e : Ent} (he : e ∈ T.ents) (hat : e.d.at_ = (("law" : Str), none)) (hps : e.ps = [("script" : Str)]) (hl0 : e.d.scope.names.lookup ("script" : Str) = some .local) (hmg : mg ("law" : Str) = some (.ref fa)) {k : Nat}
    (hrun : ∀ ns : List Int, ns.length ≤ 63 → ∃ S, run T.G (k + 1) e.id [.d (.scr ns)] [] = .ok (.d (.bl true)) S) :
    ∃ (fd : FuncData) (sp : Sp), (∀ (s : Shared) (u : Value), BindsTo s fd ⟨[u], []⟩ [("script", u)]) ∧
      (∀ (H : Hp) (a : Addr) (ns : List Int), ns.length ≤ 63 → Only H → SqL K H a (ns.map V.int) → sp [.ref a] H (fun v _ => v = .bl true) fun _ _ _ => False) ∧
      ∀ base : Heap, K.In base → base.Ns mainGlobals mg → FnOk P w K mg base (CX P w) (2 * (k + 1)) fa fd ["script"] sp := by
  have ok0 := ok
  obtain ⟨ok, o6⟩ := ba2 ok
  obtain ⟨ok, o5⟩ := ba2 ok
  obtain ⟨ok, o4⟩ := ba2 ok
  obtain ⟨ok, o3⟩ := ba2 ok
  obtain ⟨o1, o2⟩ := ba2 ok
  obtain ⟨fd, F⟩ := c.t.d.defs (List.mem_map.mpr ⟨e, he, rfl⟩)
  obtain ⟨d1, d2⟩ := ba2 (List.all_eq_true.mp o5 e he)
  have e1 : e.d.dvs K = [] := by
    unfold He.DefD.dvs
    rw [List.isEmpty_iff.mp d1]
    rfl
  have e2 : e.d.kws K = [] := by
    unfold He.DefD.kws
    rw [List.isEmpty_iff.mp d2]
    rfl
  rw [e1, e2] at F
  have hfa : He.fAd K e.d.at_ = fa := by
    have gl := He.glo_ok X Gs (c.t.d.facts (f := .glo "law") (List.mem_append_left _ (List.mem_flatMap.mpr ⟨e, he, by unfold faE; rw [hat]; exact List.mem_singleton.mpr rfl⟩)))
    rw [hmg] at gl
    cases gl
    rw [hat]
    rfl
  rw [hfa] at F
  have hfn : T.row.G.fn e.id = some e.F := by
    show (T.ent e.id).map (·.F) = some e.F
    rw [find_ent (of_decide_eq_true o1) he]
    rfl
  have hnp : e.F.np = 1 := by
    obtain ⟨hc, _⟩ := ba2 (List.all_eq_true.mp o2 e he)
    obtain ⟨hc, _⟩ := ba2 hc
    obtain ⟨_, c2⟩ := ba2 hc
    have := of_decide_eq_true c2
    have h1 := congrArg List.length hps
    unfold Ent.ps at h1
    rw [List.length_take] at h1
    have h1 : min e.F.np e.N.length = 1 := h1
    omega
  refine ⟨fd, spRun (T.cfg K) (run T.G (k + 1)) e.id, fun s u => ?_, fun H a ns hl hO hS => ?_, fun base hKb hGb => ?_⟩
  · have := FunD.bindsA (ps := e.ps) F (fun kV doc pm an cdv ct us h => hb e he kV doc pm an cdv ct us (by rw [h, hps, hnp]; rfl)) s [u] (by rw [hps]; rfl)
    rw [hps] at this
    exact this
  · obtain ⟨S, hr⟩ := hrun ns hl
    refine ⟨[], [], [], [.d (.scr ns)], ⟨rfl, List.nodup_nil, fun n o e => by simp at e, fun a ha => by cases ha⟩, .cons ?_ .nil, ?_⟩
    · show RD (T.cfg K) ([] ++ []) H (.scr ns) (.ref a)
      rcases hS with (hS | ⟨o, hS⟩) | hS
      · rcases hO a with z | ⟨o, xs, z⟩
        · rw [z] at hS; cases hS
        · rw [z] at hS; cases hS
      · exact .scr hS (by simp)
      · exact .scrK hS
    · rw [hr]
      intro m' H' v _ _ rv
      have rv : RD (T.cfg K) ([] ++ m') H' (.bl true) v := rv
      cases rv
      rfl
  · exact fn_law (R := T.row) (K := K) (Y := T.cfg K) rfl F hfn (List.all_eq_true.mp o2 e he) (T.facts ok0 X Gs c (T.at_ ok0 hb X Gs c k)) hps hl0
/-- whatever the world -/
def CXw (P : Program) : CXT := fun outer H s E e s' => ∃ w, L2.CX P w outer H s E e s'
theorem CXw.no {P : Program} {H : Hp} {s : Shared} {e : Value} {s' : Shared} (h : CXw P [] H s (fun _ _ _ => False) e s') : False := by
  obtain ⟨w, a, B, H', cls, d, _, _, _, _, _, _, _, z⟩ := h
  exact z
theorem FnOk.cxw {P : Program} {w : World} {K : PySem.W.Frag} {mg : Str → Option Value} {base : Heap} {k : Nat} {f : Addr} {fd : FuncData} {ps : List Str} {sp : Sp} (F : FnOk P w K mg base (L2.CX P w) k f fd ps sp) : FnOk P w K mg base (CXw P) k f fd ps sp :=
  ⟨F.len, fun A outer s H args us vs Q E hr e0 hb r hs => codeAny_mono (F.run A outer s H args us vs Q E hr e0 hb r hs) fun r s' hq => by
    cases r with
    | error e => exact ⟨w, hq⟩
    | ok fl => cases fl <;> exact hq⟩
end Kr
namespace Kr
open PySem PySem.Spec PyProof.Rows L2
def f_is_within : Fn := ⟨3, 3, (.cons (.ret (.and (.cons (.isi (.var 0) .int) (.cons (.not (.isi (.var 0) .bool)) (.cons (.chn .le .le (.var 1) (.var 0) (.var 2)) .nil)))))
  .nil)⟩
def f_is_make : Fn := ⟨1, 1, (.cons (.ite (.or (.cons (.not (.val (.isi (.var 0) .tuple))) (.cons (.cmp .ne (.blt .len (.cons (.var 0) .nil)) (.cst (.int 2))) (.cons (.not (.val (.isi (.ix (.var 0) (.cst (.int 0))) .str))) .nil))))
  (.cons (.ret (.cst (.bl false)))
  .nil)
  .nil)
  (.cons (.ret (.and (.cons (.cmp .isin (.ix (.var 0) (.cst (.int 0))) (.glb 0)) (.cons (.call false 0 (.cons (.ix (.var 0) (.cst (.int 1))) (.cons (.cst (.int 3)) (.cons (.cst (.int 8)) .nil)))) .nil))))
  .nil))⟩
def f_look : Fn := ⟨1, 1, (.cons (.ite (.not (.val (.call false 1 (.cons (.var 0) .nil))))
  (.cons (.raise 1)
  .nil)
  .nil)
  .nil)⟩
def f_is_row : Fn := ⟨1, 2, (.cons (.ret (.and (.cons (.isi (.var 0) .str) (.cons (.cmp .le (.blt .len (.cons (.var 0) .nil)) (.glb 2)) (.cons (.not (.lc false [1] (.nam 1) (.seq (.var 0)) (.some (.cmp .nin (.var 1) (.glb 1))) (.var 1))) .nil)))))
  .nil)⟩
def f_look_row : Fn := ⟨2, 2, (.cons (.expr (.call false 2 (.cons (.var 0) .nil)))
  (.cons (.ite (.not (.val (.call false 4 (.cons (.var 1) .nil))))
  (.cons (.raise 2)
  .nil)
  .nil)
  .nil))⟩
def f_tens : Fn := ⟨1, 1, (.cons (.ret (.blt .int (.cons (.bin .add (.cst (.str [49])) (.bin .mul (.cst (.str [48])) (.var 0))) .nil)))
  .nil)⟩
def f_cut_number : Fn := ⟨3, 6, (.cons (.ite (.cmp .lt (.var 1) (.cst (.int 0)))
  (.cons (.asg (.tup (.cons (.nam 0) (.cons (.nam 1) .nil))) (.tup (.cons (.neg (.var 0)) (.cons (.neg (.var 1)) .nil))))
  .nil)
  .nil)
  (.cons (.asg (.nam 3) (.bin .fdiv (.blt .abs (.cons (.var 0) .nil)) (.var 1)))
  (.cons (.ite (.cmp .ge (.var 3) (.call false 6 (.cons (.var 2) .nil)))
  (.cons (.ret (.cst .non))
  .nil)
  .nil)
  (.cons (.asg (.nam 4) (.bin .sub (.var 2) (.blt .len (.cons (.blt .str (.cons (.var 3) .nil)) .nil))))
  (.cons (.asg (.nam 5) (.bin .fdiv (.bin .mul (.blt .abs (.cons (.var 0) .nil)) (.call false 6 (.cons (.var 4) .nil))) (.var 1)))
  (.cons (.whl (.and (.cons (.cmp .gt (.var 4) (.cst (.int 0))) (.cons (.cmp .eq (.bin .mod (.var 5) (.cst (.int 10))) (.cst (.int 0))) .nil)))
  (.cons (.asg (.nam 5) (.bin .fdiv (.var 5) (.cst (.int 10))))
  (.cons (.aug 4 .sub (.cst (.int 1)))
  .nil)))
  (.cons (.ret (.tup (.cons (.ite (.cmp .ge (.var 0) (.cst (.int 0))) (.var 5) (.neg (.var 5))) (.cons (.var 4) .nil))))
  .nil)))))))⟩
def f_operation : Fn := ⟨4, 7, (.cons (.asg (.tup (.cons (.nam 4) (.cons (.nam 5) .nil))) (.tup (.cons (.bin .mul (.ix (.var 1) (.cst (.int 0))) (.call false 6 (.cons (.ix (.var 2) (.cst (.int 1))) .nil))) (.cons (.call false 6 (.cons (.bin .add (.ix (.var 1) (.cst (.int 1))) (.ix (.var 2) (.cst (.int 1)))) .nil)) .nil))))
  (.cons (.asg (.nam 6) (.bin .mul (.ix (.var 2) (.cst (.int 0))) (.call false 6 (.cons (.ix (.var 1) (.cst (.int 1))) .nil))))
  (.cons (.ite (.cmp .eq (.var 0) (.cst (.str [43])))
  (.cons (.ret (.call false 7 (.cons (.bin .add (.var 4) (.var 6)) (.cons (.var 5) (.cons (.var 3) .nil)))))
  .nil)
  .nil)
  (.cons (.ite (.cmp .eq (.var 0) (.cst (.str [45])))
  (.cons (.ret (.call false 7 (.cons (.bin .sub (.var 4) (.var 6)) (.cons (.var 5) (.cons (.var 3) .nil)))))
  .nil)
  .nil)
  (.cons (.ite (.cmp .eq (.var 0) (.cst (.str [42])))
  (.cons (.ret (.call false 7 (.cons (.bin .mul (.ix (.var 1) (.cst (.int 0))) (.ix (.var 2) (.cst (.int 0)))) (.cons (.var 5) (.cons (.var 3) .nil)))))
  .nil)
  .nil)
  (.cons (.ite (.cmp .eq (.ix (.var 2) (.cst (.int 0))) (.cst (.int 0)))
  (.cons (.ret (.cst .non))
  .nil)
  .nil)
  (.cons (.ret (.call false 7 (.cons (.var 4) (.cons (.var 6) (.cons (.var 3) .nil)))))
  .nil)))))))⟩
def f_hundredth : Fn := ⟨3, 3, (.cons (.ret (.call false 7 (.cons (.bin .mul (.ix (.var 0) (.cst (.int 0))) (.ix (.var 1) (.cst (.int 0)))) (.cons (.bin .mul (.cst (.int 100)) (.call false 6 (.cons (.bin .add (.ix (.var 0) (.cst (.int 1))) (.ix (.var 1) (.cst (.int 1)))) .nil))) (.cons (.var 2) .nil)))))
  .nil)⟩
def f_text_of : Fn := ⟨1, 3, (.cons (.asg (.nam 1) (.ite (.cmp .lt (.ix (.var 0) (.cst (.int 0))) (.cst (.int 0))) (.cst (.str [45])) (.cst (.str []))))
  (.cons (.asg (.nam 2) (.bm .rjust (.blt .str (.cons (.blt .abs (.cons (.ix (.var 0) (.cst (.int 0))) .nil)) .nil)) (.cons (.bin .add (.ix (.var 0) (.cst (.int 1))) (.cst (.int 1))) (.cons (.cst (.str [48])) .nil))))
  (.cons (.ite (.cmp .eq (.ix (.var 0) (.cst (.int 1))) (.cst (.int 0)))
  (.cons (.ret (.bin .add (.var 1) (.var 2)))
  .nil)
  .nil)
  (.cons (.ret (.bin .add (.bin .add (.bin .add (.var 1) (.sl (.var 2) .none (.some (.neg (.ix (.var 0) (.cst (.int 1))))))) (.cst (.str [46]))) (.sl (.var 2) (.some (.neg (.ix (.var 0) (.cst (.int 1))))) .none)))
  .nil))))⟩
def f_number_of : Fn := ⟨1, 4, (.cons (.asg (.nam 1) (.ite (.cmp .eq (.sl (.var 0) .none (.some (.cst (.int 1)))) (.cst (.str [45]))) (.neg (.cst (.int 1))) (.cst (.int 1))))
  (.cons (.asg (.nam 2) (.bm .split (.bm .strip (.var 0) (.cons (.cst (.str [45])) .nil)) (.cons (.cst (.str [46])) .nil)))
  (.cons (.asg (.nam 3) (.ite (.cmp .eq (.blt .len (.cons (.var 2) .nil)) (.cst (.int 2))) (.ix (.var 2) (.cst (.int 1))) (.cst (.str []))))
  (.cons (.asg (.nam 3) (.bm .rstrip (.var 3) (.cons (.cst (.str [48])) .nil)))
  (.cons (.ret (.tup (.cons (.bin .mul (.var 1) (.blt .int (.cons (.bin .add (.ix (.var 2) (.cst (.int 0))) (.var 3)) .nil))) (.cons (.blt .len (.cons (.var 3) .nil)) .nil))))
  .nil)))))⟩
def f_Stand_init : Fn := ⟨8, 8, (.cons (.setf 0 0 (.var 0) (.var 1))
  (.cons (.setf 0 1 (.var 0) (.var 2))
  (.cons (.setf 0 2 (.var 0) (.var 3))
  (.cons (.setf 0 3 (.var 0) (.var 4))
  (.cons (.setf 0 4 (.var 0) (.var 5))
  (.cons (.setf 0 5 (.var 0) (.var 6))
  (.cons (.setf 0 6 (.var 0) (.var 7))
  .nil)))))))⟩
def f_Stand_now : Fn := ⟨1, 1, (.cons (.ret (.ite (.cmp .is (.fld 0 0 (.var 0)) (.cst .non)) (.fld 0 1 (.var 0)) (.call false 11 (.cons (.fld 0 0 (.var 0)) .nil))))
  .nil)⟩
def f_Stand_shown : Fn := ⟨1, 1, (.cons (.ite (.cmp .eq (.fld 0 6 (.var 0)) (.cst (.str [102, 97, 117, 108, 116])))
  (.cons (.ret (.cst (.str [69])))
  .nil)
  .nil)
  (.cons (.ret (.ite (.cmp .is (.fld 0 0 (.var 0)) (.cst .non)) (.call false 10 (.cons (.fld 0 1 (.var 0)) .nil)) (.fld 0 0 (.var 0))))
  .nil))⟩
def f_first_stand : Fn := ⟨2, 2, (.cons (.ret (.mk false 0 (.cons (.cst .non) (.cons (.glb 3) (.cons (.cst (.bl false)) (.cons (.ite (.cmp .eq (.ix (.var 0) (.cst (.int 0))) (.cst (.str [112, 105, 108, 101]))) (.bin .mul (.tup (.cons (.glb 3) .nil)) (.cst (.int 3))) (.tup .nil)) (.cons (.cst .non) (.cons (.var 1) (.cons (.cst (.str [])) .nil)))))))))
  .nil)⟩
def f_at_fault : Fn := ⟨1, 1, (.cons (.ret (.mk false 0 (.cons (.cst .non) (.cons (.glb 3) (.cons (.cst (.bl false)) (.cons (.fld 0 3 (.var 0)) (.cons (.fld 0 4 (.var 0)) (.cons (.fld 0 5 (.var 0)) (.cons (.cst (.str [102, 97, 117, 108, 116])) .nil)))))))))
  .nil)⟩
def f_with_number : Fn := ⟨4, 4, (.cons (.ite (.cmp .is (.var 1) (.cst .non))
  (.cons (.ret (.call false 17 (.cons (.var 0) .nil)))
  .nil)
  .nil)
  (.cons (.ret (.mk false 0 (.cons (.cst .non) (.cons (.var 1) (.cons (.var 2) (.cons (.var 3) (.cons (.fld 0 4 (.var 0)) (.cons (.fld 0 5 (.var 0)) (.cons (.cst (.str [])) .nil)))))))))
  .nil))⟩
def f_with_typed : Fn := ⟨3, 3, (.cons (.ret (.mk false 0 (.cons (.var 1) (.cons (.glb 3) (.cons (.cst (.bl true)) (.cons (.var 2) (.cons (.fld 0 4 (.var 0)) (.cons (.fld 0 5 (.var 0)) (.cons (.cst (.str [])) .nil)))))))))
  .nil)⟩
def f_longer : Fn := ⟨3, 3, (.cons (.ite (.cmp .eq (.var 2) (.cst (.str [46])))
  (.cons (.ret (.ite (.cmp .isin (.cst (.str [46])) (.var 1)) (.var 1) (.bin .add (.var 1) (.var 2))))
  .nil)
  .nil)
  (.cons (.ite (.cmp .eq (.bm .strip (.var 1) (.cons (.cst (.str [45])) .nil)) (.cst (.str [48])))
  (.cons (.ret (.bin .add (.sl (.var 1) .none (.some (.neg (.cst (.int 1))))) (.var 2)))
  .nil)
  .nil)
  (.cons (.ret (.ite (.cmp .eq (.blt .len (.cons (.repl (.bm .strip (.var 1) (.cons (.cst (.str [45])) .nil)) 46 []) .nil)) (.ix (.var 0) (.cst (.int 1)))) (.var 1) (.bin .add (.var 1) (.var 2))))
  .nil)))⟩
def f_begun : Fn := ⟨1, 1, (.cons (.ret (.ite (.cmp .eq (.var 0) (.cst (.str [46]))) (.cst (.str [48, 46])) (.var 0)))
  .nil)⟩
def f_sign_turned : Fn := ⟨1, 2, (.cons (.ite (.cmp .isn (.fld 0 0 (.var 0)) (.cst .non))
  (.cons (.asg (.nam 1) (.ite (.cmp .eq (.sl (.fld 0 0 (.var 0)) .none (.some (.cst (.int 1)))) (.cst (.str [45]))) (.sl (.fld 0 0 (.var 0)) (.some (.cst (.int 1))) .none) (.bin .add (.cst (.str [45])) (.fld 0 0 (.var 0)))))
  (.cons (.ret (.call false 19 (.cons (.var 0) (.cons (.var 1) (.cons (.fld 0 3 (.var 0)) .nil)))))
  .nil))
  .nil)
  (.cons (.ret (.call false 18 (.cons (.var 0) (.cons (.tup (.cons (.neg (.ix (.fld 0 1 (.var 0)) (.cst (.int 0)))) (.cons (.ix (.fld 0 1 (.var 0)) (.cst (.int 1))) .nil))) (.cons (.fld 0 2 (.var 0)) (.cons (.fld 0 3 (.var 0)) .nil))))))
  .nil))⟩
def f_stored : Fn := ⟨2, 4, (.cons (.asg (.nam 2) (.call false 8 (.cons (.cst (.str [43])) (.cons (.fld 0 5 (.var 1)) (.cons (.mth false 0 13 (.var 1) .nil) (.cons (.ix (.var 0) (.cst (.int 1))) .nil))))))
  (.cons (.ite (.cmp .is (.var 2) (.cst .non))
  (.cons (.ret (.call false 17 (.cons (.var 1) .nil)))
  .nil)
  .nil)
  (.cons (.asg (.nam 3) (.or (.cons (.fld 0 2 (.var 1)) (.cons (.cmp .eq (.ix (.var 0) (.cst (.int 0))) (.cst (.str [112, 105, 108, 101]))) .nil))))
  (.cons (.ret (.mk false 0 (.cons (.cst .non) (.cons (.mth false 0 13 (.var 1) .nil) (.cons (.var 3) (.cons (.fld 0 3 (.var 1)) (.cons (.fld 0 4 (.var 1)) (.cons (.var 2) (.cons (.fld 0 6 (.var 1)) .nil)))))))))
  .nil))))⟩
def f_emptied : Fn := ⟨1, 1, (.cons (.ret (.mk false 0 (.cons (.fld 0 0 (.var 0)) (.cons (.fld 0 1 (.var 0)) (.cons (.fld 0 2 (.var 0)) (.cons (.fld 0 3 (.var 0)) (.cons (.fld 0 4 (.var 0)) (.cons (.glb 3) (.cons (.fld 0 6 (.var 0)) .nil)))))))))
  .nil)⟩
def f_part_of : Fn := ⟨3, 3, (.cons (.ret (.call false 9 (.cons (.ite (.cmp .is (.var 1) (.cst .non)) (.tup (.cons (.cst (.int 1)) (.cons (.cst (.int 0)) .nil))) (.var 1)) (.cons (.var 2) (.cons (.ix (.var 0) (.cst (.int 1))) .nil)))))
  .nil)⟩
def f_rank_of : Fn := ⟨2, 2, (.cons (.ret (.ite (.and (.cons (.cmp .eq (.ix (.var 0) (.cst (.int 0))) (.cst (.str [114, 97, 110, 107]))) (.cons (.cmp .isin (.var 1) (.cst (.str [42, 47]))) .nil))) (.cst (.int 2)) (.cst (.int 1))))
  .nil)⟩
def f_is_op : Fn := ⟨1, 1, (.cons (.ret (.and (.cons (.blt .bool (.cons (.fld 0 3 (.var 0)) .nil)) (.cons (.cmp .ne (.ix (.fld 0 3 (.var 0)) (.neg (.cst (.int 1)))) (.glb 4)) .nil))))
  .nil)⟩
def f_reduced : Fn := ⟨4, 4, (.cons (.whl (.and (.cons (.val (.var 1)) (.cons (.cmp .ne (.ix (.var 1) (.neg (.cst (.int 1)))) (.glb 4)) (.cons (.cmp .isn (.var 2) (.cst .non)) (.cons (.cmp .ge (.call false 26 (.cons (.var 0) (.cons (.ix (.ix (.var 1) (.neg (.cst (.int 1)))) (.cst (.int 1))) .nil))) (.var 3)) .nil)))))
  (.cons (.asg (.nam 2) (.call false 8 (.cons (.ix (.ix (.var 1) (.neg (.cst (.int 1)))) (.cst (.int 1))) (.cons (.ix (.ix (.var 1) (.neg (.cst (.int 1)))) (.cst (.int 0))) (.cons (.var 2) (.cons (.ix (.var 0) (.cst (.int 1))) .nil))))))
  (.cons (.asg (.nam 1) (.sl (.var 1) .none (.some (.neg (.cst (.int 1))))))
  .nil)))
  (.cons (.ret (.tup (.cons (.var 1) (.cons (.var 2) .nil))))
  .nil))⟩
def f_operated : Fn := ⟨3, 5, (.cons (.asg (.tup (.cons (.nam 3) (.cons (.nam 4) .nil))) (.tup (.cons (.mth false 0 13 (.var 1) .nil) (.cons (.fld 0 3 (.var 1)) .nil))))
  (.cons (.ite (.and (.cons (.not (.val (.fld 0 2 (.var 1)))) (.cons (.val (.call false 27 (.cons (.var 1) .nil))) .nil)))
  (.cons (.asg (.tup (.cons (.nam 3) (.cons (.nam 4) .nil))) (.tup (.cons (.ix (.ix (.var 4) (.neg (.cst (.int 1)))) (.cst (.int 0))) (.cons (.sl (.var 4) .none (.some (.neg (.cst (.int 1))))) .nil))))
  .nil)
  .nil)
  (.cons (.asg (.tup (.cons (.nam 4) (.cons (.nam 3) .nil))) (.call false 28 (.cons (.var 0) (.cons (.var 4) (.cons (.var 3) (.cons (.call false 26 (.cons (.var 0) (.cons (.var 2) .nil))) .nil))))))
  (.cons (.ite (.cmp .is (.var 3) (.cst .non))
  (.cons (.ret (.call false 17 (.cons (.var 1) .nil)))
  .nil)
  .nil)
  (.cons (.ret (.call false 18 (.cons (.var 1) (.cons (.var 3) (.cons (.cst (.bl false)) (.cons (.bin .add (.var 4) (.tup (.cons (.tup (.cons (.var 3) (.cons (.var 2) .nil))) .nil))) .nil))))))
  .nil)))))⟩
def f_equalled : Fn := ⟨2, 7, (.cons (.asg (.tup (.cons (.nam 2) (.cons (.nam 3) (.cons (.nam 4) .nil)))) (.tup (.cons (.mth false 0 13 (.var 1) .nil) (.cons (.fld 0 3 (.var 1)) (.cons (.fld 0 4 (.var 1)) .nil)))))
  (.cons (.asg (.nam 5) (.lc false [6] (.nam 6) (.seq (.var 3)) (.some (.cmp .ne (.var 6) (.glb 4))) (.var 6)))
  (.cons (.ite (.val (.var 5))
  (.cons (.asg (.nam 4) (.tup (.cons (.ix (.ix (.var 5) (.neg (.cst (.int 1)))) (.cst (.int 1))) (.cons (.var 2) .nil))))
  .nil)
  (.cons (.ite (.cmp .isn (.var 4) (.cst .non))
  (.cons (.asg (.nam 2) (.call false 8 (.cons (.ix (.var 4) (.cst (.int 0))) (.cons (.var 2) (.cons (.ix (.var 4) (.cst (.int 1))) (.cons (.ix (.var 0) (.cst (.int 1))) .nil))))))
  .nil)
  .nil)
  .nil))
  (.cons (.whl (.and (.cons (.val (.var 3)) (.cons (.cmp .isn (.var 2) (.cst .non)) .nil)))
  (.cons (.asg (.tup (.cons (.nam 3) (.cons (.nam 2) .nil))) (.call false 28 (.cons (.var 0) (.cons (.var 3) (.cons (.var 2) (.cons (.cst (.int 1)) .nil))))))
  (.cons (.ite (.and (.cons (.val (.var 3)) (.cons (.cmp .isn (.var 2) (.cst .non)) .nil)))
  (.cons (.asg (.nam 3) (.sl (.var 3) .none (.some (.neg (.cst (.int 1))))))
  .nil)
  .nil)
  .nil)))
  (.cons (.ite (.cmp .is (.var 2) (.cst .non))
  (.cons (.ret (.call false 17 (.cons (.var 1) .nil)))
  .nil)
  .nil)
  (.cons (.ret (.mk false 0 (.cons (.cst .non) (.cons (.var 2) (.cons (.cst (.bl true)) (.cons (.tup .nil) (.cons (.var 4) (.cons (.fld 0 5 (.var 1)) (.cons (.cst (.str [101, 110, 100, 101, 100])) .nil)))))))))
  .nil))))))⟩
def f_opened : Fn := ⟨1, 1, (.cons (.ite (.cmp .eq (.fld 0 6 (.var 0)) (.cst (.str [101, 110, 100, 101, 100])))
  (.cons (.ret (.call false 18 (.cons (.var 0) (.cons (.glb 3) (.cons (.cst (.bl false)) (.cons (.tup (.cons (.glb 4) .nil)) .nil))))))
  .nil)
  .nil)
  (.cons (.ite (.or (.cons (.val (.fld 0 2 (.var 0))) (.cons (.cmp .eq (.bm .count (.fld 0 3 (.var 0)) (.cons (.glb 4) .nil)) (.glb 5)) .nil)))
  (.cons (.ret (.var 0))
  .nil)
  .nil)
  (.cons (.ret (.call false 18 (.cons (.var 0) (.cons (.glb 3) (.cons (.cst (.bl false)) (.cons (.bin .add (.fld 0 3 (.var 0)) (.tup (.cons (.glb 4) .nil))) .nil))))))
  .nil)))⟩
def f_closed : Fn := ⟨2, 4, (.cons (.ite (.cmp .nin (.glb 4) (.fld 0 3 (.var 1)))
  (.cons (.ret (.var 1))
  .nil)
  .nil)
  (.cons (.asg (.tup (.cons (.nam 2) (.cons (.nam 3) .nil))) (.call false 28 (.cons (.var 0) (.cons (.fld 0 3 (.var 1)) (.cons (.mth false 0 13 (.var 1) .nil) (.cons (.cst (.int 1)) .nil))))))
  (.cons (.ret (.call false 18 (.cons (.var 1) (.cons (.var 3) (.cons (.cst (.bl true)) (.cons (.sl (.var 2) .none (.some (.neg (.cst (.int 1))))) .nil))))))
  .nil)))⟩
def f_percent : Fn := ⟨2, 3, (.cons (.asg (.nam 2) (.cst .non))
  (.cons (.ite (.and (.cons (.val (.call false 27 (.cons (.var 1) .nil))) (.cons (.cmp .isin (.ix (.ix (.fld 0 3 (.var 1)) (.neg (.cst (.int 1)))) (.cst (.int 1))) (.cst (.str [43, 45]))) .nil)))
  (.cons (.asg (.nam 2) (.ix (.ix (.fld 0 3 (.var 1)) (.neg (.cst (.int 1)))) (.cst (.int 0))))
  .nil)
  .nil)
  (.cons (.ret (.call false 18 (.cons (.var 1) (.cons (.call false 25 (.cons (.var 0) (.cons (.var 2) (.cons (.mth false 0 13 (.var 1) .nil) .nil)))) (.cons (.cst (.bl true)) (.cons (.fld 0 3 (.var 1)) .nil))))))
  .nil)))⟩
def f_ordered : Fn := ⟨3, 5, (.cons (.ite (.cmp .isin (.var 2) (.cst (.str [48, 49, 50, 51, 52, 53, 54, 55, 56, 57, 46])))
  (.cons (.asg (.nam 3) (.ite (.cmp .is (.fld 0 0 (.var 1)) (.cst .non)) (.call false 21 (.cons (.var 2) .nil)) (.call false 20 (.cons (.var 0) (.cons (.fld 0 0 (.var 1)) (.cons (.var 2) .nil))))))
  (.cons (.ret (.call false 19 (.cons (.var 1) (.cons (.var 3) (.cons (.fld 0 3 (.var 1)) .nil)))))
  .nil))
  .nil)
  (.cons (.ite (.cmp .isin (.var 2) (.cst (.str [43, 45, 42, 47])))
  (.cons (.ret (.call false 29 (.cons (.var 0) (.cons (.var 1) (.cons (.var 2) .nil)))))
  .nil)
  .nil)
  (.cons (.ite (.cmp .eq (.var 2) (.cst (.str [61])))
  (.cons (.ret (.call false 30 (.cons (.var 0) (.cons (.var 1) .nil))))
  .nil)
  .nil)
  (.cons (.ite (.cmp .eq (.var 2) (.cst (.str [78])))
  (.cons (.asg (.nam 4) (.call false 22 (.cons (.var 1) .nil)))
  (.cons (.ret (.ite (.cmp .is (.fld 0 0 (.var 4)) (.cst .non)) (.call false 18 (.cons (.var 4) (.cons (.fld 0 1 (.var 4)) (.cons (.cst (.bl true)) (.cons (.fld 0 3 (.var 4)) .nil))))) (.var 4)))
  .nil))
  .nil)
  (.cons (.ite (.cmp .eq (.var 2) (.cst (.str [66])))
  (.cons (.ret (.call false 18 (.cons (.var 1) (.cons (.glb 3) (.cons (.cst (.bl false)) (.cons (.fld 0 3 (.var 1)) .nil))))))
  .nil)
  .nil)
  (.cons (.ite (.cmp .eq (.var 2) (.cst (.str [80])))
  (.cons (.ret (.call false 33 (.cons (.var 0) (.cons (.var 1) .nil))))
  .nil)
  .nil)
  (.cons (.ite (.cmp .eq (.var 2) (.cst (.str [82])))
  (.cons (.ret (.call false 18 (.cons (.var 1) (.cons (.fld 0 5 (.var 1)) (.cons (.cst (.bl true)) (.cons (.fld 0 3 (.var 1)) .nil))))))
  .nil)
  .nil)
  (.cons (.ite (.and (.cons (.cmp .eq (.ix (.var 0) (.cst (.int 0))) (.cst (.str [114, 97, 110, 107]))) (.cons (.cmp .eq (.var 2) (.cst (.str [40]))) .nil)))
  (.cons (.ret (.call false 31 (.cons (.var 1) .nil)))
  .nil)
  .nil)
  (.cons (.ite (.and (.cons (.cmp .eq (.ix (.var 0) (.cst (.int 0))) (.cst (.str [114, 97, 110, 107]))) (.cons (.cmp .eq (.var 2) (.cst (.str [41]))) .nil)))
  (.cons (.ret (.call false 32 (.cons (.var 0) (.cons (.var 1) .nil))))
  .nil)
  .nil)
  (.cons (.ret (.var 1))
  .nil))))))))))⟩
def f_lifted : Fn := ⟨1, 1, (.cons (.ret (.bin .add (.tup (.cons (.mth false 0 13 (.var 0) .nil) .nil)) (.sl (.fld 0 3 (.var 0)) .none (.some (.cst (.int 2))))))
  .nil)⟩
def f_typed_on : Fn := ⟨3, 3, (.cons (.ite (.cmp .isn (.fld 0 0 (.var 1)) (.cst .non))
  (.cons (.ret (.call false 19 (.cons (.var 1) (.cons (.call false 20 (.cons (.var 0) (.cons (.fld 0 0 (.var 1)) (.cons (.var 2) .nil)))) (.cons (.fld 0 3 (.var 1)) .nil)))))
  .nil)
  .nil)
  (.cons (.ret (.call false 19 (.cons (.var 1) (.cons (.call false 21 (.cons (.var 2) .nil)) (.cons (.ite (.val (.fld 0 2 (.var 1))) (.call false 35 (.cons (.var 1) .nil)) (.fld 0 3 (.var 1))) .nil)))))
  .nil))⟩
def f_recalled : Fn := ⟨1, 2, (.cons (.asg (.nam 1) (.ite (.or (.cons (.val (.fld 0 2 (.var 0))) (.cons (.cmp .isn (.fld 0 0 (.var 0)) (.cst .non)) .nil))) (.call false 35 (.cons (.var 0) .nil)) (.fld 0 3 (.var 0))))
  (.cons (.ret (.call false 18 (.cons (.var 0) (.cons (.fld 0 5 (.var 0)) (.cons (.cst (.bl true)) (.cons (.var 1) .nil))))))
  .nil))⟩
def f_piled : Fn := ⟨3, 6, (.cons (.asg (.tup (.cons (.nam 3) (.cons (.nam 4) (.cons (.nam 5) .nil)))) (.fld 0 3 (.var 1)))
  (.cons (.ite (.cmp .isin (.var 2) (.cst (.str [48, 49, 50, 51, 52, 53, 54, 55, 56, 57, 46])))
  (.cons (.ret (.call false 36 (.cons (.var 0) (.cons (.var 1) (.cons (.var 2) .nil)))))
  .nil)
  .nil)
  (.cons (.ite (.cmp .isin (.var 2) (.cst (.str [43, 45, 42, 47])))
  (.cons (.ret (.call false 18 (.cons (.var 1) (.cons (.call false 8 (.cons (.var 2) (.cons (.var 3) (.cons (.mth false 0 13 (.var 1) .nil) (.cons (.ix (.var 0) (.cst (.int 1))) .nil))))) (.cons (.cst (.bl true)) (.cons (.tup (.cons (.var 4) (.cons (.var 5) (.cons (.var 5) .nil)))) .nil))))))
  .nil)
  .nil)
  (.cons (.ite (.cmp .eq (.var 2) (.cst (.str [69])))
  (.cons (.ret (.call false 18 (.cons (.var 1) (.cons (.mth false 0 13 (.var 1) .nil) (.cons (.cst (.bl false)) (.cons (.call false 35 (.cons (.var 1) .nil)) .nil))))))
  .nil)
  .nil)
  (.cons (.ite (.cmp .eq (.var 2) (.cst (.str [88])))
  (.cons (.ret (.call false 18 (.cons (.var 1) (.cons (.var 3) (.cons (.cst (.bl true)) (.cons (.tup (.cons (.mth false 0 13 (.var 1) .nil) (.cons (.var 4) (.cons (.var 5) .nil)))) .nil))))))
  .nil)
  .nil)
  (.cons (.ite (.cmp .eq (.var 2) (.cst (.str [68])))
  (.cons (.ret (.call false 18 (.cons (.var 1) (.cons (.var 3) (.cons (.cst (.bl true)) (.cons (.tup (.cons (.var 4) (.cons (.var 5) (.cons (.mth false 0 13 (.var 1) .nil) .nil)))) .nil))))))
  .nil)
  .nil)
  (.cons (.ite (.cmp .eq (.var 2) (.cst (.str [78])))
  (.cons (.ret (.call false 22 (.cons (.var 1) .nil)))
  .nil)
  .nil)
  (.cons (.ite (.cmp .eq (.var 2) (.cst (.str [66])))
  (.cons (.ret (.call false 18 (.cons (.var 1) (.cons (.glb 3) (.cons (.cst (.bl false)) (.cons (.fld 0 3 (.var 1)) .nil))))))
  .nil)
  .nil)
  (.cons (.ite (.cmp .eq (.var 2) (.cst (.str [80])))
  (.cons (.ret (.call false 18 (.cons (.var 1) (.cons (.call false 25 (.cons (.var 0) (.cons (.var 3) (.cons (.mth false 0 13 (.var 1) .nil) .nil)))) (.cons (.cst (.bl true)) (.cons (.fld 0 3 (.var 1)) .nil))))))
  .nil)
  .nil)
  (.cons (.ret (.ite (.cmp .eq (.var 2) (.cst (.str [82]))) (.call false 37 (.cons (.var 1) .nil)) (.var 1)))
  .nil))))))))))⟩
def f_stand_behind : Fn := ⟨3, 3, (.cons (.ite (.cmp .eq (.var 2) (.cst (.str [67])))
  (.cons (.ret (.call false 16 (.cons (.var 0) (.cons (.fld 0 5 (.var 1)) .nil))))
  .nil)
  .nil)
  (.cons (.ite (.cmp .eq (.fld 0 6 (.var 1)) (.cst (.str [102, 97, 117, 108, 116])))
  (.cons (.ret (.var 1))
  .nil)
  .nil)
  (.cons (.ite (.cmp .eq (.var 2) (.cst (.str [77])))
  (.cons (.ret (.call false 23 (.cons (.var 0) (.cons (.var 1) .nil))))
  .nil)
  .nil)
  (.cons (.ite (.cmp .eq (.var 2) (.cst (.str [90])))
  (.cons (.ret (.call false 24 (.cons (.var 1) .nil)))
  .nil)
  .nil)
  (.cons (.ite (.cmp .eq (.ix (.var 0) (.cst (.int 0))) (.cst (.str [112, 105, 108, 101])))
  (.cons (.ret (.call false 38 (.cons (.var 0) (.cons (.var 1) (.cons (.var 2) .nil)))))
  .nil)
  .nil)
  (.cons (.ret (.call false 34 (.cons (.var 0) (.cons (.var 1) (.cons (.var 2) .nil)))))
  .nil))))))⟩
def f_played : Fn := ⟨2, 5, (.cons (.expr (.call false 5 (.cons (.var 0) (.cons (.var 1) .nil))))
  (.cons (.asg (.nam 2) (.call false 16 (.cons (.var 0) (.cons (.glb 3) .nil))))
  (.cons (.asg (.nam 3) (.lst true .nil))
  (.cons (.loop (.nam 4) (.seq (.var 1))
  (.cons (.asg (.nam 2) (.call false 39 (.cons (.var 0) (.cons (.var 2) (.cons (.var 4) .nil)))))
  (.cons (.expr (.bm .append (.var 3) (.cons (.mth false 0 14 (.var 2) .nil) .nil)))
  .nil)))
  (.cons (.ret (.var 3))
  .nil)))))⟩
def f__law_cell : Fn := ⟨2, 2, (.cons (.ite (.cmp .lt (.var 1) (.blt .len (.cons (.var 0) .nil)))
  (.cons (.ret (.ix (.var 0) (.var 1)))
  .nil)
  .nil)
  (.cons (.ret (.cst (.int 0)))
  .nil))⟩
def f_law : Fn := ⟨1, 8, (.cons (.asg (.nam 1) (.bin .add (.cst (.int 3)) (.bin .mod (.call false 117 (.cons (.var 0) (.cons (.cst (.int 0)) .nil))) (.cst (.int 6)))))
  (.cons (.asg (.tup (.cons (.nam 2) (.cons (.nam 3) .nil))) (.tup (.cons (.bin .mul (.cst (.str [57])) (.var 1)) (.cons (.bin .add (.cst (.str [49])) (.bin .mul (.cst (.str [48])) (.bin .sub (.var 1) (.cst (.int 1))))) .nil))))
  (.cons (.asg (.nam 4) (.ix (.lst false (.cons (.cst (.str [99, 104, 97, 105, 110])) (.cons (.cst (.str [114, 97, 110, 107])) .nil))) (.bin .mod (.call false 117 (.cons (.var 0) (.cons (.cst (.int 1)) .nil))) (.cst (.int 2)))))
  (.cons (.asg (.nam 5) (.tup (.cons (.var 4) (.cons (.var 1) .nil))))
  (.cons (.ite (.or (.cons (.cmp .ne (.ix (.call false 45 (.cons (.var 5) (.cons (.bin .add (.var 2) (.cst (.str [55]))) .nil))) (.neg (.cst (.int 1)))) (.var 2)) (.cons (.cmp .ne (.ix (.call false 45 (.cons (.var 5) (.cons (.bin .add (.var 2) (.cst (.str [43, 49, 61]))) .nil))) (.neg (.cst (.int 1)))) (.cst (.str [69]))) .nil)))
  (.cons (.ret (.cst (.bl false)))
  .nil)
  .nil)
  (.cons (.ite (.or (.cons (.cmp .ne (.ix (.call false 45 (.cons (.var 5) (.cons (.bin .add (.var 3) (.cst (.str [42, 49, 48, 61]))) .nil))) (.neg (.cst (.int 1)))) (.cst (.str [69]))) (.cons (.cmp .ne (.ix (.call false 45 (.cons (.var 5) (.cons (.bin .add (.var 3) (.cst (.str [42, 57, 61]))) .nil))) (.neg (.cst (.int 1)))) (.bin .add (.cst (.str [57])) (.bin .mul (.cst (.str [48])) (.bin .sub (.var 1) (.cst (.int 1)))))) .nil)))
  (.cons (.ret (.cst (.bl false)))
  .nil)
  .nil)
  (.cons (.ite (.or (.cons (.cmp .ne (.ix (.call false 45 (.cons (.var 5) (.cons (.bin .add (.bin .add (.bin .add (.var 2) (.cst (.str [78, 77]))) (.var 2)) (.cst (.str [78, 77]))) .nil))) (.neg (.cst (.int 1)))) (.cst (.str [69]))) (.cons (.cmp .ne (.ix (.call false 45 (.cons (.var 5) (.cons (.cst (.str [49, 47, 48, 61])) .nil))) (.neg (.cst (.int 1)))) (.cst (.str [69]))) .nil)))
  (.cons (.ret (.cst (.bl false)))
  .nil)
  .nil)
  (.cons (.ite (.cmp .ne (.ix (.call false 45 (.cons (.var 5) (.cons (.bin .add (.bin .add (.cst (.str [48, 46])) (.bin .mul (.cst (.str [48])) (.bin .sub (.var 1) (.cst (.int 1))))) (.cst (.str [49]))) .nil))) (.neg (.cst (.int 1)))) (.bin .add (.cst (.str [48, 46])) (.bin .mul (.cst (.str [48])) (.bin .sub (.var 1) (.cst (.int 1))))))
  (.cons (.ret (.cst (.bl false)))
  .nil)
  .nil)
  (.cons (.ite (.cmp .ne (.ix (.call false 45 (.cons (.var 5) (.cons (.bin .add (.bin .add (.cst (.str [49, 47])) (.var 3)) (.cst (.str [61]))) .nil))) (.neg (.cst (.int 1)))) (.bin .add (.bin .add (.cst (.str [48, 46])) (.bin .mul (.cst (.str [48])) (.bin .sub (.var 1) (.cst (.int 2))))) (.cst (.str [49]))))
  (.cons (.ret (.cst (.bl false)))
  .nil)
  .nil)
  (.cons (.ite (.cmp .ne (.ix (.call false 45 (.cons (.var 5) (.cons (.bin .add (.bin .add (.cst (.str [49, 47])) (.var 3)) (.cst (.str [47, 50, 61]))) .nil))) (.neg (.cst (.int 1)))) (.cst (.str [48])))
  (.cons (.ret (.cst (.bl false)))
  .nil)
  .nil)
  (.cons (.asg (.nam 6) (.bin .add (.cst (.int 2)) (.bin .mod (.call false 117 (.cons (.var 0) (.cons (.cst (.int 2)) .nil))) (.cst (.int 3)))))
  (.cons (.asg (.nam 7) (.bin .add (.cst (.int 1)) (.bin .mod (.call false 117 (.cons (.var 0) (.cons (.cst (.int 3)) .nil))) (.cst (.int 5)))))
  (.cons (.ite (.cmp .ne (.ix (.call false 45 (.cons (.var 5) (.cons (.bin .add (.bin .add (.cst (.str [49, 43])) (.blt .str (.cons (.var 6) .nil))) (.bin .mul (.cst (.str [61])) (.var 7))) .nil))) (.neg (.cst (.int 1)))) (.blt .str (.cons (.bin .add (.cst (.int 1)) (.bin .mul (.var 6) (.var 7))) .nil)))
  (.cons (.ret (.cst (.bl false)))
  .nil)
  .nil)
  (.cons (.ite (.or (.cons (.cmp .ne (.ix (.call false 45 (.cons (.var 5) (.cons (.cst (.str [53, 43, 61])) .nil))) (.neg (.cst (.int 1)))) (.cst (.str [49, 48]))) (.cons (.cmp .ne (.ix (.call false 45 (.cons (.var 5) (.cons (.cst (.str [51, 42, 52, 61, 53, 61])) .nil))) (.neg (.cst (.int 1)))) (.cst (.str [50, 48]))) (.cons (.cmp .ne (.ix (.call false 45 (.cons (.var 5) (.cons (.cst (.str [55, 45, 50, 61, 43, 61])) .nil))) (.neg (.cst (.int 1)))) (.cst (.str [49, 48]))) .nil))))
  (.cons (.ret (.cst (.bl false)))
  .nil)
  .nil)
  (.cons (.ite (.or (.cons (.cmp .ne (.ix (.call false 45 (.cons (.var 5) (.cons (.cst (.str [53, 48, 43, 49, 48, 80, 61])) .nil))) (.neg (.cst (.int 1)))) (.cst (.str [53, 53]))) (.cons (.cmp .ne (.ix (.call false 45 (.cons (.var 5) (.cons (.cst (.str [53, 48, 42, 49, 48, 80, 61])) .nil))) (.neg (.cst (.int 1)))) (.cst (.str [53]))) (.cons (.cmp .ne (.ix (.call false 45 (.cons (.var 5) (.cons (.cst (.str [50, 48, 80])) .nil))) (.neg (.cst (.int 1)))) (.cst (.str [48, 46, 50]))) .nil))))
  (.cons (.ret (.cst (.bl false)))
  .nil)
  .nil)
  (.cons (.ite (.or (.cons (.cmp .ne (.ix (.call false 45 (.cons (.var 5) (.cons (.cst (.str [50, 43, 51, 66, 52, 61])) .nil))) (.neg (.cst (.int 1)))) (.cst (.str [54]))) (.cons (.cmp .ne (.ix (.call false 45 (.cons (.var 5) (.cons (.cst (.str [50, 43, 51, 42, 52, 61])) .nil))) (.neg (.cst (.int 1)))) (.ix (.lst false (.cons (.cst (.str [50, 48])) (.cons (.cst (.str [49, 52])) .nil))) (.blt .int (.cons (.cmp .eq (.var 4) (.cst (.str [114, 97, 110, 107]))) .nil)))) .nil)))
  (.cons (.ret (.cst (.bl false)))
  .nil)
  .nil)
  (.cons (.ite (.or (.cons (.cmp .ne (.ix (.call false 45 (.cons (.var 5) (.cons (.cst (.str [50, 43, 42, 52, 61])) .nil))) (.neg (.cst (.int 1)))) (.cst (.str [56]))) (.cons (.cmp .ne (.ix (.call false 45 (.cons (.var 5) (.cons (.cst (.str [50, 42, 51, 45, 43, 49, 61])) .nil))) (.neg (.cst (.int 1)))) (.cst (.str [55]))) (.cons (.cmp .ne (.ix (.call false 45 (.cons (.var 5) (.cons (.cst (.str [53, 77, 67, 51, 43, 82, 61])) .nil))) (.neg (.cst (.int 1)))) (.cst (.str [56]))) .nil))))
  (.cons (.ret (.cst (.bl false)))
  .nil)
  .nil)
  (.cons (.ret (.cmp .eq (.call false 45 (.cons (.var 5) (.cons (.cst (.str [])) .nil))) (.lst false .nil)))
  .nil))))))))))))))))))⟩
def top (i : Nat) : Stmt := PySem.Challenge.pw_keyreckon_k11_at_the_edges.main.body.getD i (.Pass ⟨0, 0, 0, 0⟩)
def ents0 : List Ent := [⟨0, ⟨("is_within", none), "is_within", "is_within", defArgs (top 9), defBody (top 9), defScope (top 9), [], []⟩, ["thing", "low", "high"], f_is_within⟩, ⟨1, ⟨("is_make", none), "is_make", "is_make", defArgs (top 10), defBody (top 10), defScope (top 10), [], []⟩, ["thing"], f_is_make⟩, ⟨2, ⟨("look", none), "look", "look", defArgs (top 11), defBody (top 11), defScope (top 11), [], []⟩, ["make"], f_look⟩, ⟨4, ⟨("is_row", none), "is_row", "is_row", defArgs (top 12), defBody (top 12), defScope (top 12), [], []⟩, ["thing", "key"], f_is_row⟩, ⟨5, ⟨("look_row", none), "look_row", "look_row", defArgs (top 13), defBody (top 13), defScope (top 13), [], []⟩, ["make", "row"], f_look_row⟩, ⟨6, ⟨("tens", none), "tens", "tens", defArgs (top 15), defBody (top 15), defScope (top 15), [], []⟩, ["many"], f_tens⟩, ⟨7, ⟨("cut_number", none), "cut_number", "cut_number", defArgs (top 16), defBody (top 16), defScope (top 16), [], []⟩, ["up", "down", "places", "whole", "behind", "found"], f_cut_number⟩, ⟨8, ⟨("operation", none), "operation", "operation", defArgs (top 17), defBody (top 17), defScope (top 17), [], []⟩, ["op", "one", "other", "places", "up", "down", "there"], f_operation⟩]
def ents1 : List Ent := [⟨9, ⟨("hundredth", none), "hundredth", "hundredth", defArgs (top 18), defBody (top 18), defScope (top 18), [], []⟩, ["one", "other", "places"], f_hundredth⟩, ⟨10, ⟨("text_of", none), "text_of", "text_of", defArgs (top 19), defBody (top 19), defScope (top 19), [], []⟩, ["number", "sign", "figures"], f_text_of⟩, ⟨11, ⟨("number_of", none), "number_of", "number_of", defArgs (top 20), defBody (top 20), defScope (top 20), [], []⟩, ["typed", "sign", "parts", "behind"], f_number_of⟩, ⟨12, ⟨("Stand", some "__init__"), "__init__", "Stand.__init__", defArgs (inClass (top 23) 0), defBody (inClass (top 23) 0), defScope (inClass (top 23) 0), [], []⟩, ["self", "typed", "number", "given", "pending", "last", "kept", "word"], f_Stand_init⟩, ⟨13, ⟨("Stand", some "now"), "now", "Stand.now", defArgs (inClass (top 23) 1), defBody (inClass (top 23) 1), defScope (inClass (top 23) 1), [], []⟩, ["self"], f_Stand_now⟩, ⟨14, ⟨("Stand", some "shown"), "shown", "Stand.shown", defArgs (inClass (top 23) 2), defBody (inClass (top 23) 2), defScope (inClass (top 23) 2), [], []⟩, ["self"], f_Stand_shown⟩, ⟨16, ⟨("first_stand", none), "first_stand", "first_stand", defArgs (top 24), defBody (top 24), defScope (top 24), [], []⟩, ["make", "memory"], f_first_stand⟩, ⟨17, ⟨("at_fault", none), "at_fault", "at_fault", defArgs (top 25), defBody (top 25), defScope (top 25), [], []⟩, ["stand"], f_at_fault⟩]
def ents2 : List Ent := [⟨18, ⟨("with_number", none), "with_number", "with_number", defArgs (top 26), defBody (top 26), defScope (top 26), [], []⟩, ["stand", "number", "given", "pending"], f_with_number⟩, ⟨19, ⟨("with_typed", none), "with_typed", "with_typed", defArgs (top 27), defBody (top 27), defScope (top 27), [], []⟩, ["stand", "typed", "pending"], f_with_typed⟩, ⟨20, ⟨("longer", none), "longer", "longer", defArgs (top 28), defBody (top 28), defScope (top 28), [], []⟩, ["make", "typed", "key"], f_longer⟩, ⟨21, ⟨("begun", none), "begun", "begun", defArgs (top 29), defBody (top 29), defScope (top 29), [], []⟩, ["key"], f_begun⟩, ⟨22, ⟨("sign_turned", none), "sign_turned", "sign_turned", defArgs (top 30), defBody (top 30), defScope (top 30), [], []⟩, ["stand", "typed"], f_sign_turned⟩, ⟨23, ⟨("stored", none), "stored", "stored", defArgs (top 31), defBody (top 31), defScope (top 31), [], []⟩, ["make", "stand", "memory", "given"], f_stored⟩, ⟨24, ⟨("emptied", none), "emptied", "emptied", defArgs (top 32), defBody (top 32), defScope (top 32), [], []⟩, ["stand"], f_emptied⟩, ⟨25, ⟨("part_of", none), "part_of", "part_of", defArgs (top 33), defBody (top 33), defScope (top 33), [], []⟩, ["make", "one", "other"], f_part_of⟩]
def ents3 : List Ent := [⟨26, ⟨("rank_of", none), "rank_of", "rank_of", defArgs (top 37), defBody (top 37), defScope (top 37), [], []⟩, ["make", "op"], f_rank_of⟩, ⟨27, ⟨("is_op", none), "is_op", "is_op", defArgs (top 38), defBody (top 38), defScope (top 38), [], []⟩, ["stand"], f_is_op⟩, ⟨28, ⟨("reduced", none), "reduced", "reduced", defArgs (top 39), defBody (top 39), defScope (top 39), [], []⟩, ["make", "pending", "number", "least"], f_reduced⟩, ⟨29, ⟨("operated", none), "operated", "operated", defArgs (top 40), defBody (top 40), defScope (top 40), [], []⟩, ["make", "stand", "op", "number", "pending"], f_operated⟩, ⟨30, ⟨("equalled", none), "equalled", "equalled", defArgs (top 41), defBody (top 41), defScope (top 41), [], []⟩, ["make", "stand", "number", "pending", "last", "ops", "item"], f_equalled⟩, ⟨31, ⟨("opened", none), "opened", "opened", defArgs (top 42), defBody (top 42), defScope (top 42), [], []⟩, ["stand"], f_opened⟩, ⟨32, ⟨("closed", none), "closed", "closed", defArgs (top 43), defBody (top 43), defScope (top 43), [], []⟩, ["make", "stand", "pending", "number"], f_closed⟩, ⟨33, ⟨("percent", none), "percent", "percent", defArgs (top 44), defBody (top 44), defScope (top 44), [], []⟩, ["make", "stand", "base"], f_percent⟩]
def ents4 : List Ent := [⟨34, ⟨("ordered", none), "ordered", "ordered", defArgs (top 45), defBody (top 45), defScope (top 45), [], []⟩, ["make", "stand", "key", "typed", "found"], f_ordered⟩, ⟨35, ⟨("lifted", none), "lifted", "lifted", defArgs (top 47), defBody (top 47), defScope (top 47), [], []⟩, ["stand"], f_lifted⟩, ⟨36, ⟨("typed_on", none), "typed_on", "typed_on", defArgs (top 48), defBody (top 48), defScope (top 48), [], []⟩, ["make", "stand", "key"], f_typed_on⟩, ⟨37, ⟨("recalled", none), "recalled", "recalled", defArgs (top 49), defBody (top 49), defScope (top 49), [], []⟩, ["stand", "pile"], f_recalled⟩, ⟨38, ⟨("piled", none), "piled", "piled", defArgs (top 50), defBody (top 50), defScope (top 50), [], []⟩, ["make", "stand", "key", "one", "two", "three"], f_piled⟩, ⟨39, ⟨("stand_behind", none), "stand_behind", "stand_behind", defArgs (top 52), defBody (top 52), defScope (top 52), [], []⟩, ["make", "stand", "key"], f_stand_behind⟩, ⟨45, ⟨("played", none), "played", "played", defArgs (top 53), defBody (top 53), defScope (top 53), [], []⟩, ["make", "row", "stand", "found", "key"], f_played⟩, ⟨117, ⟨("_law_cell", none), "_law_cell", "_law_cell", defArgs (top 55), defBody (top 55), defScope (top 55), [], []⟩, ["script", "k"], f__law_cell⟩]
def ents5 : List Ent := [⟨999, ⟨("law", none), "law", "law", defArgs (top 56), defBody (top 56), defScope (top 56), [], []⟩, ["script", "places", "nines", "one", "manner", "make", "two", "many"], f_law⟩]
def ents : List Ent := ents0 ++ (ents1 ++ (ents2 ++ (ents3 ++ (ents4 ++ (ents5)))))
def Tb : Tbl := ⟨ents, [(0, "Stand", ["typed", "number", "given", "pending", "last", "kept", "word"], 12)], [(0, "KeyedError"), (1, "NoMake"), (2, "NoKey")], [(0, "MANNERS", (.tup [.str [99, 104, 97, 105, 110], .str [114, 97, 110, 107], .str [112, 105, 108, 101]])), (1, "KEYS", (.str [48, 49, 50, 51, 52, 53, 54, 55, 56, 57, 46, 43, 45, 42, 47, 61, 40, 41, 78, 66, 67, 80, 77, 82, 90, 69, 88, 68])), (2, "MOST_KEYS", (.int 60)), (3, "NOUGHT", (.tup [.int 0, .int 0])), (4, "OPEN", (.tup [.str [40]])), (5, "MOST_OPEN", (.int 4))], [(0, 0, true), (0, 1, false), (0, 2, false), (1, 0, true), (1, 1, true), (1, 2, false), (2, 0, true), (2, 1, false), (2, 2, true)]⟩
def nm0 : List PySem.Str := ["_wall", "__name__", "KeyedError", "NoMake", "NoKey", "MANNERS", "KEYS", "MOST_KEYS", "is_within", "is_make", "look", "is_row", "look_row", "tens", "cut_number", "operation", "hundredth", "text_of", "number_of", "NOUGHT", "Stand", "first_stand", "at_fault", "with_number"]
def nm1 : List PySem.Str := ["with_typed", "longer", "begun", "sign_turned", "stored", "emptied", "part_of", "OPEN", "MOST_OPEN", "rank_of", "is_op", "reduced", "operated", "equalled", "opened", "closed", "percent", "ordered", "lifted", "typed_on", "recalled", "piled", "stand_behind", "played"]
def nm2 : List PySem.Str := ["_law_cell"]
def nm : List PySem.Str := nm0 ++ (nm1 ++ (nm2))
abbrev Rw : PySem.W.OpenRow := PySem.W.OpenLaw.row PySem.Challenge.rw_keyreckon_k11_at_the_edges
abbrev hk : PySem.W.Hook := He.hookX 6 Tb.fa (Tb.ents.map (·.d)) [] [] Tb.ex
def ob (s : PySem.W.SharedT) : He.AlX := He.obsX 6 Tb.fa (Tb.ents.map (·.d)) [] [] Tb.ex (HandSHeadRun.getT s)
theorem ob_eq (s : PySem.W.SharedT) : ob s = hk.obs s.abs := He.obsX_eq (HandSHeadRun.getT_eq s)
theorem hrun (w : World) : HandSHeadRun.RunEq Rw (PySem.W.view Rw.prog [56]) hk ob 6000 nm w := by
  intro os
  kernel_rfl
def lawE : Ent := ⟨999, ⟨("law", none), "law", "law", defArgs (top 56), defBody (top 56), defScope (top 56), [], []⟩, ["script", "places", "nines", "one", "manner", "make", "two", "many"], f_law⟩
theorem lawE_in : lawE ∈ Tb.ents := by
  show lawE ∈ ents
  unfold ents
  simp only [List.mem_append]
  exact .inr (.inr (.inr (.inr (.inr ((by unfold ents5; exact List.mem_cons_self))))))
theorem tok : Tb.ok = true := by kernel_rfl
theorem binds : ∀ e ∈ Tb.ents, BindOk e := by
  intro e he
  have he : e ∈ ents := he
  unfold ents at he
  simp only [List.mem_append] at he
  rcases he with he | he | he | he | he | he
  · unfold ents0 at he
    simp only [List.mem_cons, List.not_mem_nil, or_false] at he
    rcases he with rfl | rfl | rfl | rfl | rfl | rfl | rfl | rfl
    · exact fun _ _ _ _ _ _ us hl => match us, hl with | [_, _, _], _ => rfl
    · exact fun _ _ _ _ _ _ us hl => match us, hl with | [_], _ => rfl
    · exact fun _ _ _ _ _ _ us hl => match us, hl with | [_], _ => rfl
    · exact fun _ _ _ _ _ _ us hl => match us, hl with | [_], _ => rfl
    · exact fun _ _ _ _ _ _ us hl => match us, hl with | [_, _], _ => rfl
    · exact fun _ _ _ _ _ _ us hl => match us, hl with | [_], _ => rfl
    · exact fun _ _ _ _ _ _ us hl => match us, hl with | [_, _, _], _ => rfl
    · exact fun _ _ _ _ _ _ us hl => match us, hl with | [_, _, _, _], _ => rfl
  · unfold ents1 at he
    simp only [List.mem_cons, List.not_mem_nil, or_false] at he
    rcases he with rfl | rfl | rfl | rfl | rfl | rfl | rfl | rfl
    · exact fun _ _ _ _ _ _ us hl => match us, hl with | [_, _, _], _ => rfl
    · exact fun _ _ _ _ _ _ us hl => match us, hl with | [_], _ => rfl
    · exact fun _ _ _ _ _ _ us hl => match us, hl with | [_], _ => rfl
    · exact fun _ _ _ _ _ _ us hl => match us, hl with | [_, _, _, _, _, _, _, _], _ => rfl
    · exact fun _ _ _ _ _ _ us hl => match us, hl with | [_], _ => rfl
    · exact fun _ _ _ _ _ _ us hl => match us, hl with | [_], _ => rfl
    · exact fun _ _ _ _ _ _ us hl => match us, hl with | [_, _], _ => rfl
    · exact fun _ _ _ _ _ _ us hl => match us, hl with | [_], _ => rfl
  · unfold ents2 at he
    simp only [List.mem_cons, List.not_mem_nil, or_false] at he
    rcases he with rfl | rfl | rfl | rfl | rfl | rfl | rfl | rfl
    · exact fun _ _ _ _ _ _ us hl => match us, hl with | [_, _, _, _], _ => rfl
    · exact fun _ _ _ _ _ _ us hl => match us, hl with | [_, _, _], _ => rfl
    · exact fun _ _ _ _ _ _ us hl => match us, hl with | [_, _, _], _ => rfl
    · exact fun _ _ _ _ _ _ us hl => match us, hl with | [_], _ => rfl
    · exact fun _ _ _ _ _ _ us hl => match us, hl with | [_], _ => rfl
    · exact fun _ _ _ _ _ _ us hl => match us, hl with | [_, _], _ => rfl
    · exact fun _ _ _ _ _ _ us hl => match us, hl with | [_], _ => rfl
    · exact fun _ _ _ _ _ _ us hl => match us, hl with | [_, _, _], _ => rfl
  · unfold ents3 at he
    simp only [List.mem_cons, List.not_mem_nil, or_false] at he
    rcases he with rfl | rfl | rfl | rfl | rfl | rfl | rfl | rfl
    · exact fun _ _ _ _ _ _ us hl => match us, hl with | [_, _], _ => rfl
    · exact fun _ _ _ _ _ _ us hl => match us, hl with | [_], _ => rfl
    · exact fun _ _ _ _ _ _ us hl => match us, hl with | [_, _, _, _], _ => rfl
    · exact fun _ _ _ _ _ _ us hl => match us, hl with | [_, _, _], _ => rfl
    · exact fun _ _ _ _ _ _ us hl => match us, hl with | [_, _], _ => rfl
    · exact fun _ _ _ _ _ _ us hl => match us, hl with | [_], _ => rfl
    · exact fun _ _ _ _ _ _ us hl => match us, hl with | [_, _], _ => rfl
    · exact fun _ _ _ _ _ _ us hl => match us, hl with | [_, _], _ => rfl
  · unfold ents4 at he
    simp only [List.mem_cons, List.not_mem_nil, or_false] at he
    rcases he with rfl | rfl | rfl | rfl | rfl | rfl | rfl | rfl
    · exact fun _ _ _ _ _ _ us hl => match us, hl with | [_, _, _], _ => rfl
    · exact fun _ _ _ _ _ _ us hl => match us, hl with | [_], _ => rfl
    · exact fun _ _ _ _ _ _ us hl => match us, hl with | [_, _, _], _ => rfl
    · exact fun _ _ _ _ _ _ us hl => match us, hl with | [_], _ => rfl
    · exact fun _ _ _ _ _ _ us hl => match us, hl with | [_, _, _], _ => rfl
    · exact fun _ _ _ _ _ _ us hl => match us, hl with | [_, _, _], _ => rfl
    · exact fun _ _ _ _ _ _ us hl => match us, hl with | [_, _], _ => rfl
    · exact fun _ _ _ _ _ _ us hl => match us, hl with | [_, _], _ => rfl
  · unfold ents5 at he
    simp only [List.mem_cons, List.not_mem_nil, or_false] at he
    rcases he with rfl
    · exact fun _ _ _ _ _ _ us hl => match us, hl with | [_], _ => rfl
end Kr
namespace Kr
/-- what _law_cell gives -/
def cellv (ns : List Int) (i : Nat) : Int := (ns[i]?).getD 0
theorem run_of {G : Tab} {k f : Nat} {F : Fn} {ws : List W} {S : Sto} (h : G.fn f = some F) (h1 : ws.length = F.np) (h2 : F.np ≤ F.ns) : run G (k + 1) f ws S = (match evB G (run G k) F.body (ws.map some ++ List.replicate (F.ns - F.np) none) S with
      | .nx _ S => .ok (.d .non) S
      | .ret w S => .ok w S
      | .ex c _ S => .ex c S
      | _ => .bad) := by
  show (match G.fn f with
    | some F => if ws.length = F.np ∧ F.np ≤ F.ns then (match evB G (run G k) F.body (ws.map some ++ List.replicate (F.ns - F.np) none) S with
      | .nx _ S => RE.ok (W.d .non) S
      | .ret w S => .ok w S
      | .ex c _ S => .ex c S
      | _ => .bad) else .bad
    | none => .bad) = _
  rw [h]
  dsimp only
  rw [if_pos ⟨h1, h2⟩]
theorem run_cell (ns : List Int) (i k : Nat) : run Tb.G (k + 1) 117 [.d (.scr ns), .d (.int i)] [] = .ok (.d (.int (cellv ns i))) [] := by
  rw [run_of (F := f__law_cell) (by kernel_rfl) rfl (by decide)]
  simp only [f__law_cell, evB, evS, evE, evA, evT, asD, RE.bind, RE.st, RS.sq, rdVar, List.map, List.cons_append, List.nil_append, List.getElem?_cons_zero, List.getElem?_cons_succ, looks, look1, Option.bind, Option.map, evBi, RE.of, opt2, evCmp, evIx]
  unfold cellv
  by_cases h : i < ns.length
  · rw [decide_eq_true (by omega : (i : Int) < (ns.length : Int))]
    have e : ixD (.scr ns) (.int i) = some (.int ((ns[i]?).getD 0)) := by
      show (ixAt ns (i : Int)).map D.int = _
      unfold ixAt
      rw [if_pos (by omega), if_pos (by omega), Int.toNat_natCast, List.getElem?_eq_getElem h]
      rfl
    rw [e]
    rfl
  · rw [decide_eq_false (by omega : ¬ (i : Int) < (ns.length : Int)), List.getElem?_eq_none (by omega)]
    rfl
theorem call_cell (ns : List Int) (i k : Nat) (S : Sto) : callW (run Tb.G (k + 1)) false 117 [.d (.scr ns), .d (.int i)] S = .ok (.d (.int (cellv ns i))) S := by
  show leave false S (run Tb.G (k + 1) 117 [.d (.scr ns), .d (.int i)] []) = _
  rw [run_cell]
  rfl
def Ss.at : Ss → Nat → Option St
  | .nil, _ => none
  | .cons a _, 0 => some a
  | .cons _ r, i + 1 => r.at i
def Ss.drop : Ss → Nat → Ss
  | s, 0 => s
  | .nil, _ => .nil
  | .cons _ r, i + 1 => r.drop i
def Ss.take : Ss → Nat → Ss
  | _, 0 => .nil
  | .nil, _ => .nil
  | .cons a r, i + 1 => .cons a (r.take i)
theorem evB_cut (G : Tab) (C : Cl) : ∀ (s : Ss) (n : Nat) (l : Sl) (S : Sto), evB G C s l S = (evB G C (s.take n) l S).sq fun l S => evB G C (s.drop n) l S
  | .nil, 0, l, S => rfl
  | .nil, n + 1, l, S => rfl
  | .cons a r, 0, l, S => rfl
  | .cons a r, n + 1, l, S => by
    show (evS G C a l S).sq (fun l S => evB G C r l S) = ((evS G C a l S).sq fun l S => evB G C (r.take n) l S).sq fun l S => evB G C (r.drop n) l S
    cases evS G C a l S with
    | nx l S => exact evB_cut G C r n l S
    | _ => rfl
theorem evB_seg {G : Tab} {C : Cl} {s : Ss} {l l2 : Sl} {S S2 : Sto} {r : RS} (n : Nat) (h1 : evB G C (s.take n) l S = .nx l2 S2) (h2 : evB G C (s.drop n) l2 S2 = r) : evB G C s l S = r := by
  rw [evB_cut G C s n, h1]
  exact h2
abbrev C0 : Cl := run Tb.G 20
def lA (ns : List Int) (p : Int) (m : D) (w6 w7 : Option W) : Sl := [some (.d (.scr ns)), some (.d (.int p)), some (.d (.str (repT p [57]))), some (.d (.str ([49] ++ repT (p - 1) [48]))), some (.d m), some (.d (.tup [m, .int p])), w6, w7]
def mOf (r : Int) : D := if r = 0 then .str [99, 104, 97, 105, 110] else .str [114, 97, 110, 107]
theorem mod_cases6 (c : Int) : c % 6 = 0 ∨ c % 6 = 1 ∨ c % 6 = 2 ∨ c % 6 = 3 ∨ c % 6 = 4 ∨ c % 6 = 5 := by omega
theorem mod_cases2 (c : Int) : c % 2 = 0 ∨ c % 2 = 1 := by omega
def lA0 (ns : List Int) (p : Int) : Sl := [some (.d (.scr ns)), some (.d (.int p)), none, none, none, none, none, none]
theorem segA1 (ns : List Int) : evB Tb.G C0 (f_law.body.take 1) [some (.d (.scr ns)), none, none, none, none, none, none, none] [] = .nx (lA0 ns (3 + cellv ns 0 % 6)) [] := by
  have h0 : callW C0 false 117 [W.d (D.scr ns), W.d (D.int 0)] [] = _ := call_cell ns 0 19 []
  simp only [f_law, Ss.take, evB, evS, evE, evA, evT, evG, evGs, asD, RE.bind, RE.st, RS.sq, rdVar, List.getElem?_cons_zero, List.getElem?_cons_succ, look1, Option.bind, Option.map, RE.of, opt2, evIx, h0]
  rfl

theorem dr2 : (f_law.body.drop 1).drop 1 = f_law.body.drop 2 := rfl
theorem dr3 : (f_law.body.drop 2).drop 1 = f_law.body.drop 3 := rfl
theorem dr4 : (f_law.body.drop 3).drop 1 = f_law.body.drop 4 := rfl
theorem dr10 : (f_law.body.drop 4).drop 6 = f_law.body.drop 10 := rfl
theorem dr12 : (f_law.body.drop 10).drop 2 = f_law.body.drop 12 := rfl
theorem dr13 : (f_law.body.drop 12).drop 1 = f_law.body.drop 13 := rfl
theorem segB_3_0 (ns : List Int) : evB Tb.G C0 ((f_law.body.drop 4).take 6) (lA ns 3 (mOf 0) none none) [] = .nx (lA ns 3 (mOf 0) none none) [] := by kernel_rfl
theorem segE_3_0 (ns : List Int) (w6 w7 : Option W) : evB Tb.G C0 (f_law.body.drop 13) (lA ns 3 (mOf 0) w6 w7) [] = .ret (.d (.bl true)) [] := by kernel_rfl
theorem segD_3_0_2_1 (ns : List Int) : evB Tb.G C0 ((f_law.body.drop 12).take 1) (lA ns 3 (mOf 0) (some (.d (.int 2))) (some (.d (.int 1)))) [] = .nx (lA ns 3 (mOf 0) (some (.d (.int 2))) (some (.d (.int 1)))) [] := by kernel_rfl
theorem segD_3_0_2_2 (ns : List Int) : evB Tb.G C0 ((f_law.body.drop 12).take 1) (lA ns 3 (mOf 0) (some (.d (.int 2))) (some (.d (.int 2)))) [] = .nx (lA ns 3 (mOf 0) (some (.d (.int 2))) (some (.d (.int 2)))) [] := by kernel_rfl
theorem segD_3_0_2_3 (ns : List Int) : evB Tb.G C0 ((f_law.body.drop 12).take 1) (lA ns 3 (mOf 0) (some (.d (.int 2))) (some (.d (.int 3)))) [] = .nx (lA ns 3 (mOf 0) (some (.d (.int 2))) (some (.d (.int 3)))) [] := by kernel_rfl
theorem segD_3_0_2_4 (ns : List Int) : evB Tb.G C0 ((f_law.body.drop 12).take 1) (lA ns 3 (mOf 0) (some (.d (.int 2))) (some (.d (.int 4)))) [] = .nx (lA ns 3 (mOf 0) (some (.d (.int 2))) (some (.d (.int 4)))) [] := by kernel_rfl
theorem segD_3_0_2_5 (ns : List Int) : evB Tb.G C0 ((f_law.body.drop 12).take 1) (lA ns 3 (mOf 0) (some (.d (.int 2))) (some (.d (.int 5)))) [] = .nx (lA ns 3 (mOf 0) (some (.d (.int 2))) (some (.d (.int 5)))) [] := by kernel_rfl
theorem segD_3_0_3_1 (ns : List Int) : evB Tb.G C0 ((f_law.body.drop 12).take 1) (lA ns 3 (mOf 0) (some (.d (.int 3))) (some (.d (.int 1)))) [] = .nx (lA ns 3 (mOf 0) (some (.d (.int 3))) (some (.d (.int 1)))) [] := by kernel_rfl
theorem segD_3_0_3_2 (ns : List Int) : evB Tb.G C0 ((f_law.body.drop 12).take 1) (lA ns 3 (mOf 0) (some (.d (.int 3))) (some (.d (.int 2)))) [] = .nx (lA ns 3 (mOf 0) (some (.d (.int 3))) (some (.d (.int 2)))) [] := by kernel_rfl
theorem segD_3_0_3_3 (ns : List Int) : evB Tb.G C0 ((f_law.body.drop 12).take 1) (lA ns 3 (mOf 0) (some (.d (.int 3))) (some (.d (.int 3)))) [] = .nx (lA ns 3 (mOf 0) (some (.d (.int 3))) (some (.d (.int 3)))) [] := by kernel_rfl
theorem segD_3_0_3_4 (ns : List Int) : evB Tb.G C0 ((f_law.body.drop 12).take 1) (lA ns 3 (mOf 0) (some (.d (.int 3))) (some (.d (.int 4)))) [] = .nx (lA ns 3 (mOf 0) (some (.d (.int 3))) (some (.d (.int 4)))) [] := by kernel_rfl
theorem segD_3_0_3_5 (ns : List Int) : evB Tb.G C0 ((f_law.body.drop 12).take 1) (lA ns 3 (mOf 0) (some (.d (.int 3))) (some (.d (.int 5)))) [] = .nx (lA ns 3 (mOf 0) (some (.d (.int 3))) (some (.d (.int 5)))) [] := by kernel_rfl
theorem segD_3_0_4_1 (ns : List Int) : evB Tb.G C0 ((f_law.body.drop 12).take 1) (lA ns 3 (mOf 0) (some (.d (.int 4))) (some (.d (.int 1)))) [] = .nx (lA ns 3 (mOf 0) (some (.d (.int 4))) (some (.d (.int 1)))) [] := by kernel_rfl
theorem segD_3_0_4_2 (ns : List Int) : evB Tb.G C0 ((f_law.body.drop 12).take 1) (lA ns 3 (mOf 0) (some (.d (.int 4))) (some (.d (.int 2)))) [] = .nx (lA ns 3 (mOf 0) (some (.d (.int 4))) (some (.d (.int 2)))) [] := by kernel_rfl
theorem segD_3_0_4_3 (ns : List Int) : evB Tb.G C0 ((f_law.body.drop 12).take 1) (lA ns 3 (mOf 0) (some (.d (.int 4))) (some (.d (.int 3)))) [] = .nx (lA ns 3 (mOf 0) (some (.d (.int 4))) (some (.d (.int 3)))) [] := by kernel_rfl
theorem segD_3_0_4_4 (ns : List Int) : evB Tb.G C0 ((f_law.body.drop 12).take 1) (lA ns 3 (mOf 0) (some (.d (.int 4))) (some (.d (.int 4)))) [] = .nx (lA ns 3 (mOf 0) (some (.d (.int 4))) (some (.d (.int 4)))) [] := by kernel_rfl
theorem segD_3_0_4_5 (ns : List Int) : evB Tb.G C0 ((f_law.body.drop 12).take 1) (lA ns 3 (mOf 0) (some (.d (.int 4))) (some (.d (.int 5)))) [] = .nx (lA ns 3 (mOf 0) (some (.d (.int 4))) (some (.d (.int 5)))) [] := by kernel_rfl
theorem segC_3_0 (ns : List Int) : evB Tb.G C0 ((f_law.body.drop 10).take 2) (lA ns 3 (mOf 0) none none) [] = .nx (lA ns 3 (mOf 0) (some (.d (.int (2 + cellv ns 2 % 3)))) (some (.d (.int (1 + cellv ns 3 % 5))))) [] := by
  have h2 : callW C0 false 117 [W.d (D.scr ns), W.d (D.int 2)] [] = _ := call_cell ns 2 19 []
  have h3 : callW C0 false 117 [W.d (D.scr ns), W.d (D.int 3)] [] = _ := call_cell ns 3 19 []
  simp only [lA, f_law, Ss.drop, Ss.take, evB, evS, evE, evA, evT, evG, evGs, asD, RE.bind, RE.st, RS.sq, rdVar, List.getElem?_cons_zero, List.getElem?_cons_succ, look1, Option.bind, Option.map, RE.of, opt2, evIx, h2]
  simp only [List.length_cons, List.length_nil, evBin, List.set_cons_succ, List.set_cons_zero]
  simp [h3]
  done
theorem rest_3_0 (ns : List Int) : evB Tb.G C0 (f_law.body.drop 4) (lA ns 3 (mOf 0) none none) [] = .ret (.d (.bl true)) [] := by
  refine evB_seg 6 (segB_3_0 ns) ?_
  rw [dr10]
  refine evB_seg 2 (segC_3_0 ns) ?_
  rw [dr12]
  have a2 : 2 + cellv ns 2 % 3 = 2 ∨ 2 + cellv ns 2 % 3 = 3 ∨ 2 + cellv ns 2 % 3 = 4 := by omega
  have a3 : 1 + cellv ns 3 % 5 = 1 ∨ 1 + cellv ns 3 % 5 = 2 ∨ 1 + cellv ns 3 % 5 = 3 ∨ 1 + cellv ns 3 % 5 = 4 ∨ 1 + cellv ns 3 % 5 = 5 := by omega
  rcases a2 with e2 | e2 | e2 <;> rcases a3 with e3 | e3 | e3 | e3 | e3 <;> rw [e2, e3]
  · refine evB_seg 1 (segD_3_0_2_1 ns) ?_
    rw [dr13]
    exact segE_3_0 ns _ _
  · refine evB_seg 1 (segD_3_0_2_2 ns) ?_
    rw [dr13]
    exact segE_3_0 ns _ _
  · refine evB_seg 1 (segD_3_0_2_3 ns) ?_
    rw [dr13]
    exact segE_3_0 ns _ _
  · refine evB_seg 1 (segD_3_0_2_4 ns) ?_
    rw [dr13]
    exact segE_3_0 ns _ _
  · refine evB_seg 1 (segD_3_0_2_5 ns) ?_
    rw [dr13]
    exact segE_3_0 ns _ _
  · refine evB_seg 1 (segD_3_0_3_1 ns) ?_
    rw [dr13]
    exact segE_3_0 ns _ _
  · refine evB_seg 1 (segD_3_0_3_2 ns) ?_
    rw [dr13]
    exact segE_3_0 ns _ _
  · refine evB_seg 1 (segD_3_0_3_3 ns) ?_
    rw [dr13]
    exact segE_3_0 ns _ _
  · refine evB_seg 1 (segD_3_0_3_4 ns) ?_
    rw [dr13]
    exact segE_3_0 ns _ _
  · refine evB_seg 1 (segD_3_0_3_5 ns) ?_
    rw [dr13]
    exact segE_3_0 ns _ _
  · refine evB_seg 1 (segD_3_0_4_1 ns) ?_
    rw [dr13]
    exact segE_3_0 ns _ _
  · refine evB_seg 1 (segD_3_0_4_2 ns) ?_
    rw [dr13]
    exact segE_3_0 ns _ _
  · refine evB_seg 1 (segD_3_0_4_3 ns) ?_
    rw [dr13]
    exact segE_3_0 ns _ _
  · refine evB_seg 1 (segD_3_0_4_4 ns) ?_
    rw [dr13]
    exact segE_3_0 ns _ _
  · refine evB_seg 1 (segD_3_0_4_5 ns) ?_
    rw [dr13]
    exact segE_3_0 ns _ _
theorem segB_3_1 (ns : List Int) : evB Tb.G C0 ((f_law.body.drop 4).take 6) (lA ns 3 (mOf 1) none none) [] = .nx (lA ns 3 (mOf 1) none none) [] := by kernel_rfl
theorem segE_3_1 (ns : List Int) (w6 w7 : Option W) : evB Tb.G C0 (f_law.body.drop 13) (lA ns 3 (mOf 1) w6 w7) [] = .ret (.d (.bl true)) [] := by kernel_rfl
theorem segD_3_1_2_1 (ns : List Int) : evB Tb.G C0 ((f_law.body.drop 12).take 1) (lA ns 3 (mOf 1) (some (.d (.int 2))) (some (.d (.int 1)))) [] = .nx (lA ns 3 (mOf 1) (some (.d (.int 2))) (some (.d (.int 1)))) [] := by kernel_rfl
theorem segD_3_1_2_2 (ns : List Int) : evB Tb.G C0 ((f_law.body.drop 12).take 1) (lA ns 3 (mOf 1) (some (.d (.int 2))) (some (.d (.int 2)))) [] = .nx (lA ns 3 (mOf 1) (some (.d (.int 2))) (some (.d (.int 2)))) [] := by kernel_rfl
theorem segD_3_1_2_3 (ns : List Int) : evB Tb.G C0 ((f_law.body.drop 12).take 1) (lA ns 3 (mOf 1) (some (.d (.int 2))) (some (.d (.int 3)))) [] = .nx (lA ns 3 (mOf 1) (some (.d (.int 2))) (some (.d (.int 3)))) [] := by kernel_rfl
theorem segD_3_1_2_4 (ns : List Int) : evB Tb.G C0 ((f_law.body.drop 12).take 1) (lA ns 3 (mOf 1) (some (.d (.int 2))) (some (.d (.int 4)))) [] = .nx (lA ns 3 (mOf 1) (some (.d (.int 2))) (some (.d (.int 4)))) [] := by kernel_rfl
theorem segD_3_1_2_5 (ns : List Int) : evB Tb.G C0 ((f_law.body.drop 12).take 1) (lA ns 3 (mOf 1) (some (.d (.int 2))) (some (.d (.int 5)))) [] = .nx (lA ns 3 (mOf 1) (some (.d (.int 2))) (some (.d (.int 5)))) [] := by kernel_rfl
theorem segD_3_1_3_1 (ns : List Int) : evB Tb.G C0 ((f_law.body.drop 12).take 1) (lA ns 3 (mOf 1) (some (.d (.int 3))) (some (.d (.int 1)))) [] = .nx (lA ns 3 (mOf 1) (some (.d (.int 3))) (some (.d (.int 1)))) [] := by kernel_rfl
theorem segD_3_1_3_2 (ns : List Int) : evB Tb.G C0 ((f_law.body.drop 12).take 1) (lA ns 3 (mOf 1) (some (.d (.int 3))) (some (.d (.int 2)))) [] = .nx (lA ns 3 (mOf 1) (some (.d (.int 3))) (some (.d (.int 2)))) [] := by kernel_rfl
theorem segD_3_1_3_3 (ns : List Int) : evB Tb.G C0 ((f_law.body.drop 12).take 1) (lA ns 3 (mOf 1) (some (.d (.int 3))) (some (.d (.int 3)))) [] = .nx (lA ns 3 (mOf 1) (some (.d (.int 3))) (some (.d (.int 3)))) [] := by kernel_rfl
theorem segD_3_1_3_4 (ns : List Int) : evB Tb.G C0 ((f_law.body.drop 12).take 1) (lA ns 3 (mOf 1) (some (.d (.int 3))) (some (.d (.int 4)))) [] = .nx (lA ns 3 (mOf 1) (some (.d (.int 3))) (some (.d (.int 4)))) [] := by kernel_rfl
theorem segD_3_1_3_5 (ns : List Int) : evB Tb.G C0 ((f_law.body.drop 12).take 1) (lA ns 3 (mOf 1) (some (.d (.int 3))) (some (.d (.int 5)))) [] = .nx (lA ns 3 (mOf 1) (some (.d (.int 3))) (some (.d (.int 5)))) [] := by kernel_rfl
theorem segD_3_1_4_1 (ns : List Int) : evB Tb.G C0 ((f_law.body.drop 12).take 1) (lA ns 3 (mOf 1) (some (.d (.int 4))) (some (.d (.int 1)))) [] = .nx (lA ns 3 (mOf 1) (some (.d (.int 4))) (some (.d (.int 1)))) [] := by kernel_rfl
theorem segD_3_1_4_2 (ns : List Int) : evB Tb.G C0 ((f_law.body.drop 12).take 1) (lA ns 3 (mOf 1) (some (.d (.int 4))) (some (.d (.int 2)))) [] = .nx (lA ns 3 (mOf 1) (some (.d (.int 4))) (some (.d (.int 2)))) [] := by kernel_rfl
theorem segD_3_1_4_3 (ns : List Int) : evB Tb.G C0 ((f_law.body.drop 12).take 1) (lA ns 3 (mOf 1) (some (.d (.int 4))) (some (.d (.int 3)))) [] = .nx (lA ns 3 (mOf 1) (some (.d (.int 4))) (some (.d (.int 3)))) [] := by kernel_rfl
theorem segD_3_1_4_4 (ns : List Int) : evB Tb.G C0 ((f_law.body.drop 12).take 1) (lA ns 3 (mOf 1) (some (.d (.int 4))) (some (.d (.int 4)))) [] = .nx (lA ns 3 (mOf 1) (some (.d (.int 4))) (some (.d (.int 4)))) [] := by kernel_rfl
theorem segD_3_1_4_5 (ns : List Int) : evB Tb.G C0 ((f_law.body.drop 12).take 1) (lA ns 3 (mOf 1) (some (.d (.int 4))) (some (.d (.int 5)))) [] = .nx (lA ns 3 (mOf 1) (some (.d (.int 4))) (some (.d (.int 5)))) [] := by kernel_rfl
theorem segC_3_1 (ns : List Int) : evB Tb.G C0 ((f_law.body.drop 10).take 2) (lA ns 3 (mOf 1) none none) [] = .nx (lA ns 3 (mOf 1) (some (.d (.int (2 + cellv ns 2 % 3)))) (some (.d (.int (1 + cellv ns 3 % 5))))) [] := by
  have h2 : callW C0 false 117 [W.d (D.scr ns), W.d (D.int 2)] [] = _ := call_cell ns 2 19 []
  have h3 : callW C0 false 117 [W.d (D.scr ns), W.d (D.int 3)] [] = _ := call_cell ns 3 19 []
  simp only [lA, f_law, Ss.drop, Ss.take, evB, evS, evE, evA, evT, evG, evGs, asD, RE.bind, RE.st, RS.sq, rdVar, List.getElem?_cons_zero, List.getElem?_cons_succ, look1, Option.bind, Option.map, RE.of, opt2, evIx, h2]
  simp only [List.length_cons, List.length_nil, evBin, List.set_cons_succ, List.set_cons_zero]
  simp [h3]
  done
theorem rest_3_1 (ns : List Int) : evB Tb.G C0 (f_law.body.drop 4) (lA ns 3 (mOf 1) none none) [] = .ret (.d (.bl true)) [] := by
  refine evB_seg 6 (segB_3_1 ns) ?_
  rw [dr10]
  refine evB_seg 2 (segC_3_1 ns) ?_
  rw [dr12]
  have a2 : 2 + cellv ns 2 % 3 = 2 ∨ 2 + cellv ns 2 % 3 = 3 ∨ 2 + cellv ns 2 % 3 = 4 := by omega
  have a3 : 1 + cellv ns 3 % 5 = 1 ∨ 1 + cellv ns 3 % 5 = 2 ∨ 1 + cellv ns 3 % 5 = 3 ∨ 1 + cellv ns 3 % 5 = 4 ∨ 1 + cellv ns 3 % 5 = 5 := by omega
  rcases a2 with e2 | e2 | e2 <;> rcases a3 with e3 | e3 | e3 | e3 | e3 <;> rw [e2, e3]
  · refine evB_seg 1 (segD_3_1_2_1 ns) ?_
    rw [dr13]
    exact segE_3_1 ns _ _
  · refine evB_seg 1 (segD_3_1_2_2 ns) ?_
    rw [dr13]
    exact segE_3_1 ns _ _
  · refine evB_seg 1 (segD_3_1_2_3 ns) ?_
    rw [dr13]
    exact segE_3_1 ns _ _
  · refine evB_seg 1 (segD_3_1_2_4 ns) ?_
    rw [dr13]
    exact segE_3_1 ns _ _
  · refine evB_seg 1 (segD_3_1_2_5 ns) ?_
    rw [dr13]
    exact segE_3_1 ns _ _
  · refine evB_seg 1 (segD_3_1_3_1 ns) ?_
    rw [dr13]
    exact segE_3_1 ns _ _
  · refine evB_seg 1 (segD_3_1_3_2 ns) ?_
    rw [dr13]
    exact segE_3_1 ns _ _
  · refine evB_seg 1 (segD_3_1_3_3 ns) ?_
    rw [dr13]
    exact segE_3_1 ns _ _
  · refine evB_seg 1 (segD_3_1_3_4 ns) ?_
    rw [dr13]
    exact segE_3_1 ns _ _
  · refine evB_seg 1 (segD_3_1_3_5 ns) ?_
    rw [dr13]
    exact segE_3_1 ns _ _
  · refine evB_seg 1 (segD_3_1_4_1 ns) ?_
    rw [dr13]
    exact segE_3_1 ns _ _
  · refine evB_seg 1 (segD_3_1_4_2 ns) ?_
    rw [dr13]
    exact segE_3_1 ns _ _
  · refine evB_seg 1 (segD_3_1_4_3 ns) ?_
    rw [dr13]
    exact segE_3_1 ns _ _
  · refine evB_seg 1 (segD_3_1_4_4 ns) ?_
    rw [dr13]
    exact segE_3_1 ns _ _
  · refine evB_seg 1 (segD_3_1_4_5 ns) ?_
    rw [dr13]
    exact segE_3_1 ns _ _
theorem segB_4_0 (ns : List Int) : evB Tb.G C0 ((f_law.body.drop 4).take 6) (lA ns 4 (mOf 0) none none) [] = .nx (lA ns 4 (mOf 0) none none) [] := by kernel_rfl
theorem segE_4_0 (ns : List Int) (w6 w7 : Option W) : evB Tb.G C0 (f_law.body.drop 13) (lA ns 4 (mOf 0) w6 w7) [] = .ret (.d (.bl true)) [] := by kernel_rfl
theorem segD_4_0_2_1 (ns : List Int) : evB Tb.G C0 ((f_law.body.drop 12).take 1) (lA ns 4 (mOf 0) (some (.d (.int 2))) (some (.d (.int 1)))) [] = .nx (lA ns 4 (mOf 0) (some (.d (.int 2))) (some (.d (.int 1)))) [] := by kernel_rfl
theorem segD_4_0_2_2 (ns : List Int) : evB Tb.G C0 ((f_law.body.drop 12).take 1) (lA ns 4 (mOf 0) (some (.d (.int 2))) (some (.d (.int 2)))) [] = .nx (lA ns 4 (mOf 0) (some (.d (.int 2))) (some (.d (.int 2)))) [] := by kernel_rfl
theorem segD_4_0_2_3 (ns : List Int) : evB Tb.G C0 ((f_law.body.drop 12).take 1) (lA ns 4 (mOf 0) (some (.d (.int 2))) (some (.d (.int 3)))) [] = .nx (lA ns 4 (mOf 0) (some (.d (.int 2))) (some (.d (.int 3)))) [] := by kernel_rfl
theorem segD_4_0_2_4 (ns : List Int) : evB Tb.G C0 ((f_law.body.drop 12).take 1) (lA ns 4 (mOf 0) (some (.d (.int 2))) (some (.d (.int 4)))) [] = .nx (lA ns 4 (mOf 0) (some (.d (.int 2))) (some (.d (.int 4)))) [] := by kernel_rfl
theorem segD_4_0_2_5 (ns : List Int) : evB Tb.G C0 ((f_law.body.drop 12).take 1) (lA ns 4 (mOf 0) (some (.d (.int 2))) (some (.d (.int 5)))) [] = .nx (lA ns 4 (mOf 0) (some (.d (.int 2))) (some (.d (.int 5)))) [] := by kernel_rfl
theorem segD_4_0_3_1 (ns : List Int) : evB Tb.G C0 ((f_law.body.drop 12).take 1) (lA ns 4 (mOf 0) (some (.d (.int 3))) (some (.d (.int 1)))) [] = .nx (lA ns 4 (mOf 0) (some (.d (.int 3))) (some (.d (.int 1)))) [] := by kernel_rfl
theorem segD_4_0_3_2 (ns : List Int) : evB Tb.G C0 ((f_law.body.drop 12).take 1) (lA ns 4 (mOf 0) (some (.d (.int 3))) (some (.d (.int 2)))) [] = .nx (lA ns 4 (mOf 0) (some (.d (.int 3))) (some (.d (.int 2)))) [] := by kernel_rfl
theorem segD_4_0_3_3 (ns : List Int) : evB Tb.G C0 ((f_law.body.drop 12).take 1) (lA ns 4 (mOf 0) (some (.d (.int 3))) (some (.d (.int 3)))) [] = .nx (lA ns 4 (mOf 0) (some (.d (.int 3))) (some (.d (.int 3)))) [] := by kernel_rfl
theorem segD_4_0_3_4 (ns : List Int) : evB Tb.G C0 ((f_law.body.drop 12).take 1) (lA ns 4 (mOf 0) (some (.d (.int 3))) (some (.d (.int 4)))) [] = .nx (lA ns 4 (mOf 0) (some (.d (.int 3))) (some (.d (.int 4)))) [] := by kernel_rfl
theorem segD_4_0_3_5 (ns : List Int) : evB Tb.G C0 ((f_law.body.drop 12).take 1) (lA ns 4 (mOf 0) (some (.d (.int 3))) (some (.d (.int 5)))) [] = .nx (lA ns 4 (mOf 0) (some (.d (.int 3))) (some (.d (.int 5)))) [] := by kernel_rfl
theorem segD_4_0_4_1 (ns : List Int) : evB Tb.G C0 ((f_law.body.drop 12).take 1) (lA ns 4 (mOf 0) (some (.d (.int 4))) (some (.d (.int 1)))) [] = .nx (lA ns 4 (mOf 0) (some (.d (.int 4))) (some (.d (.int 1)))) [] := by kernel_rfl
theorem segD_4_0_4_2 (ns : List Int) : evB Tb.G C0 ((f_law.body.drop 12).take 1) (lA ns 4 (mOf 0) (some (.d (.int 4))) (some (.d (.int 2)))) [] = .nx (lA ns 4 (mOf 0) (some (.d (.int 4))) (some (.d (.int 2)))) [] := by kernel_rfl
theorem segD_4_0_4_3 (ns : List Int) : evB Tb.G C0 ((f_law.body.drop 12).take 1) (lA ns 4 (mOf 0) (some (.d (.int 4))) (some (.d (.int 3)))) [] = .nx (lA ns 4 (mOf 0) (some (.d (.int 4))) (some (.d (.int 3)))) [] := by kernel_rfl
theorem segD_4_0_4_4 (ns : List Int) : evB Tb.G C0 ((f_law.body.drop 12).take 1) (lA ns 4 (mOf 0) (some (.d (.int 4))) (some (.d (.int 4)))) [] = .nx (lA ns 4 (mOf 0) (some (.d (.int 4))) (some (.d (.int 4)))) [] := by kernel_rfl
theorem segD_4_0_4_5 (ns : List Int) : evB Tb.G C0 ((f_law.body.drop 12).take 1) (lA ns 4 (mOf 0) (some (.d (.int 4))) (some (.d (.int 5)))) [] = .nx (lA ns 4 (mOf 0) (some (.d (.int 4))) (some (.d (.int 5)))) [] := by kernel_rfl
theorem segC_4_0 (ns : List Int) : evB Tb.G C0 ((f_law.body.drop 10).take 2) (lA ns 4 (mOf 0) none none) [] = .nx (lA ns 4 (mOf 0) (some (.d (.int (2 + cellv ns 2 % 3)))) (some (.d (.int (1 + cellv ns 3 % 5))))) [] := by
  have h2 : callW C0 false 117 [W.d (D.scr ns), W.d (D.int 2)] [] = _ := call_cell ns 2 19 []
  have h3 : callW C0 false 117 [W.d (D.scr ns), W.d (D.int 3)] [] = _ := call_cell ns 3 19 []
  simp only [lA, f_law, Ss.drop, Ss.take, evB, evS, evE, evA, evT, evG, evGs, asD, RE.bind, RE.st, RS.sq, rdVar, List.getElem?_cons_zero, List.getElem?_cons_succ, look1, Option.bind, Option.map, RE.of, opt2, evIx, h2]
  simp only [List.length_cons, List.length_nil, evBin, List.set_cons_succ, List.set_cons_zero]
  simp [h3]
  done
theorem rest_4_0 (ns : List Int) : evB Tb.G C0 (f_law.body.drop 4) (lA ns 4 (mOf 0) none none) [] = .ret (.d (.bl true)) [] := by
  refine evB_seg 6 (segB_4_0 ns) ?_
  rw [dr10]
  refine evB_seg 2 (segC_4_0 ns) ?_
  rw [dr12]
  have a2 : 2 + cellv ns 2 % 3 = 2 ∨ 2 + cellv ns 2 % 3 = 3 ∨ 2 + cellv ns 2 % 3 = 4 := by omega
  have a3 : 1 + cellv ns 3 % 5 = 1 ∨ 1 + cellv ns 3 % 5 = 2 ∨ 1 + cellv ns 3 % 5 = 3 ∨ 1 + cellv ns 3 % 5 = 4 ∨ 1 + cellv ns 3 % 5 = 5 := by omega
  rcases a2 with e2 | e2 | e2 <;> rcases a3 with e3 | e3 | e3 | e3 | e3 <;> rw [e2, e3]
  · refine evB_seg 1 (segD_4_0_2_1 ns) ?_
    rw [dr13]
    exact segE_4_0 ns _ _
  · refine evB_seg 1 (segD_4_0_2_2 ns) ?_
    rw [dr13]
    exact segE_4_0 ns _ _
  · refine evB_seg 1 (segD_4_0_2_3 ns) ?_
    rw [dr13]
    exact segE_4_0 ns _ _
  · refine evB_seg 1 (segD_4_0_2_4 ns) ?_
    rw [dr13]
    exact segE_4_0 ns _ _
  · refine evB_seg 1 (segD_4_0_2_5 ns) ?_
    rw [dr13]
    exact segE_4_0 ns _ _
  · refine evB_seg 1 (segD_4_0_3_1 ns) ?_
    rw [dr13]
    exact segE_4_0 ns _ _
  · refine evB_seg 1 (segD_4_0_3_2 ns) ?_
    rw [dr13]
    exact segE_4_0 ns _ _
  · refine evB_seg 1 (segD_4_0_3_3 ns) ?_
    rw [dr13]
    exact segE_4_0 ns _ _
  · refine evB_seg 1 (segD_4_0_3_4 ns) ?_
    rw [dr13]
    exact segE_4_0 ns _ _
  · refine evB_seg 1 (segD_4_0_3_5 ns) ?_
    rw [dr13]
    exact segE_4_0 ns _ _
  · refine evB_seg 1 (segD_4_0_4_1 ns) ?_
    rw [dr13]
    exact segE_4_0 ns _ _
  · refine evB_seg 1 (segD_4_0_4_2 ns) ?_
    rw [dr13]
    exact segE_4_0 ns _ _
  · refine evB_seg 1 (segD_4_0_4_3 ns) ?_
    rw [dr13]
    exact segE_4_0 ns _ _
  · refine evB_seg 1 (segD_4_0_4_4 ns) ?_
    rw [dr13]
    exact segE_4_0 ns _ _
  · refine evB_seg 1 (segD_4_0_4_5 ns) ?_
    rw [dr13]
    exact segE_4_0 ns _ _
theorem segB_4_1 (ns : List Int) : evB Tb.G C0 ((f_law.body.drop 4).take 6) (lA ns 4 (mOf 1) none none) [] = .nx (lA ns 4 (mOf 1) none none) [] := by kernel_rfl
theorem segE_4_1 (ns : List Int) (w6 w7 : Option W) : evB Tb.G C0 (f_law.body.drop 13) (lA ns 4 (mOf 1) w6 w7) [] = .ret (.d (.bl true)) [] := by kernel_rfl
theorem segD_4_1_2_1 (ns : List Int) : evB Tb.G C0 ((f_law.body.drop 12).take 1) (lA ns 4 (mOf 1) (some (.d (.int 2))) (some (.d (.int 1)))) [] = .nx (lA ns 4 (mOf 1) (some (.d (.int 2))) (some (.d (.int 1)))) [] := by kernel_rfl
theorem segD_4_1_2_2 (ns : List Int) : evB Tb.G C0 ((f_law.body.drop 12).take 1) (lA ns 4 (mOf 1) (some (.d (.int 2))) (some (.d (.int 2)))) [] = .nx (lA ns 4 (mOf 1) (some (.d (.int 2))) (some (.d (.int 2)))) [] := by kernel_rfl
theorem segD_4_1_2_3 (ns : List Int) : evB Tb.G C0 ((f_law.body.drop 12).take 1) (lA ns 4 (mOf 1) (some (.d (.int 2))) (some (.d (.int 3)))) [] = .nx (lA ns 4 (mOf 1) (some (.d (.int 2))) (some (.d (.int 3)))) [] := by kernel_rfl
theorem segD_4_1_2_4 (ns : List Int) : evB Tb.G C0 ((f_law.body.drop 12).take 1) (lA ns 4 (mOf 1) (some (.d (.int 2))) (some (.d (.int 4)))) [] = .nx (lA ns 4 (mOf 1) (some (.d (.int 2))) (some (.d (.int 4)))) [] := by kernel_rfl
theorem segD_4_1_2_5 (ns : List Int) : evB Tb.G C0 ((f_law.body.drop 12).take 1) (lA ns 4 (mOf 1) (some (.d (.int 2))) (some (.d (.int 5)))) [] = .nx (lA ns 4 (mOf 1) (some (.d (.int 2))) (some (.d (.int 5)))) [] := by kernel_rfl
theorem segD_4_1_3_1 (ns : List Int) : evB Tb.G C0 ((f_law.body.drop 12).take 1) (lA ns 4 (mOf 1) (some (.d (.int 3))) (some (.d (.int 1)))) [] = .nx (lA ns 4 (mOf 1) (some (.d (.int 3))) (some (.d (.int 1)))) [] := by kernel_rfl
theorem segD_4_1_3_2 (ns : List Int) : evB Tb.G C0 ((f_law.body.drop 12).take 1) (lA ns 4 (mOf 1) (some (.d (.int 3))) (some (.d (.int 2)))) [] = .nx (lA ns 4 (mOf 1) (some (.d (.int 3))) (some (.d (.int 2)))) [] := by kernel_rfl
theorem segD_4_1_3_3 (ns : List Int) : evB Tb.G C0 ((f_law.body.drop 12).take 1) (lA ns 4 (mOf 1) (some (.d (.int 3))) (some (.d (.int 3)))) [] = .nx (lA ns 4 (mOf 1) (some (.d (.int 3))) (some (.d (.int 3)))) [] := by kernel_rfl
theorem segD_4_1_3_4 (ns : List Int) : evB Tb.G C0 ((f_law.body.drop 12).take 1) (lA ns 4 (mOf 1) (some (.d (.int 3))) (some (.d (.int 4)))) [] = .nx (lA ns 4 (mOf 1) (some (.d (.int 3))) (some (.d (.int 4)))) [] := by kernel_rfl
theorem segD_4_1_3_5 (ns : List Int) : evB Tb.G C0 ((f_law.body.drop 12).take 1) (lA ns 4 (mOf 1) (some (.d (.int 3))) (some (.d (.int 5)))) [] = .nx (lA ns 4 (mOf 1) (some (.d (.int 3))) (some (.d (.int 5)))) [] := by kernel_rfl
theorem segD_4_1_4_1 (ns : List Int) : evB Tb.G C0 ((f_law.body.drop 12).take 1) (lA ns 4 (mOf 1) (some (.d (.int 4))) (some (.d (.int 1)))) [] = .nx (lA ns 4 (mOf 1) (some (.d (.int 4))) (some (.d (.int 1)))) [] := by kernel_rfl
theorem segD_4_1_4_2 (ns : List Int) : evB Tb.G C0 ((f_law.body.drop 12).take 1) (lA ns 4 (mOf 1) (some (.d (.int 4))) (some (.d (.int 2)))) [] = .nx (lA ns 4 (mOf 1) (some (.d (.int 4))) (some (.d (.int 2)))) [] := by kernel_rfl
theorem segD_4_1_4_3 (ns : List Int) : evB Tb.G C0 ((f_law.body.drop 12).take 1) (lA ns 4 (mOf 1) (some (.d (.int 4))) (some (.d (.int 3)))) [] = .nx (lA ns 4 (mOf 1) (some (.d (.int 4))) (some (.d (.int 3)))) [] := by kernel_rfl
theorem segD_4_1_4_4 (ns : List Int) : evB Tb.G C0 ((f_law.body.drop 12).take 1) (lA ns 4 (mOf 1) (some (.d (.int 4))) (some (.d (.int 4)))) [] = .nx (lA ns 4 (mOf 1) (some (.d (.int 4))) (some (.d (.int 4)))) [] := by kernel_rfl
theorem segD_4_1_4_5 (ns : List Int) : evB Tb.G C0 ((f_law.body.drop 12).take 1) (lA ns 4 (mOf 1) (some (.d (.int 4))) (some (.d (.int 5)))) [] = .nx (lA ns 4 (mOf 1) (some (.d (.int 4))) (some (.d (.int 5)))) [] := by kernel_rfl
theorem segC_4_1 (ns : List Int) : evB Tb.G C0 ((f_law.body.drop 10).take 2) (lA ns 4 (mOf 1) none none) [] = .nx (lA ns 4 (mOf 1) (some (.d (.int (2 + cellv ns 2 % 3)))) (some (.d (.int (1 + cellv ns 3 % 5))))) [] := by
  have h2 : callW C0 false 117 [W.d (D.scr ns), W.d (D.int 2)] [] = _ := call_cell ns 2 19 []
  have h3 : callW C0 false 117 [W.d (D.scr ns), W.d (D.int 3)] [] = _ := call_cell ns 3 19 []
  simp only [lA, f_law, Ss.drop, Ss.take, evB, evS, evE, evA, evT, evG, evGs, asD, RE.bind, RE.st, RS.sq, rdVar, List.getElem?_cons_zero, List.getElem?_cons_succ, look1, Option.bind, Option.map, RE.of, opt2, evIx, h2]
  simp only [List.length_cons, List.length_nil, evBin, List.set_cons_succ, List.set_cons_zero]
  simp [h3]
  done
theorem rest_4_1 (ns : List Int) : evB Tb.G C0 (f_law.body.drop 4) (lA ns 4 (mOf 1) none none) [] = .ret (.d (.bl true)) [] := by
  refine evB_seg 6 (segB_4_1 ns) ?_
  rw [dr10]
  refine evB_seg 2 (segC_4_1 ns) ?_
  rw [dr12]
  have a2 : 2 + cellv ns 2 % 3 = 2 ∨ 2 + cellv ns 2 % 3 = 3 ∨ 2 + cellv ns 2 % 3 = 4 := by omega
  have a3 : 1 + cellv ns 3 % 5 = 1 ∨ 1 + cellv ns 3 % 5 = 2 ∨ 1 + cellv ns 3 % 5 = 3 ∨ 1 + cellv ns 3 % 5 = 4 ∨ 1 + cellv ns 3 % 5 = 5 := by omega
  rcases a2 with e2 | e2 | e2 <;> rcases a3 with e3 | e3 | e3 | e3 | e3 <;> rw [e2, e3]
  · refine evB_seg 1 (segD_4_1_2_1 ns) ?_
    rw [dr13]
    exact segE_4_1 ns _ _
  · refine evB_seg 1 (segD_4_1_2_2 ns) ?_
    rw [dr13]
    exact segE_4_1 ns _ _
  · refine evB_seg 1 (segD_4_1_2_3 ns) ?_
    rw [dr13]
    exact segE_4_1 ns _ _
  · refine evB_seg 1 (segD_4_1_2_4 ns) ?_
    rw [dr13]
    exact segE_4_1 ns _ _
  · refine evB_seg 1 (segD_4_1_2_5 ns) ?_
    rw [dr13]
    exact segE_4_1 ns _ _
  · refine evB_seg 1 (segD_4_1_3_1 ns) ?_
    rw [dr13]
    exact segE_4_1 ns _ _
  · refine evB_seg 1 (segD_4_1_3_2 ns) ?_
    rw [dr13]
    exact segE_4_1 ns _ _
  · refine evB_seg 1 (segD_4_1_3_3 ns) ?_
    rw [dr13]
    exact segE_4_1 ns _ _
  · refine evB_seg 1 (segD_4_1_3_4 ns) ?_
    rw [dr13]
    exact segE_4_1 ns _ _
  · refine evB_seg 1 (segD_4_1_3_5 ns) ?_
    rw [dr13]
    exact segE_4_1 ns _ _
  · refine evB_seg 1 (segD_4_1_4_1 ns) ?_
    rw [dr13]
    exact segE_4_1 ns _ _
  · refine evB_seg 1 (segD_4_1_4_2 ns) ?_
    rw [dr13]
    exact segE_4_1 ns _ _
  · refine evB_seg 1 (segD_4_1_4_3 ns) ?_
    rw [dr13]
    exact segE_4_1 ns _ _
  · refine evB_seg 1 (segD_4_1_4_4 ns) ?_
    rw [dr13]
    exact segE_4_1 ns _ _
  · refine evB_seg 1 (segD_4_1_4_5 ns) ?_
    rw [dr13]
    exact segE_4_1 ns _ _
theorem segB_5_0 (ns : List Int) : evB Tb.G C0 ((f_law.body.drop 4).take 6) (lA ns 5 (mOf 0) none none) [] = .nx (lA ns 5 (mOf 0) none none) [] := by kernel_rfl
theorem segE_5_0 (ns : List Int) (w6 w7 : Option W) : evB Tb.G C0 (f_law.body.drop 13) (lA ns 5 (mOf 0) w6 w7) [] = .ret (.d (.bl true)) [] := by kernel_rfl
theorem segD_5_0_2_1 (ns : List Int) : evB Tb.G C0 ((f_law.body.drop 12).take 1) (lA ns 5 (mOf 0) (some (.d (.int 2))) (some (.d (.int 1)))) [] = .nx (lA ns 5 (mOf 0) (some (.d (.int 2))) (some (.d (.int 1)))) [] := by kernel_rfl
theorem segD_5_0_2_2 (ns : List Int) : evB Tb.G C0 ((f_law.body.drop 12).take 1) (lA ns 5 (mOf 0) (some (.d (.int 2))) (some (.d (.int 2)))) [] = .nx (lA ns 5 (mOf 0) (some (.d (.int 2))) (some (.d (.int 2)))) [] := by kernel_rfl
theorem segD_5_0_2_3 (ns : List Int) : evB Tb.G C0 ((f_law.body.drop 12).take 1) (lA ns 5 (mOf 0) (some (.d (.int 2))) (some (.d (.int 3)))) [] = .nx (lA ns 5 (mOf 0) (some (.d (.int 2))) (some (.d (.int 3)))) [] := by kernel_rfl
theorem segD_5_0_2_4 (ns : List Int) : evB Tb.G C0 ((f_law.body.drop 12).take 1) (lA ns 5 (mOf 0) (some (.d (.int 2))) (some (.d (.int 4)))) [] = .nx (lA ns 5 (mOf 0) (some (.d (.int 2))) (some (.d (.int 4)))) [] := by kernel_rfl
theorem segD_5_0_2_5 (ns : List Int) : evB Tb.G C0 ((f_law.body.drop 12).take 1) (lA ns 5 (mOf 0) (some (.d (.int 2))) (some (.d (.int 5)))) [] = .nx (lA ns 5 (mOf 0) (some (.d (.int 2))) (some (.d (.int 5)))) [] := by kernel_rfl
theorem segD_5_0_3_1 (ns : List Int) : evB Tb.G C0 ((f_law.body.drop 12).take 1) (lA ns 5 (mOf 0) (some (.d (.int 3))) (some (.d (.int 1)))) [] = .nx (lA ns 5 (mOf 0) (some (.d (.int 3))) (some (.d (.int 1)))) [] := by kernel_rfl
theorem segD_5_0_3_2 (ns : List Int) : evB Tb.G C0 ((f_law.body.drop 12).take 1) (lA ns 5 (mOf 0) (some (.d (.int 3))) (some (.d (.int 2)))) [] = .nx (lA ns 5 (mOf 0) (some (.d (.int 3))) (some (.d (.int 2)))) [] := by kernel_rfl
theorem segD_5_0_3_3 (ns : List Int) : evB Tb.G C0 ((f_law.body.drop 12).take 1) (lA ns 5 (mOf 0) (some (.d (.int 3))) (some (.d (.int 3)))) [] = .nx (lA ns 5 (mOf 0) (some (.d (.int 3))) (some (.d (.int 3)))) [] := by kernel_rfl
theorem segD_5_0_3_4 (ns : List Int) : evB Tb.G C0 ((f_law.body.drop 12).take 1) (lA ns 5 (mOf 0) (some (.d (.int 3))) (some (.d (.int 4)))) [] = .nx (lA ns 5 (mOf 0) (some (.d (.int 3))) (some (.d (.int 4)))) [] := by kernel_rfl
theorem segD_5_0_3_5 (ns : List Int) : evB Tb.G C0 ((f_law.body.drop 12).take 1) (lA ns 5 (mOf 0) (some (.d (.int 3))) (some (.d (.int 5)))) [] = .nx (lA ns 5 (mOf 0) (some (.d (.int 3))) (some (.d (.int 5)))) [] := by kernel_rfl
theorem segD_5_0_4_1 (ns : List Int) : evB Tb.G C0 ((f_law.body.drop 12).take 1) (lA ns 5 (mOf 0) (some (.d (.int 4))) (some (.d (.int 1)))) [] = .nx (lA ns 5 (mOf 0) (some (.d (.int 4))) (some (.d (.int 1)))) [] := by kernel_rfl
theorem segD_5_0_4_2 (ns : List Int) : evB Tb.G C0 ((f_law.body.drop 12).take 1) (lA ns 5 (mOf 0) (some (.d (.int 4))) (some (.d (.int 2)))) [] = .nx (lA ns 5 (mOf 0) (some (.d (.int 4))) (some (.d (.int 2)))) [] := by kernel_rfl
theorem segD_5_0_4_3 (ns : List Int) : evB Tb.G C0 ((f_law.body.drop 12).take 1) (lA ns 5 (mOf 0) (some (.d (.int 4))) (some (.d (.int 3)))) [] = .nx (lA ns 5 (mOf 0) (some (.d (.int 4))) (some (.d (.int 3)))) [] := by kernel_rfl
theorem segD_5_0_4_4 (ns : List Int) : evB Tb.G C0 ((f_law.body.drop 12).take 1) (lA ns 5 (mOf 0) (some (.d (.int 4))) (some (.d (.int 4)))) [] = .nx (lA ns 5 (mOf 0) (some (.d (.int 4))) (some (.d (.int 4)))) [] := by kernel_rfl
theorem segD_5_0_4_5 (ns : List Int) : evB Tb.G C0 ((f_law.body.drop 12).take 1) (lA ns 5 (mOf 0) (some (.d (.int 4))) (some (.d (.int 5)))) [] = .nx (lA ns 5 (mOf 0) (some (.d (.int 4))) (some (.d (.int 5)))) [] := by kernel_rfl
theorem segC_5_0 (ns : List Int) : evB Tb.G C0 ((f_law.body.drop 10).take 2) (lA ns 5 (mOf 0) none none) [] = .nx (lA ns 5 (mOf 0) (some (.d (.int (2 + cellv ns 2 % 3)))) (some (.d (.int (1 + cellv ns 3 % 5))))) [] := by
  have h2 : callW C0 false 117 [W.d (D.scr ns), W.d (D.int 2)] [] = _ := call_cell ns 2 19 []
  have h3 : callW C0 false 117 [W.d (D.scr ns), W.d (D.int 3)] [] = _ := call_cell ns 3 19 []
  simp only [lA, f_law, Ss.drop, Ss.take, evB, evS, evE, evA, evT, evG, evGs, asD, RE.bind, RE.st, RS.sq, rdVar, List.getElem?_cons_zero, List.getElem?_cons_succ, look1, Option.bind, Option.map, RE.of, opt2, evIx, h2]
  simp only [List.length_cons, List.length_nil, evBin, List.set_cons_succ, List.set_cons_zero]
  simp [h3]
  done
theorem rest_5_0 (ns : List Int) : evB Tb.G C0 (f_law.body.drop 4) (lA ns 5 (mOf 0) none none) [] = .ret (.d (.bl true)) [] := by
  refine evB_seg 6 (segB_5_0 ns) ?_
  rw [dr10]
  refine evB_seg 2 (segC_5_0 ns) ?_
  rw [dr12]
  have a2 : 2 + cellv ns 2 % 3 = 2 ∨ 2 + cellv ns 2 % 3 = 3 ∨ 2 + cellv ns 2 % 3 = 4 := by omega
  have a3 : 1 + cellv ns 3 % 5 = 1 ∨ 1 + cellv ns 3 % 5 = 2 ∨ 1 + cellv ns 3 % 5 = 3 ∨ 1 + cellv ns 3 % 5 = 4 ∨ 1 + cellv ns 3 % 5 = 5 := by omega
  rcases a2 with e2 | e2 | e2 <;> rcases a3 with e3 | e3 | e3 | e3 | e3 <;> rw [e2, e3]
  · refine evB_seg 1 (segD_5_0_2_1 ns) ?_
    rw [dr13]
    exact segE_5_0 ns _ _
  · refine evB_seg 1 (segD_5_0_2_2 ns) ?_
    rw [dr13]
    exact segE_5_0 ns _ _
  · refine evB_seg 1 (segD_5_0_2_3 ns) ?_
    rw [dr13]
    exact segE_5_0 ns _ _
  · refine evB_seg 1 (segD_5_0_2_4 ns) ?_
    rw [dr13]
    exact segE_5_0 ns _ _
  · refine evB_seg 1 (segD_5_0_2_5 ns) ?_
    rw [dr13]
    exact segE_5_0 ns _ _
  · refine evB_seg 1 (segD_5_0_3_1 ns) ?_
    rw [dr13]
    exact segE_5_0 ns _ _
  · refine evB_seg 1 (segD_5_0_3_2 ns) ?_
    rw [dr13]
    exact segE_5_0 ns _ _
  · refine evB_seg 1 (segD_5_0_3_3 ns) ?_
    rw [dr13]
    exact segE_5_0 ns _ _
  · refine evB_seg 1 (segD_5_0_3_4 ns) ?_
    rw [dr13]
    exact segE_5_0 ns _ _
  · refine evB_seg 1 (segD_5_0_3_5 ns) ?_
    rw [dr13]
    exact segE_5_0 ns _ _
  · refine evB_seg 1 (segD_5_0_4_1 ns) ?_
    rw [dr13]
    exact segE_5_0 ns _ _
  · refine evB_seg 1 (segD_5_0_4_2 ns) ?_
    rw [dr13]
    exact segE_5_0 ns _ _
  · refine evB_seg 1 (segD_5_0_4_3 ns) ?_
    rw [dr13]
    exact segE_5_0 ns _ _
  · refine evB_seg 1 (segD_5_0_4_4 ns) ?_
    rw [dr13]
    exact segE_5_0 ns _ _
  · refine evB_seg 1 (segD_5_0_4_5 ns) ?_
    rw [dr13]
    exact segE_5_0 ns _ _
theorem segB_5_1 (ns : List Int) : evB Tb.G C0 ((f_law.body.drop 4).take 6) (lA ns 5 (mOf 1) none none) [] = .nx (lA ns 5 (mOf 1) none none) [] := by kernel_rfl
theorem segE_5_1 (ns : List Int) (w6 w7 : Option W) : evB Tb.G C0 (f_law.body.drop 13) (lA ns 5 (mOf 1) w6 w7) [] = .ret (.d (.bl true)) [] := by kernel_rfl
theorem segD_5_1_2_1 (ns : List Int) : evB Tb.G C0 ((f_law.body.drop 12).take 1) (lA ns 5 (mOf 1) (some (.d (.int 2))) (some (.d (.int 1)))) [] = .nx (lA ns 5 (mOf 1) (some (.d (.int 2))) (some (.d (.int 1)))) [] := by kernel_rfl
theorem segD_5_1_2_2 (ns : List Int) : evB Tb.G C0 ((f_law.body.drop 12).take 1) (lA ns 5 (mOf 1) (some (.d (.int 2))) (some (.d (.int 2)))) [] = .nx (lA ns 5 (mOf 1) (some (.d (.int 2))) (some (.d (.int 2)))) [] := by kernel_rfl
theorem segD_5_1_2_3 (ns : List Int) : evB Tb.G C0 ((f_law.body.drop 12).take 1) (lA ns 5 (mOf 1) (some (.d (.int 2))) (some (.d (.int 3)))) [] = .nx (lA ns 5 (mOf 1) (some (.d (.int 2))) (some (.d (.int 3)))) [] := by kernel_rfl
theorem segD_5_1_2_4 (ns : List Int) : evB Tb.G C0 ((f_law.body.drop 12).take 1) (lA ns 5 (mOf 1) (some (.d (.int 2))) (some (.d (.int 4)))) [] = .nx (lA ns 5 (mOf 1) (some (.d (.int 2))) (some (.d (.int 4)))) [] := by kernel_rfl
theorem segD_5_1_2_5 (ns : List Int) : evB Tb.G C0 ((f_law.body.drop 12).take 1) (lA ns 5 (mOf 1) (some (.d (.int 2))) (some (.d (.int 5)))) [] = .nx (lA ns 5 (mOf 1) (some (.d (.int 2))) (some (.d (.int 5)))) [] := by kernel_rfl
theorem segD_5_1_3_1 (ns : List Int) : evB Tb.G C0 ((f_law.body.drop 12).take 1) (lA ns 5 (mOf 1) (some (.d (.int 3))) (some (.d (.int 1)))) [] = .nx (lA ns 5 (mOf 1) (some (.d (.int 3))) (some (.d (.int 1)))) [] := by kernel_rfl
theorem segD_5_1_3_2 (ns : List Int) : evB Tb.G C0 ((f_law.body.drop 12).take 1) (lA ns 5 (mOf 1) (some (.d (.int 3))) (some (.d (.int 2)))) [] = .nx (lA ns 5 (mOf 1) (some (.d (.int 3))) (some (.d (.int 2)))) [] := by kernel_rfl
theorem segD_5_1_3_3 (ns : List Int) : evB Tb.G C0 ((f_law.body.drop 12).take 1) (lA ns 5 (mOf 1) (some (.d (.int 3))) (some (.d (.int 3)))) [] = .nx (lA ns 5 (mOf 1) (some (.d (.int 3))) (some (.d (.int 3)))) [] := by kernel_rfl
theorem segD_5_1_3_4 (ns : List Int) : evB Tb.G C0 ((f_law.body.drop 12).take 1) (lA ns 5 (mOf 1) (some (.d (.int 3))) (some (.d (.int 4)))) [] = .nx (lA ns 5 (mOf 1) (some (.d (.int 3))) (some (.d (.int 4)))) [] := by kernel_rfl
theorem segD_5_1_3_5 (ns : List Int) : evB Tb.G C0 ((f_law.body.drop 12).take 1) (lA ns 5 (mOf 1) (some (.d (.int 3))) (some (.d (.int 5)))) [] = .nx (lA ns 5 (mOf 1) (some (.d (.int 3))) (some (.d (.int 5)))) [] := by kernel_rfl
theorem segD_5_1_4_1 (ns : List Int) : evB Tb.G C0 ((f_law.body.drop 12).take 1) (lA ns 5 (mOf 1) (some (.d (.int 4))) (some (.d (.int 1)))) [] = .nx (lA ns 5 (mOf 1) (some (.d (.int 4))) (some (.d (.int 1)))) [] := by kernel_rfl
theorem segD_5_1_4_2 (ns : List Int) : evB Tb.G C0 ((f_law.body.drop 12).take 1) (lA ns 5 (mOf 1) (some (.d (.int 4))) (some (.d (.int 2)))) [] = .nx (lA ns 5 (mOf 1) (some (.d (.int 4))) (some (.d (.int 2)))) [] := by kernel_rfl
theorem segD_5_1_4_3 (ns : List Int) : evB Tb.G C0 ((f_law.body.drop 12).take 1) (lA ns 5 (mOf 1) (some (.d (.int 4))) (some (.d (.int 3)))) [] = .nx (lA ns 5 (mOf 1) (some (.d (.int 4))) (some (.d (.int 3)))) [] := by kernel_rfl
theorem segD_5_1_4_4 (ns : List Int) : evB Tb.G C0 ((f_law.body.drop 12).take 1) (lA ns 5 (mOf 1) (some (.d (.int 4))) (some (.d (.int 4)))) [] = .nx (lA ns 5 (mOf 1) (some (.d (.int 4))) (some (.d (.int 4)))) [] := by kernel_rfl
theorem segD_5_1_4_5 (ns : List Int) : evB Tb.G C0 ((f_law.body.drop 12).take 1) (lA ns 5 (mOf 1) (some (.d (.int 4))) (some (.d (.int 5)))) [] = .nx (lA ns 5 (mOf 1) (some (.d (.int 4))) (some (.d (.int 5)))) [] := by kernel_rfl
theorem segC_5_1 (ns : List Int) : evB Tb.G C0 ((f_law.body.drop 10).take 2) (lA ns 5 (mOf 1) none none) [] = .nx (lA ns 5 (mOf 1) (some (.d (.int (2 + cellv ns 2 % 3)))) (some (.d (.int (1 + cellv ns 3 % 5))))) [] := by
  have h2 : callW C0 false 117 [W.d (D.scr ns), W.d (D.int 2)] [] = _ := call_cell ns 2 19 []
  have h3 : callW C0 false 117 [W.d (D.scr ns), W.d (D.int 3)] [] = _ := call_cell ns 3 19 []
  simp only [lA, f_law, Ss.drop, Ss.take, evB, evS, evE, evA, evT, evG, evGs, asD, RE.bind, RE.st, RS.sq, rdVar, List.getElem?_cons_zero, List.getElem?_cons_succ, look1, Option.bind, Option.map, RE.of, opt2, evIx, h2]
  simp only [List.length_cons, List.length_nil, evBin, List.set_cons_succ, List.set_cons_zero]
  simp [h3]
  done
theorem rest_5_1 (ns : List Int) : evB Tb.G C0 (f_law.body.drop 4) (lA ns 5 (mOf 1) none none) [] = .ret (.d (.bl true)) [] := by
  refine evB_seg 6 (segB_5_1 ns) ?_
  rw [dr10]
  refine evB_seg 2 (segC_5_1 ns) ?_
  rw [dr12]
  have a2 : 2 + cellv ns 2 % 3 = 2 ∨ 2 + cellv ns 2 % 3 = 3 ∨ 2 + cellv ns 2 % 3 = 4 := by omega
  have a3 : 1 + cellv ns 3 % 5 = 1 ∨ 1 + cellv ns 3 % 5 = 2 ∨ 1 + cellv ns 3 % 5 = 3 ∨ 1 + cellv ns 3 % 5 = 4 ∨ 1 + cellv ns 3 % 5 = 5 := by omega
  rcases a2 with e2 | e2 | e2 <;> rcases a3 with e3 | e3 | e3 | e3 | e3 <;> rw [e2, e3]
  · refine evB_seg 1 (segD_5_1_2_1 ns) ?_
    rw [dr13]
    exact segE_5_1 ns _ _
  · refine evB_seg 1 (segD_5_1_2_2 ns) ?_
    rw [dr13]
    exact segE_5_1 ns _ _
  · refine evB_seg 1 (segD_5_1_2_3 ns) ?_
    rw [dr13]
    exact segE_5_1 ns _ _
  · refine evB_seg 1 (segD_5_1_2_4 ns) ?_
    rw [dr13]
    exact segE_5_1 ns _ _
  · refine evB_seg 1 (segD_5_1_2_5 ns) ?_
    rw [dr13]
    exact segE_5_1 ns _ _
  · refine evB_seg 1 (segD_5_1_3_1 ns) ?_
    rw [dr13]
    exact segE_5_1 ns _ _
  · refine evB_seg 1 (segD_5_1_3_2 ns) ?_
    rw [dr13]
    exact segE_5_1 ns _ _
  · refine evB_seg 1 (segD_5_1_3_3 ns) ?_
    rw [dr13]
    exact segE_5_1 ns _ _
  · refine evB_seg 1 (segD_5_1_3_4 ns) ?_
    rw [dr13]
    exact segE_5_1 ns _ _
  · refine evB_seg 1 (segD_5_1_3_5 ns) ?_
    rw [dr13]
    exact segE_5_1 ns _ _
  · refine evB_seg 1 (segD_5_1_4_1 ns) ?_
    rw [dr13]
    exact segE_5_1 ns _ _
  · refine evB_seg 1 (segD_5_1_4_2 ns) ?_
    rw [dr13]
    exact segE_5_1 ns _ _
  · refine evB_seg 1 (segD_5_1_4_3 ns) ?_
    rw [dr13]
    exact segE_5_1 ns _ _
  · refine evB_seg 1 (segD_5_1_4_4 ns) ?_
    rw [dr13]
    exact segE_5_1 ns _ _
  · refine evB_seg 1 (segD_5_1_4_5 ns) ?_
    rw [dr13]
    exact segE_5_1 ns _ _
theorem segB_6_0 (ns : List Int) : evB Tb.G C0 ((f_law.body.drop 4).take 6) (lA ns 6 (mOf 0) none none) [] = .nx (lA ns 6 (mOf 0) none none) [] := by kernel_rfl
theorem segE_6_0 (ns : List Int) (w6 w7 : Option W) : evB Tb.G C0 (f_law.body.drop 13) (lA ns 6 (mOf 0) w6 w7) [] = .ret (.d (.bl true)) [] := by kernel_rfl
theorem segD_6_0_2_1 (ns : List Int) : evB Tb.G C0 ((f_law.body.drop 12).take 1) (lA ns 6 (mOf 0) (some (.d (.int 2))) (some (.d (.int 1)))) [] = .nx (lA ns 6 (mOf 0) (some (.d (.int 2))) (some (.d (.int 1)))) [] := by kernel_rfl
theorem segD_6_0_2_2 (ns : List Int) : evB Tb.G C0 ((f_law.body.drop 12).take 1) (lA ns 6 (mOf 0) (some (.d (.int 2))) (some (.d (.int 2)))) [] = .nx (lA ns 6 (mOf 0) (some (.d (.int 2))) (some (.d (.int 2)))) [] := by kernel_rfl
theorem segD_6_0_2_3 (ns : List Int) : evB Tb.G C0 ((f_law.body.drop 12).take 1) (lA ns 6 (mOf 0) (some (.d (.int 2))) (some (.d (.int 3)))) [] = .nx (lA ns 6 (mOf 0) (some (.d (.int 2))) (some (.d (.int 3)))) [] := by kernel_rfl
theorem segD_6_0_2_4 (ns : List Int) : evB Tb.G C0 ((f_law.body.drop 12).take 1) (lA ns 6 (mOf 0) (some (.d (.int 2))) (some (.d (.int 4)))) [] = .nx (lA ns 6 (mOf 0) (some (.d (.int 2))) (some (.d (.int 4)))) [] := by kernel_rfl
theorem segD_6_0_2_5 (ns : List Int) : evB Tb.G C0 ((f_law.body.drop 12).take 1) (lA ns 6 (mOf 0) (some (.d (.int 2))) (some (.d (.int 5)))) [] = .nx (lA ns 6 (mOf 0) (some (.d (.int 2))) (some (.d (.int 5)))) [] := by kernel_rfl
theorem segD_6_0_3_1 (ns : List Int) : evB Tb.G C0 ((f_law.body.drop 12).take 1) (lA ns 6 (mOf 0) (some (.d (.int 3))) (some (.d (.int 1)))) [] = .nx (lA ns 6 (mOf 0) (some (.d (.int 3))) (some (.d (.int 1)))) [] := by kernel_rfl
theorem segD_6_0_3_2 (ns : List Int) : evB Tb.G C0 ((f_law.body.drop 12).take 1) (lA ns 6 (mOf 0) (some (.d (.int 3))) (some (.d (.int 2)))) [] = .nx (lA ns 6 (mOf 0) (some (.d (.int 3))) (some (.d (.int 2)))) [] := by kernel_rfl
theorem segD_6_0_3_3 (ns : List Int) : evB Tb.G C0 ((f_law.body.drop 12).take 1) (lA ns 6 (mOf 0) (some (.d (.int 3))) (some (.d (.int 3)))) [] = .nx (lA ns 6 (mOf 0) (some (.d (.int 3))) (some (.d (.int 3)))) [] := by kernel_rfl
theorem segD_6_0_3_4 (ns : List Int) : evB Tb.G C0 ((f_law.body.drop 12).take 1) (lA ns 6 (mOf 0) (some (.d (.int 3))) (some (.d (.int 4)))) [] = .nx (lA ns 6 (mOf 0) (some (.d (.int 3))) (some (.d (.int 4)))) [] := by kernel_rfl
theorem segD_6_0_3_5 (ns : List Int) : evB Tb.G C0 ((f_law.body.drop 12).take 1) (lA ns 6 (mOf 0) (some (.d (.int 3))) (some (.d (.int 5)))) [] = .nx (lA ns 6 (mOf 0) (some (.d (.int 3))) (some (.d (.int 5)))) [] := by kernel_rfl
theorem segD_6_0_4_1 (ns : List Int) : evB Tb.G C0 ((f_law.body.drop 12).take 1) (lA ns 6 (mOf 0) (some (.d (.int 4))) (some (.d (.int 1)))) [] = .nx (lA ns 6 (mOf 0) (some (.d (.int 4))) (some (.d (.int 1)))) [] := by kernel_rfl
theorem segD_6_0_4_2 (ns : List Int) : evB Tb.G C0 ((f_law.body.drop 12).take 1) (lA ns 6 (mOf 0) (some (.d (.int 4))) (some (.d (.int 2)))) [] = .nx (lA ns 6 (mOf 0) (some (.d (.int 4))) (some (.d (.int 2)))) [] := by kernel_rfl
theorem segD_6_0_4_3 (ns : List Int) : evB Tb.G C0 ((f_law.body.drop 12).take 1) (lA ns 6 (mOf 0) (some (.d (.int 4))) (some (.d (.int 3)))) [] = .nx (lA ns 6 (mOf 0) (some (.d (.int 4))) (some (.d (.int 3)))) [] := by kernel_rfl
theorem segD_6_0_4_4 (ns : List Int) : evB Tb.G C0 ((f_law.body.drop 12).take 1) (lA ns 6 (mOf 0) (some (.d (.int 4))) (some (.d (.int 4)))) [] = .nx (lA ns 6 (mOf 0) (some (.d (.int 4))) (some (.d (.int 4)))) [] := by kernel_rfl
theorem segD_6_0_4_5 (ns : List Int) : evB Tb.G C0 ((f_law.body.drop 12).take 1) (lA ns 6 (mOf 0) (some (.d (.int 4))) (some (.d (.int 5)))) [] = .nx (lA ns 6 (mOf 0) (some (.d (.int 4))) (some (.d (.int 5)))) [] := by kernel_rfl
theorem segC_6_0 (ns : List Int) : evB Tb.G C0 ((f_law.body.drop 10).take 2) (lA ns 6 (mOf 0) none none) [] = .nx (lA ns 6 (mOf 0) (some (.d (.int (2 + cellv ns 2 % 3)))) (some (.d (.int (1 + cellv ns 3 % 5))))) [] := by
  have h2 : callW C0 false 117 [W.d (D.scr ns), W.d (D.int 2)] [] = _ := call_cell ns 2 19 []
  have h3 : callW C0 false 117 [W.d (D.scr ns), W.d (D.int 3)] [] = _ := call_cell ns 3 19 []
  simp only [lA, f_law, Ss.drop, Ss.take, evB, evS, evE, evA, evT, evG, evGs, asD, RE.bind, RE.st, RS.sq, rdVar, List.getElem?_cons_zero, List.getElem?_cons_succ, look1, Option.bind, Option.map, RE.of, opt2, evIx, h2]
  simp only [List.length_cons, List.length_nil, evBin, List.set_cons_succ, List.set_cons_zero]
  simp [h3]
  done
theorem rest_6_0 (ns : List Int) : evB Tb.G C0 (f_law.body.drop 4) (lA ns 6 (mOf 0) none none) [] = .ret (.d (.bl true)) [] := by
  refine evB_seg 6 (segB_6_0 ns) ?_
  rw [dr10]
  refine evB_seg 2 (segC_6_0 ns) ?_
  rw [dr12]
  have a2 : 2 + cellv ns 2 % 3 = 2 ∨ 2 + cellv ns 2 % 3 = 3 ∨ 2 + cellv ns 2 % 3 = 4 := by omega
  have a3 : 1 + cellv ns 3 % 5 = 1 ∨ 1 + cellv ns 3 % 5 = 2 ∨ 1 + cellv ns 3 % 5 = 3 ∨ 1 + cellv ns 3 % 5 = 4 ∨ 1 + cellv ns 3 % 5 = 5 := by omega
  rcases a2 with e2 | e2 | e2 <;> rcases a3 with e3 | e3 | e3 | e3 | e3 <;> rw [e2, e3]
  · refine evB_seg 1 (segD_6_0_2_1 ns) ?_
    rw [dr13]
    exact segE_6_0 ns _ _
  · refine evB_seg 1 (segD_6_0_2_2 ns) ?_
    rw [dr13]
    exact segE_6_0 ns _ _
  · refine evB_seg 1 (segD_6_0_2_3 ns) ?_
    rw [dr13]
    exact segE_6_0 ns _ _
  · refine evB_seg 1 (segD_6_0_2_4 ns) ?_
    rw [dr13]
    exact segE_6_0 ns _ _
  · refine evB_seg 1 (segD_6_0_2_5 ns) ?_
    rw [dr13]
    exact segE_6_0 ns _ _
  · refine evB_seg 1 (segD_6_0_3_1 ns) ?_
    rw [dr13]
    exact segE_6_0 ns _ _
  · refine evB_seg 1 (segD_6_0_3_2 ns) ?_
    rw [dr13]
    exact segE_6_0 ns _ _
  · refine evB_seg 1 (segD_6_0_3_3 ns) ?_
    rw [dr13]
    exact segE_6_0 ns _ _
  · refine evB_seg 1 (segD_6_0_3_4 ns) ?_
    rw [dr13]
    exact segE_6_0 ns _ _
  · refine evB_seg 1 (segD_6_0_3_5 ns) ?_
    rw [dr13]
    exact segE_6_0 ns _ _
  · refine evB_seg 1 (segD_6_0_4_1 ns) ?_
    rw [dr13]
    exact segE_6_0 ns _ _
  · refine evB_seg 1 (segD_6_0_4_2 ns) ?_
    rw [dr13]
    exact segE_6_0 ns _ _
  · refine evB_seg 1 (segD_6_0_4_3 ns) ?_
    rw [dr13]
    exact segE_6_0 ns _ _
  · refine evB_seg 1 (segD_6_0_4_4 ns) ?_
    rw [dr13]
    exact segE_6_0 ns _ _
  · refine evB_seg 1 (segD_6_0_4_5 ns) ?_
    rw [dr13]
    exact segE_6_0 ns _ _
theorem segB_6_1 (ns : List Int) : evB Tb.G C0 ((f_law.body.drop 4).take 6) (lA ns 6 (mOf 1) none none) [] = .nx (lA ns 6 (mOf 1) none none) [] := by kernel_rfl
theorem segE_6_1 (ns : List Int) (w6 w7 : Option W) : evB Tb.G C0 (f_law.body.drop 13) (lA ns 6 (mOf 1) w6 w7) [] = .ret (.d (.bl true)) [] := by kernel_rfl
theorem segD_6_1_2_1 (ns : List Int) : evB Tb.G C0 ((f_law.body.drop 12).take 1) (lA ns 6 (mOf 1) (some (.d (.int 2))) (some (.d (.int 1)))) [] = .nx (lA ns 6 (mOf 1) (some (.d (.int 2))) (some (.d (.int 1)))) [] := by kernel_rfl
theorem segD_6_1_2_2 (ns : List Int) : evB Tb.G C0 ((f_law.body.drop 12).take 1) (lA ns 6 (mOf 1) (some (.d (.int 2))) (some (.d (.int 2)))) [] = .nx (lA ns 6 (mOf 1) (some (.d (.int 2))) (some (.d (.int 2)))) [] := by kernel_rfl
theorem segD_6_1_2_3 (ns : List Int) : evB Tb.G C0 ((f_law.body.drop 12).take 1) (lA ns 6 (mOf 1) (some (.d (.int 2))) (some (.d (.int 3)))) [] = .nx (lA ns 6 (mOf 1) (some (.d (.int 2))) (some (.d (.int 3)))) [] := by kernel_rfl
theorem segD_6_1_2_4 (ns : List Int) : evB Tb.G C0 ((f_law.body.drop 12).take 1) (lA ns 6 (mOf 1) (some (.d (.int 2))) (some (.d (.int 4)))) [] = .nx (lA ns 6 (mOf 1) (some (.d (.int 2))) (some (.d (.int 4)))) [] := by kernel_rfl
theorem segD_6_1_2_5 (ns : List Int) : evB Tb.G C0 ((f_law.body.drop 12).take 1) (lA ns 6 (mOf 1) (some (.d (.int 2))) (some (.d (.int 5)))) [] = .nx (lA ns 6 (mOf 1) (some (.d (.int 2))) (some (.d (.int 5)))) [] := by kernel_rfl
theorem segD_6_1_3_1 (ns : List Int) : evB Tb.G C0 ((f_law.body.drop 12).take 1) (lA ns 6 (mOf 1) (some (.d (.int 3))) (some (.d (.int 1)))) [] = .nx (lA ns 6 (mOf 1) (some (.d (.int 3))) (some (.d (.int 1)))) [] := by kernel_rfl
theorem segD_6_1_3_2 (ns : List Int) : evB Tb.G C0 ((f_law.body.drop 12).take 1) (lA ns 6 (mOf 1) (some (.d (.int 3))) (some (.d (.int 2)))) [] = .nx (lA ns 6 (mOf 1) (some (.d (.int 3))) (some (.d (.int 2)))) [] := by kernel_rfl
theorem segD_6_1_3_3 (ns : List Int) : evB Tb.G C0 ((f_law.body.drop 12).take 1) (lA ns 6 (mOf 1) (some (.d (.int 3))) (some (.d (.int 3)))) [] = .nx (lA ns 6 (mOf 1) (some (.d (.int 3))) (some (.d (.int 3)))) [] := by kernel_rfl
theorem segD_6_1_3_4 (ns : List Int) : evB Tb.G C0 ((f_law.body.drop 12).take 1) (lA ns 6 (mOf 1) (some (.d (.int 3))) (some (.d (.int 4)))) [] = .nx (lA ns 6 (mOf 1) (some (.d (.int 3))) (some (.d (.int 4)))) [] := by kernel_rfl
theorem segD_6_1_3_5 (ns : List Int) : evB Tb.G C0 ((f_law.body.drop 12).take 1) (lA ns 6 (mOf 1) (some (.d (.int 3))) (some (.d (.int 5)))) [] = .nx (lA ns 6 (mOf 1) (some (.d (.int 3))) (some (.d (.int 5)))) [] := by kernel_rfl
theorem segD_6_1_4_1 (ns : List Int) : evB Tb.G C0 ((f_law.body.drop 12).take 1) (lA ns 6 (mOf 1) (some (.d (.int 4))) (some (.d (.int 1)))) [] = .nx (lA ns 6 (mOf 1) (some (.d (.int 4))) (some (.d (.int 1)))) [] := by kernel_rfl
theorem segD_6_1_4_2 (ns : List Int) : evB Tb.G C0 ((f_law.body.drop 12).take 1) (lA ns 6 (mOf 1) (some (.d (.int 4))) (some (.d (.int 2)))) [] = .nx (lA ns 6 (mOf 1) (some (.d (.int 4))) (some (.d (.int 2)))) [] := by kernel_rfl
theorem segD_6_1_4_3 (ns : List Int) : evB Tb.G C0 ((f_law.body.drop 12).take 1) (lA ns 6 (mOf 1) (some (.d (.int 4))) (some (.d (.int 3)))) [] = .nx (lA ns 6 (mOf 1) (some (.d (.int 4))) (some (.d (.int 3)))) [] := by kernel_rfl
theorem segD_6_1_4_4 (ns : List Int) : evB Tb.G C0 ((f_law.body.drop 12).take 1) (lA ns 6 (mOf 1) (some (.d (.int 4))) (some (.d (.int 4)))) [] = .nx (lA ns 6 (mOf 1) (some (.d (.int 4))) (some (.d (.int 4)))) [] := by kernel_rfl
theorem segD_6_1_4_5 (ns : List Int) : evB Tb.G C0 ((f_law.body.drop 12).take 1) (lA ns 6 (mOf 1) (some (.d (.int 4))) (some (.d (.int 5)))) [] = .nx (lA ns 6 (mOf 1) (some (.d (.int 4))) (some (.d (.int 5)))) [] := by kernel_rfl
theorem segC_6_1 (ns : List Int) : evB Tb.G C0 ((f_law.body.drop 10).take 2) (lA ns 6 (mOf 1) none none) [] = .nx (lA ns 6 (mOf 1) (some (.d (.int (2 + cellv ns 2 % 3)))) (some (.d (.int (1 + cellv ns 3 % 5))))) [] := by
  have h2 : callW C0 false 117 [W.d (D.scr ns), W.d (D.int 2)] [] = _ := call_cell ns 2 19 []
  have h3 : callW C0 false 117 [W.d (D.scr ns), W.d (D.int 3)] [] = _ := call_cell ns 3 19 []
  simp only [lA, f_law, Ss.drop, Ss.take, evB, evS, evE, evA, evT, evG, evGs, asD, RE.bind, RE.st, RS.sq, rdVar, List.getElem?_cons_zero, List.getElem?_cons_succ, look1, Option.bind, Option.map, RE.of, opt2, evIx, h2]
  simp only [List.length_cons, List.length_nil, evBin, List.set_cons_succ, List.set_cons_zero]
  simp [h3]
  done
theorem rest_6_1 (ns : List Int) : evB Tb.G C0 (f_law.body.drop 4) (lA ns 6 (mOf 1) none none) [] = .ret (.d (.bl true)) [] := by
  refine evB_seg 6 (segB_6_1 ns) ?_
  rw [dr10]
  refine evB_seg 2 (segC_6_1 ns) ?_
  rw [dr12]
  have a2 : 2 + cellv ns 2 % 3 = 2 ∨ 2 + cellv ns 2 % 3 = 3 ∨ 2 + cellv ns 2 % 3 = 4 := by omega
  have a3 : 1 + cellv ns 3 % 5 = 1 ∨ 1 + cellv ns 3 % 5 = 2 ∨ 1 + cellv ns 3 % 5 = 3 ∨ 1 + cellv ns 3 % 5 = 4 ∨ 1 + cellv ns 3 % 5 = 5 := by omega
  rcases a2 with e2 | e2 | e2 <;> rcases a3 with e3 | e3 | e3 | e3 | e3 <;> rw [e2, e3]
  · refine evB_seg 1 (segD_6_1_2_1 ns) ?_
    rw [dr13]
    exact segE_6_1 ns _ _
  · refine evB_seg 1 (segD_6_1_2_2 ns) ?_
    rw [dr13]
    exact segE_6_1 ns _ _
  · refine evB_seg 1 (segD_6_1_2_3 ns) ?_
    rw [dr13]
    exact segE_6_1 ns _ _
  · refine evB_seg 1 (segD_6_1_2_4 ns) ?_
    rw [dr13]
    exact segE_6_1 ns _ _
  · refine evB_seg 1 (segD_6_1_2_5 ns) ?_
    rw [dr13]
    exact segE_6_1 ns _ _
  · refine evB_seg 1 (segD_6_1_3_1 ns) ?_
    rw [dr13]
    exact segE_6_1 ns _ _
  · refine evB_seg 1 (segD_6_1_3_2 ns) ?_
    rw [dr13]
    exact segE_6_1 ns _ _
  · refine evB_seg 1 (segD_6_1_3_3 ns) ?_
    rw [dr13]
    exact segE_6_1 ns _ _
  · refine evB_seg 1 (segD_6_1_3_4 ns) ?_
    rw [dr13]
    exact segE_6_1 ns _ _
  · refine evB_seg 1 (segD_6_1_3_5 ns) ?_
    rw [dr13]
    exact segE_6_1 ns _ _
  · refine evB_seg 1 (segD_6_1_4_1 ns) ?_
    rw [dr13]
    exact segE_6_1 ns _ _
  · refine evB_seg 1 (segD_6_1_4_2 ns) ?_
    rw [dr13]
    exact segE_6_1 ns _ _
  · refine evB_seg 1 (segD_6_1_4_3 ns) ?_
    rw [dr13]
    exact segE_6_1 ns _ _
  · refine evB_seg 1 (segD_6_1_4_4 ns) ?_
    rw [dr13]
    exact segE_6_1 ns _ _
  · refine evB_seg 1 (segD_6_1_4_5 ns) ?_
    rw [dr13]
    exact segE_6_1 ns _ _
theorem segB_7_0 (ns : List Int) : evB Tb.G C0 ((f_law.body.drop 4).take 6) (lA ns 7 (mOf 0) none none) [] = .nx (lA ns 7 (mOf 0) none none) [] := by kernel_rfl
theorem segE_7_0 (ns : List Int) (w6 w7 : Option W) : evB Tb.G C0 (f_law.body.drop 13) (lA ns 7 (mOf 0) w6 w7) [] = .ret (.d (.bl true)) [] := by kernel_rfl
theorem segD_7_0_2_1 (ns : List Int) : evB Tb.G C0 ((f_law.body.drop 12).take 1) (lA ns 7 (mOf 0) (some (.d (.int 2))) (some (.d (.int 1)))) [] = .nx (lA ns 7 (mOf 0) (some (.d (.int 2))) (some (.d (.int 1)))) [] := by kernel_rfl
theorem segD_7_0_2_2 (ns : List Int) : evB Tb.G C0 ((f_law.body.drop 12).take 1) (lA ns 7 (mOf 0) (some (.d (.int 2))) (some (.d (.int 2)))) [] = .nx (lA ns 7 (mOf 0) (some (.d (.int 2))) (some (.d (.int 2)))) [] := by kernel_rfl
theorem segD_7_0_2_3 (ns : List Int) : evB Tb.G C0 ((f_law.body.drop 12).take 1) (lA ns 7 (mOf 0) (some (.d (.int 2))) (some (.d (.int 3)))) [] = .nx (lA ns 7 (mOf 0) (some (.d (.int 2))) (some (.d (.int 3)))) [] := by kernel_rfl
theorem segD_7_0_2_4 (ns : List Int) : evB Tb.G C0 ((f_law.body.drop 12).take 1) (lA ns 7 (mOf 0) (some (.d (.int 2))) (some (.d (.int 4)))) [] = .nx (lA ns 7 (mOf 0) (some (.d (.int 2))) (some (.d (.int 4)))) [] := by kernel_rfl
theorem segD_7_0_2_5 (ns : List Int) : evB Tb.G C0 ((f_law.body.drop 12).take 1) (lA ns 7 (mOf 0) (some (.d (.int 2))) (some (.d (.int 5)))) [] = .nx (lA ns 7 (mOf 0) (some (.d (.int 2))) (some (.d (.int 5)))) [] := by kernel_rfl
theorem segD_7_0_3_1 (ns : List Int) : evB Tb.G C0 ((f_law.body.drop 12).take 1) (lA ns 7 (mOf 0) (some (.d (.int 3))) (some (.d (.int 1)))) [] = .nx (lA ns 7 (mOf 0) (some (.d (.int 3))) (some (.d (.int 1)))) [] := by kernel_rfl
theorem segD_7_0_3_2 (ns : List Int) : evB Tb.G C0 ((f_law.body.drop 12).take 1) (lA ns 7 (mOf 0) (some (.d (.int 3))) (some (.d (.int 2)))) [] = .nx (lA ns 7 (mOf 0) (some (.d (.int 3))) (some (.d (.int 2)))) [] := by kernel_rfl
theorem segD_7_0_3_3 (ns : List Int) : evB Tb.G C0 ((f_law.body.drop 12).take 1) (lA ns 7 (mOf 0) (some (.d (.int 3))) (some (.d (.int 3)))) [] = .nx (lA ns 7 (mOf 0) (some (.d (.int 3))) (some (.d (.int 3)))) [] := by kernel_rfl
theorem segD_7_0_3_4 (ns : List Int) : evB Tb.G C0 ((f_law.body.drop 12).take 1) (lA ns 7 (mOf 0) (some (.d (.int 3))) (some (.d (.int 4)))) [] = .nx (lA ns 7 (mOf 0) (some (.d (.int 3))) (some (.d (.int 4)))) [] := by kernel_rfl
theorem segD_7_0_3_5 (ns : List Int) : evB Tb.G C0 ((f_law.body.drop 12).take 1) (lA ns 7 (mOf 0) (some (.d (.int 3))) (some (.d (.int 5)))) [] = .nx (lA ns 7 (mOf 0) (some (.d (.int 3))) (some (.d (.int 5)))) [] := by kernel_rfl
theorem segD_7_0_4_1 (ns : List Int) : evB Tb.G C0 ((f_law.body.drop 12).take 1) (lA ns 7 (mOf 0) (some (.d (.int 4))) (some (.d (.int 1)))) [] = .nx (lA ns 7 (mOf 0) (some (.d (.int 4))) (some (.d (.int 1)))) [] := by kernel_rfl
theorem segD_7_0_4_2 (ns : List Int) : evB Tb.G C0 ((f_law.body.drop 12).take 1) (lA ns 7 (mOf 0) (some (.d (.int 4))) (some (.d (.int 2)))) [] = .nx (lA ns 7 (mOf 0) (some (.d (.int 4))) (some (.d (.int 2)))) [] := by kernel_rfl
theorem segD_7_0_4_3 (ns : List Int) : evB Tb.G C0 ((f_law.body.drop 12).take 1) (lA ns 7 (mOf 0) (some (.d (.int 4))) (some (.d (.int 3)))) [] = .nx (lA ns 7 (mOf 0) (some (.d (.int 4))) (some (.d (.int 3)))) [] := by kernel_rfl
theorem segD_7_0_4_4 (ns : List Int) : evB Tb.G C0 ((f_law.body.drop 12).take 1) (lA ns 7 (mOf 0) (some (.d (.int 4))) (some (.d (.int 4)))) [] = .nx (lA ns 7 (mOf 0) (some (.d (.int 4))) (some (.d (.int 4)))) [] := by kernel_rfl
theorem segD_7_0_4_5 (ns : List Int) : evB Tb.G C0 ((f_law.body.drop 12).take 1) (lA ns 7 (mOf 0) (some (.d (.int 4))) (some (.d (.int 5)))) [] = .nx (lA ns 7 (mOf 0) (some (.d (.int 4))) (some (.d (.int 5)))) [] := by kernel_rfl
theorem segC_7_0 (ns : List Int) : evB Tb.G C0 ((f_law.body.drop 10).take 2) (lA ns 7 (mOf 0) none none) [] = .nx (lA ns 7 (mOf 0) (some (.d (.int (2 + cellv ns 2 % 3)))) (some (.d (.int (1 + cellv ns 3 % 5))))) [] := by
  have h2 : callW C0 false 117 [W.d (D.scr ns), W.d (D.int 2)] [] = _ := call_cell ns 2 19 []
  have h3 : callW C0 false 117 [W.d (D.scr ns), W.d (D.int 3)] [] = _ := call_cell ns 3 19 []
  simp only [lA, f_law, Ss.drop, Ss.take, evB, evS, evE, evA, evT, evG, evGs, asD, RE.bind, RE.st, RS.sq, rdVar, List.getElem?_cons_zero, List.getElem?_cons_succ, look1, Option.bind, Option.map, RE.of, opt2, evIx, h2]
  simp only [List.length_cons, List.length_nil, evBin, List.set_cons_succ, List.set_cons_zero]
  simp [h3]
  done
theorem rest_7_0 (ns : List Int) : evB Tb.G C0 (f_law.body.drop 4) (lA ns 7 (mOf 0) none none) [] = .ret (.d (.bl true)) [] := by
  refine evB_seg 6 (segB_7_0 ns) ?_
  rw [dr10]
  refine evB_seg 2 (segC_7_0 ns) ?_
  rw [dr12]
  have a2 : 2 + cellv ns 2 % 3 = 2 ∨ 2 + cellv ns 2 % 3 = 3 ∨ 2 + cellv ns 2 % 3 = 4 := by omega
  have a3 : 1 + cellv ns 3 % 5 = 1 ∨ 1 + cellv ns 3 % 5 = 2 ∨ 1 + cellv ns 3 % 5 = 3 ∨ 1 + cellv ns 3 % 5 = 4 ∨ 1 + cellv ns 3 % 5 = 5 := by omega
  rcases a2 with e2 | e2 | e2 <;> rcases a3 with e3 | e3 | e3 | e3 | e3 <;> rw [e2, e3]
  · refine evB_seg 1 (segD_7_0_2_1 ns) ?_
    rw [dr13]
    exact segE_7_0 ns _ _
  · refine evB_seg 1 (segD_7_0_2_2 ns) ?_
    rw [dr13]
    exact segE_7_0 ns _ _
  · refine evB_seg 1 (segD_7_0_2_3 ns) ?_
    rw [dr13]
    exact segE_7_0 ns _ _
  · refine evB_seg 1 (segD_7_0_2_4 ns) ?_
    rw [dr13]
    exact segE_7_0 ns _ _
  · refine evB_seg 1 (segD_7_0_2_5 ns) ?_
    rw [dr13]
    exact segE_7_0 ns _ _
  · refine evB_seg 1 (segD_7_0_3_1 ns) ?_
    rw [dr13]
    exact segE_7_0 ns _ _
  · refine evB_seg 1 (segD_7_0_3_2 ns) ?_
    rw [dr13]
    exact segE_7_0 ns _ _
  · refine evB_seg 1 (segD_7_0_3_3 ns) ?_
    rw [dr13]
    exact segE_7_0 ns _ _
  · refine evB_seg 1 (segD_7_0_3_4 ns) ?_
    rw [dr13]
    exact segE_7_0 ns _ _
  · refine evB_seg 1 (segD_7_0_3_5 ns) ?_
    rw [dr13]
    exact segE_7_0 ns _ _
  · refine evB_seg 1 (segD_7_0_4_1 ns) ?_
    rw [dr13]
    exact segE_7_0 ns _ _
  · refine evB_seg 1 (segD_7_0_4_2 ns) ?_
    rw [dr13]
    exact segE_7_0 ns _ _
  · refine evB_seg 1 (segD_7_0_4_3 ns) ?_
    rw [dr13]
    exact segE_7_0 ns _ _
  · refine evB_seg 1 (segD_7_0_4_4 ns) ?_
    rw [dr13]
    exact segE_7_0 ns _ _
  · refine evB_seg 1 (segD_7_0_4_5 ns) ?_
    rw [dr13]
    exact segE_7_0 ns _ _
theorem segB_7_1 (ns : List Int) : evB Tb.G C0 ((f_law.body.drop 4).take 6) (lA ns 7 (mOf 1) none none) [] = .nx (lA ns 7 (mOf 1) none none) [] := by kernel_rfl
theorem segE_7_1 (ns : List Int) (w6 w7 : Option W) : evB Tb.G C0 (f_law.body.drop 13) (lA ns 7 (mOf 1) w6 w7) [] = .ret (.d (.bl true)) [] := by kernel_rfl
theorem segD_7_1_2_1 (ns : List Int) : evB Tb.G C0 ((f_law.body.drop 12).take 1) (lA ns 7 (mOf 1) (some (.d (.int 2))) (some (.d (.int 1)))) [] = .nx (lA ns 7 (mOf 1) (some (.d (.int 2))) (some (.d (.int 1)))) [] := by kernel_rfl
theorem segD_7_1_2_2 (ns : List Int) : evB Tb.G C0 ((f_law.body.drop 12).take 1) (lA ns 7 (mOf 1) (some (.d (.int 2))) (some (.d (.int 2)))) [] = .nx (lA ns 7 (mOf 1) (some (.d (.int 2))) (some (.d (.int 2)))) [] := by kernel_rfl
theorem segD_7_1_2_3 (ns : List Int) : evB Tb.G C0 ((f_law.body.drop 12).take 1) (lA ns 7 (mOf 1) (some (.d (.int 2))) (some (.d (.int 3)))) [] = .nx (lA ns 7 (mOf 1) (some (.d (.int 2))) (some (.d (.int 3)))) [] := by kernel_rfl
theorem segD_7_1_2_4 (ns : List Int) : evB Tb.G C0 ((f_law.body.drop 12).take 1) (lA ns 7 (mOf 1) (some (.d (.int 2))) (some (.d (.int 4)))) [] = .nx (lA ns 7 (mOf 1) (some (.d (.int 2))) (some (.d (.int 4)))) [] := by kernel_rfl
theorem segD_7_1_2_5 (ns : List Int) : evB Tb.G C0 ((f_law.body.drop 12).take 1) (lA ns 7 (mOf 1) (some (.d (.int 2))) (some (.d (.int 5)))) [] = .nx (lA ns 7 (mOf 1) (some (.d (.int 2))) (some (.d (.int 5)))) [] := by kernel_rfl
theorem segD_7_1_3_1 (ns : List Int) : evB Tb.G C0 ((f_law.body.drop 12).take 1) (lA ns 7 (mOf 1) (some (.d (.int 3))) (some (.d (.int 1)))) [] = .nx (lA ns 7 (mOf 1) (some (.d (.int 3))) (some (.d (.int 1)))) [] := by kernel_rfl
theorem segD_7_1_3_2 (ns : List Int) : evB Tb.G C0 ((f_law.body.drop 12).take 1) (lA ns 7 (mOf 1) (some (.d (.int 3))) (some (.d (.int 2)))) [] = .nx (lA ns 7 (mOf 1) (some (.d (.int 3))) (some (.d (.int 2)))) [] := by kernel_rfl
theorem segD_7_1_3_3 (ns : List Int) : evB Tb.G C0 ((f_law.body.drop 12).take 1) (lA ns 7 (mOf 1) (some (.d (.int 3))) (some (.d (.int 3)))) [] = .nx (lA ns 7 (mOf 1) (some (.d (.int 3))) (some (.d (.int 3)))) [] := by kernel_rfl
theorem segD_7_1_3_4 (ns : List Int) : evB Tb.G C0 ((f_law.body.drop 12).take 1) (lA ns 7 (mOf 1) (some (.d (.int 3))) (some (.d (.int 4)))) [] = .nx (lA ns 7 (mOf 1) (some (.d (.int 3))) (some (.d (.int 4)))) [] := by kernel_rfl
theorem segD_7_1_3_5 (ns : List Int) : evB Tb.G C0 ((f_law.body.drop 12).take 1) (lA ns 7 (mOf 1) (some (.d (.int 3))) (some (.d (.int 5)))) [] = .nx (lA ns 7 (mOf 1) (some (.d (.int 3))) (some (.d (.int 5)))) [] := by kernel_rfl
theorem segD_7_1_4_1 (ns : List Int) : evB Tb.G C0 ((f_law.body.drop 12).take 1) (lA ns 7 (mOf 1) (some (.d (.int 4))) (some (.d (.int 1)))) [] = .nx (lA ns 7 (mOf 1) (some (.d (.int 4))) (some (.d (.int 1)))) [] := by kernel_rfl
theorem segD_7_1_4_2 (ns : List Int) : evB Tb.G C0 ((f_law.body.drop 12).take 1) (lA ns 7 (mOf 1) (some (.d (.int 4))) (some (.d (.int 2)))) [] = .nx (lA ns 7 (mOf 1) (some (.d (.int 4))) (some (.d (.int 2)))) [] := by kernel_rfl
theorem segD_7_1_4_3 (ns : List Int) : evB Tb.G C0 ((f_law.body.drop 12).take 1) (lA ns 7 (mOf 1) (some (.d (.int 4))) (some (.d (.int 3)))) [] = .nx (lA ns 7 (mOf 1) (some (.d (.int 4))) (some (.d (.int 3)))) [] := by kernel_rfl
theorem segD_7_1_4_4 (ns : List Int) : evB Tb.G C0 ((f_law.body.drop 12).take 1) (lA ns 7 (mOf 1) (some (.d (.int 4))) (some (.d (.int 4)))) [] = .nx (lA ns 7 (mOf 1) (some (.d (.int 4))) (some (.d (.int 4)))) [] := by kernel_rfl
theorem segD_7_1_4_5 (ns : List Int) : evB Tb.G C0 ((f_law.body.drop 12).take 1) (lA ns 7 (mOf 1) (some (.d (.int 4))) (some (.d (.int 5)))) [] = .nx (lA ns 7 (mOf 1) (some (.d (.int 4))) (some (.d (.int 5)))) [] := by kernel_rfl
theorem segC_7_1 (ns : List Int) : evB Tb.G C0 ((f_law.body.drop 10).take 2) (lA ns 7 (mOf 1) none none) [] = .nx (lA ns 7 (mOf 1) (some (.d (.int (2 + cellv ns 2 % 3)))) (some (.d (.int (1 + cellv ns 3 % 5))))) [] := by
  have h2 : callW C0 false 117 [W.d (D.scr ns), W.d (D.int 2)] [] = _ := call_cell ns 2 19 []
  have h3 : callW C0 false 117 [W.d (D.scr ns), W.d (D.int 3)] [] = _ := call_cell ns 3 19 []
  simp only [lA, f_law, Ss.drop, Ss.take, evB, evS, evE, evA, evT, evG, evGs, asD, RE.bind, RE.st, RS.sq, rdVar, List.getElem?_cons_zero, List.getElem?_cons_succ, look1, Option.bind, Option.map, RE.of, opt2, evIx, h2]
  simp only [List.length_cons, List.length_nil, evBin, List.set_cons_succ, List.set_cons_zero]
  simp [h3]
  done
theorem rest_7_1 (ns : List Int) : evB Tb.G C0 (f_law.body.drop 4) (lA ns 7 (mOf 1) none none) [] = .ret (.d (.bl true)) [] := by
  refine evB_seg 6 (segB_7_1 ns) ?_
  rw [dr10]
  refine evB_seg 2 (segC_7_1 ns) ?_
  rw [dr12]
  have a2 : 2 + cellv ns 2 % 3 = 2 ∨ 2 + cellv ns 2 % 3 = 3 ∨ 2 + cellv ns 2 % 3 = 4 := by omega
  have a3 : 1 + cellv ns 3 % 5 = 1 ∨ 1 + cellv ns 3 % 5 = 2 ∨ 1 + cellv ns 3 % 5 = 3 ∨ 1 + cellv ns 3 % 5 = 4 ∨ 1 + cellv ns 3 % 5 = 5 := by omega
  rcases a2 with e2 | e2 | e2 <;> rcases a3 with e3 | e3 | e3 | e3 | e3 <;> rw [e2, e3]
  · refine evB_seg 1 (segD_7_1_2_1 ns) ?_
    rw [dr13]
    exact segE_7_1 ns _ _
  · refine evB_seg 1 (segD_7_1_2_2 ns) ?_
    rw [dr13]
    exact segE_7_1 ns _ _
  · refine evB_seg 1 (segD_7_1_2_3 ns) ?_
    rw [dr13]
    exact segE_7_1 ns _ _
  · refine evB_seg 1 (segD_7_1_2_4 ns) ?_
    rw [dr13]
    exact segE_7_1 ns _ _
  · refine evB_seg 1 (segD_7_1_2_5 ns) ?_
    rw [dr13]
    exact segE_7_1 ns _ _
  · refine evB_seg 1 (segD_7_1_3_1 ns) ?_
    rw [dr13]
    exact segE_7_1 ns _ _
  · refine evB_seg 1 (segD_7_1_3_2 ns) ?_
    rw [dr13]
    exact segE_7_1 ns _ _
  · refine evB_seg 1 (segD_7_1_3_3 ns) ?_
    rw [dr13]
    exact segE_7_1 ns _ _
  · refine evB_seg 1 (segD_7_1_3_4 ns) ?_
    rw [dr13]
    exact segE_7_1 ns _ _
  · refine evB_seg 1 (segD_7_1_3_5 ns) ?_
    rw [dr13]
    exact segE_7_1 ns _ _
  · refine evB_seg 1 (segD_7_1_4_1 ns) ?_
    rw [dr13]
    exact segE_7_1 ns _ _
  · refine evB_seg 1 (segD_7_1_4_2 ns) ?_
    rw [dr13]
    exact segE_7_1 ns _ _
  · refine evB_seg 1 (segD_7_1_4_3 ns) ?_
    rw [dr13]
    exact segE_7_1 ns _ _
  · refine evB_seg 1 (segD_7_1_4_4 ns) ?_
    rw [dr13]
    exact segE_7_1 ns _ _
  · refine evB_seg 1 (segD_7_1_4_5 ns) ?_
    rw [dr13]
    exact segE_7_1 ns _ _
theorem segB_8_0 (ns : List Int) : evB Tb.G C0 ((f_law.body.drop 4).take 6) (lA ns 8 (mOf 0) none none) [] = .nx (lA ns 8 (mOf 0) none none) [] := by kernel_rfl
theorem segE_8_0 (ns : List Int) (w6 w7 : Option W) : evB Tb.G C0 (f_law.body.drop 13) (lA ns 8 (mOf 0) w6 w7) [] = .ret (.d (.bl true)) [] := by kernel_rfl
theorem segD_8_0_2_1 (ns : List Int) : evB Tb.G C0 ((f_law.body.drop 12).take 1) (lA ns 8 (mOf 0) (some (.d (.int 2))) (some (.d (.int 1)))) [] = .nx (lA ns 8 (mOf 0) (some (.d (.int 2))) (some (.d (.int 1)))) [] := by kernel_rfl
theorem segD_8_0_2_2 (ns : List Int) : evB Tb.G C0 ((f_law.body.drop 12).take 1) (lA ns 8 (mOf 0) (some (.d (.int 2))) (some (.d (.int 2)))) [] = .nx (lA ns 8 (mOf 0) (some (.d (.int 2))) (some (.d (.int 2)))) [] := by kernel_rfl
theorem segD_8_0_2_3 (ns : List Int) : evB Tb.G C0 ((f_law.body.drop 12).take 1) (lA ns 8 (mOf 0) (some (.d (.int 2))) (some (.d (.int 3)))) [] = .nx (lA ns 8 (mOf 0) (some (.d (.int 2))) (some (.d (.int 3)))) [] := by kernel_rfl
theorem segD_8_0_2_4 (ns : List Int) : evB Tb.G C0 ((f_law.body.drop 12).take 1) (lA ns 8 (mOf 0) (some (.d (.int 2))) (some (.d (.int 4)))) [] = .nx (lA ns 8 (mOf 0) (some (.d (.int 2))) (some (.d (.int 4)))) [] := by kernel_rfl
theorem segD_8_0_2_5 (ns : List Int) : evB Tb.G C0 ((f_law.body.drop 12).take 1) (lA ns 8 (mOf 0) (some (.d (.int 2))) (some (.d (.int 5)))) [] = .nx (lA ns 8 (mOf 0) (some (.d (.int 2))) (some (.d (.int 5)))) [] := by kernel_rfl
theorem segD_8_0_3_1 (ns : List Int) : evB Tb.G C0 ((f_law.body.drop 12).take 1) (lA ns 8 (mOf 0) (some (.d (.int 3))) (some (.d (.int 1)))) [] = .nx (lA ns 8 (mOf 0) (some (.d (.int 3))) (some (.d (.int 1)))) [] := by kernel_rfl
theorem segD_8_0_3_2 (ns : List Int) : evB Tb.G C0 ((f_law.body.drop 12).take 1) (lA ns 8 (mOf 0) (some (.d (.int 3))) (some (.d (.int 2)))) [] = .nx (lA ns 8 (mOf 0) (some (.d (.int 3))) (some (.d (.int 2)))) [] := by kernel_rfl
theorem segD_8_0_3_3 (ns : List Int) : evB Tb.G C0 ((f_law.body.drop 12).take 1) (lA ns 8 (mOf 0) (some (.d (.int 3))) (some (.d (.int 3)))) [] = .nx (lA ns 8 (mOf 0) (some (.d (.int 3))) (some (.d (.int 3)))) [] := by kernel_rfl
theorem segD_8_0_3_4 (ns : List Int) : evB Tb.G C0 ((f_law.body.drop 12).take 1) (lA ns 8 (mOf 0) (some (.d (.int 3))) (some (.d (.int 4)))) [] = .nx (lA ns 8 (mOf 0) (some (.d (.int 3))) (some (.d (.int 4)))) [] := by kernel_rfl
theorem segD_8_0_3_5 (ns : List Int) : evB Tb.G C0 ((f_law.body.drop 12).take 1) (lA ns 8 (mOf 0) (some (.d (.int 3))) (some (.d (.int 5)))) [] = .nx (lA ns 8 (mOf 0) (some (.d (.int 3))) (some (.d (.int 5)))) [] := by kernel_rfl
theorem segD_8_0_4_1 (ns : List Int) : evB Tb.G C0 ((f_law.body.drop 12).take 1) (lA ns 8 (mOf 0) (some (.d (.int 4))) (some (.d (.int 1)))) [] = .nx (lA ns 8 (mOf 0) (some (.d (.int 4))) (some (.d (.int 1)))) [] := by kernel_rfl
theorem segD_8_0_4_2 (ns : List Int) : evB Tb.G C0 ((f_law.body.drop 12).take 1) (lA ns 8 (mOf 0) (some (.d (.int 4))) (some (.d (.int 2)))) [] = .nx (lA ns 8 (mOf 0) (some (.d (.int 4))) (some (.d (.int 2)))) [] := by kernel_rfl
theorem segD_8_0_4_3 (ns : List Int) : evB Tb.G C0 ((f_law.body.drop 12).take 1) (lA ns 8 (mOf 0) (some (.d (.int 4))) (some (.d (.int 3)))) [] = .nx (lA ns 8 (mOf 0) (some (.d (.int 4))) (some (.d (.int 3)))) [] := by kernel_rfl
theorem segD_8_0_4_4 (ns : List Int) : evB Tb.G C0 ((f_law.body.drop 12).take 1) (lA ns 8 (mOf 0) (some (.d (.int 4))) (some (.d (.int 4)))) [] = .nx (lA ns 8 (mOf 0) (some (.d (.int 4))) (some (.d (.int 4)))) [] := by kernel_rfl
theorem segD_8_0_4_5 (ns : List Int) : evB Tb.G C0 ((f_law.body.drop 12).take 1) (lA ns 8 (mOf 0) (some (.d (.int 4))) (some (.d (.int 5)))) [] = .nx (lA ns 8 (mOf 0) (some (.d (.int 4))) (some (.d (.int 5)))) [] := by kernel_rfl
theorem segC_8_0 (ns : List Int) : evB Tb.G C0 ((f_law.body.drop 10).take 2) (lA ns 8 (mOf 0) none none) [] = .nx (lA ns 8 (mOf 0) (some (.d (.int (2 + cellv ns 2 % 3)))) (some (.d (.int (1 + cellv ns 3 % 5))))) [] := by
  have h2 : callW C0 false 117 [W.d (D.scr ns), W.d (D.int 2)] [] = _ := call_cell ns 2 19 []
  have h3 : callW C0 false 117 [W.d (D.scr ns), W.d (D.int 3)] [] = _ := call_cell ns 3 19 []
  simp only [lA, f_law, Ss.drop, Ss.take, evB, evS, evE, evA, evT, evG, evGs, asD, RE.bind, RE.st, RS.sq, rdVar, List.getElem?_cons_zero, List.getElem?_cons_succ, look1, Option.bind, Option.map, RE.of, opt2, evIx, h2]
  simp only [List.length_cons, List.length_nil, evBin, List.set_cons_succ, List.set_cons_zero]
  simp [h3]
  done
theorem rest_8_0 (ns : List Int) : evB Tb.G C0 (f_law.body.drop 4) (lA ns 8 (mOf 0) none none) [] = .ret (.d (.bl true)) [] := by
  refine evB_seg 6 (segB_8_0 ns) ?_
  rw [dr10]
  refine evB_seg 2 (segC_8_0 ns) ?_
  rw [dr12]
  have a2 : 2 + cellv ns 2 % 3 = 2 ∨ 2 + cellv ns 2 % 3 = 3 ∨ 2 + cellv ns 2 % 3 = 4 := by omega
  have a3 : 1 + cellv ns 3 % 5 = 1 ∨ 1 + cellv ns 3 % 5 = 2 ∨ 1 + cellv ns 3 % 5 = 3 ∨ 1 + cellv ns 3 % 5 = 4 ∨ 1 + cellv ns 3 % 5 = 5 := by omega
  rcases a2 with e2 | e2 | e2 <;> rcases a3 with e3 | e3 | e3 | e3 | e3 <;> rw [e2, e3]
  · refine evB_seg 1 (segD_8_0_2_1 ns) ?_
    rw [dr13]
    exact segE_8_0 ns _ _
  · refine evB_seg 1 (segD_8_0_2_2 ns) ?_
    rw [dr13]
    exact segE_8_0 ns _ _
  · refine evB_seg 1 (segD_8_0_2_3 ns) ?_
    rw [dr13]
    exact segE_8_0 ns _ _
  · refine evB_seg 1 (segD_8_0_2_4 ns) ?_
    rw [dr13]
    exact segE_8_0 ns _ _
  · refine evB_seg 1 (segD_8_0_2_5 ns) ?_
    rw [dr13]
    exact segE_8_0 ns _ _
  · refine evB_seg 1 (segD_8_0_3_1 ns) ?_
    rw [dr13]
    exact segE_8_0 ns _ _
  · refine evB_seg 1 (segD_8_0_3_2 ns) ?_
    rw [dr13]
    exact segE_8_0 ns _ _
  · refine evB_seg 1 (segD_8_0_3_3 ns) ?_
    rw [dr13]
    exact segE_8_0 ns _ _
  · refine evB_seg 1 (segD_8_0_3_4 ns) ?_
    rw [dr13]
    exact segE_8_0 ns _ _
  · refine evB_seg 1 (segD_8_0_3_5 ns) ?_
    rw [dr13]
    exact segE_8_0 ns _ _
  · refine evB_seg 1 (segD_8_0_4_1 ns) ?_
    rw [dr13]
    exact segE_8_0 ns _ _
  · refine evB_seg 1 (segD_8_0_4_2 ns) ?_
    rw [dr13]
    exact segE_8_0 ns _ _
  · refine evB_seg 1 (segD_8_0_4_3 ns) ?_
    rw [dr13]
    exact segE_8_0 ns _ _
  · refine evB_seg 1 (segD_8_0_4_4 ns) ?_
    rw [dr13]
    exact segE_8_0 ns _ _
  · refine evB_seg 1 (segD_8_0_4_5 ns) ?_
    rw [dr13]
    exact segE_8_0 ns _ _
theorem segB_8_1 (ns : List Int) : evB Tb.G C0 ((f_law.body.drop 4).take 6) (lA ns 8 (mOf 1) none none) [] = .nx (lA ns 8 (mOf 1) none none) [] := by kernel_rfl
theorem segE_8_1 (ns : List Int) (w6 w7 : Option W) : evB Tb.G C0 (f_law.body.drop 13) (lA ns 8 (mOf 1) w6 w7) [] = .ret (.d (.bl true)) [] := by kernel_rfl
theorem segD_8_1_2_1 (ns : List Int) : evB Tb.G C0 ((f_law.body.drop 12).take 1) (lA ns 8 (mOf 1) (some (.d (.int 2))) (some (.d (.int 1)))) [] = .nx (lA ns 8 (mOf 1) (some (.d (.int 2))) (some (.d (.int 1)))) [] := by kernel_rfl
theorem segD_8_1_2_2 (ns : List Int) : evB Tb.G C0 ((f_law.body.drop 12).take 1) (lA ns 8 (mOf 1) (some (.d (.int 2))) (some (.d (.int 2)))) [] = .nx (lA ns 8 (mOf 1) (some (.d (.int 2))) (some (.d (.int 2)))) [] := by kernel_rfl
theorem segD_8_1_2_3 (ns : List Int) : evB Tb.G C0 ((f_law.body.drop 12).take 1) (lA ns 8 (mOf 1) (some (.d (.int 2))) (some (.d (.int 3)))) [] = .nx (lA ns 8 (mOf 1) (some (.d (.int 2))) (some (.d (.int 3)))) [] := by kernel_rfl
theorem segD_8_1_2_4 (ns : List Int) : evB Tb.G C0 ((f_law.body.drop 12).take 1) (lA ns 8 (mOf 1) (some (.d (.int 2))) (some (.d (.int 4)))) [] = .nx (lA ns 8 (mOf 1) (some (.d (.int 2))) (some (.d (.int 4)))) [] := by kernel_rfl
theorem segD_8_1_2_5 (ns : List Int) : evB Tb.G C0 ((f_law.body.drop 12).take 1) (lA ns 8 (mOf 1) (some (.d (.int 2))) (some (.d (.int 5)))) [] = .nx (lA ns 8 (mOf 1) (some (.d (.int 2))) (some (.d (.int 5)))) [] := by kernel_rfl
theorem segD_8_1_3_1 (ns : List Int) : evB Tb.G C0 ((f_law.body.drop 12).take 1) (lA ns 8 (mOf 1) (some (.d (.int 3))) (some (.d (.int 1)))) [] = .nx (lA ns 8 (mOf 1) (some (.d (.int 3))) (some (.d (.int 1)))) [] := by kernel_rfl
theorem segD_8_1_3_2 (ns : List Int) : evB Tb.G C0 ((f_law.body.drop 12).take 1) (lA ns 8 (mOf 1) (some (.d (.int 3))) (some (.d (.int 2)))) [] = .nx (lA ns 8 (mOf 1) (some (.d (.int 3))) (some (.d (.int 2)))) [] := by kernel_rfl
theorem segD_8_1_3_3 (ns : List Int) : evB Tb.G C0 ((f_law.body.drop 12).take 1) (lA ns 8 (mOf 1) (some (.d (.int 3))) (some (.d (.int 3)))) [] = .nx (lA ns 8 (mOf 1) (some (.d (.int 3))) (some (.d (.int 3)))) [] := by kernel_rfl
theorem segD_8_1_3_4 (ns : List Int) : evB Tb.G C0 ((f_law.body.drop 12).take 1) (lA ns 8 (mOf 1) (some (.d (.int 3))) (some (.d (.int 4)))) [] = .nx (lA ns 8 (mOf 1) (some (.d (.int 3))) (some (.d (.int 4)))) [] := by kernel_rfl
theorem segD_8_1_3_5 (ns : List Int) : evB Tb.G C0 ((f_law.body.drop 12).take 1) (lA ns 8 (mOf 1) (some (.d (.int 3))) (some (.d (.int 5)))) [] = .nx (lA ns 8 (mOf 1) (some (.d (.int 3))) (some (.d (.int 5)))) [] := by kernel_rfl
theorem segD_8_1_4_1 (ns : List Int) : evB Tb.G C0 ((f_law.body.drop 12).take 1) (lA ns 8 (mOf 1) (some (.d (.int 4))) (some (.d (.int 1)))) [] = .nx (lA ns 8 (mOf 1) (some (.d (.int 4))) (some (.d (.int 1)))) [] := by kernel_rfl
theorem segD_8_1_4_2 (ns : List Int) : evB Tb.G C0 ((f_law.body.drop 12).take 1) (lA ns 8 (mOf 1) (some (.d (.int 4))) (some (.d (.int 2)))) [] = .nx (lA ns 8 (mOf 1) (some (.d (.int 4))) (some (.d (.int 2)))) [] := by kernel_rfl
theorem segD_8_1_4_3 (ns : List Int) : evB Tb.G C0 ((f_law.body.drop 12).take 1) (lA ns 8 (mOf 1) (some (.d (.int 4))) (some (.d (.int 3)))) [] = .nx (lA ns 8 (mOf 1) (some (.d (.int 4))) (some (.d (.int 3)))) [] := by kernel_rfl
theorem segD_8_1_4_4 (ns : List Int) : evB Tb.G C0 ((f_law.body.drop 12).take 1) (lA ns 8 (mOf 1) (some (.d (.int 4))) (some (.d (.int 4)))) [] = .nx (lA ns 8 (mOf 1) (some (.d (.int 4))) (some (.d (.int 4)))) [] := by kernel_rfl
theorem segD_8_1_4_5 (ns : List Int) : evB Tb.G C0 ((f_law.body.drop 12).take 1) (lA ns 8 (mOf 1) (some (.d (.int 4))) (some (.d (.int 5)))) [] = .nx (lA ns 8 (mOf 1) (some (.d (.int 4))) (some (.d (.int 5)))) [] := by kernel_rfl
theorem segC_8_1 (ns : List Int) : evB Tb.G C0 ((f_law.body.drop 10).take 2) (lA ns 8 (mOf 1) none none) [] = .nx (lA ns 8 (mOf 1) (some (.d (.int (2 + cellv ns 2 % 3)))) (some (.d (.int (1 + cellv ns 3 % 5))))) [] := by
  have h2 : callW C0 false 117 [W.d (D.scr ns), W.d (D.int 2)] [] = _ := call_cell ns 2 19 []
  have h3 : callW C0 false 117 [W.d (D.scr ns), W.d (D.int 3)] [] = _ := call_cell ns 3 19 []
  simp only [lA, f_law, Ss.drop, Ss.take, evB, evS, evE, evA, evT, evG, evGs, asD, RE.bind, RE.st, RS.sq, rdVar, List.getElem?_cons_zero, List.getElem?_cons_succ, look1, Option.bind, Option.map, RE.of, opt2, evIx, h2]
  simp only [List.length_cons, List.length_nil, evBin, List.set_cons_succ, List.set_cons_zero]
  simp [h3]
  done
theorem rest_8_1 (ns : List Int) : evB Tb.G C0 (f_law.body.drop 4) (lA ns 8 (mOf 1) none none) [] = .ret (.d (.bl true)) [] := by
  refine evB_seg 6 (segB_8_1 ns) ?_
  rw [dr10]
  refine evB_seg 2 (segC_8_1 ns) ?_
  rw [dr12]
  have a2 : 2 + cellv ns 2 % 3 = 2 ∨ 2 + cellv ns 2 % 3 = 3 ∨ 2 + cellv ns 2 % 3 = 4 := by omega
  have a3 : 1 + cellv ns 3 % 5 = 1 ∨ 1 + cellv ns 3 % 5 = 2 ∨ 1 + cellv ns 3 % 5 = 3 ∨ 1 + cellv ns 3 % 5 = 4 ∨ 1 + cellv ns 3 % 5 = 5 := by omega
  rcases a2 with e2 | e2 | e2 <;> rcases a3 with e3 | e3 | e3 | e3 | e3 <;> rw [e2, e3]
  · refine evB_seg 1 (segD_8_1_2_1 ns) ?_
    rw [dr13]
    exact segE_8_1 ns _ _
  · refine evB_seg 1 (segD_8_1_2_2 ns) ?_
    rw [dr13]
    exact segE_8_1 ns _ _
  · refine evB_seg 1 (segD_8_1_2_3 ns) ?_
    rw [dr13]
    exact segE_8_1 ns _ _
  · refine evB_seg 1 (segD_8_1_2_4 ns) ?_
    rw [dr13]
    exact segE_8_1 ns _ _
  · refine evB_seg 1 (segD_8_1_2_5 ns) ?_
    rw [dr13]
    exact segE_8_1 ns _ _
  · refine evB_seg 1 (segD_8_1_3_1 ns) ?_
    rw [dr13]
    exact segE_8_1 ns _ _
  · refine evB_seg 1 (segD_8_1_3_2 ns) ?_
    rw [dr13]
    exact segE_8_1 ns _ _
  · refine evB_seg 1 (segD_8_1_3_3 ns) ?_
    rw [dr13]
    exact segE_8_1 ns _ _
  · refine evB_seg 1 (segD_8_1_3_4 ns) ?_
    rw [dr13]
    exact segE_8_1 ns _ _
  · refine evB_seg 1 (segD_8_1_3_5 ns) ?_
    rw [dr13]
    exact segE_8_1 ns _ _
  · refine evB_seg 1 (segD_8_1_4_1 ns) ?_
    rw [dr13]
    exact segE_8_1 ns _ _
  · refine evB_seg 1 (segD_8_1_4_2 ns) ?_
    rw [dr13]
    exact segE_8_1 ns _ _
  · refine evB_seg 1 (segD_8_1_4_3 ns) ?_
    rw [dr13]
    exact segE_8_1 ns _ _
  · refine evB_seg 1 (segD_8_1_4_4 ns) ?_
    rw [dr13]
    exact segE_8_1 ns _ _
  · refine evB_seg 1 (segD_8_1_4_5 ns) ?_
    rw [dr13]
    exact segE_8_1 ns _ _
def lA1 (ns : List Int) (p : Int) (w4 : Option W) : Sl := [some (.d (.scr ns)), some (.d (.int p)), some (.d (.str (repT p [57]))), some (.d (.str ([49] ++ repT (p - 1) [48]))), w4, none, none, none]
theorem segA2_3 (ns : List Int) : evB Tb.G C0 ((f_law.body.drop 1).take 1) (lA0 ns 3) [] = .nx (lA1 ns 3 none) [] := by kernel_rfl
theorem segA2_4 (ns : List Int) : evB Tb.G C0 ((f_law.body.drop 1).take 1) (lA0 ns 4) [] = .nx (lA1 ns 4 none) [] := by kernel_rfl
theorem segA2_5 (ns : List Int) : evB Tb.G C0 ((f_law.body.drop 1).take 1) (lA0 ns 5) [] = .nx (lA1 ns 5 none) [] := by kernel_rfl
theorem segA2_6 (ns : List Int) : evB Tb.G C0 ((f_law.body.drop 1).take 1) (lA0 ns 6) [] = .nx (lA1 ns 6 none) [] := by kernel_rfl
theorem segA2_7 (ns : List Int) : evB Tb.G C0 ((f_law.body.drop 1).take 1) (lA0 ns 7) [] = .nx (lA1 ns 7 none) [] := by kernel_rfl
theorem segA2_8 (ns : List Int) : evB Tb.G C0 ((f_law.body.drop 1).take 1) (lA0 ns 8) [] = .nx (lA1 ns 8 none) [] := by kernel_rfl
theorem segA3 (ns : List Int) (p : Int) : evB Tb.G C0 ((f_law.body.drop 2).take 1) (lA1 ns p none) [] = .nx (lA1 ns p (some (.d (mOf (cellv ns 1 % 2))))) [] := by
  have h1 : callW C0 false 117 [W.d (D.scr ns), W.d (D.int 1)] [] = _ := call_cell ns 1 19 []
  simp only [lA1, f_law, Ss.drop, Ss.take, evB, evS, evE, evA, evT, evG, evGs, asD, RE.bind, RE.st, RS.sq, rdVar, List.getElem?_cons_zero, List.getElem?_cons_succ, look1, Option.bind, Option.map, RE.of, opt2, evIx, h1]
  rcases mod_cases2 (cellv ns 1) with h | h
  · simp [evBin, W.dats, sz, h, mOf, ixD, ixAt, h1]
  · simp [evBin, W.dats, sz, h, mOf, ixD, ixAt, h1]
theorem segA4 (ns : List Int) (p : Int) (m : D) : evB Tb.G C0 ((f_law.body.drop 3).take 1) (lA1 ns p (some (.d m))) [] = .nx (lA ns p m none none) [] := by rfl

theorem law_body (ns : List Int) : evB Tb.G C0 f_law.body [some (.d (.scr ns)), none, none, none, none, none, none, none] [] = .ret (.d (.bl true)) [] := by
  refine evB_seg 1 (segA1 ns) ?_
  have h6 : 3 + cellv ns 0 % 6 = 3 ∨ 3 + cellv ns 0 % 6 = 4 ∨ 3 + cellv ns 0 % 6 = 5 ∨ 3 + cellv ns 0 % 6 = 6 ∨ 3 + cellv ns 0 % 6 = 7 ∨ 3 + cellv ns 0 % 6 = 8 := by omega
  rcases h6 with h | h | h | h | h | h <;> rw [h]
  · refine evB_seg 1 (segA2_3 ns) ?_
    rw [dr2]
    refine evB_seg 1 (segA3 ns 3) ?_
    rw [dr3]
    refine evB_seg 1 (segA4 ns 3 _) ?_
    rw [dr4]
    rcases mod_cases2 (cellv ns 1) with h1 | h1 <;> rw [h1]
    · exact rest_3_0 ns
    · exact rest_3_1 ns
  · refine evB_seg 1 (segA2_4 ns) ?_
    rw [dr2]
    refine evB_seg 1 (segA3 ns 4) ?_
    rw [dr3]
    refine evB_seg 1 (segA4 ns 4 _) ?_
    rw [dr4]
    rcases mod_cases2 (cellv ns 1) with h1 | h1 <;> rw [h1]
    · exact rest_4_0 ns
    · exact rest_4_1 ns
  · refine evB_seg 1 (segA2_5 ns) ?_
    rw [dr2]
    refine evB_seg 1 (segA3 ns 5) ?_
    rw [dr3]
    refine evB_seg 1 (segA4 ns 5 _) ?_
    rw [dr4]
    rcases mod_cases2 (cellv ns 1) with h1 | h1 <;> rw [h1]
    · exact rest_5_0 ns
    · exact rest_5_1 ns
  · refine evB_seg 1 (segA2_6 ns) ?_
    rw [dr2]
    refine evB_seg 1 (segA3 ns 6) ?_
    rw [dr3]
    refine evB_seg 1 (segA4 ns 6 _) ?_
    rw [dr4]
    rcases mod_cases2 (cellv ns 1) with h1 | h1 <;> rw [h1]
    · exact rest_6_0 ns
    · exact rest_6_1 ns
  · refine evB_seg 1 (segA2_7 ns) ?_
    rw [dr2]
    refine evB_seg 1 (segA3 ns 7) ?_
    rw [dr3]
    refine evB_seg 1 (segA4 ns 7 _) ?_
    rw [dr4]
    rcases mod_cases2 (cellv ns 1) with h1 | h1 <;> rw [h1]
    · exact rest_7_0 ns
    · exact rest_7_1 ns
  · refine evB_seg 1 (segA2_8 ns) ?_
    rw [dr2]
    refine evB_seg 1 (segA3 ns 8) ?_
    rw [dr3]
    refine evB_seg 1 (segA4 ns 8 _) ?_
    rw [dr4]
    rcases mod_cases2 (cellv ns 1) with h1 | h1 <;> rw [h1]
    · exact rest_8_0 ns
    · exact rest_8_1 ns
theorem law_run (ns : List Int) (hl : ns.length ≤ 63) : ∃ S, run Tb.G (20 + 1) 999 [.d (.scr ns)] [] = .ok (.d (.bl true)) S := by
  refine ⟨[], ?_⟩
  rw [run_of (F := f_law) (by kernel_rfl) rfl (by decide)]
  have e : ([W.d (.scr ns)].map some ++ List.replicate (f_law.ns - f_law.np) none : Sl) = [some (.d (.scr ns)), none, none, none, none, none, none, none] := rfl
  rw [e, law_body]
end Kr
open PySem PySem.W PySem.Calls PyProof.Rows
theorem PySem.Challenge.cw_keyreckon_k11_at_the_edges_holds : PySem.Challenge.rw_keyreckon_k11_at_the_edges.Holds := by
  w_on; o_law
  refine HandSHeadRun.head_any (r := OpenLaw.row PySem.Challenge.rw_keyreckon_k11_at_the_edges) (q := view (OpenLaw.row PySem.Challenge.rw_keyreckon_k11_at_the_edges).prog [56]) (H := Kr.hk) (ob := Kr.ob) (M := 6000) (loose := Kr.nm) (d := HandSHeadRun.topDef (OpenLaw.row PySem.Challenge.rw_keyreckon_k11_at_the_edges).prog 56) (kwd := []) Kr.ob_eq
    (by kernel_rfl) (fun s => by kernel_rfl) Kr.hrun (by kernel_rfl) (by kernel_rfl) (by kernel_rfl) (by rfl) (by first | assumption | decide +kernel) (by decide +kernel) ⟨rfl, rfl, rfl, rfl, rfl, by decide +kernel⟩ ?hw ?hc
  case hw => w_witness2
  case hc =>
    refine L2.walk_ofE (l := PySem.Challenge.rw_keyreckon_k11_at_the_edges) (n := 63) (k := 2 * (20 + 1)) (x := "script") (CX := Kr.CXw (PySem.Challenge.rw_keyreckon_k11_at_the_edges).prog) rfl (by decide) (by kernel_rfl) ⟨rfl, by decide, by decide⟩ ?F (fun _ _ _ _ z => z.no)
    intro w mg fa h Y G hmg0
    obtain ⟨K, KX, c⟩ := Y
    have hmg : mg ("law" : PySem.Str) = some (.ref fa) := by
      have e : (HandSHeadRun.topDef (OpenLaw.row PySem.Challenge.rw_keyreckon_k11_at_the_edges).prog 56).name = ("law" : PySem.Str) := by kernel_rfl
      rw [← e]
      exact hmg0
    obtain ⟨fd, sp, h1, h2, h3⟩ := Kr.Tbl.law (P := (PySem.Challenge.rw_keyreckon_k11_at_the_edges).prog) Kr.tok Kr.binds KX G c (e := Kr.lawE) Kr.lawE_in rfl rfl (by kernel_rfl) hmg Kr.law_run
    exact ⟨K, fd, sp, KX, h1, fun H a ns hl hO hS => h2 H a ns hl hO hS, fun base a b => Kr.FnOk.cxw (h3 base a b)⟩
