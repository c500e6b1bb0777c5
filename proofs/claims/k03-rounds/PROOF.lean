import PyProof.Rows.All
import Wide.All
import OpenK.AllK
import Wide.FinOn
import HandS.ForExc
import HandS.Comp
import HandS.Iter
import HandS.Conv
import HandS.TupMul
import HandS.TupAny
import HandS.TupLe
import HandS.CallSlots
import HandS.Flow
import HandS.Star
import HandS.Text
import HandS.Codes
import HandS.RaiseMore
import KE.GoesEnum
import KE.GoesMore
import HandS.Zip
import HandS.Rev
import HandS.Style
import HandS.Dict
import HandS.TupLen
import KE.KDictWalk
import HandS.HotCalls
import HandS.ExcIs
import HandS.Words
import HandS.Ends
import HandS.EndBits
import PySem.Challenge.RW_evercells_k03_rounds_of_rings
set_option Elab.async false
set_option linter.all false
set_option maxRecDepth 100000
set_option maxHeartbeats 8000000
/-! # Ev1: pure data, the small language, its meaning as predicate transformers -/
namespace Ev
open PySem

inductive D where
  | non | bl (b : Bool) | int (i : Int) | str (s : Str)
  | tup (xs : List D) | lst (xs : List D) | scr (xs : List D) | own (xs : List D)
  | cell (n : Nat) | fn (f : Str)
  | dI (ks : List Int) (vs : List D) | dW (ks : List (List Int)) (vs : List D)
  deriving Inhabited
/-- what a mutable cell holds -/
inductive Ob where
  | lst (xs : List D) | dI (kvs : List (Int × D)) | dW (kvs : List (List Int × D))
  deriving Inhabited

abbrev Cells := List Ob
abbrev Sl := List (Option D)

def D.fz : D → D
  | .own xs => .lst xs
  | d => d
def D.isCell : D → Bool
  | .cell _ => true
  | _ => false
/-- a value that may be kept within another one -/
def stK (d : D) (K : D → Prop) : Prop := d.isCell = false ∧ K d.fz
/-- the items of a list that stands as it is -/
def lkL (c : Cells) : D → Option (List D)
  | .lst xs => some xs
  | .own xs => some xs
  | .cell n => match c[n]? with
    | some (.lst xs) => some xs
    | _ => none
  | _ => none
/-- .. or is read alone -/
def lkR (c : Cells) : D → Option (List D)
  | .scr xs => some xs
  | d => lkL c d
/-! dicts -/
section
variable {κ : Type} [DecidableEq κ]
def dval (kvs : List (κ × D)) (k : κ) : Option D := (kvs.find? fun kv => decide (kv.1 = k)).map (·.2)
def dput (kvs : List (κ × D)) (k : κ) (v : D) : List (κ × D) := if (kvs.any fun kv => decide (kv.1 = k)) = true then kvs.map (fun kv => if kv.1 = k then (kv.1, v) else kv) else kvs ++ [(k, v)]
end
def lkI (c : Cells) : D → Option (List (Int × D))
  | .dI ks vs => if ks.length = vs.length then some (ks.zip vs) else none
  | .cell n => match c[n]? with
    | some (.dI kvs) => some kvs
    | _ => none
  | _ => none
def lkW (c : Cells) : D → Option (List (List Int × D))
  | .dW ks vs => if ks.length = vs.length then some (ks.zip vs) else none
  | .cell n => match c[n]? with
    | some (.dW kvs) => some kvs
    | _ => none
  | _ => none
/-- what a dict holds at a key -/
def dgK (x y : D) (c : Cells) (K : Option D → Prop) : Prop :=
  (∃ kvs k, lkI c x = some kvs ∧ y = .int k ∧ K (dval kvs k)) ∨ ∃ kvs ks, lkW c x = some kvs ∧ y = .tup (ks.map .int) ∧ K (dval kvs ks)
/-- the cells behind d[y] = v -/
def dsK (x y v : D) (c : Cells) (K : Cells → Prop) : Prop :=
  (∃ n kvs k, x = .cell n ∧ c[n]? = some (.dI kvs) ∧ y = .int k ∧ kvs.length < sizeLine ∧ K (c.set n (.dI (dput kvs k v)))) ∨
  ∃ n kvs ks, x = .cell n ∧ c[n]? = some (.dW kvs) ∧ y = .tup (ks.map .int) ∧ kvs.length < sizeLine ∧ K (c.set n (.dW (dput kvs ks v)))
/-- the keys and the values of a dict that is never changed -/
def dfz : D → Option (List D × List D)
  | .dI ks vs => if ks.length = vs.length then some (ks.map .int, vs) else none
  | .dW ks vs => if ks.length = vs.length then some (ks.map fun k => .tup (k.map .int), vs) else none
  | _ => none
/-- a dict's length -/
def lkN (c : Cells) (d : D) : Option Nat := match lkI c d with
  | some kvs => some kvs.length
  | none => (lkW c d).map (·.length)
mutual
/-- the data of a value -/
def D.py : D → Option PyData
  | .non => some .none
  | .bl b => some (.bool b)
  | .int i => some (.int i)
  | .str s => some (.str s)
  | .tup xs => (D.pys xs).map .tuple
  | .lst xs => (D.pys xs).map .list
  | .own xs => (D.pys xs).map .list
  | _ => none
def D.pys : List D → Option (List PyData)
  | [] => some []
  | x :: xs => match D.py x, D.pys xs with
    | some p, some ps => some (p :: ps)
    | _, _ => none
end
/-- a cell's list -/
def deref (c : Cells) : D → D
  | .cell n => match c[n]? with
    | some (.lst xs) => .own xs
    | _ => .cell n
  | d => d

/-- a function's promise: arguments, cells, what is wanted of its answer, of an error's name -/
abbrev DSp := List D → Cells → (D → Cells → Prop) → (Str → Cells → Prop) → Prop

/-- built-in functions, methods, types -/
inductive B where
  | len | int | abs | min | max | sum | any | all | tuple | list | repr
inductive M where
  | append | extend | pop | reverse | index | count
inductive Ty where
  | int | str | tuple | list
inductive Tg where
  | nm (i : Nat) | tp (is : List Nat)
mutual
/-- expressions -/
inductive E where
  | var (i : Nat) | lit (d : D) | gint (x : Str) (i : Int) | gfn (x : Str)
  | bin (op : Operator) (a b : E) | neg (a : E) | not (a : E)
  | cmp (op : CmpOp) (a b : E) | chain (o1 o2 : CmpOp) (a b c : E)
  | and (a b : E) | or (a b : E) | ite (t : T) (a b : E)
  | tup (es : Es) | lst (es : Es)
  | idx (a b : E) | sl (a : E) (lo hi : Eo)
  | call (f : Str) (es : Es) | calv (g : E) (es : Es) | blt (f : B) (es : Es) | meth (m : M) (o : E) (es : Es)
  | isin (a : E) (T : Ty)
  | lc (own : List Nat) (tg : Tg) (it : It) (c : To) (e : E)
  | trg (tp : Bool) (a : E)
  | sls (a k : E)
  | dix (a b : E) | din (neg : Bool) (a b : E) | dg1 (a b : E) | dg2 (a b e : E) | dln (a : E)
inductive Es where
  | nil | cons (e : E) (r : Es) | star (e : E) (r : Es)
inductive Eo where
  | none | some (e : E)
/-- what is walked -/
inductive It where
  | seq (e : E) | rng (es : Es) | enum (e : E) | zip (a b : E) | rev (e : E) | dks (e : E) | dvs (e : E) | dit (e : E)
/-- tests -/
inductive T where
  | not (t : T) | and (a b : T) | or (a b : T) | cmp (op : CmpOp) (a b : E) | chain (o1 o2 : CmpOp) (a b c : E) | val (e : E) | din (neg : Bool) (a b : E)
inductive To where
  | none | some (t : T)
end
mutual
inductive S where
  | asg (t : Tg) (e : E) | asgC (i : Nat) (e : E) | par (is : List Nat) (es : Es) | frz (i : Nat)
  | aug (i : Nat) (op : Operator) (e : E) | setI (o i e : E) | augI (o i : E) (op : Operator) (e : E)
  | ifS (c : T) (a b : Ss) | forS (tg : Tg) (it : It) (b : Ss) | whl (c : T) (b : Ss)
  | dnw (i : Nat) (t : Bool) | frd (i : Nat) | dst (o i e : E) | dau (o i : E) (op : Operator) (e : E)
  | ret (e : E) | retN | raise (x : Str) (m : Str) | expr (e : E) | brk | cnt | pas
  | tryK (b : Ss) (x : Str) (n : Nat) (k : Str)
  | tryC (b : Ss) (x : Str) (d : D)
inductive Ss where
  | nil | cons (s : S) (r : Ss)
end

/-! ### operations -/
def cutD (xs : List D) (lo hi : Option Int) : List D := (xs.drop (HT.sIx xs.length 0 lo)).take (HT.sIx xs.length xs.length hi - HT.sIx xs.length 0 lo)
def truK (c : Cells) (d : D) (K : Bool → Prop) : Prop := match d with
  | .non => K false
  | .bl b => K b
  | .int i => K (i != 0)
  | .str y => y.length ≤ sizeLine ∧ K ((y.length : Int) != 0)
  | .tup xs => K (!xs.isEmpty)
  | .fn _ => False
  | d => ∃ xs, lkR c d = some xs ∧ K (!xs.isEmpty)
/-- a list with another, or with a number -/
def listK (op : Operator) (x y : D) (c : Cells) (K : D → Prop) : Prop := match op with
  | .Add => ∃ xs ys, lkL c x = some xs ∧ lkL c y = some ys ∧ xs.length + ys.length ≤ sizeLine ∧ K (.own (xs ++ ys))
  | .Mult => ∃ xs k, lkL c x = some xs ∧ y = .int k ∧ -(2 ^ 63) ≤ k ∧ k < 2 ^ 63 ∧ xs.length * k.toNat ≤ sizeLine ∧ K (.own (List.replicate k.toNat xs).flatten)
  | _ => False
def intK (op : Operator) (i j : Int) (K : D → Prop) : Prop := match op with
  | .Add => K (.int (i + j))
  | .Sub => K (.int (i - j))
  | .Mult => L2.CMul i j ∧ K (.int (i * j))
  | .Mod => 0 < j ∧ K (.int (i % j))
  | .FloorDiv => L2.CDiv i j ∧ K (.int (i / j))
  | .Pow => L2.CPow i j ∧ K (.int (i ^ j.toNat))
  | _ => False
def tupK (op : Operator) (xs ys : List D) (K : D → Prop) : Prop := match op with
  | .Add => xs.length + ys.length ≤ sizeLine ∧ K (.tup (xs ++ ys))
  | _ => False
def repK (op : Operator) (xs : List D) (k : Int) (K : D → Prop) : Prop := match op with
  | .Mult => -(2 ^ 62) ≤ k ∧ k ≤ 100000 ∧ xs.length * k.toNat ≤ 100000 ∧ K (.tup (List.replicate k.toNat xs).flatten)
  | _ => False
def strK (op : Operator) (x y : Str) (K : D → Prop) : Prop := match op with
  | .Add => x.length + y.length ≤ sizeLine ∧ K (.str (x ++ y))
  | _ => False
def binK (op : Operator) (x y : D) (c : Cells) (K : D → Prop) : Prop := match x, y with
  | .int i, .int j => intK op i j K
  | .tup xs, .tup ys => tupK op xs ys K
  | .tup xs, .int k => repK op xs k K
  | .str x, .str y => strK op x y K
  | x, y => listK op x y c K
/-- a op= b -/
def augK (op : Operator) (x y : D) (K : D → Prop) : Prop := match x, y with
  | .int i, .int j => match op with
    | .Add => K (.int (i + j))
    | .Sub => K (.int (i - j))
    | .Mult => L2.CMul i j ∧ K (.int (i * j))
    | .Mod => 0 < j ∧ K (.int (i % j))
    | .FloorDiv => L2.CDiv i j ∧ K (.int (i / j))
    | _ => False
  | .str x, .str y => strK op x y K
  | .tup xs, .tup ys => tupK op xs ys K
  | _, _ => False
def cmpI (op : CmpOp) (i j : Int) : Option Bool := match op with
  | .Lt => some (decide (i < j))
  | .LtE => some (decide (i ≤ j))
  | .Gt => some (decide (j < i))
  | .GtE => some (decide (j ≤ i))
  | _ => none
def flatD : D → Bool
  | .non => true
  | .bl _ => true
  | .int _ => true
  | .str _ => true
  | _ => false
def toV : D → L2.V
  | .non => .non
  | .bl b => .bl b
  | .int i => .int i
  | .str s => .str s
  | _ => .non
def eqK (x y : D) (c : Cells) (K : Bool → Prop) : Prop := (∃ s t, x = .str s ∧ y = .str t ∧ K (s == t)) ∨
  ∃ p q, (deref c x).py = some p ∧ (deref c y).py = some q ∧ SeqAt.shaped p = true ∧ SeqAt.shaped q = true ∧ K (PyData.eqv p q)
def lkS (c : Cells) : D → Option (List D)
  | .tup xs => some xs
  | d => lkR c d
def inK (x y : D) (c : Cells) (K : Bool → Prop) : Prop := match x, y with
  | .str i, .str j => K (!(Builtin.Str.occurrences j i 0 j.length 1).isEmpty)
  | x, y => ∃ ys, lkS c y = some ys ∧ flatD x = true ∧ ys.all flatD = true ∧ K (L2.inV (toV x) (ys.map toV))
def isNon : D → Bool
  | .non => true
  | _ => false
def isK (x y : D) (K : Bool → Prop) : Prop := match x, y with
  | .bl a, .bl b => K (decide (a = b))
  | x, .non => K (isNon x)
  | _, _ => False
def cmpK (op : CmpOp) (x y : D) (c : Cells) (K : Bool → Prop) : Prop := match op with
  | .Eq => eqK x y c K
  | .NotEq => eqK x y c fun b => K (!b)
  | .In => inK x y c K
  | .NotIn => inK x y c fun b => K (!b)
  | .Is => isK x y K
  | .IsNot => isK x y fun b => K (!b)
  | op => ∃ i j b, x = .int i ∧ y = .int j ∧ cmpI op i j = some b ∧ K b
def idxK (x y : D) (c : Cells) (K : D → Prop) : Prop := match x with
  | .str z => ∃ i g, y = .int i ∧ z.length ≤ sizeLine ∧ L2.atI z.cps.toList i = some g ∧ K (.str ⟨#[g]⟩)
  | x => ∃ xs i v, lkS c x = some xs ∧ y = .int i ∧ L2.atI xs i = some v ∧ K v
def slK (x : D) (lo hi : Option Int) (c : Cells) (K : D → Prop) : Prop := match x with
  | .str z => z.length ≤ sizeLine ∧ K (.str (Txt.slice z lo hi))
  | .tup xs => K (.tup (cutD xs lo hi))
  | x => ∃ xs, lkR c x = some xs ∧ K (.own (cutD xs lo hi))
/-- a[::k] -/
def stepT {α : Type} (xs : List α) (k : Int) : List α :=
  (List.range (Builtin.Slice.slicePlaces (if k < 0 then (xs.length : Int) - 1 else 0) (if k < 0 then -1 else (xs.length : Int)) k)).filterMap fun (i : Nat) => xs[((if k < 0 then (xs.length : Int) - 1 else 0) + (i : Int) * k).toNat]?
def slsK (x y : D) (c : Cells) (K : D → Prop) : Prop := match x with
  | .tup xs => ∃ k, y = .int k ∧ k ≠ 0 ∧ k ≠ 1 ∧ K (.tup (stepT xs k))
  | x => ∃ xs, lkR c x = some xs ∧ y = .int (-1) ∧ K (.own xs.reverse)
def isTp : D → Bool
  | .tup _ => true
  | _ => false
def intsOf : List D → Option (List Int)
  | [] => some []
  | .int i :: r => (intsOf r).map (i :: ·)
  | _ => none
def blsOf : List D → Option (List Bool)
  | [] => some []
  | .bl i :: r => (blsOf r).map (i :: ·)
  | _ => none
def maxL : Int → List Int → Int
  | m, [] => m
  | m, x :: r => maxL (if x > m then x else m) r
def minL : Int → List Int → Int
  | m, [] => m
  | m, x :: r => minL (if x < m then x else m) r
def bltK (f : B) (ds : List D) (c : Cells) (K : D → Prop) : Prop := match f with
  | .len => match ds with
    | [.str y] => y.length ≤ sizeLine ∧ K (.int y.length)
    | [d] => ∃ xs, lkS c d = some xs ∧ K (.int xs.length)
    | _ => False
  | .int => match ds with
    | [.int i] => K (.int i)
    | [.bl b] => K (.int (if b then 1 else 0))
    | _ => False
  | .abs => match ds with
    | [.int i] => K (.int (if i < 0 then -i else i))
    | _ => False
  | .min => match ds with
    | [.int i, .int j] => K (.int (if j < i then j else i))
    | [d] => ∃ xs i r, lkR c d = some xs ∧ intsOf xs = some (i :: r) ∧ K (.int (minL i r))
    | _ => False
  | .max => match ds with
    | [.int i, .int j] => K (.int (if j > i then j else i))
    | [d] => ∃ xs i r, lkR c d = some xs ∧ intsOf xs = some (i :: r) ∧ K (.int (maxL i r))
    | _ => False
  | .sum => match ds with
    | [d] => ∃ xs ns, lkR c d = some xs ∧ intsOf xs = some ns ∧ K (.int ns.sum)
    | _ => False
  | .any => match ds with
    | [d] => ∃ xs ns, lkR c d = some xs ∧ blsOf xs = some ns ∧ K (.bl (ns.any id))
    | _ => False
  | .all => match ds with
    | [d] => ∃ xs ns, lkR c d = some xs ∧ blsOf xs = some ns ∧ K (.bl (ns.all id))
    | _ => False
  | .tuple => match ds with
    | [.tup xs] => K (.tup xs)
    | [d] => ∃ xs, lkR c d = some xs ∧ K (.tup xs)
    | _ => False
  | .list => match ds with
    | [d] => ∃ xs, lkS c d = some xs ∧ K (.own xs)
    | _ => False
  | .repr => match ds with
    | [d] => ∃ p, (deref c d).py = some p ∧ p.showable = true ∧ p.hasDict = false ∧ p.depth ≤ 60 ∧ p.shown.length ≤ sizeLine ∧ K (.str p.shown)
    | _ => False
/-- methods -/
def methK (m : M) (o : D) (ds : List D) (c : Cells) (K : D → Cells → Prop) : Prop := match m with
  | .append => ∃ n xs d, o = .cell n ∧ c[n]? = some (.lst xs) ∧ ds = [d] ∧ xs.length < sizeLine ∧ d.isCell = false ∧ K .non (c.set n (.lst (xs ++ [d])))
  | .extend => ∃ n xs d ys, o = .cell n ∧ c[n]? = some (.lst xs) ∧ ds = [d] ∧ lkL c d = some ys ∧ xs.length + ys.length ≤ sizeLine ∧ K .non (c.set n (.lst (xs ++ ys)))
  | .pop => ∃ n xs y, o = .cell n ∧ c[n]? = some (.lst xs) ∧ ds = [] ∧ xs[xs.length - 1]? = some y ∧ K y (c.set n (.lst xs.dropLast))
  | .reverse => ∃ n xs, o = .cell n ∧ c[n]? = some (.lst xs) ∧ ds = [] ∧ K .non (c.set n (.lst xs.reverse))
  | .index => ∃ xs y j z, lkR c o = some xs ∧ ds = [y] ∧ flatD y = true ∧ xs.all flatD = true ∧ xs[j]? = some z ∧ L2.eqV (toV z) (toV y) = true ∧
      (∀ m z', m < j → xs[m]? = some z' → L2.eqV (toV z') (toV y) = false) ∧ K (.int (j : Nat)) c
  | .count => ∃ xs y, lkR c o = some xs ∧ ds = [y] ∧ flatD y = true ∧ xs.all flatD = true ∧ K (.int ((xs.countP fun z => L2.eqV (toV z) (toV y) : Nat) : Int)) c
def isT (T : Ty) (d : D) : Option Bool := match d, T with
  | .non, _ => some false
  | .bl _, .int => some true
  | .bl _, _ => some false
  | .int _, .int => some true
  | .int _, _ => some false
  | .str _, .str => some true
  | .str _, _ => some false
  | .tup _, .tuple => some true
  | .tup _, _ => some false
  | .lst _, .list => some true
  | .lst _, _ => some false
  | .own _, .list => some true
  | .own _, _ => some false
  | _, _ => none

/-! ### the meaning -/
abbrev WE := Sl → Cells → (D → Cells → Prop) → Prop
abbrev WT := Sl → Cells → (Bool → Cells → Prop) → Prop
abbrev WL := Sl → Cells → (List D → Cells → Prop) → Prop
abbrev WO := Sl → Cells → (Option Int → Cells → Prop) → Prop
abbrev XW := Str → Sl → Cells → Prop

def asgT (t : Tg) (d : D) (σ : Sl) (c : Cells) (K : Sl → Prop) : Prop := match t with
  | .nm i => match d with
    | .own xs => K (σ.set i (some (.lst xs)))
    | d => K (σ.set i (some d))
  | .tp is => ∃ xs, lkS c d = some xs ∧ xs.length = is.length ∧ K ((is.zip xs).foldl (fun σ p => σ.set p.1 (some p.2)) σ)
/-- the items that a loop walks -/
def rngL (lo hi : Int) : List D := (List.range (hi - lo).toNat).map fun i => D.int (lo + (i : Nat))
def stepL (lo c : Int) (n : Nat) : List D := (List.range n).map fun i => D.int (lo + (i : Nat) * c)
def RgI (i : Int) : Prop := -(2 ^ 62) ≤ i ∧ i < 2 ^ 62
def enumF (k : Nat) : List D → List D
  | [] => []
  | x :: r => .tup [.int (k : Nat), x] :: enumF (k + 1) r
def enumL (xs : List D) : List D := enumF 0 xs
def zipL (xs ys : List D) : List D := xs.zipWith (fun x y => D.tup [x, y]) ys
def wipeD (σ : Sl) : List Nat → Sl
  | [] => σ
  | v :: vs => (wipeD σ vs).set v none
/-- one turn of a comprehension gives an item or none -/
def lcGo (ok : Cells → Prop) (turn : D → Cells → (Option D → Cells → Prop) → Prop) : List D → Cells → (List D → Cells → Prop) → Prop
  | [], c, K => ok c ∧ K [] c
  | x :: r, c, K => ok c ∧ turn x c fun o c1 => lcGo ok turn r c1 fun ys c2 => K (o.toList ++ ys) c2
abbrev WIt := Sl → Cells → (List D → (Cells → Prop) → Cells → Prop) → Prop

def lcTurn (tg : Tg) (cond : WT) (elt : WE) (σ : Sl) : D → Cells → (Option D → Cells → Prop) → Prop := fun x c K =>
  asgT tg x σ c fun σ1 => cond σ1 c fun b c1 => if b = true then elt σ1 c1 fun y c2 => stK y fun e => K (some e) c2 else K none c1
/-- what is walked -/
def walkK (d : D) (c : Cells) (K : List D → (Cells → Prop) → Cells → Prop) : Prop := match d with
  | .str z => K (z.cps.toList.map fun g => D.str ⟨#[g]⟩) (fun _ => True) c
  | .tup xs => K xs (fun _ => True) c
  | d => ∃ xs, lkR c d = some xs ∧ K xs (fun c' => lkR c' d = some xs) c
def rngK (ds : List D) (c : Cells) (Q : List D → (Cells → Prop) → Cells → Prop) : Prop := match ds with
  | [.int j] => RgI j ∧ Q (rngL 0 j) (fun _ => True) c
  | [.int i, .int j] => RgI i ∧ RgI j ∧ Q (rngL i j) (fun _ => True) c
  | [.int i, .int j, .int k] => ∃ n, L2.RgC i j k n ∧ Q (stepL i k n) (fun _ => True) c
  | _ => False
def zipK (x y : D) (c : Cells) (Q : List D → (Cells → Prop) → Cells → Prop) : Prop := ∃ xs ys, lkS c x = some xs ∧ lkS c y = some ys ∧ isTp x = isTp y ∧ Q (zipL xs ys) (fun c' => lkS c' x = some xs ∧ lkS c' y = some ys) c
variable (Γ : Str → DSp)
mutual
def wE (X : XW) : E → WE
  | .var i, σ, c, Q => ∃ d, σ[i]? = some (some d) ∧ Q d c
  | .lit d, _, c, Q => Q d c
  | .gint _ i, _, c, Q => Q (.int i) c
  | .gfn f, _, c, Q => Q (.fn f) c
  | .bin op a b, σ, c, Q => wE X a σ c fun x c1 => wE X b σ c1 fun y c2 => binK op x y c2 fun z => Q z c2
  | .neg a, σ, c, Q => wE X a σ c fun x c1 => ∃ i, x = .int i ∧ Q (.int (-i)) c1
  | .not a, σ, c, Q => wE X a σ c fun x c1 => truK c1 x fun b => Q (.bl (!b)) c1
  | .cmp op a b, σ, c, Q => wE X a σ c fun x c1 => wE X b σ c1 fun y c2 => cmpK op x y c2 fun z => Q (.bl z) c2
  | .chain op op' a b d, σ, c, Q => wE X a σ c fun x c1 => wE X b σ c1 fun y c2 => cmpK op x y c2 fun z =>
      if z = true then wE X d σ c2 fun w c3 => cmpK op' y w c3 fun z' => Q (.bl z') c3 else Q (.bl false) c2
  | .and a b, σ, c, Q => wE X a σ c fun x c1 => truK c1 x fun k => if k = true then wE X b σ c1 Q else Q x c1
  | .or a b, σ, c, Q => wE X a σ c fun x c1 => truK c1 x fun k => if k = true then Q x c1 else wE X b σ c1 Q
  | .ite t a b, σ, c, Q => wT X t σ c fun k c1 => if k = true then wE X a σ c1 Q else wE X b σ c1 Q
  | .tup es, σ, c, Q => wL X es σ c fun ds c1 => ds.length ≤ sizeLine ∧ Q (.tup ds) c1
  | .lst es, σ, c, Q => wL X es σ c fun ds c1 => ds.length ≤ sizeLine ∧ Q (.own ds) c1
  | .idx a b, σ, c, Q => wE X a σ c fun x c1 => wE X b σ c1 fun y c2 => idxK x y c2 fun z => Q z c2
  | .sl a lo hi, σ, c, Q => wE X a σ c fun x c1 => wO X lo σ c1 fun l c2 => wO X hi σ c2 fun h c3 => slK x l h c3 fun z => Q z c3
  | .call f es, σ, c, Q => wA X es σ c fun ds c1 => Γ f ds c1 Q fun n c2 => X n σ c2
  | .calv g es, σ, c, Q => wE X g σ c fun h c1 => ∃ f, h = .fn f ∧ wA X es σ c1 fun ds c2 => Γ f ds c2 Q fun n c3 => X n σ c3
  | .blt f es, σ, c, Q => wA X es σ c fun ds c1 => bltK f ds c1 fun z => Q z c1
  | .meth m o es, σ, c, Q => wE X o σ c fun x c1 => (lkR c1 x).isSome = true ∧ wA X es σ c1 fun ds c2 => methK m x ds c2 Q
  | .isin a T, σ, c, Q => wE X a σ c fun x c1 => ∃ b, isT T x = some b ∧ Q (.bl b) c1
  | .lc own tg it cnd e, σ, c, Q => wI X it σ c fun xs ok c1 => xs.length ≤ sizeLine ∧ lcGo ok (lcTurn tg (wC cnd) (wE (fun _ _ _ => False) e) (wipeD σ own)) xs c1 fun ys c2 => Q (.own ys) c2
  | .sls a k, σ, c, Q => wE X a σ c fun x c1 => wE X k σ c1 fun y c2 => slsK x y c2 fun z => Q z c2
  | .dix a b, σ, c, Q => wE X a σ c fun x c1 => wE X b σ c1 fun y c2 => dgK x y c2 fun o => ∃ v, o = some v ∧ Q v c2
  | .din neg a b, σ, c, Q => wE X a σ c fun x c1 => wE X b σ c1 fun y c2 => dgK y x c2 fun o => Q (.bl (if neg = true then !o.isSome else o.isSome)) c2
  | .dg1 a b, σ, c, Q => wE X a σ c fun x c1 => (lkN c1 x).isSome = true ∧ wE X b σ c1 fun y c2 => dgK x y c2 fun o => Q (o.getD .non) c2
  | .dg2 a b e, σ, c, Q => wE X a σ c fun x c1 => (lkN c1 x).isSome = true ∧ wE X b σ c1 fun y c2 => wE X e σ c2 fun z c3 => stK z fun d => dgK x y c3 fun o => Q (o.getD d) c3
  | .dln a, σ, c, Q => wE X a σ c fun x c1 => ∃ n, lkN c1 x = some n ∧ Q (.int n) c1
  | .trg b a, σ, c, Q => wE X a σ c fun x c1 => ∃ n, x = .int n ∧ RgI n ∧ n.toNat ≤ 2 ^ 24 ∧ Q (if b = true then .tup (rngL 0 n) else .own (rngL 0 n)) c1
/-- as a test -/
def wT (X : XW) : T → WT
  | .not a, σ, c, Q => wT X a σ c fun b c1 => Q (!b) c1
  | .and a b, σ, c, Q => wT X a σ c fun k c1 => if k = true then wT X b σ c1 Q else Q false c1
  | .or a b, σ, c, Q => wT X a σ c fun k c1 => if k = true then Q true c1 else wT X b σ c1 Q
  | .cmp op a b, σ, c, Q => wE X a σ c fun x c1 => wE X b σ c1 fun y c2 => cmpK op x y c2 fun z => Q z c2
  | .chain op op' a b d, σ, c, Q => wE X a σ c fun x c1 => wE X b σ c1 fun y c2 => cmpK op x y c2 fun z =>
      if z = true then wE X d σ c2 fun w c3 => cmpK op' y w c3 fun z' => Q z' c3 else Q false c2
  | .val e, σ, c, Q => wE X e σ c fun x c1 => truK c1 x fun k => Q k c1
  | .din neg a b, σ, c, Q => wE X a σ c fun x c1 => wE X b σ c1 fun y c2 => dgK y x c2 fun o => Q (if neg = true then !o.isSome else o.isSome) c2
/-- items of a display: each may be kept -/
def wL (X : XW) : Es → WL
  | .nil, _, c, Q => Q [] c
  | .star e r, σ, c, Q => wE X e σ c fun x c1 => ∃ xs, lkS c1 x = some xs ∧ xs.length ≤ 4096 ∧ wL X r σ c1 fun ys c2 => Q (xs ++ ys) c2
  | .cons e r, σ, c, Q => wE X e σ c fun x c1 => stK x fun d => wL X r σ c1 fun ys c2 => Q (d :: ys) c2
/-- arguments -/
def wA (X : XW) : Es → WL
  | .nil, _, c, Q => Q [] c
  | .star _ _, _, _, _ => False
  | .cons e r, σ, c, Q => wE X e σ c fun x c1 => wA X r σ c1 fun ys c2 => Q (x.fz :: ys) c2
def wO (X : XW) : Eo → WO
  | .none, _, c, Q => Q none c
  | .some e, σ, c, Q => wE X e σ c fun x c1 => ∃ i, x = .int i ∧ Q (some i) c1
/-- a comprehension's test -/
def wC : To → WT
  | .none, _, c, Q => Q true c
  | .some e, σ, c, Q => wT (fun _ _ _ => False) e σ c Q
/-- what a loop walks -/
def wI (X : XW) : It → WIt
  | .seq e, σ, c, Q => wE X e σ c fun d c1 => walkK d c1 Q
  | .rng es, σ, c, Q => wA X es σ c fun ds c1 => rngK ds c1 Q
  | .enum e, σ, c, Q => wE X e σ c fun x c1 => ∃ xs, lkS c1 x = some xs ∧ Q (enumL xs) (fun c' => lkS c' x = some xs) c1
  | .zip a b, σ, c, Q => wE X a σ c fun x c1 => wE X b σ c1 fun y c2 => zipK x.fz y.fz c2 Q
  | .rev e, σ, c, Q => wE X e σ c fun x c1 => ∃ xs, lkS c1 x = some xs ∧ Q xs.reverse (fun c' => lkS c' x = some xs) c1
  | .dks e, σ, c, Q => wE X e σ c fun x c1 => ∃ ks vs, dfz x = some (ks, vs) ∧ Q ks (fun _ => True) c1
  | .dvs e, σ, c, Q => wE X e σ c fun x c1 => ∃ ks vs, dfz x = some (ks, vs) ∧ Q vs (fun _ => True) c1
  | .dit e, σ, c, Q => wE X e σ c fun x c1 => ∃ ks vs, dfz x = some (ks, vs) ∧ Q (zipL ks vs) (fun _ => True) c1
end

structure DE where
  nx : Sl → Cells → Prop
  rt : D → Cells → Prop
  bk : Sl → Cells → Prop
  ct : Sl → Cells → Prop
abbrev WS := DE → Sl → Cells → Prop
/-- the turns of a for loop -/
def forGo (ok : Cells → Prop) (tg : Tg) (body : WS) (P : DE) : List D → Sl → Cells → Prop
  | [], σ, c => ok c ∧ P.nx σ c
  | x :: r, σ, c => ok c ∧ asgT tg x σ c fun σ1 => body ⟨forGo ok tg body P r, P.rt, P.nx, forGo ok tg body P r⟩ σ1 c
def whlGo (t : WT) (body : WS) (P : DE) : Nat → Sl → Cells → Prop
  | 0, _, _ => False
  | n + 1, σ, c => t σ c fun k c1 => if k = true then body ⟨whlGo t body P n, P.rt, P.nx, whlGo t body P n⟩ σ c1 else P.nx σ c1
def thawS (n : Nat) (xs : List D) : Option D → Option D
  | some (.cell m) => if m = n then some (.lst xs) else some (.cell m)
  | o => o
/-- a dict of a cell, from now on never changed -/
def obD : Ob → Option D
  | .dI kvs => some (.dI (kvs.map (·.1)) (kvs.map (·.2)))
  | .dW kvs => some (.dW (kvs.map (·.1)) (kvs.map (·.2)))
  | _ => none
def thawD (n : Nat) (d : D) : Option D → Option D
  | some (.cell m) => if m = n then some d else some (.cell m)
  | o => o
/-! sub: is the error named so caught by the clause; kind: the answer of the function of kinds, by the error's name -/
variable (sub : Str → Str → Option Bool) (kind : Str → Str → D)
mutual
/-- base: the cells at the entry -/
def wS (base : Nat) (X : XW) : S → WS
  | .asg t e, P, σ, c => wE Γ X e σ c fun d c1 => asgT t d σ c1 fun σ1 => P.nx σ1 c1
  | .asgC i e, P, σ, c => wE Γ X e σ c fun d c1 => ∃ xs, d = .own xs ∧ P.nx (σ.set i (some (.cell c1.length))) (c1 ++ [.lst xs])
  | .par is es, P, σ, c => wL Γ X es σ c fun ds c1 => ds.length = is.length ∧ P.nx ((is.zip ds).foldl (fun σ p => σ.set p.1 (some p.2)) σ) c1
  | .frz i, P, σ, c => ∃ n xs, σ[i]? = some (some (.cell n)) ∧ base ≤ n ∧ n + 1 = c.length ∧ c[n]? = some (.lst xs) ∧ P.nx (σ.map (thawS n xs)) (c.take n)
  | .aug i op e, P, σ, c => ∃ x, σ[i]? = some (some x) ∧ wE Γ X e σ c fun y c1 => augK op x y fun z => P.nx (σ.set i (some z)) c1
  | .setI o i e, P, σ, c => wE Γ X e σ c fun v c1 => wE Γ X o σ c1 fun x c2 => wE Γ X i σ c2 fun y c3 => ∃ n xs k j, x = .cell n ∧ c3[n]? = some (.lst xs) ∧ y = .int k ∧ L2.ixN xs.length k = some j ∧ stK v fun d => P.nx σ (c3.set n (.lst (xs.set j d)))
  | .augI o i op e, P, σ, c => wE Γ X o σ c fun x c1 => wE Γ X i σ c1 fun y c2 => ∃ m xs k a, op = .Add ∧ x = .cell m ∧ c2[m]? = some (.lst xs) ∧ y = .int k ∧ L2.atI xs k = some (.int a) ∧ wE Γ X e σ c2 fun z c3 => ∃ b ys j, z = .int b ∧ c3[m]? = some (.lst ys) ∧ L2.ixN ys.length k = some j ∧ P.nx σ (c3.set m (.lst (ys.set j (.int (a + b)))))
  | .frd i, P, σ, c => ∃ n o d, σ[i]? = some (some (.cell n)) ∧ base ≤ n ∧ n + 1 = c.length ∧ c[n]? = some o ∧ obD o = some d ∧ P.nx (σ.map (thawD n d)) (c.take n)
  | .dnw i t, P, σ, c => P.nx (σ.set i (some (.cell c.length))) (c ++ [if t = true then .dW [] else .dI []])
  | .dst o i e, P, σ, c => wE Γ X e σ c fun v c1 => stK v fun d => wE Γ X o σ c1 fun x c2 => wE Γ X i σ c2 fun y c3 => dsK x y d c3 fun c4 => P.nx σ c4
  | .dau o i op e, P, σ, c => wE Γ X o σ c fun x c1 => wE Γ X i σ c1 fun y c2 => dgK x y c2 fun u => ∃ a, op = .Add ∧ u = some (.int a) ∧ wE Γ X e σ c2 fun z c3 => ∃ b, z = .int b ∧ dsK x y (.int (a + b)) c3 fun c4 => P.nx σ c4
  | .ifS t a b, P, σ, c => wT Γ X t σ c fun k c1 => if k = true then wSs base X a P σ c1 else wSs base X b P σ c1
  | .forS tg it b, P, σ, c => wI Γ X it σ c fun xs ok c1 => forGo ok tg (wSs c1.length X b) P xs σ c1
  | .whl t b, P, σ, c => ∃ n, whlGo (wT Γ X t) (wSs c.length X b) P n σ c
  | .ret e, P, σ, c => wE Γ X e σ c P.rt
  | .retN, P, _, c => P.rt .non c
  | .raise x _, _, σ, c => X x σ c
  | .expr e, P, σ, c => wE Γ X e σ c fun _ c1 => P.nx σ c1
  | .brk, P, σ, c => P.bk σ c
  | .cnt, P, σ, c => P.ct σ c
  | .pas, P, σ, c => P.nx σ c
  | .tryK b x n k, P, σ, c => wSs base (fun y σ1 c1 => (sub y x = some true ∧ P.rt (kind k y) c1) ∨ (sub y x = some false ∧ X y σ1 c1)) b P σ c
  | .tryC b x d, P, σ, c => wSs base (fun y σ1 c1 => (sub y x = some true ∧ P.rt d c1) ∨ (sub y x = some false ∧ X y σ1 c1)) b P σ c
def wSs (base : Nat) (X : XW) : Ss → WS
  | .nil, P, σ, c => P.nx σ c
  | .cons s r, P, σ, c => wS base X s { P with nx := wSs base X r P } σ c
end
structure Fn where
  ar : Nat
  sz : Nat
  body : Ss
/-- a list that the call made is handed out -/
def retK (m0 : Nat) (Q : D → Cells → Prop) (d : D) (c1 : Cells) : Prop := match d with
  | .cell m => ∃ xs, m0 ≤ m ∧ c1[m]? = some (.lst xs) ∧ Q (.own xs) (c1.take m0)
  | d => Q d (c1.take m0)
def wFn (f : Fn) : DSp := fun ds c Q E => ds.length = f.ar ∧
  wSs Γ sub kind c.length (fun n _ c1 => E n (c1.take c.length)) f.body
    ⟨fun _ c1 => Q .non (c1.take c.length), retK c.length Q, fun _ _ => False, fun _ _ => False⟩
    (ds.map some ++ List.replicate (f.sz - f.ar) none) c
end Ev

/-! # Ev2: how data lies in the abstract heap; expressions -/
namespace Ev
open PySem PySem.Spec PyProof.Rows L2

theorem _root_.L2.PE.imp {X : Cx} {e : Expr} {t t' : TE} (h : PE X e t) (i : ∀ σ H Q, t' σ H Q → t σ H Q) : PE X e t' :=
  ⟨fun pins s σ H Q I q => h.run pins s σ H Q I (i σ H Q q)⟩
theorem _root_.L2.PT.imp {X : Cx} {e : Expr} {t t' : TT} (h : PT X e t) (i : ∀ σ H Q, t' σ H Q → t σ H Q) : PT X e t' :=
  ⟨fun pins s σ H Q I q => h.run pins s σ H Q I (i σ H Q q)⟩
theorem _root_.L2.PA.imp {X : Cx} {e : List Expr} {t t' : TA} (h : PA X e t) (i : ∀ σ H Q, t' σ H Q → t σ H Q) : PA X e t' :=
  ⟨fun pos pins s σ H Q I q => h.run pos pins s σ H Q I (i σ H Q q)⟩

section
variable (K : PySem.W.Frag) (mg : Str → Option Value)
mutual
def RepD (F : Hp) : D → V → Prop
  | .non, v => v = .non
  | .bl b, v => v = .bl b
  | .int i, v => v = .int i
  | .str s, v => v = .str s
  | .tup ds, v => ∃ a vs, v = .ref a ∧ F a = some (.tup vs) ∧ RepDs F ds vs
  | .lst ds, v => ∃ a vs, v = .ref a ∧ F a = some (.lst vs) ∧ RepDs F ds vs
  | .scr ds, v => ∃ a vs, v = .ref a ∧ SqL K F a vs ∧ RepDs F ds vs
  | .fn f, v => ∃ a, v = .ref a ∧ mg f = some (.ref a) ∧ PySem.W.keepIn K (.ref a) = true
  | .own _, _ => False
  | .cell _, _ => False
  | .dI ks ds, v => ∃ a o vs, v = .ref a ∧ F a = some (.frz o (.dK ((ks.map fun k => (Sum.inl k : L2.Key)).zip vs))) ∧ ks.length = ds.length ∧ RepDs F ds vs
  | .dW ks ds, v => ∃ a o vs, v = .ref a ∧ F a = some (.frz o (.dT ((ks.map fun k => k.map fun i => (Sum.inl i : L2.Key)).zip vs))) ∧ ks.length = ds.length ∧ RepDs F ds vs
def RepDs (F : Hp) : List D → List V → Prop
  | [], vs => vs = []
  | d :: ds, vs => ∃ v r, vs = v :: r ∧ RepD F d v ∧ RepDs F ds r
end
/-- sub-heap -/
def Sub (F H : Hp) : Prop := ∀ a o, F a = some o → H a = some o
theorem Sub.sqL {F H : Hp} {a : Addr} {vs : List V} (s : Sub F H) (h : SqL K F a vs) : SqL K H a vs := by
  rcases h with (h | ⟨o, h⟩) | h
  · exact .inl (.inl (s _ _ h))
  · exact .inl (.inr ⟨o, s _ _ h⟩)
  · exact .inr h
variable {K mg}
mutual
theorem RepD.mono {F F' : Hp} (s : Sub F F') : ∀ (d : D) (v : V), RepD K mg F d v → RepD K mg F' d v
  | .non, v, h => by simp only [RepD] at h ⊢; exact h
  | .bl b, v, h => by simp only [RepD] at h ⊢; exact h
  | .int i, v, h => by simp only [RepD] at h ⊢; exact h
  | .str x, v, h => by simp only [RepD] at h ⊢; exact h
  | .tup ds, v, h => by
    simp only [RepD] at h ⊢
    obtain ⟨a, vs, e, q, r⟩ := h
    exact ⟨a, vs, e, s _ _ q, RepDs.mono s ds vs r⟩
  | .lst ds, v, h => by
    simp only [RepD] at h ⊢
    obtain ⟨a, vs, e, q, r⟩ := h
    exact ⟨a, vs, e, s _ _ q, RepDs.mono s ds vs r⟩
  | .scr ds, v, h => by
    simp only [RepD] at h ⊢
    obtain ⟨a, vs, e, q, r⟩ := h
    exact ⟨a, vs, e, s.sqL K q, RepDs.mono s ds vs r⟩
  | .fn f, v, h => by simp only [RepD] at h ⊢; exact h
  | .own _, v, h => by simp only [RepD] at h
  | .cell _, v, h => by simp only [RepD] at h
  | .dI ks ds, v, h => by
    simp only [RepD] at h ⊢
    obtain ⟨a, o, vs, e, q, l, r⟩ := h
    exact ⟨a, o, vs, e, s _ _ q, l, RepDs.mono s ds vs r⟩
  | .dW ks ds, v, h => by
    simp only [RepD] at h ⊢
    obtain ⟨a, o, vs, e, q, l, r⟩ := h
    exact ⟨a, o, vs, e, s _ _ q, l, RepDs.mono s ds vs r⟩
theorem RepDs.mono {F F' : Hp} (s : Sub F F') : ∀ (ds : List D) (vs : List V), RepDs K mg F ds vs → RepDs K mg F' ds vs
  | [], vs, h => by simp only [RepDs] at h ⊢; exact h
  | d :: ds, vs, h => by
    simp only [RepDs] at h ⊢
    obtain ⟨v, r, e, p, q⟩ := h
    exact ⟨v, r, e, RepD.mono s d v p, RepDs.mono s ds r q⟩
end
end

section
variable {K : PySem.W.Frag} {mg : Str → Option Value} {F : Hp}
theorem RepDs.nil : RepDs K mg F [] [] := by simp [RepDs]
theorem RepDs.cons {d : D} {v : V} {ds : List D} {vs : List V} (h : RepD K mg F d v) (r : RepDs K mg F ds vs) : RepDs K mg F (d :: ds) (v :: vs) := by
  simp only [RepDs]; exact ⟨v, vs, rfl, h, r⟩
theorem RepDs.inv {d : D} {ds : List D} {vs : List V} (h : RepDs K mg F (d :: ds) vs) : ∃ v r, vs = v :: r ∧ RepD K mg F d v ∧ RepDs K mg F ds r := by
  simpa only [RepDs] using h
theorem RepDs.length : ∀ {ds : List D} {vs : List V}, RepDs K mg F ds vs → ds.length = vs.length
  | [], vs, h => by simp only [RepDs] at h; subst h; rfl
  | d :: ds, vs, h => by
    obtain ⟨v, r, rfl, _, q⟩ := h.inv
    simp [RepDs.length q]
theorem RepDs.append : ∀ {ds es : List D} {vs us : List V}, RepDs K mg F ds vs → RepDs K mg F es us → RepDs K mg F (ds ++ es) (vs ++ us)
  | [], es, vs, us, h, g => by simp only [RepDs] at h; subst h; exact g
  | d :: ds, es, vs, us, h, g => by
    obtain ⟨v, r, rfl, p, q⟩ := h.inv
    exact .cons p (RepDs.append q g)
theorem RepDs.take : ∀ {ds : List D} {vs : List V} (n : Nat), RepDs K mg F ds vs → RepDs K mg F (ds.take n) (vs.take n)
  | _, _, 0, _ => by simp [RepDs.nil]
  | [], vs, n + 1, h => by simp only [RepDs] at h; subst h; exact .nil
  | d :: ds, vs, n + 1, h => by
    obtain ⟨v, r, rfl, p, q⟩ := h.inv
    exact .cons p (RepDs.take n q)
theorem RepDs.drop : ∀ {ds : List D} {vs : List V} (n : Nat), RepDs K mg F ds vs → RepDs K mg F (ds.drop n) (vs.drop n)
  | _, _, 0, h => h
  | [], vs, n + 1, h => by simp only [RepDs] at h; subst h; exact .nil
  | d :: ds, vs, n + 1, h => by
    obtain ⟨v, r, rfl, p, q⟩ := h.inv
    exact RepDs.drop n q
theorem RepDs.get : ∀ {ds : List D} {vs : List V} {i : Nat} {d : D}, RepDs K mg F ds vs → ds[i]? = some d → ∃ v, vs[i]? = some v ∧ RepD K mg F d v
  | [], vs, i, d, h, e => by simp at e
  | x :: ds, vs, 0, d, h, e => by
    obtain ⟨v, r, rfl, p, q⟩ := h.inv
    simp at e; subst e
    exact ⟨v, rfl, p⟩
  | x :: ds, vs, i + 1, d, h, e => by
    obtain ⟨v, r, rfl, p, q⟩ := h.inv
    obtain ⟨u, a, b⟩ := RepDs.get (i := i) (d := d) q (by simpa using e)
    exact ⟨u, by simpa using a, b⟩
theorem RepDs.get' : ∀ {ds : List D} {vs : List V} {i : Nat} {v : V}, RepDs K mg F ds vs → vs[i]? = some v → ∃ d, ds[i]? = some d ∧ RepD K mg F d v
  | [], vs, i, d, h, e => by simp only [RepDs] at h; subst h; simp at e
  | x :: ds, vs, 0, d, h, e => by
    obtain ⟨v, r, rfl, p, q⟩ := h.inv
    simp at e; subst e
    exact ⟨x, rfl, p⟩
  | x :: ds, vs, i + 1, d, h, e => by
    obtain ⟨v, r, rfl, p, q⟩ := h.inv
    obtain ⟨u, a, b⟩ := RepDs.get' (i := i) (v := d) q (by simpa using e)
    exact ⟨u, by simpa using a, b⟩
theorem RepDs.set : ∀ {ds : List D} {vs : List V} {i : Nat} {d : D} {v : V}, RepDs K mg F ds vs → RepD K mg F d v → RepDs K mg F (ds.set i d) (vs.set i v)
  | [], vs, i, d, v, h, e => by simp only [RepDs] at h; subst h; exact .nil
  | x :: ds, vs, 0, d, v, h, e => by
    obtain ⟨u, r, rfl, p, q⟩ := h.inv
    exact .cons e q
  | x :: ds, vs, i + 1, d, v, h, e => by
    obtain ⟨u, r, rfl, p, q⟩ := h.inv
    exact .cons p (RepDs.set q e)
theorem RepDs.reverse : ∀ {ds : List D} {vs : List V}, RepDs K mg F ds vs → RepDs K mg F ds.reverse vs.reverse
  | [], vs, h => by simp only [RepDs] at h; subst h; exact .nil
  | d :: ds, vs, h => by
    obtain ⟨v, r, rfl, p, q⟩ := h.inv
    rw [List.reverse_cons, List.reverse_cons]
    exact (RepDs.reverse q).append (.cons p .nil)
theorem RepDs.dropLast : ∀ {ds : List D} {vs : List V}, RepDs K mg F ds vs → RepDs K mg F ds.dropLast vs.dropLast := fun {ds vs} h => by
  rw [List.dropLast_eq_take, List.dropLast_eq_take, h.length]
  exact h.take _
theorem RepDs.rep {ds : List D} {vs : List V} (h : RepDs K mg F ds vs) : ∀ k : Nat, RepDs K mg F (List.replicate k ds).flatten (List.replicate k vs).flatten
  | 0 => .nil
  | k + 1 => by
    rw [List.replicate_succ, List.replicate_succ, List.flatten_cons, List.flatten_cons]
    exact h.append (RepDs.rep h k)
theorem RepDs.isEmpty {ds : List D} {vs : List V} (h : RepDs K mg F ds vs) : vs.isEmpty = ds.isEmpty := by
  have := h.length
  cases ds <;> cases vs <;> simp_all
theorem RepDs.nil_iff {ds : List D} {vs : List V} (h : RepDs K mg F ds vs) : vs = [] ↔ ds = [] := by
  have := h.length
  cases ds <;> cases vs <;> simp_all
theorem repDs_ints : ∀ {ns : List Int} {ds : List D} {vs : List V}, intsOf ds = some ns → RepDs K mg F ds vs → vs = ns.map V.int
  | ns, [], vs, e, h => by
    simp only [intsOf, Option.some.injEq] at e; subst e
    simp only [RepDs] at h; subst h; rfl
  | ns, d :: ds, vs, e, h => by
    obtain ⟨v, r, rfl, p, q⟩ := h.inv
    cases d <;> simp only [intsOf, reduceCtorEq, Option.map_eq_some_iff] at e
    obtain ⟨ms, e1, rfl⟩ := e
    simp only [RepD] at p
    rw [repDs_ints e1 q, p]; rfl
theorem repDs_bls : ∀ {ns : List Bool} {ds : List D} {vs : List V}, blsOf ds = some ns → RepDs K mg F ds vs → vs = ns.map V.bl
  | ns, [], vs, e, h => by
    simp only [blsOf, Option.some.injEq] at e; subst e
    simp only [RepDs] at h; subst h; rfl
  | ns, d :: ds, vs, e, h => by
    obtain ⟨v, r, rfl, p, q⟩ := h.inv
    cases d <;> simp only [blsOf, reduceCtorEq, Option.map_eq_some_iff] at e
    obtain ⟨ms, e1, rfl⟩ := e
    simp only [RepD] at p
    rw [repDs_bls e1 q, p]; rfl
end

/-! ### cells, slots -/
section
variable (K : PySem.W.Frag) (mg : Str → Option Value)
def RepO (F : Hp) : Ob → Option HO → Prop
  | .lst ds, h => ∃ vs, h = some (.lst vs) ∧ RepDs K mg F ds vs
  | .dI kvs, h => ∃ vs, h = some (.dK ((kvs.map fun p => (Sum.inl p.1 : L2.Key)).zip vs)) ∧ RepDs K mg F (kvs.map (·.2)) vs
  | .dW kvs, h => ∃ vs, h = some (.dT ((kvs.map fun p => p.1.map fun i => (Sum.inl i : L2.Key)).zip vs)) ∧ RepDs K mg F (kvs.map (·.2)) vs
structure GOk (F : Hp) (κ : List Addr) (c : Cells) (H : Hp) : Prop where
  sub : Sub F H
  nd : κ.Nodup
  len : κ.length = c.length
  cell : ∀ (i : Nat) (a : Addr) (ob : Ob), κ[i]? = some a → c[i]? = some ob → F a = none ∧ RepO K mg F ob (H a)
structure Ext (κ : List Addr) (H F H' F' : Hp) : Prop where
  keep : ∀ a o, H a = some o → a ∉ κ → H' a = some o
  fk : Sub F F'
  fr : ∀ a vs, a ∉ κ → H a = some (.lst vs) → F a = none → F' a = none
  dom : ∀ a, H' a = none → H a = none
def Rep1 (F : Hp) (κ : List Addr) (d : D) (v : V) : Prop := match d with
  | .cell n => ∃ a, v = .ref a ∧ κ[n]? = some a
  | d => RepD K mg F d v
def RepX (F : Hp) (κ : List Addr) (H0 H : Hp) (d : D) (v : V) : Prop := match d with
  | .own ds => ∃ a vs, v = .ref a ∧ H a = some (.lst vs) ∧ F a = none ∧ a ∉ κ ∧ H0 a = none ∧ RepDs K mg F ds vs
  | d => Rep1 K mg F κ d v
/-- the entry of a def -/
structure En where
  F : Hp
  κ : List Addr
  H : Hp
structure SRep (F : Hp) (κ : List Addr) (σa : Sl) (σ : L2.St) : Prop where
  len : σa.length = σ.length
  at_ : ∀ (i : Nat) (d : D), σa[i]? = some (some d) → ∃ v, σ[i]? = some (some v) ∧ Rep1 K mg F κ d v
structure Rel (n : En) (F : Hp) (κ : List Addr) (c : Cells) (H : Hp) (σa : Sl) (σ : L2.St) : Prop where
  g : GOk K mg F κ c H
  sl : SRep K mg F κ σa σ
  ext : Ext n.κ n.H n.F H F
  pre : κ.take n.κ.length = n.κ
  new : ∀ a ∈ κ.drop n.κ.length, n.H a = none
end
section
variable {K : PySem.W.Frag} {mg : Str → Option Value} {F F' F'' H H' H'' H0 : Hp} {κ : List Addr} {c c' : Cells} {d : D} {v : V} {σa : Sl} {σ : L2.St} {n : En}
theorem Ext.refl : Ext κ H F H F := ⟨fun _ _ e _ => e, fun _ _ e => e, fun _ _ _ _ e => e, fun _ e => e⟩
theorem Ext.trans (a : Ext κ H F H' F') (b : Ext κ H' F' H'' F'') : Ext κ H F H'' F'' :=
  ⟨fun x o e n => b.keep x o (a.keep x o e n) n, fun x o e => b.fk x o (a.fk x o e), fun x vs hn e f => b.fr x vs hn (a.keep x _ e hn) (a.fr x vs hn e f), fun x e => a.dom x (b.dom x e)⟩
theorem Rep1.mono (s : Sub F F') (h : Rep1 K mg F κ d v) : Rep1 K mg F' κ d v := by
  cases d <;> simp only [Rep1] at h ⊢ <;> first | exact h | exact RepD.mono s _ _ h
theorem RepX.step (e : Ext κ H F H' F') (h : RepX K mg F κ H0 H d v) : RepX K mg F' κ H0 H' d v := by
  cases d with
  | own ds =>
    simp only [RepX] at h ⊢
    obtain ⟨a, vs, rfl, h1, h2, h3, h4, h5⟩ := h
    exact ⟨a, vs, rfl, e.keep _ _ h1 h3, e.fr _ _ h3 h1 h2, h3, h4, h5.mono e.fk⟩
  | _ => simp only [RepX] at h ⊢; exact h.mono e.fk
theorem RepX.start (e : ∀ a, H a = none → H0 a = none) (h : RepX K mg F κ H H' d v) : RepX K mg F κ H0 H' d v := by
  cases d with
  | own ds =>
    simp only [RepX] at h ⊢
    obtain ⟨a, vs, rfl, h1, h2, h3, h4, h5⟩ := h
    exact ⟨a, vs, rfl, h1, h2, h3, e _ h4, h5⟩
  | _ => simp only [RepX] at h ⊢; exact h
theorem RepX.of1 (h : Rep1 K mg F κ d v) (he : ∀ xs, d ≠ .own xs) : RepX K mg F κ H0 H d v := by
  cases d with
  | own ds => exact absurd rfl (he ds)
  | _ => exact h
theorem SRep.step (s : Sub F F') (h : SRep K mg F κ σa σ) : SRep K mg F' κ σa σ :=
  ⟨h.len, fun i d e => let ⟨v, a, b⟩ := h.at_ i d e; ⟨v, a, b.mono s⟩⟩
theorem Rel.notin (R : Rel K mg n F κ c H σa σ) {a : Addr} {o : HO} (q : n.H a = some o) (hn : a ∉ n.κ) : a ∉ κ := by
  intro hk
  have : a ∈ κ.take n.κ.length ++ κ.drop n.κ.length := by rw [List.take_append_drop]; exact hk
  rcases List.mem_append.mp this with h | h
  · rw [R.pre] at h; exact hn h
  · rw [R.new a h] at q; cases q
theorem Rel.step (R : Rel K mg n F κ c H σa σ) (e : Ext κ H F H' F') (g : GOk K mg F' κ c' H') : Rel K mg n F' κ c' H' σa σ :=
  ⟨g, R.sl.step e.fk, ⟨fun a o q hn => e.keep a o (R.ext.keep a o q hn) (R.notin q hn), fun a o q => e.fk a o (R.ext.fk a o q), fun a vs hn q f => e.fr a vs (R.notin q hn) (R.ext.keep a _ q hn) (R.ext.fr a vs hn q f), fun a q => R.ext.dom a (e.dom a q)⟩, R.pre, R.new⟩
theorem GOk.some_ (g : GOk K mg F κ c H) {a : Addr} (h : a ∈ κ) : H a ≠ none := by
  obtain ⟨i, hi, e⟩ := List.getElem_of_mem h
  have h1 : κ[i]? = some a := by rw [List.getElem?_eq_getElem hi, e]
  have hc : i < c.length := g.len ▸ hi
  obtain ⟨_, q⟩ := g.cell i a c[i] h1 (List.getElem?_eq_getElem hc)
  cases ho : c[i] with
  | lst ds => rw [ho] at q; obtain ⟨vs, q, _⟩ := q; rw [q]; exact Option.some_ne_none _
  | dI ds => rw [ho] at q; obtain ⟨vs, q, _⟩ := q; rw [q]; exact Option.some_ne_none _
  | dW ds => rw [ho] at q; obtain ⟨vs, q, _⟩ := q; rw [q]; exact Option.some_ne_none _
theorem RepO.mono (s : Sub F F') : ∀ {ob : Ob} {h : Option HO}, RepO K mg F ob h → RepO K mg F' ob h
  | .lst _, _, ⟨vs, e, q⟩ => ⟨vs, e, q.mono s⟩
  | .dI _, _, ⟨vs, e, q⟩ => ⟨vs, e, q.mono s⟩
  | .dW _, _, ⟨vs, e, q⟩ => ⟨vs, e, q.mono s⟩
theorem GOk.notin (g : GOk K mg F κ c H) {p : Addr} (h : H p = none) : p ∉ κ := fun q => g.some_ q h
theorem GOk.fnone (g : GOk K mg F κ c H) {p : Addr} (h : H p = none) : F p = none := by
  cases e : F p with
  | none => rfl
  | some o => rw [g.sub _ _ e] at h; cases h
/-- a new list -/
theorem fin_own {p : Addr} {ds : List D} {vs : List V} (g : GOk K mg F κ c H) (hp : H p = none) (r : RepDs K mg F ds vs) :
    Ext κ H F (upd H p (.lst vs)) F ∧ GOk K mg F κ c (upd H p (.lst vs)) ∧ RepX K mg F κ H (upd H p (.lst vs)) (.own ds) (.ref p) := by
  have hn : ∀ a o, H a = some o → a ≠ p := fun a o e z => by rw [z, hp] at e; cases e
  refine ⟨⟨fun a o e _ => by rw [upd_ne (hn a o e)]; exact e, fun _ _ e => e, fun _ _ _ _ e => e, fun a e => ?_⟩, ⟨fun a o e => ?_, g.nd, g.len, fun i a ob h1 h2 => ?_⟩, ⟨p, vs, rfl, upd_same, g.fnone hp, g.notin hp, hp, r⟩⟩
  · by_cases z : a = p
    · rw [z]; exact hp
    · rw [upd_ne z] at e; exact e
  · have := g.sub a o e; rw [upd_ne (hn a o this)]; exact this
  · obtain ⟨q1, q2⟩ := g.cell i a ob h1 h2
    have : a ≠ p := fun z => g.notin hp (z ▸ List.mem_of_getElem? h1)
    rw [upd_ne this]; exact ⟨q1, q2⟩
theorem fin_tup {p : Addr} {ds : List D} {vs : List V} (g : GOk K mg F κ c H) (hp : H p = none) (r : RepDs K mg F ds vs) :
    Ext κ H F (upd H p (.tup vs)) (upd F p (.tup vs)) ∧ GOk K mg (upd F p (.tup vs)) κ c (upd H p (.tup vs)) ∧ RepX K mg (upd F p (.tup vs)) κ H (upd H p (.tup vs)) (.tup ds) (.ref p) := by
  have hn : ∀ a o, H a = some o → a ≠ p := fun a o e z => by rw [z, hp] at e; cases e
  have hs : Sub F (upd F p (.tup vs)) := fun a o e => by rw [upd_ne (hn a o (g.sub _ _ e))]; exact e
  refine ⟨⟨fun a o e _ => by rw [upd_ne (hn a o e)]; exact e, hs, fun a vs _ e f => ?_, fun a e => ?_⟩, ⟨fun a o e => ?_, g.nd, g.len, fun i a ob h1 h2 => ?_⟩, ?_⟩
  · rw [upd_ne (fun z => by rw [z, hp] at e; cases e)]; exact f
  · by_cases z : a = p
    · rw [z]; exact hp
    · rw [upd_ne z] at e; exact e
  · by_cases z : a = p
    · subst z; rw [upd_same] at e ⊢; exact e
    · rw [upd_ne z] at e ⊢; exact g.sub _ _ e
  · obtain ⟨q1, q2⟩ := g.cell i a ob h1 h2
    have : a ≠ p := fun z => g.notin hp (z ▸ List.mem_of_getElem? h1)
    rw [upd_ne this, upd_ne this]
    exact ⟨q1, q2.mono hs⟩
  · simp only [RepX, Rep1, RepD]
    exact ⟨p, vs, rfl, upd_same, r.mono hs⟩
/-- a list's items are seen -/
theorem rep_lkL {xs : List D} (g : GOk K mg F κ c H) (r : RepX K mg F κ H0 H d v) (h : lkL c d = some xs) : ∃ a vs, v = .ref a ∧ H a = some (.lst vs) ∧ RepDs K mg F xs vs := by
  cases d <;> simp only [lkL, reduceCtorEq, Option.some.injEq] at h
  · subst h
    simp only [RepX, Rep1, RepD] at r
    obtain ⟨a, vs, e, q, s⟩ := r
    exact ⟨a, vs, e, g.sub _ _ q, s⟩
  · subst h
    simp only [RepX] at r
    obtain ⟨a, vs, e, q, _, _, _, s⟩ := r
    exact ⟨a, vs, e, q, s⟩
  · rename_i m
    simp only [RepX, Rep1] at r
    obtain ⟨a, e, q⟩ := r
    cases ho : c[m]? with
    | none => rw [ho] at h; cases h
    | some ob =>
      rw [ho] at h
      cases ob with
      | dI _ => cases h
      | dW _ => cases h
      | lst ys =>
        cases h
        obtain ⟨_, vs, z, s⟩ := g.cell m a _ q ho
        exact ⟨a, vs, e, z, s⟩
theorem rep_lkR {xs : List D} (g : GOk K mg F κ c H) (r : RepX K mg F κ H0 H d v) (h : lkR c d = some xs) : ∃ a vs, v = .ref a ∧ SqL K H a vs ∧ RepDs K mg F xs vs := by
  by_cases hs : ∃ ys, d = .scr ys
  · obtain ⟨ys, rfl⟩ := hs
    simp only [lkR, Option.some.injEq] at h; subst h
    simp only [RepX, Rep1, RepD] at r
    obtain ⟨a, vs, e, q, s⟩ := r
    exact ⟨a, vs, e, g.sub.sqL K q, s⟩
  · have h' : lkL c d = some xs := by
      cases d <;> first | exact h | exact absurd ⟨_, rfl⟩ hs
    obtain ⟨a, vs, e, q, s⟩ := rep_lkL g r h'
    exact ⟨a, vs, e, .of q, s⟩
theorem rep_tup {xs : List D} (g : GOk K mg F κ c H) (r : RepX K mg F κ H0 H (.tup xs) v) : ∃ a vs, v = .ref a ∧ SqT K H a vs ∧ RepDs K mg F xs vs := by
  simp only [RepX, Rep1, RepD] at r
  obtain ⟨a, vs, e, q, s⟩ := r
  exact ⟨a, vs, e, .of (g.sub _ _ q), s⟩
theorem rep_lkS {xs : List D} (g : GOk K mg F κ c H) (r : RepX K mg F κ H0 H d v) (h : lkS c d = some xs) : ∃ a vs, v = .ref a ∧ (SqL K H a vs ∨ SqT K H a vs) ∧ RepDs K mg F xs vs := by
  by_cases hs : ∃ ys, d = .tup ys
  · obtain ⟨ys, rfl⟩ := hs
    simp only [lkS, Option.some.injEq] at h; subst h
    obtain ⟨a, vs, e, q, s⟩ := rep_tup g r
    exact ⟨a, vs, e, .inr q, s⟩
  · have h' : lkR c d = some xs := by
      cases d <;> first | exact h | exact absurd ⟨_, rfl⟩ hs
    obtain ⟨a, vs, e, q, s⟩ := rep_lkR g r h'
    exact ⟨a, vs, e, .inl q, s⟩
theorem rep_ref_lst {xs : List D} (h : lkS c d = some xs) : (∃ ys, d = .tup ys ∧ ys = xs) ∨ lkR c d = some xs := by
  cases d <;> first | exact .inr h | (simp only [lkS, Option.some.injEq] at h; exact .inl ⟨_, rfl, h⟩)
end

/-! ### expressions -/
section
variable (X : Cx) (n : En)
def tS (w : WE) : TE := fun σ H Q => ∃ F κ c σa P, Rel X.K X.mg n F κ c H σa σ ∧ w σa c P ∧
  ∀ d c' v H' F', P d c' → Ext κ H F H' F' → GOk X.K X.mg F' κ c' H' → RepX X.K X.mg F' κ H H' d v → Q v H'
def tTst (w : WT) : TT := fun σ H Q => ∃ F κ c σa P, Rel X.K X.mg n F κ c H σa σ ∧ w σa c P ∧
  ∀ b c' H' F', P b c' → Ext κ H F H' F' → GOk X.K X.mg F' κ c' H' → Q b H'
/-- arguments: each kept, or a cell -/
def Rep1s (K : PySem.W.Frag) (mg : Str → Option Value) (F : Hp) (κ : List Addr) : List D → List V → Prop
  | [], vs => vs = []
  | d :: ds, vs => ∃ v r, vs = v :: r ∧ Rep1 K mg F κ d v ∧ Rep1s K mg F κ ds r
def tArg (w : WL) : TA := fun σ H Q => ∃ F κ c σa P, Rel X.K X.mg n F κ c H σa σ ∧ w σa c P ∧
  ∀ ds c' vs H' F', P ds c' → Ext κ H F H' F' → GOk X.K X.mg F' κ c' H' → Rep1s X.K X.mg F' κ ds vs → Q vs H'
/-- a display's items: each kept -/
def tLs (w : WL) : TA := fun σ H Q => ∃ F κ c σa P, Rel X.K X.mg n F κ c H σa σ ∧ w σa c P ∧
  ∀ ds c' vs H' F', P ds c' → Ext κ H F H' F' → GOk X.K X.mg F' κ c' H' → RepDs X.K X.mg F' ds vs → Q vs H'
def SE (X : Cx) (n : En) (e : Expr) (w : WE) : Prop := PE X e (tS X n w)
def ST (X : Cx) (n : En) (e : Expr) (w : WT) : Prop := PT X e (tTst X n w)
def SA (X : Cx) (n : En) (es : List Expr) (w : WL) : Prop := PA X es (tArg X n w)
def SLs (X : Cx) (n : En) (es : List Expr) (w : WL) : Prop := PA X es (tLs X n w)
/-- a two-place operation on data -/
def OpD (r : R2) (o : D → D → Cells → (D → Prop) → Prop) : Prop :=
  ∀ (F : Hp) (κ : List Addr) (c : Cells) (H0 H : Hp) (x y : D) (vx vy : V) (P : D → Prop) (Q : VK), GOk X.K X.mg F κ c H →
    RepX X.K X.mg F κ H0 H x vx → RepX X.K X.mg F κ H0 H y vy → o x y c P →
    (∀ d v H' F', P d → Ext κ H F H' F' → GOk X.K X.mg F' κ c H' → RepX X.K X.mg F' κ H H' d v → Q v H') → r vx vy H Q
end
section
variable {X : Cx} {n : En} {a b e : Expr} {wa wb w : WE} {pos : Pos}
theorem Rep1s.mono {K : PySem.W.Frag} {mg : Str → Option Value} {F F' : Hp} {κ : List Addr} (e : Sub F F') : ∀ {ds : List D} {vs : List V}, Rep1s K mg F κ ds vs → Rep1s K mg F' κ ds vs
  | [], vs, h => h
  | d :: ds, vs, h => by
    obtain ⟨v, r, q, p, t⟩ := h
    exact ⟨v, r, q, p.mono e, Rep1s.mono e t⟩
theorem Rep1s.length {K : PySem.W.Frag} {mg : Str → Option Value} {F : Hp} {κ : List Addr} : ∀ {ds : List D} {vs : List V}, Rep1s K mg F κ ds vs → ds.length = vs.length
  | [], vs, h => by subst h; rfl
  | d :: ds, vs, h => by
    obtain ⟨v, r, rfl, p, t⟩ := h
    simp [Rep1s.length t]

theorem se_op {op : Operator} {r : R2} {o : D → D → Cells → (D → Prop) → Prop} (ho : OpR X (binaryOp op) r) (hd : OpD X r o) (ha : SE X n a wa) (hb : SE X n b wb) :
    SE X n (.BinOp a op b pos) fun σ c Q => wa σ c fun x c1 => wb σ c1 fun y c2 => o x y c2 fun z => Q z c2 := by
  refine (pe_op ho ha hb).imp fun σ H Q ⟨F, κ, c, σa, P, R, hw, hP⟩ => ?_
  refine ⟨F, κ, c, σa, _, R, hw, fun x c1 vx H1 F1 p1 e1 g1 r1 => ?_⟩
  refine ⟨F1, κ, c1, σa, _, R.step e1 g1, p1, fun y c2 vy H2 F2 p2 e2 g2 r2 => ?_⟩
  refine hd F2 κ c2 H H2 x y vx vy _ Q g2 (r1.step e2) (r2.start e1.dom) p2 fun d v H' F' p e3 g3 r3 => ?_
  exact hP d c2 v H' F' p ((e1.trans e2).trans e3) g3 (r3.start fun a z => e1.dom a (e2.dom a z))
theorem se_var {i : Nat} {x : Str} (hN : X.N[i]? = some x) (hv : Vis X.env.scope x) (hd : (x == ("__debug__" : Str)) = false) (hcd : (x == ("__classdict__" : Str)) = false) :
    SE X n (.Name x pos) fun σ c Q => ∃ d, σ[i]? = some (some d) ∧ Q d c := by
  refine (pe_var hN hv hd hcd).imp fun σ H Q ⟨F, κ, c, σa, P, R, ⟨d, hw, p⟩, hP⟩ => ?_
  obtain ⟨v, hv, r⟩ := R.sl.at_ i d hw
  refine ⟨v, hv, hP d c v H F p .refl R.g (RepX.of1 r fun xs z => ?_)⟩
  subst z
  simp only [Rep1, RepD] at r
theorem se_const {v : V} {d : D} (h : PE X e (tC v)) (r : ∀ F κ, Rep1 X.K X.mg F κ d v) (hd : ∀ xs, d ≠ .own xs) : SE X n e fun _ c Q => Q d c :=
  h.imp fun σ H Q ⟨F, κ, c, σa, P, R, hw, hP⟩ => hP d c v H F hw .refl R.g (RepX.of1 (r F κ) hd)

/-! ### the operators -/
theorem inv_int {K : PySem.W.Frag} {mg : Str → Option Value} {F H0 H : Hp} {κ : List Addr} {i : Int} {v : V} (h : RepX K mg F κ H0 H (.int i) v) : v = .int i := by
  simpa only [RepX, Rep1, RepD] using h
theorem inv_bl {K : PySem.W.Frag} {mg : Str → Option Value} {F H0 H : Hp} {κ : List Addr} {i : Bool} {v : V} (h : RepX K mg F κ H0 H (.bl i) v) : v = .bl i := by
  simpa only [RepX, Rep1, RepD] using h
theorem inv_str {K : PySem.W.Frag} {mg : Str → Option Value} {F H0 H : Hp} {κ : List Addr} {i : Str} {v : V} (h : RepX K mg F κ H0 H (.str i) v) : v = .str i := by
  simpa only [RepX, Rep1, RepD] using h
theorem inv_non {K : PySem.W.Frag} {mg : Str → Option Value} {F H0 H : Hp} {κ : List Addr} {v : V} (h : RepX K mg F κ H0 H .non v) : v = .non := by
  simpa only [RepX, Rep1, RepD] using h
theorem rep_int {K : PySem.W.Frag} {mg : Str → Option Value} {F H0 H : Hp} {κ : List Addr} {i : Int} : RepX K mg F κ H0 H (.int i) (.int i) := by
  simp only [RepX, Rep1, RepD]
theorem rep_bl {K : PySem.W.Frag} {mg : Str → Option Value} {F H0 H : Hp} {κ : List Addr} {i : Bool} : RepX K mg F κ H0 H (.bl i) (.bl i) := by
  simp only [RepX, Rep1, RepD]
theorem rep_str {K : PySem.W.Frag} {mg : Str → Option Value} {F H0 H : Hp} {κ : List Addr} {i : Str} : RepX K mg F κ H0 H (.str i) (.str i) := by
  simp only [RepX, Rep1, RepD]
theorem rep_non {K : PySem.W.Frag} {mg : Str → Option Value} {F H0 H : Hp} {κ : List Addr} : RepX K mg F κ H0 H .non .non := by
  simp only [RepX, Rep1, RepD]

theorem tmul_same (a : Addr) (its : Array Value) (m : Nat) (d0 : Option Addr) (s0 : Array (Option Value)) (k : Int) (u : Tok) (h0 : (decide (k < -(2 ^ 63)) || decide (k ≥ 2 ^ 63)) = false) (h1 : (its.isEmpty || k == 1) = true) :
    Meets (Builtin.«tuple.__mul__» ⟨[.ref a, .int k u], []⟩) (fun _ R s => s.heap.get? a = some { cls := .type "tuple", dict := d0, data := .seq its m, slots := s0 } ∧ R (.ok (.ret (.ref a))) s) :=
  .of_wp fun prog w A R s q => by
    obtain ⟨hp, g, d, tk, os⟩ := s
    obtain ⟨got, fin⟩ := q
    have ix := AutoSeq1.idx_int
    wp_walk using wpAny_loadPart' got
    repeat (first
      | (refine wpAny_ite_false (decide_eq_false (by rw [h0]; exact Bool.false_ne_true)) ?_; wp_walk using wpAny_loadPart' got)
      | (refine wpAny_ite_true (decide_eq_true h1) ?_; wp_walk using wpAny_loadPart' got))
    exact ⟨_, rfl, fin⟩
theorem tmul_none (a : Addr) (its : Array Value) (m : Nat) (d0 : Option Addr) (s0 : Array (Option Value)) (k : Int) (u : Tok) (h0 : (decide (k < -(2 ^ 63)) || decide (k ≥ 2 ^ 63)) = false) (h1 : (its.isEmpty || k == 1) = false) (h2 : (decide (k ≤ 0) || its.isEmpty) = true) :
    Meets (Builtin.«tuple.__mul__» ⟨[.ref a, .int k u], []⟩) (fun _ R s => s.heap.get? a = some { cls := .type "tuple", dict := d0, data := .seq its m, slots := s0 } ∧ R (.ok (.ret (.ref s.heap.objs.size))) { s with heap := s.heap.push { cls := Value.type "tuple", data := Data.seq #[] }, toks := s.toks }) :=
  .of_wp fun prog w A R s q => by
    obtain ⟨hp, g, d, tk, os⟩ := s
    obtain ⟨got, fin⟩ := q
    have ix := AutoSeq1.idx_int
    wp_walk using wpAny_loadPart' got
    repeat (first
      | (refine wpAny_ite_false (decide_eq_false (by rw [h0]; exact Bool.false_ne_true)) ?_; wp_walk using wpAny_loadPart' got)
      | (refine wpAny_ite_false (decide_eq_false (by rw [h1]; exact Bool.false_ne_true)) ?_; wp_walk using wpAny_loadPart' got)
      | (refine wpAny_ite_true (decide_eq_true h2) ?_; wp_walk using wpAny_loadPart' got))
    exact ⟨_, rfl, fin⟩
/-- t * k -/
def rRep1 (K : PySem.W.Frag) : R2 := fun x y H Q => ∃ a k xs, x = .ref a ∧ y = .int k ∧ SqT K H a xs ∧ -(2 ^ 62) ≤ k ∧ k ≤ 100000 ∧ xs.length * k.toNat ≤ 100000 ∧ (k = 1 ∨ xs = [] → Q (.ref a) H) ∧ (k ≠ 1 → xs ≠ [] → ∀ p, H p = none → Q (.ref p) (upd H p (.tup (List.replicate k.toNat xs).flatten)))
theorem op_rep1 : OpR X (binaryOp .Mult) (rRep1 X.K) := by
  rintro pins s σ H x y v u Q I rx ry ⟨a, k, xs, rfl, rfl, isT, low, high, few, same, other⟩
  cases rx
  obtain ⟨t, rfl⟩ := ry
  obtain ⟨its, r, ⟨⟨cls, dd, data, sl⟩, got, hc, m, hd⟩, _⟩ := I.tuple isT
  simp only at hc hd
  subst hc hd
  have b0 : (decide (k < -(2 ^ 63)) || decide (k ≥ 2 ^ 63)) = false := by
    rw [decide_eq_false (by omega), decide_eq_false (by omega)] <;> rfl
  have emp : its.toArray.isEmpty = decide (xs = []) := by
    by_cases e : xs = []
    · rw [r.nil_iff.mpr e, decide_eq_true e]
      rfl
    · rw [decide_eq_false e]
      cases its with
      | nil => exact absurd (r.nil_iff.mp rfl) e
      | cons _ _ => rfl
  have road : ∀ {R : Value → Shared → Prop}, wpAny (model X.prog X.w) X.A (call (.builtin "tuple.__mul__") [.ref a, .int k t]) R X.xe s → wpAny (model X.prog X.w) X.A (binaryOp .Mult (.ref a) (.int k t)) R X.xe s := fun {R} hc =>
    wpAny_binaryOp_repeat_ref (T := "tuple") (U := "int") (by decide) ⟨_, got, rfl⟩ (fun s' => typeIs_int s' k t) noFill_tuple_mul F.fills_int_mul F.slot_int_rmul repeat_tuple F.slot_int_index.lookup
      (call_meets F.slot_int_rmul (typeIs_int s k t) F.entry_int_rmul (F.args_int_rmul_2 _ _) (int_rmul_tuple k t a its.toArray m dd sl) ⟨got, rfl, ⟨_, got, rfl⟩, hc⟩)
  refine road ?_
  by_cases e : k = 1 ∨ xs = []
  · have b1 : (its.toArray.isEmpty || k == 1) = true := by
      rw [emp]
      rcases e with e | e
      · subst e; simp
      · simp [e]
    exact call_meets F.slot_tuple_mul ⟨_, got, rfl⟩ F.entry_tuple_mul (F.args_tuple_mul_2 _ _) (tmul_same a its.toArray m dd sl k t b0 b1) ⟨got, .ref a, H, I, rfl, same e⟩
  · have hx : xs ≠ [] := fun z => e (.inr z)
    have hk : k ≠ 1 := fun z => e (.inl z)
    have b1 : (its.toArray.isEmpty || k == 1) = false := by
      rw [emp]
      simp [hx, hk]
    have hlen : its.length = xs.length := r.length.symm
    by_cases hk0 : k ≤ 0
    · have b2 : (decide (k ≤ 0) || its.toArray.isEmpty) = true := by simp [hk0]
      have e0 : k.toNat = 0 := by omega
      rw [e0] at other
      refine call_meets F.slot_tuple_mul ⟨_, got, rfl⟩ F.entry_tuple_mul (F.args_tuple_mul_2 _ _) (tmul_none a its.toArray m dd sl k t b0 b1 b2) ⟨got, .ref s.heap.objs.size, _, I.laid (t' := s.toks) (o := .tup []) (fun _ _ q => Heap.get?_push_of_some _ q) (Nat.le_refl _) ?_, rfl, other hk hx _ (I.hok.fresh (Nat.le_refl _))⟩
      exact ⟨Nat.zero_le _, _, .nil, IsTup.new _ _⟩
    · have b2 : (decide (k ≤ 0) || its.toArray.isEmpty) = false := by
        rw [emp]
        simp [hx]
        omega
      have small : k.toNat * xs.length ≤ 100000 := by rw [Nat.mul_comm]; exact few
      have big : ((its.toArray.size : Nat) : Int) * k ≤ 100000 := by
        rw [List.size_toArray, hlen]
        have : ((xs.length * k.toNat : Nat) : Int) ≤ ((100000 : Nat) : Int) := Int.ofNat_le.mpr few
        rw [Int.natCast_mul, Int.toNat_of_nonneg (by omega)] at this
        exact this
      have b4 : Builtin.Tuple.tupleTooMany (((its.toArray.size : Nat) : Int) * k) = false := by
        unfold Builtin.Tuple.tupleTooMany
        rw [sizeLine_eq]
        exact decide_eq_false (by omega)
      have fl : (List.replicate k.toNat its).flatten.length ≤ sizeLine := by
        rw [PyProof.Rows.lm_len_rep_flat, hlen, sizeLine_eq]
        omega
      refine call_meets F.slot_tuple_mul ⟨_, got, rfl⟩ F.entry_tuple_mul (F.args_tuple_mul_2 _ _) (tuple_mulW a its.toArray m dd sl k t b0 b1 b2 (by omega) b4 (by rw [size_rep, List.size_toArray]; exact fl)) ⟨got, ?_⟩
      rw [size_rep]
      refine ⟨.ref s.heap.objs.size, _, I.laid (t' := s.toks) (o := .tup (List.replicate k.toNat xs).flatten) (fun _ _ q => Heap.get?_push_of_some _ q) (Nat.le_refl _) ?_, rfl, other hk hx _ (I.hok.fresh (Nat.le_refl _))⟩
      exact ⟨by rw [PyProof.Rows.lm_len_rep_flat, sizeLine_eq]; omega, _, r.rep k.toNat, IsTup.new _ _⟩
/-- one rule for an operator: ints; tuples; a tuple and an int; texts; lists -/
def rAll (op : Operator) (K : PySem.W.Frag) : R2 := match op with
  | .Add => fun x y H Q => rI0 (fun i j => .int (i + j)) x y H Q ∨ rCatA K x y H Q ∨ rCat x y H Q ∨ (∃ i j, x = .str i ∧ y = .str j ∧ i.length + j.length ≤ sizeLine ∧ Q (.str (i ++ j)) H)
  | .Sub => rI0 fun i j => .int (i - j)
  | .Mult => fun x y H Q => rI CMul (fun i j => .int (i * j)) x y H Q ∨ rRep1 K x y H Q ∨ rRep x y H Q
  | .Mod => rI (fun _ j => 0 < j) fun i j => .int (i % j)
  | .FloorDiv => rI CDiv fun i j => .int (i / j)
  | .Pow => rI CPow fun i j => .int (i ^ j.toNat)
  | _ => fun _ _ _ _ => False
theorem op_all : ∀ op, OpR X (binaryOp op) (rAll op X.K)
  | .Add => OpR.or op_add (OpR.or op_catA (OpR.or op_cat op_add_str))
  | .Sub => op_sub
  | .Mult => OpR.or op_mul (OpR.or op_rep1 op_rep)
  | .Mod => op_mod
  | .FloorDiv => op_fdiv
  | .Pow => op_pow
  | .MatMult | .Div | .LShift | .RShift | .BitOr | .BitXor | .BitAnd => fun _ _ _ _ _ _ _ _ _ _ _ _ h => h.elim
section
variable {K : PySem.W.Frag} {mg : Str → Option Value} {F H0 H : Hp} {κ : List Addr} {c : Cells} {x y : D} {vx vy : V} {P : D → Prop} {Q : VK}
def Done (K : PySem.W.Frag) (mg : Str → Option Value) (F : Hp) (κ : List Addr) (c : Cells) (H : Hp) (P : D → Prop) (Q : VK) : Prop :=
  ∀ d v H' F', P d → Ext κ H F H' F' → GOk K mg F' κ c H' → RepX K mg F' κ H H' d v → Q v H'
theorem Done.int (k : Done K mg F κ c H P Q) (g : GOk K mg F κ c H) {i : Int} (p : P (.int i)) : Q (.int i) H := k _ _ H F p .refl g rep_int
theorem Done.bl (k : Done K mg F κ c H P Q) (g : GOk K mg F κ c H) {i : Bool} (p : P (.bl i)) : Q (.bl i) H := k _ _ H F p .refl g rep_bl
theorem Done.str (k : Done K mg F κ c H P Q) (g : GOk K mg F κ c H) {i : Str} (p : P (.str i)) : Q (.str i) H := k _ _ H F p .refl g rep_str
theorem Done.own (k : Done K mg F κ c H P Q) (g : GOk K mg F κ c H) {ds : List D} {vs : List V} (r : RepDs K mg F ds vs) (p : P (.own ds)) : ∀ q, H q = none → Q (.ref q) (upd H q (.lst vs)) := fun q hq =>
  let ⟨e, g', r'⟩ := fin_own g hq r
  k _ _ _ _ p e g' r'
theorem Done.tup (k : Done K mg F κ c H P Q) (g : GOk K mg F κ c H) {ds : List D} {vs : List V} (r : RepDs K mg F ds vs) (p : P (.tup ds)) : ∀ q, H q = none → Q (.ref q) (upd H q (.tup vs)) := fun q hq =>
  let ⟨e, g', r'⟩ := fin_tup g hq r
  k _ _ _ _ p e g' r'
theorem Done.same (k : Done K mg F κ c H P Q) (g : GOk K mg F κ c H) {ds : List D} {v : V} (r : RepX K mg F κ H0 H (.tup ds) v) (p : P (.tup ds)) : Q v H :=
  k _ _ _ _ p .refl g r
end
theorem od_int (op : Operator) {i j : Int} {P : D → Prop} {K : PySem.W.Frag} {H : Hp} {Q : VK} (h : intK op i j P) (hQ : ∀ z, P (.int z) → Q (.int z) H) : rAll op K (.int i) (.int j) H Q := by
  cases op <;> simp only [intK] at h
  · exact .inl ⟨i, j, rfl, rfl, hQ _ h⟩
  · exact ⟨i, j, rfl, rfl, hQ _ h⟩
  · exact .inl ⟨i, j, rfl, rfl, h.1, hQ _ h.2⟩
  · exact ⟨i, j, rfl, rfl, h.1, hQ _ h.2⟩
  · exact ⟨i, j, rfl, rfl, h.1, hQ _ h.2⟩
  · exact ⟨i, j, rfl, rfl, h.1, hQ _ h.2⟩
theorem od_list (op : Operator) {F : Hp} {κ : List Addr} {c : Cells} {H0 H : Hp} {x y : D} {vx vy : V} {P : D → Prop} {Q : VK} (g : GOk X.K X.mg F κ c H)
    (rx : RepX X.K X.mg F κ H0 H x vx) (ry : RepX X.K X.mg F κ H0 H y vy) (h : listK op x y c P) (k : Done X.K X.mg F κ c H P Q) : rAll op X.K vx vy H Q := by
  cases op <;> simp only [listK] at h
  · obtain ⟨xs, ys, h1, h2, hl, p⟩ := h
    obtain ⟨a, vs, rfl, e1, s1⟩ := rep_lkL g rx h1
    obtain ⟨b, us, rfl, e2, s2⟩ := rep_lkL g ry h2
    exact .inr (.inr (.inl ⟨a, b, vs, us, rfl, rfl, e1, e2, by rw [← s1.length, ← s2.length]; exact hl, k.own g (s1.append s2) p⟩))
  · obtain ⟨xs, m, h1, rfl, h2, h3, hl, p⟩ := h
    obtain ⟨a, vs, rfl, e1, s1⟩ := rep_lkL g rx h1
    have := inv_int ry
    subst this
    exact .inr (.inr ⟨a, m, vs, rfl, rfl, e1, h2, h3, by rw [← s1.length]; exact hl, k.own g (s1.rep _) p⟩)
theorem od_tup (op : Operator) {F : Hp} {κ : List Addr} {c : Cells} {H0 H : Hp} {xs ys : List D} {vx vy : V} {P : D → Prop} {Q : VK} (g : GOk X.K X.mg F κ c H)
    (rx : RepX X.K X.mg F κ H0 H (.tup xs) vx) (ry : RepX X.K X.mg F κ H0 H (.tup ys) vy) (h : tupK op xs ys P) (k : Done X.K X.mg F κ c H P Q) : rAll op X.K vx vy H Q := by
  cases op <;> simp only [tupK] at h
  obtain ⟨hl, p⟩ := h
  obtain ⟨a, vs, rfl, e1, s1⟩ := rep_tup g rx
  obtain ⟨b, us, rfl, e2, s2⟩ := rep_tup g ry
  refine .inr (.inl ⟨a, b, vs, us, rfl, rfl, e1, e2, by rw [← s1.length, ← s2.length]; exact hl, fun z => ?_, fun _ z => ?_, fun _ _ => k.tup g (s1.append s2) p⟩)
  · have := s1.nil_iff.mp z
    subst this
    exact k.same g ry (by simpa using p)
  · have := s2.nil_iff.mp z
    subst this
    exact k.same g rx (by simpa using p)
theorem od_rep (op : Operator) {F : Hp} {κ : List Addr} {c : Cells} {H0 H : Hp} {xs : List D} {m : Int} {vx vy : V} {P : D → Prop} {Q : VK} (g : GOk X.K X.mg F κ c H)
    (rx : RepX X.K X.mg F κ H0 H (.tup xs) vx) (ry : RepX X.K X.mg F κ H0 H (.int m) vy) (h : repK op xs m P) (k : Done X.K X.mg F κ c H P Q) : rAll op X.K vx vy H Q := by
  cases op <;> simp only [repK] at h
  obtain ⟨h2, h3, h4, p⟩ := h
  obtain ⟨a, vs, rfl, e1, s1⟩ := rep_tup g rx
  have := inv_int ry
  subst this
  refine .inr (.inl ⟨a, m, vs, rfl, rfl, e1, h2, h3, by rw [← s1.length]; exact h4, fun z => k.same g rx ?_, fun _ _ q hq => k.tup g (s1.rep _) p q hq⟩)
  rcases z with z | z
  · subst z
    simpa using p
  · have : xs = [] := s1.nil_iff.mp z
    subst this
    simpa using p
theorem od_str (op : Operator) {i j : Str} {P : D → Prop} {K : PySem.W.Frag} {H : Hp} {Q : VK} (h : strK op i j P) (hQ : ∀ z, P (.str z) → Q (.str z) H) : rAll op K (.str i) (.str j) H Q := by
  cases op <;> simp only [strK] at h
  exact .inr (.inr (.inr ⟨i, j, rfl, rfl, h.1, hQ _ h.2⟩))
theorem od_bin (op : Operator) : OpD X (rAll op X.K) (binK op) := by
  intro F κ c H0 H x y vx vy P Q g rx ry h k
  have k : Done X.K X.mg F κ c H P Q := k
  unfold binK at h
  split at h
  · rw [inv_int rx, inv_int ry]
    exact od_int op h fun z p => k.int g p
  · exact od_tup op g rx ry h k
  · exact od_rep op g rx ry h k
  · rw [inv_str rx, inv_str ry]
    exact od_str op h fun z p => k.str g p
  · exact od_list op g rx ry h k
theorem se_bin {op : Operator} (ha : SE X n a wa) (hb : SE X n b wb) :
    SE X n (.BinOp a op b pos) fun σ c Q => wa σ c fun x c1 => wb σ c1 fun y c2 => binK op x y c2 fun z => Q z c2 := se_op (op_all op) (od_bin op) ha hb
theorem se_neg (ha : SE X n a wa) : SE X n (.UnaryOp .USub a pos) fun σ c Q => wa σ c fun x c1 => ∃ i, x = .int i ∧ Q (.int (-i)) c1 := by
  refine (pe_un un_neg ha).imp fun σ H Q ⟨F, κ, c, σa, P, R, hw, hP⟩ => ?_
  refine ⟨F, κ, c, σa, _, R, hw, fun x c1 vx H1 F1 p1 e1 g1 r1 => ?_⟩
  obtain ⟨i, rfl, p⟩ := p1
  rw [inv_int r1]
  exact ⟨i, rfl, hP _ c1 _ H1 F1 p e1 g1 rep_int⟩
end
end Ev

/-! # Ev3: comparisons, truth, displays, subscripts, slices -/
namespace Ev
open PySem PySem.Spec PyProof.Rows L2
section
variable {X : Cx} {n : En} {a b e : Expr} {wa wb w : WE} {pos : Pos}
variable {K : PySem.W.Frag} {mg : Str → Option Value} {F F' H0 H H' : Hp} {κ : List Addr} {c : Cells} {x y d : D} {vx vy v : V}

theorem RepX.ofD (h : RepD K mg F d v) : RepX K mg F κ H0 H d v := by
  cases d with
  | own ds => simp only [RepD] at h
  | cell m => simp only [RepD] at h
  | _ => exact h
theorem Rep1.ofD (h : RepD K mg F d v) : Rep1 K mg F κ d v := by
  cases d with
  | cell m => simp only [RepD] at h
  | _ => exact h
theorem RepX.of_1 (h : Rep1 K mg F κ d v) : RepX K mg F κ H0 H d v := by
  cases d with
  | own ds => simp only [Rep1, RepD] at h
  | _ => exact h
/-- a new list is kept from now on -/
theorem freeze {H1 F1 : Hp} (e : Ext κ H F H1 F1) (g : GOk K mg F1 κ c H1) (r : RepX K mg F1 κ H H1 d v) :
    ∃ F2, Sub F1 F2 ∧ Ext κ H F H1 F2 ∧ GOk K mg F2 κ c H1 ∧ Rep1 K mg F2 κ d.fz v := by
  by_cases hs : ∃ xs, d = .own xs
  · obtain ⟨xs, rfl⟩ := hs
    simp only [RepX] at r
    obtain ⟨a, vs, rfl, h1, h2, h3, h4, h5⟩ := r
    have hs : Sub F1 (upd F1 a (.lst vs)) := fun b o q => by
      have : b ≠ a := fun z => by rw [z, h2] at q; cases q
      rw [upd_ne this]; exact q
    refine ⟨upd F1 a (.lst vs), hs, ⟨e.keep, fun b o q => hs b o (e.fk b o q), fun b us hn q f => ?_, e.dom⟩, ⟨fun b o q => ?_, g.nd, g.len, fun i b ob q1 q2 => ?_⟩, ?_⟩
    · have : b ≠ a := fun z => by rw [z, h4] at q; cases q
      rw [upd_ne this]; exact e.fr b us hn q f
    · by_cases z : b = a
      · subst z; rw [upd_same] at q; cases q; exact h1
      · rw [upd_ne z] at q; exact g.sub b o q
    · obtain ⟨p1, p2⟩ := g.cell i b ob q1 q2
      have : b ≠ a := fun z => h3 (z ▸ List.mem_of_getElem? q1)
      rw [upd_ne this]
      exact ⟨p1, p2.mono hs⟩
    · simp only [D.fz, Rep1, RepD]
      exact ⟨a, vs, rfl, upd_same, h5.mono hs⟩
  · refine ⟨F1, fun _ _ q => q, e, g, ?_⟩
    cases d with
    | own xs => exact absurd ⟨_, rfl⟩ hs
    | _ => exact r
theorem Rep1.toD (h : Rep1 K mg F κ d v) (hc : d.isCell = false) : RepD K mg F d v := by
  cases d with
  | cell m => cases hc
  | _ => exact h

/-! ### equality -/
mutual
theorem rep_dp (s : Sub F H) : ∀ (d : D) (v : V) (p : PyData), RepD K mg F d v → d.py = some p → Dp K H v p
  | .non, v, p, h, e => by
    simp only [RepD] at h; simp only [D.py, Option.some.injEq] at e; subst h; subst e; exact .non
  | .bl b, v, p, h, e => by
    simp only [RepD] at h; simp only [D.py, Option.some.injEq] at e; subst h; subst e; exact .bl b
  | .int b, v, p, h, e => by
    simp only [RepD] at h; simp only [D.py, Option.some.injEq] at e; subst h; subst e; exact .int b
  | .str b, v, p, h, e => by
    simp only [RepD] at h; simp only [D.py, Option.some.injEq] at e; subst h; subst e; exact .str b
  | .tup ds, v, p, h, e => by
    simp only [RepD] at h
    simp only [D.py, Option.map_eq_some_iff] at e
    obtain ⟨a, vs, rfl, q, r⟩ := h
    obtain ⟨ps, e1, rfl⟩ := e
    exact .tup (.of (s _ _ q)) (rep_dps s ds vs ps r e1)
  | .lst ds, v, p, h, e => by
    simp only [RepD] at h
    simp only [D.py, Option.map_eq_some_iff] at e
    obtain ⟨a, vs, rfl, q, r⟩ := h
    obtain ⟨ps, e1, rfl⟩ := e
    exact .lst (.of (s _ _ q)) (rep_dps s ds vs ps r e1)
  | .scr ds, v, p, h, e => by simp only [D.py, reduceCtorEq] at e
  | .fn f, v, p, h, e => by simp only [D.py, reduceCtorEq] at e
  | .own _, v, p, h, e => by simp only [RepD] at h
  | .cell _, v, p, h, e => by simp only [RepD] at h
  | .dI _ _, v, p, h, e => by simp only [D.py, reduceCtorEq] at e
  | .dW _ _, v, p, h, e => by simp only [D.py, reduceCtorEq] at e
theorem rep_dps (s : Sub F H) : ∀ (ds : List D) (vs : List V) (ps : List PyData), RepDs K mg F ds vs → D.pys ds = some ps → DpAll K H vs ps
  | [], vs, ps, h, e => by
    simp only [RepDs] at h; simp only [D.pys, Option.some.injEq] at e; subst h; subst e; exact .nil
  | d :: ds, vs, ps, h, e => by
    obtain ⟨v, r, rfl, p, q⟩ := h.inv
    simp only [D.pys] at e
    cases e1 : d.py with
    | none => rw [e1] at e; cases e
    | some p1 =>
      cases e2 : D.pys ds with
      | none => rw [e1, e2] at e; cases e
      | some p2 =>
        rw [e1, e2] at e; cases e
        exact .cons (rep_dp s d v p1 p e1) (rep_dps s ds r p2 q e2)
end
theorem rep_py {p : PyData} (g : GOk K mg F κ c H) (r : RepX K mg F κ H0 H x vx) (h : (deref c x).py = some p) : Dp K H vx p := by
  have key : ∀ xs, lkL c x = some xs → (D.pys xs).map PyData.list = some p → Dp K H vx p := fun xs h1 h2 => by
    obtain ⟨a, vs, rfl, q, s⟩ := rep_lkL g r h1
    simp only [Option.map_eq_some_iff] at h2
    obtain ⟨ps, e1, rfl⟩ := h2
    exact .lst (.of q) (rep_dps g.sub xs vs ps s e1)
  cases x with
  | own xs => exact key xs rfl (by simpa only [deref, D.py] using h)
  | cell m =>
    cases ho : c[m]? with
    | none => simp only [deref, ho, D.py, reduceCtorEq] at h
    | some ob =>
      cases ob with
      | dI _ => simp only [deref, ho, D.py, reduceCtorEq] at h
      | dW _ => simp only [deref, ho, D.py, reduceCtorEq] at h
      | lst xs =>
        refine key xs (by simp only [lkL, ho]) (by simpa only [deref, ho, D.py] using h)
  | _ => exact rep_dp g.sub _ _ _ r h

/-! ### comparisons -/
def rCmp (op : CmpOp) (K : PySem.W.Frag) : R2 := match op with
  | .Eq => fun x y H Q => rEqD K x y H Q ∨ rEq x y H Q
  | .NotEq => fun x y H Q => rNeD K x y H Q ∨ rNe x y H Q
  | .Lt => rI0 fun i j => .bl (decide (i < j))
  | .LtE => rI0 fun i j => .bl (decide (i ≤ j))
  | .Gt => rI0 fun i j => .bl (decide (j < i))
  | .GtE => rI0 fun i j => .bl (decide (j ≤ i))
  | .Is => fun x y H Q => (y = .non ∧ Q (.bl (decide (x = .non))) H) ∨ ∃ a b, x = .bl a ∧ y = .bl b ∧ Q (.bl (decide (a = b))) H
  | .IsNot => fun x y H Q => (y = .non ∧ Q (.bl (!decide (x = .non))) H) ∨ ∃ a b, x = .bl a ∧ y = .bl b ∧ Q (.bl (!decide (a = b))) H
  | .In => fun x y H Q => (∃ i j, x = .str i ∧ y = .str j ∧ Q (.bl (!(Builtin.Str.occurrences j i 0 j.length 1).isEmpty)) H) ∨ rIn K false x y H Q
  | .NotIn => fun x y H Q => (∃ i j, x = .str i ∧ y = .str j ∧ Q (.bl (!(!(Builtin.Str.occurrences j i 0 j.length 1).isEmpty))) H) ∨ rIn K true x y H Q
theorem op_cmp (hu : X.A.units + 64 < cLine) : ∀ op, OpR X (compareOp op) (rCmp op X.K)
  | .Eq => OpR.or (op_eqD hu) op_eq
  | .NotEq => OpR.or (op_neD hu) op_ne
  | .Lt => op_lt
  | .LtE => op_le
  | .Gt => op_gt
  | .GtE => op_ge
  | .Is => OpR.or op_isN op_is_bl
  | .IsNot => OpR.or op_notN op_isnot_bl
  | .In => OpR.or op_in_str op_in_seq
  | .NotIn => OpR.or op_notin_str op_notIn_seq
def DoneB (K : PySem.W.Frag) (mg : Str → Option Value) (F : Hp) (κ : List Addr) (c : Cells) (H : Hp) (P : Bool → Prop) (Q : VK) : Prop := ∀ b, P b → Q (.bl b) H
theorem flat_all : ∀ {ds : List D} {vs : List V}, RepDs K mg F ds vs → ds.all flatD = true → vs = ds.map toV ∧ vs.all flatV = true
  | [], vs, h, e => by simp only [RepDs] at h; subst h; exact ⟨rfl, rfl⟩
  | d :: ds, vs, h, e => by
    obtain ⟨v, r, rfl, p, q⟩ := h.inv
    simp only [List.all_cons, Bool.and_eq_true] at e
    obtain ⟨i1, i2⟩ := flat_all q e.2
    have : v = toV d ∧ flatV v = true := by
      cases d <;> simp only [flatD, Bool.false_eq_true, false_and] at e <;> simp only [RepD] at p <;> subst p <;> exact ⟨rfl, rfl⟩
    rw [List.map_cons, List.all_cons, ← this.1, ← i1, this.2, i2]; exact ⟨rfl, rfl⟩
theorem flat_one (h : RepX K mg F κ H0 H x vx) (f : flatD x = true) : vx = toV x ∧ flatV vx = true := by
  cases x <;> simp only [flatD, Bool.false_eq_true] at f <;> simp only [RepX, Rep1, RepD] at h <;> subst h <;> exact ⟨rfl, rfl⟩
theorem non_one (h : RepX K mg F κ H0 H x vx) : decide (vx = V.non) = isNon x := by
  cases x <;> simp only [RepX, Rep1, RepD] at h <;> simp only [isNon]
  case non => subst h; rfl
  case bl => subst h; rfl
  case int => subst h; rfl
  case str => subst h; rfl
  all_goals
    obtain ⟨a, h⟩ := h
    first
      | (obtain ⟨vs, rfl, _⟩ := h; rfl)
      | (obtain ⟨o, vs, rfl, _⟩ := h; rfl)
      | (obtain ⟨rfl, _⟩ := h; rfl)
theorem in_run {P : Bool → Prop} {Q : VK} (g : GOk K mg F κ c H) (rx : RepX K mg F κ H0 H x vx) (ry : RepX K mg F κ H0 H y vy) (neg : Bool)
    (h : inK x y c fun b => P b) (k : ∀ b, P b → Q (.bl (if neg then !b else b)) H) :
    (∃ i j, vx = .str i ∧ vy = .str j ∧ Q (.bl (if neg then !(!(Builtin.Str.occurrences j i 0 j.length 1).isEmpty) else (!(Builtin.Str.occurrences j i 0 j.length 1).isEmpty))) H) ∨ rIn K neg vx vy H Q := by
  unfold inK at h
  split at h
  · rw [inv_str rx, inv_str ry]
    exact .inl ⟨_, _, rfl, rfl, k _ h⟩
  · obtain ⟨ys, h1, h2, h3, p⟩ := h
    obtain ⟨a, vs, rfl, q, s⟩ := rep_lkS g ry h1
    obtain ⟨e1, e2⟩ := flat_all s h3
    obtain ⟨e3, e4⟩ := flat_one rx h2
    refine .inr ⟨a, vs, rfl, q, e4, e2, ?_⟩
    have := k _ p
    rw [← e1, ← e3] at this
    cases neg <;> exact this
theorem od_cmp (op : CmpOp) {P : Bool → Prop} {Q : VK} (g : GOk K mg F κ c H) (rx : RepX K mg F κ H0 H x vx) (ry : RepX K mg F κ H0 H y vy)
    (h : cmpK op x y c P) (k : ∀ b, P b → Q (.bl b) H) : rCmp op K vx vy H Q := by
  have onI : ∀ f : Int → Int → Bool, (∃ i j b, x = .int i ∧ y = .int j ∧ (some (f i j) : Option Bool) = some b ∧ P b) → rI0 (fun i j => V.bl (f i j)) vx vy H Q := fun f ⟨i, j, b, e1, e2, e3, p⟩ => by
    subst e1; subst e2
    rw [inv_int rx, inv_int ry]
    cases e3
    exact ⟨i, j, rfl, rfl, k _ p⟩
  have is_ : ∀ (P : Bool → Prop) (Q : Bool → Prop), (∀ b, P b → Q b) → isK x y P → (vy = .non ∧ Q (decide (vx = .non))) ∨ ∃ a b, vx = .bl a ∧ vy = .bl b ∧ Q (decide (a = b)) := fun P Q k h => by
    unfold isK at h
    split at h
    · rw [inv_bl rx, inv_bl ry]; exact .inr ⟨_, _, rfl, rfl, k _ h⟩
    · rw [inv_non ry]; exact .inl ⟨rfl, by rw [non_one rx]; exact k _ h⟩
    · exact h.elim
  cases op <;> simp only [cmpK] at h
  · rcases h with ⟨s, t, rfl, rfl, hp⟩ | ⟨p, q, h1, h2, h3, h4, hp⟩
    · rw [inv_str rx, inv_str ry]
      refine .inr ⟨rfl, ?_⟩
      rw [dec_str]
      exact k _ hp
    · exact .inl ⟨p, q, rep_py g rx h1, rep_py g ry h2, h3, h4, k _ hp⟩
  · rcases h with ⟨s, t, rfl, rfl, hp⟩ | ⟨p, q, h1, h2, h3, h4, hp⟩
    · rw [inv_str rx, inv_str ry]
      refine .inr ⟨rfl, ?_⟩
      rw [dec_str]
      exact k _ hp
    · exact .inl ⟨p, q, rep_py g rx h1, rep_py g ry h2, h3, h4, k _ hp⟩
  · exact onI (fun i j => decide (i < j)) h
  · exact onI (fun i j => decide (i ≤ j)) h
  · exact onI (fun i j => decide (j < i)) h
  · exact onI (fun i j => decide (j ≤ i)) h
  · exact is_ P (fun b => Q (.bl b) H) k h
  · exact is_ (fun b => P (!b)) (fun b => Q (.bl (!b)) H) (fun b p => k _ p) h
  · exact in_run g rx ry false h k
  · exact in_run (P := fun b => P (!b)) g rx ry true h fun b p => k _ p
theorem marks_of {op : CmpOp} (h : ∀ es k p, b ≠ .Set es k p) : behindInMarks op b = false := by
  cases b <;> first | rfl | exact absurd rfl (h _ _ _)
theorem se_cmp {op : CmpOp} (hu : X.A.units + 64 < cLine) (hm : ∀ es k p, b ≠ .Set es k p) (ha : SE X n a wa) (hb : SE X n b wb) :
    SE X n (.Compare a [op] [b] pos) fun σ c Q => wa σ c fun x c1 => wb σ c1 fun y c2 => cmpK op x y c2 fun z => Q (.bl z) c2 := by
  refine (pe_cmpR (op_cmp hu op) ha hb (marks_of hm)).imp fun σ H Q ⟨F, κ, c, σa, P, R, hw, hP⟩ => ?_
  refine ⟨F, κ, c, σa, _, R, hw, fun x c1 vx H1 F1 p1 e1 g1 r1 => ?_⟩
  refine ⟨F1, κ, c1, σa, _, R.step e1 g1, p1, fun y c2 vy H2 F2 p2 e2 g2 r2 => ?_⟩
  exact od_cmp op g2 (r1.step e2) (r2.start e1.dom) p2 fun b p => hP _ c2 _ H2 F2 p (e1.trans e2) g2 rep_bl
theorem st_cmp {op : CmpOp} (hu : X.A.units + 64 < cLine) (hm : ∀ es k p, b ≠ .Set es k p) (ha : SE X n a wa) (hb : SE X n b wb) :
    ST X n (.Compare a [op] [b] pos) fun σ c Q => wa σ c fun x c1 => wb σ c1 fun y c2 => cmpK op x y c2 fun z => Q z c2 := by
  refine (pt_cmpR (op_cmp hu op) ha hb (marks_of hm)).imp fun σ H Q ⟨F, κ, c, σa, P, R, hw, hP⟩ => ?_
  refine ⟨F, κ, c, σa, _, R, hw, fun x c1 vx H1 F1 p1 e1 g1 r1 => ?_⟩
  refine ⟨F1, κ, c1, σa, _, R.step e1 g1, p1, fun y c2 vy H2 F2 p2 e2 g2 r2 => ?_⟩
  exact od_cmp op g2 (r1.step e2) (r2.start e1.dom) p2 fun b p => ⟨b, rfl, hP _ c2 H2 F2 p (e1.trans e2) g2⟩
variable {e3 : Expr} {w3 : WE}
theorem se_chain {op op' : CmpOp} (hu : X.A.units + 64 < cLine) (hm : ∀ es k p, e3 ≠ .Set es k p) (ha : SE X n a wa) (hb : SE X n b wb) (hc : SE X n e3 w3) :
    SE X n (.Compare a [op, op'] [b, e3] pos) fun σ c Q => wa σ c fun x c1 => wb σ c1 fun y c2 => cmpK op x y c2 fun z =>
      if z = true then w3 σ c2 fun w c3 => cmpK op' y w c3 fun z' => Q (.bl z') c3 else Q (.bl false) c2 := by
  refine (pe_chain (op_cmp hu op) (op_cmp hu op') ha hb hc (marks_of hm)).imp fun σ H Q ⟨F, κ, c, σa, P, R, hw, hP⟩ => ?_
  refine ⟨F, κ, c, σa, _, R, hw, fun x c1 vx H1 F1 p1 e1 g1 r1 => ?_⟩
  refine ⟨F1, κ, c1, σa, _, R.step e1 g1, p1, fun y c2 vy H2 F2 p2 e2 g2 r2 => ?_⟩
  refine od_cmp op g2 (r1.step e2) (r2.start e1.dom) p2 fun b p => ⟨b, rfl, ?_⟩
  cases b with
  | true =>
    refine ⟨F2, κ, c2, σa, _, (R.step e1 g1).step e2 g2, p, fun w c3 vw H3 F3 p3 e3 g3 r3 => ?_⟩
    exact od_cmp op' g3 (r2.step e3) (r3.start e2.dom) p3 fun b p => hP _ c3 _ H3 F3 p ((e1.trans e2).trans e3) g3 rep_bl
  | false => exact hP _ c2 _ H2 F2 p (e1.trans e2) g2 rep_bl
theorem st_chain {op op' : CmpOp} (hu : X.A.units + 64 < cLine) (hm : ∀ es k p, e3 ≠ .Set es k p) (ha : SE X n a wa) (hb : SE X n b wb) (hc : SE X n e3 w3) :
    ST X n (.Compare a [op, op'] [b, e3] pos) fun σ c Q => wa σ c fun x c1 => wb σ c1 fun y c2 => cmpK op x y c2 fun z =>
      if z = true then w3 σ c2 fun w c3 => cmpK op' y w c3 fun z' => Q z' c3 else Q false c2 := by
  refine (pt_chain (op_cmp hu op) (op_cmp hu op') ha hb hc (marks_of hm)).imp fun σ H Q ⟨F, κ, c, σa, P, R, hw, hP⟩ => ?_
  refine ⟨F, κ, c, σa, _, R, hw, fun x c1 vx H1 F1 p1 e1 g1 r1 => ?_⟩
  refine ⟨F1, κ, c1, σa, _, R.step e1 g1, p1, fun y c2 vy H2 F2 p2 e2 g2 r2 => ?_⟩
  refine od_cmp op g2 (r1.step e2) (r2.start e1.dom) p2 fun b p => ⟨b, rfl, ?_⟩
  cases b with
  | true =>
    refine ⟨F2, κ, c2, σa, _, (R.step e1 g1).step e2 g2, p, fun w c3 vw H3 F3 p3 e3 g3 r3 => ?_⟩
    exact od_cmp op' g3 (r2.step e3) (r3.start e2.dom) p3 fun b p => ⟨b, rfl, hP _ c3 H3 F3 p ((e1.trans e2).trans e3) g3⟩
  | false => exact ⟨false, rfl, hP _ c2 H2 F2 p (e1.trans e2) g2⟩

/-! ### truth -/
theorem tru_of {P : Bool → Prop} (g : GOk K mg F κ c H) (r : RepX K mg F κ H0 H x vx) (h : truK c x P) : ∃ k, TruV K vx H k ∧ P k := by
  have key : (∃ xs, lkR c x = some xs ∧ P (!xs.isEmpty)) → ∃ k, TruV K vx H k ∧ P k := fun ⟨xs, h1, p⟩ => by
    obtain ⟨a, vs, rfl, q, s⟩ := rep_lkR g r h1
    exact ⟨_, .inl ⟨vs, q, rfl⟩, by rw [s.isEmpty]; exact p⟩
  cases x with
  | non => rw [inv_non r]; exact ⟨false, rfl, h⟩
  | bl b => rw [inv_bl r]; exact ⟨b, rfl, h⟩
  | int i => rw [inv_int r]; exact ⟨_, rfl, h⟩
  | str y => rw [inv_str r]; exact ⟨_, ⟨h.1, rfl⟩, h.2⟩
  | tup xs =>
    obtain ⟨a, vs, rfl, q, s⟩ := rep_tup g r
    exact ⟨_, .inr (.inl ⟨vs, q, rfl⟩), by rw [s.isEmpty]; exact h⟩
  | fn f => exact h.elim
  | lst xs => exact key h
  | scr xs => exact key h
  | own xs => exact key h
  | cell m => exact key h
  | dI _ _ => exact key h
  | dW _ _ => exact key h
/-- the form of a test that is its value's truth -/
def valT : Expr → Bool
  | .UnaryOp .Not _ _ => false
  | .BoolOp _ _ _ => false
  | .IfExp _ _ _ _ => false
  | .Compare _ _ _ _ => false
  | _ => true
theorem valT_is (h : valT e = true) {env : Env} : ∀ whole, isTrue e env whole = (do let v ← whole; standAt e.pos; holding [v] (truthy v)) := by
  intro whole
  cases e with
  | UnaryOp op x p => cases op <;> first | rfl | cases h
  | BoolOp _ _ _ => cases h
  | IfExp _ _ _ _ => cases h
  | Compare _ _ _ _ => cases h
  | _ => rfl
theorem st_val (h : valT e = true) (he : SE X n e w) : ST X n e fun σ c Q => w σ c fun x c1 => truK c1 x fun k => Q k c1 := by
  refine (pt_truth he (valT_is h)).imp fun σ H Q ⟨F, κ, c, σa, P, R, hw, hP⟩ => ?_
  refine ⟨F, κ, c, σa, _, R, hw, fun x c1 vx H1 F1 p1 e1 g1 r1 => ?_⟩
  obtain ⟨k, t, p⟩ := tru_of g1 r1 p1
  exact ⟨k, t, hP _ c1 H1 F1 p e1 g1⟩
theorem se_not (ha : SE X n a wa) : SE X n (.UnaryOp .Not a pos) fun σ c Q => wa σ c fun x c1 => truK c1 x fun b => Q (.bl (!b)) c1 := by
  refine (pe_notT ha).imp fun σ H Q ⟨F, κ, c, σa, P, R, hw, hP⟩ => ?_
  refine ⟨F, κ, c, σa, _, R, hw, fun x c1 vx H1 F1 p1 e1 g1 r1 => ?_⟩
  obtain ⟨k, t, p⟩ := tru_of g1 r1 p1
  exact ⟨k, t, hP _ c1 _ H1 F1 p e1 g1 rep_bl⟩
theorem se_and {rest : List Expr} (ha : SE X n a wa) (hb : SE X n (.BoolOp .And (b :: rest) pos) wb) : SE X n (.BoolOp .And (a :: b :: rest) pos) fun σ c Q => wa σ c fun x c1 => truK c1 x fun k => if k = true then wb σ c1 Q else Q x c1 := by
  refine (pe_andT ha hb).imp fun σ H Q ⟨F, κ, c, σa, P, R, hw, hP⟩ => ?_
  refine ⟨F, κ, c, σa, _, R, hw, fun x c1 vx H1 F1 p1 e1 g1 r1 => ?_⟩
  obtain ⟨k, t, p⟩ := tru_of g1 r1 p1
  refine ⟨k, t, ?_⟩
  cases k with
  | true => exact ⟨F1, κ, c1, σa, _, R.step e1 g1, p, fun d c' v H' F' p e g r => hP d c' v H' F' p (e1.trans e) g (r.start e1.dom)⟩
  | false => exact hP _ c1 _ H1 F1 p e1 g1 r1
theorem se_or {rest : List Expr} (ha : SE X n a wa) (hb : SE X n (.BoolOp .Or (b :: rest) pos) wb) : SE X n (.BoolOp .Or (a :: b :: rest) pos) fun σ c Q => wa σ c fun x c1 => truK c1 x fun k => if k = true then Q x c1 else wb σ c1 Q := by
  refine (pe_orT ha hb).imp fun σ H Q ⟨F, κ, c, σa, P, R, hw, hP⟩ => ?_
  refine ⟨F, κ, c, σa, _, R, hw, fun x c1 vx H1 F1 p1 e1 g1 r1 => ?_⟩
  obtain ⟨k, t, p⟩ := tru_of g1 r1 p1
  refine ⟨k, t, ?_⟩
  cases k with
  | true => exact hP _ c1 _ H1 F1 p e1 g1 r1
  | false => exact ⟨F1, κ, c1, σa, _, R.step e1 g1, p, fun d c' v H' F' p e g r => hP d c' v H' F' p (e1.trans e) g (r.start e1.dom)⟩
theorem se_one {op : BoolOp} (ha : SE X n a wa) : SE X n (.BoolOp op [a] pos) wa := pe_one ha
variable {t1 t2 : WT}
theorem se_ite {q : Expr} (hq : ST X n q t1) (ha : SE X n a wa) (hb : SE X n b wb) : SE X n (.IfExp q a b pos) fun σ c Q => t1 σ c fun k c1 => if k = true then wa σ c1 Q else wb σ c1 Q := by
  refine (pe_ifExp hq ha hb).imp fun σ H Q ⟨F, κ, c, σa, P, R, hw, hP⟩ => ?_
  refine ⟨F, κ, c, σa, _, R, hw, fun k c1 H1 F1 p1 e1 g1 => ?_⟩
  cases k with
  | true => exact ⟨F1, κ, c1, σa, _, R.step e1 g1, p1, fun d c' v H' F' p e g r => hP d c' v H' F' p (e1.trans e) g (r.start e1.dom)⟩
  | false => exact ⟨F1, κ, c1, σa, _, R.step e1 g1, p1, fun d c' v H' F' p e g r => hP d c' v H' F' p (e1.trans e) g (r.start e1.dom)⟩
theorem st_not (ha : ST X n a t1) : ST X n (.UnaryOp .Not a pos) fun σ c Q => t1 σ c fun b c1 => Q (!b) c1 :=
  (pt_not ha).imp fun σ H Q ⟨F, κ, c, σa, P, R, hw, hP⟩ => ⟨F, κ, c, σa, _, R, hw, fun k c1 H1 F1 p1 e1 g1 => hP _ c1 H1 F1 p1 e1 g1⟩
theorem pw_of {op : BoolOp} {vs : List Expr} {t : TT} (h : PT X (.BoolOp op vs pos) t) : PW X (.BoolOp op vs pos) t :=
  ⟨fun whole pins s σ H Q I q => h.run pins s σ H Q I q⟩
theorem st_and {rest : List Expr} (ha : ST X n a t1) (hb : ST X n (.BoolOp .And (b :: rest) pos) t2) : ST X n (.BoolOp .And (a :: b :: rest) pos) fun σ c Q => t1 σ c fun k c1 => if k = true then t2 σ c1 Q else Q false c1 := by
  refine ((pw_and ha (pw_of hb)).pt).imp fun σ H Q ⟨F, κ, c, σa, P, R, hw, hP⟩ => ?_
  refine ⟨F, κ, c, σa, _, R, hw, fun k c1 H1 F1 p1 e1 g1 => ?_⟩
  cases k with
  | true => exact ⟨F1, κ, c1, σa, _, R.step e1 g1, p1, fun d c' H' F' p e g => hP d c' H' F' p (e1.trans e) g⟩
  | false => exact hP _ c1 H1 F1 p1 e1 g1
theorem st_or {rest : List Expr} (ha : ST X n a t1) (hb : ST X n (.BoolOp .Or (b :: rest) pos) t2) : ST X n (.BoolOp .Or (a :: b :: rest) pos) fun σ c Q => t1 σ c fun k c1 => if k = true then Q true c1 else t2 σ c1 Q := by
  refine ((pw_or ha (pw_of hb)).pt).imp fun σ H Q ⟨F, κ, c, σa, P, R, hw, hP⟩ => ?_
  refine ⟨F, κ, c, σa, _, R, hw, fun k c1 H1 F1 p1 e1 g1 => ?_⟩
  cases k with
  | true => exact hP _ c1 H1 F1 p1 e1 g1
  | false => exact ⟨F1, κ, c1, σa, _, R.step e1 g1, p1, fun d c' H' F' p e g => hP d c' H' F' p (e1.trans e) g⟩
theorem st_one_and (ha : ST X n a t1) : ST X n (.BoolOp .And [a] pos) t1 := (pw_and1 ha).pt
theorem st_one_or (ha : ST X n a t1) : ST X n (.BoolOp .Or [a] pos) t1 := (pw_or1 ha).pt
end
end Ev

/-! # Ev4: displays, arguments, subscripts, slices, calls of defs -/
namespace Ev
open PySem PySem.Spec PyProof.Rows L2
section
variable {X : Cx} {n : En} {a b e : Expr} {es : List Expr} {wa wb w : WE} {pos : Pos} {wl wr : WL}
variable {K : PySem.W.Frag} {mg : Str → Option Value} {F F' H0 H H' : Hp} {κ : List Addr} {c : Cells} {x y d : D} {vx vy v : V}

/-- not a starred expression -/
def noStar : Expr → Bool
  | .Starred _ _ => false
  | _ => true
theorem star_of {env : Env} (h : noStar e = true) : starEach (e :: es) env = (false, eval e env) :: starEach es env := by
  cases e <;> first | rfl | cases h
theorem any_of {env : Env} {pos : Pos} : ∀ {es : List Expr}, es.all noStar = true → (backTo pos (starEach es env)).any (·.1) = false
  | [], _ => rfl
  | e :: es, h => by
    simp only [List.all_cons, Bool.and_eq_true] at h
    rw [star_of h.1]
    have := any_of (env := env) (pos := pos) h.2
    simp only [backTo, List.map_cons, List.any_cons, Bool.false_or]
    exact this
theorem sl_nil : SLs X n [] fun _ c Q => Q [] c :=
  pa_nil.imp fun σ H Q ⟨F, κ, c, σa, P, R, hw, hP⟩ => hP [] c [] H F hw .refl R.g .nil
theorem sl_cons (he : SE X n e w) (hr : SLs X n es wl) (hs : noStar e = true) :
    SLs X n (e :: es) fun σ c Q => w σ c fun x c1 => stK x fun d => wl σ c1 fun ys c2 => Q (d :: ys) c2 := by
  refine (pa_cons he hr (star_of hs)).imp fun σ H Q ⟨F, κ, c, σa, P, R, hw, hP⟩ => ?_
  refine ⟨F, κ, c, σa, _, R, hw, fun x c1 vx H1 F1 p1 e1 g1 r1 => ?_⟩
  obtain ⟨hc, p1⟩ := p1
  obtain ⟨F2, s2, e2, g2, r2⟩ := freeze e1 g1 r1
  refine ⟨F2, κ, c1, σa, _, R.step e2 g2, p1, fun ds c' vs H' F' p e3 g3 r3 => ?_⟩
  refine hP _ c' _ H' F' p (e2.trans e3) g3 (.cons ((r2.toD ?_).mono e3.fk) r3)
  cases x <;> first | exact hc | rfl
theorem sl_star {p : Pos} (he : SE X n e w) (hr : SLs X n es wl) :
    SLs X n (.Starred e p :: es) fun σ c Q => w σ c fun x c1 => ∃ xs, lkS c1 x = some xs ∧ xs.length ≤ 4096 ∧ wl σ c1 fun ys c2 => Q (xs ++ ys) c2 := by
  refine (StX.pa_star he hr rfl).imp fun σ H Q ⟨F, κ, c, σa, P, R, hw, hP⟩ => ?_
  refine ⟨F, κ, c, σa, _, R, hw, fun x c1 vx H1 F1 p1 e1 g1 r1 => ?_⟩
  obtain ⟨xs, hx, _, p1⟩ := p1
  obtain ⟨a, vs, rfl, q, s⟩ := rep_lkS g1 r1 hx
  refine ⟨a, vs, rfl, q.symm, F1, κ, c1, σa, _, R.step e1 g1, p1, fun ds c' us H' F' p e3 g3 r3 => ?_⟩
  exact hP _ c' _ H' F' p (e1.trans e3) g3 ((s.mono e3.fk).append r3)
theorem sa_nil : SA X n [] fun _ c Q => Q [] c :=
  pa_nil.imp fun σ H Q ⟨F, κ, c, σa, P, R, hw, hP⟩ => hP [] c [] H F hw .refl R.g rfl
theorem sa_cons (he : SE X n e w) (hr : SA X n es wl) (hs : noStar e = true) :
    SA X n (e :: es) fun σ c Q => w σ c fun x c1 => wl σ c1 fun ys c2 => Q (x.fz :: ys) c2 := by
  refine (pa_cons he hr (star_of hs)).imp fun σ H Q ⟨F, κ, c, σa, P, R, hw, hP⟩ => ?_
  refine ⟨F, κ, c, σa, _, R, hw, fun x c1 vx H1 F1 p1 e1 g1 r1 => ?_⟩
  obtain ⟨F2, s2, e2, g2, r2⟩ := freeze e1 g1 r1
  refine ⟨F2, κ, c1, σa, _, R.step e2 g2, p1, fun ds c' vs H' F' p e3 g3 r3 => ?_⟩
  exact hP _ c' _ H' F' p (e2.trans e3) g3 ⟨_, _, rfl, r2.mono e3.fk, r3⟩
theorem se_tup {k : Nat} (h : SLs X n es wl) : SE X n (.Tuple es k pos) fun σ c Q => wl σ c fun ds c1 => ds.length ≤ sizeLine ∧ Q (.tup ds) c1 := by
  refine (pe_tup h).imp fun σ H Q ⟨F, κ, c, σa, P, R, hw, hP⟩ => ?_
  refine ⟨F, κ, c, σa, _, R, hw, fun ds c1 vs H1 F1 p1 e1 g1 r1 => ?_⟩
  refine ⟨by rw [← r1.length]; exact p1.1, fun p hp => ?_⟩
  obtain ⟨e2, g2, r2⟩ := fin_tup g1 hp r1
  exact hP _ c1 _ _ _ p1.2 (e1.trans e2) g2 (r2.start e1.dom)
theorem se_lst (h : SLs X n es wl) : SE X n (.List es pos) fun σ c Q => wl σ c fun ds c1 => ds.length ≤ sizeLine ∧ Q (.own ds) c1 := by
  refine (pe_lst h).imp fun σ H Q ⟨F, κ, c, σa, P, R, hw, hP⟩ => ?_
  refine ⟨F, κ, c, σa, _, R, hw, fun ds c1 vs H1 F1 p1 e1 g1 r1 => ?_⟩
  refine ⟨by rw [← r1.length]; exact p1.1, fun p hp => ?_⟩
  obtain ⟨e2, g2, r2⟩ := fin_own g1 hp r1
  exact hP _ c1 _ _ _ p1.2 (e1.trans e2) g2 (r2.start e1.dom)

/-! ### subscripts -/
/-- not a slice -/
def noSlice : Expr → Bool
  | .Slice _ _ _ _ => false
  | _ => true
theorem plain_ix (h : noSlice b = true) : PlainIx b := fun o i => by
  cases b <;> first | rfl | cases h
theorem atI_rep {xs : List D} {vs : List V} {i : Int} {z : D} (s : RepDs K mg F xs vs) (h : atI xs i = some z) : ∃ v, atI vs i = some v ∧ RepD K mg F z v := by
  simp only [atI, Option.bind_eq_some_iff] at h ⊢
  obtain ⟨j, h1, h2⟩ := h
  obtain ⟨v, h3, h4⟩ := s.get h2
  exact ⟨v, ⟨j, by rw [← s.length]; exact h1, h3⟩, h4⟩
theorem se_idx (hs : noSlice b = true) (ha : SE X n a wa) (hb : SE X n b wb) :
    SE X n (.Subscript a b pos) fun σ c Q => wa σ c fun x c1 => wb σ c1 fun y c2 => idxK x y c2 fun z => Q z c2 := by
  refine (pe_ix ix_seq ha hb (plain_ix hs)).imp fun σ H Q ⟨F, κ, c, σa, P, R, hw, hP⟩ => ?_
  refine ⟨F, κ, c, σa, _, R, hw, fun x c1 vx H1 F1 p1 e1 g1 r1 => ?_⟩
  refine ⟨F1, κ, c1, σa, _, R.step e1 g1, p1, fun y c2 vy H2 F2 p2 e2 g2 r2 => ?_⟩
  have key : (∃ xs i v, lkS c2 x = some xs ∧ y = .int i ∧ L2.atI xs i = some v ∧ P v c2) → rIx X.K vx vy H2 Q := fun ⟨xs, i, z, h1, h2, h3, p⟩ => by
    subst h2
    rw [inv_int r2]
    obtain ⟨a, vs, rfl, q, s⟩ := rep_lkS g2 (r1.step e2) h1
    obtain ⟨v, h4, h5⟩ := atI_rep s h3
    have fin : Q v H2 := hP z c2 v H2 F2 p (e1.trans e2) g2 (.ofD h5)
    rcases q with q | q
    · exact .inl ⟨a, vs, i, v, rfl, rfl, q, h4, fin⟩
    · exact .inr (.inl ⟨a, vs, i, v, rfl, rfl, q, h4, fin⟩)
  cases x with
  | str z =>
    obtain ⟨i, g, h1, h2, h3, p⟩ := p2
    subst h1
    rw [inv_int r2, inv_str r1]
    exact .inr (.inr ⟨z, i, g, rfl, rfl, h2, h3, hP _ c2 _ H2 F2 p (e1.trans e2) g2 rep_str⟩)
  | _ => exact key p2
def tPo (X : Cx) (n : En) (w : WO) : TO := fun σ H Q => ∃ F κ c σa P, Rel X.K X.mg n F κ c H σa σ ∧ w σa c P ∧
  ∀ o c' H' F', P o c' → Ext κ H F H' F' → GOk X.K X.mg F' κ c' H' → Q o H'
def SO (X : Cx) (n : En) (e : Option Expr) (w : WO) : Prop := PO X e (tPo X n w)
theorem so_none : SO X n none fun _ c Q => Q none c :=
  ⟨fun pins s σ H Q I ⟨F, κ, c, σa, P, R, hw, hP⟩ => po_none.run pins s σ H Q I (hP _ c H F hw .refl R.g)⟩
theorem so_some (h : SE X n e w) : SO X n (some e) fun σ c Q => w σ c fun x c1 => ∃ i, x = .int i ∧ Q (some i) c1 := by
  refine ⟨fun pins s σ H Q I ⟨F, κ, c, σa, P, R, hw, hP⟩ => (po_some h).run pins s σ H Q I ?_⟩
  refine ⟨F, κ, c, σa, _, R, hw, fun x c1 vx H1 F1 p1 e1 g1 r1 => ?_⟩
  obtain ⟨i, rfl, p⟩ := p1
  rw [inv_int r1]
  exact ⟨i, rfl, hP _ c1 H1 F1 p e1 g1⟩
theorem cut_rep {xs : List D} {vs : List V} (s : RepDs K mg F xs vs) (lo hi : Option Int) : RepDs K mg F (cutD xs lo hi) (cutV vs lo hi) := by
  unfold cutD cutV
  rw [← s.length]
  exact (s.drop _).take _
theorem cut_whole (xs : List D) (lo hi : Option Int) (h : HT.sIx xs.length 0 lo = 0 ∧ HT.sIx xs.length xs.length hi = xs.length) : cutD xs lo hi = xs := by
  unfold cutD
  rw [h.1, h.2]; simp
variable {lo hi : Option Expr} {w1 w2 : WO} {p2 : Pos}
theorem se_sl (ha : SE X n a wa) (hl : SO X n lo w1) (hh : SO X n hi w2) :
    SE X n (.Subscript a (.Slice lo hi none p2) pos) fun σ c Q => wa σ c fun x c1 => w1 σ c1 fun l c2 => w2 σ c2 fun h c3 => slK x l h c3 fun z => Q z c3 := by
  refine (pe_slice (SlR.or sl_tupA (SlR.or sl_list C8.sl_txt)) ha hl hh).imp fun σ H Q ⟨F, κ, c, σa, P, R, hw, hP⟩ => ?_
  refine ⟨F, κ, c, σa, _, R, hw, fun x c1 vx H1 F1 p1 e1 g1 r1 => ?_⟩
  refine ⟨F1, κ, c1, σa, _, R.step e1 g1, p1, fun l c2 H2 F2 p2 e2 g2 => ?_⟩
  refine ⟨F2, κ, c2, σa, _, (R.step e1 g1).step e2 g2, p2, fun h c3 H3 F3 p3 e3 g3 => ?_⟩
  have r3 := (r1.step e2).step e3
  have e03 := (e1.trans e2).trans e3
  cases x with
  | str z =>
    rw [inv_str r1]
    exact .inr (.inr ⟨z, rfl, p3.1, hP _ c3 _ H3 F3 p3.2 e03 g3 rep_str⟩)
  | tup xs =>
    obtain ⟨a, vs, rfl, q, s⟩ := rep_tup g3 r3
    refine .inl ⟨a, vs, rfl, q, fun z => ?_, fun _ q hq => ?_⟩
    · rw [← s.length] at z
      have := cut_whole xs l h z
      have p3 : P (.tup (cutD xs l h)) c3 := p3
      rw [this] at p3
      exact hP _ c3 _ H3 F3 p3 e03 g3 r3
    · obtain ⟨e4, g4, r4⟩ := fin_tup g3 hq (cut_rep s l h)
      exact hP _ c3 _ _ _ p3 (e03.trans e4) g4 (r4.start e03.dom)
  | _ =>
    obtain ⟨xs, h1, p⟩ := p3
    obtain ⟨a, vs, rfl, q, s⟩ := rep_lkR g3 r3 h1
    refine .inr (.inl ⟨a, vs, rfl, q, fun q hq => ?_⟩)
    obtain ⟨e4, g4, r4⟩ := fin_own g3 hq (cut_rep s l h)
    exact hP _ c3 _ _ _ p (e03.trans e4) g4 (r4.start e03.dom)
end

/-! ### defs: promises over data -/
/-- a def's promise over data, over the heap -/
def spD (K : PySem.W.Frag) (mg : Str → Option Value) (m : Nat) (sp : DSp) : Sp := fun vs H Q E => ∃ F κ ds c P W,
  GOk K mg F κ c H ∧ Rep1s K mg F κ ds vs ∧ ds.length = m ∧ sp ds c P W ∧
  (∀ d c' v H' F', P d c' → Ext κ H F H' F' → GOk K mg F' κ c' H' → RepX K mg F' κ H H' d v → Q v H') ∧
  (∀ x c' H' F' C, W x c' → Ext κ H F H' F' → GOk K mg F' κ c' H' → mg x = some (.ref C) → E (.ref C) none H')
/-- as FnOk, where no repr is under way -/
structure FnG (P : Program) (w : World) (K : PySem.W.Frag) (mg : Str → Option Value) (base : Heap) (k : Nat) (f : Addr) (fd : FuncData) (ps : List Str) (sp : Sp) : Prop where
  len : ∀ vs H Q E, sp vs H Q E → vs.length = ps.length
  go : ∀ (A : Around), A.guards = some [] → Room k A → ∀ (outer : List Env) (s : Shared) (H : Hp), Env0 P w K mg base A outer s H → ∀ (args : Args) (us : List Value) (vs : List V) (Q : VK) (E : XK),
    BindsTo s fd args (ps.zip us) → Vals vs us → sp vs H Q E → codeAny (model P w) A (.call (.ref f) args) (CR (L2.CX P w) outer P w H s Q E) s
theorem FnG.mono {P : Program} {w : World} {K : PySem.W.Frag} {mg : Str → Option Value} {base : Heap} {j k : Nat} {f : Addr} {fd : FuncData} {ps : List Str} {sp : Sp} (F : FnG P w K mg base j f fd ps sp) (h : j ≤ k) : FnG P w K mg base k f fd ps sp :=
  ⟨F.len, fun A hg hr => F.go A hg (hr.mono h)⟩
/-- a def of the text that may be called -/
structure Tab where
  name : Str
  ps : List Str
  sp : DSp
def gam (T : List Tab) : Str → DSp := fun f ds c Q E => ∃ t ∈ T, t.name = f ∧ ds.length = t.ps.length ∧ t.sp ds c Q E
/-- what stands around a body -/
structure Has (X : Cx) (k : Nat) (T : List Tab) : Prop where
  room : Room k X.A
  gd : X.A.guards = some []
  fns : ∀ t ∈ T, ∃ f fd, FnG X.prog X.w X.K X.mg X.base k f fd t.ps (spD X.K X.mg t.ps.length t.sp) ∧ X.mg t.name = some (.ref f) ∧ PySem.W.keepIn X.K (.ref f) = true ∧ Binds X.K fd t.ps []
theorem Has.units {X : Cx} {k : Nat} {T : List Tab} (h : Has X k T) : X.A.units + 64 < cLine := by have := h.room.un; omega
/-- what is wished of an error in a body: over data -/
def wX (X : Cx) (n : En) (W : XW) : WX := fun cls dd σ H => ∃ F κ c σa x C, Rel X.K X.mg n F κ c H σa σ ∧ W x σa c ∧ X.mg x = some (.ref C) ∧ cls = .ref C ∧ dd = none
section
variable {X : Cx} {n : En} {k : Nat} {T : List Tab} {W : XW} {e : Expr} {es : List Expr} {pos p : Pos} {x : Str} {wl : WL} {wa : WE}
/-- a callee runs -/
theorem run_g {f : Addr} {fd : FuncData} {ps : List Str} {sp : Sp} {pins : List (Addr × Obj)} {σ : L2.St} {H : Hp} {s : Shared} {Q : VK} {us : List Value} {vs : List V} {E : XK}
    (G : FnG X.prog X.w X.K X.mg X.base k f fd ps sp) (hr : Room k X.A) (hg : X.A.guards = some []) (hb : Binds X.K fd ps []) (hx : PassesAt (L2.CX X.prog X.w) X σ E) (I : Inv X pins σ H s) (r : Vals vs us) (h : sp vs H Q E) :
    wpAny (model X.prog X.w) X.A (call (.ref f) us) (EP X pins σ Q) X.xe s := by
  have hl : (us ++ []).length = ps.length := by rw [List.append_nil, ← r.length]; exact G.len _ _ _ _ h
  have b := hb s us I.kIn hl
  simp only [List.append_nil] at b
  have run := G.go X.A hg hr X.stack s H I.env0 ⟨us, []⟩ us vs Q E b r h
  refine wpAny_call (codeAny_mono run fun res s' hq => ?_)
  match res, hq with
  | .error er, hq => exact hx pins H s er s' I hq
  | .ok (.ret u), hq => exact I.after hq
  | .ok .next, hq => exact hq.elim
  | .ok .brk, hq => exact hq.elim
  | .ok .cont, hq => exact hq.elim
theorem wX_of (tk : Takes X (wX X n W)) {F : Hp} {κ : List Addr} {c : Cells} {H : Hp} {σa : Sl} {σ : L2.St} (R : Rel X.K X.mg n F κ c H σa σ) {ds : List D} {vs : List V} {P : D → Cells → Prop} {Q : VK} {t : Tab}
    (r : Rep1s X.K X.mg F κ ds vs) (hl : ds.length = t.ps.length) (h : t.sp ds c P fun x c' => W x σa c')
    (hP : ∀ d c' v H' F', P d c' → Ext κ H F H' F' → GOk X.K X.mg F' κ c' H' → RepX X.K X.mg F' κ H H' d v → Q v H') :
    spD X.K X.mg t.ps.length t.sp vs H Q (L2.WE (wX X n W) σ) :=
  ⟨F, κ, ds, c, P, _, R.g, r, hl, h, hP, fun x c' H' F' C hw e g hm => ⟨F', κ, c', σa, x, C, R.step e g, hw, hm, rfl, rfl⟩⟩
theorem se_call (hs : Has X k T) (tk : Takes X (wX X n W)) (hgl : Gl X x) (hin : ∃ t ∈ T, t.name = x) (hdb : (x == ("__debug__" : Str)) = false) (hst : (e :: es).all noStar = true) (ha : SA X n (e :: es) wl) :
    SE X n (.Call (.Name x p) (e :: es) [] pos) fun σ c Q => wl σ c fun ds c1 => gam T x ds c1 Q fun m c2 => W m σ c2 := by
  have hst' := hst
  simp only [List.all_cons, Bool.and_eq_true] at hst'
  refine ⟨fun pins s σ H Q I ⟨F, κ, c, σa, P, R, hw, hP⟩ => ?_⟩
  refine wpAny_Call_Name_kw ?_
  obtain ⟨t0, ht0, hn0⟩ := hin
  obtain ⟨f, _, _, hf, hk, _⟩ := hs.fns t0 ht0
  rw [hn0] at hf
  refine ld_glob I hgl hf ?_ hdb
  have hargs := ha.run pos pins s σ H (fun vs H' => ∃ ds c' F', gam T x ds c' P (fun m c2 => W m σa c2) ∧ Ext κ H F H' F' ∧ GOk X.K X.mg F' κ c' H' ∧ Rep1s X.K X.mg F' κ ds vs) I
    ⟨F, κ, c, σa, _, R, hw, fun ds c' vs H' F' p e g r => ⟨ds, c', F', p, e, g, r⟩⟩
  refine PySem.W.callWith_K (h₀ := X.base) I.ok.mod.kin hk (thn hargs fun us s1 hh => ?_) (star_of hst'.1) (any_of hst'.2)
  obtain ⟨vs, H1, I1, rv, ds, c', F', ⟨t, ht, hn, hl, hsp⟩, e1, g1, r1⟩ := hh
  refine ⟨I1.kIn, ?_⟩
  obtain ⟨f', fd, G, hm, _, hb⟩ := hs.fns t ht
  rw [hn, hf] at hm
  cases hm
  exact run_g G hs.room hs.gd hb (passAt tk σ) I1 rv (wX_of tk (R.step e1 g1) r1 hl hsp fun d c2 v H' F2 p e g r => hP d c2 v H' F2 p (e1.trans e) g (r.start e1.dom))
/-- a def as a value -/
theorem se_gfn (hs : Has X k T) (hgl : Gl X x) (hin : ∃ t ∈ T, t.name = x) (hdb : (x == ("__debug__" : Str)) = false) : SE X n (.Name x p) fun _ c Q => Q (.fn x) c := by
  obtain ⟨t0, ht0, hn0⟩ := hin
  obtain ⟨f, _, _, hf, hk, _⟩ := hs.fns t0 ht0
  rw [hn0] at hf
  exact se_const (pe_glob (v := .ref f) hgl hf rfl hdb) (fun F κ => by simp only [Rep1, RepD]; exact ⟨f, rfl, hf, hk⟩) (fun _ => nofun)
theorem se_gint {i : Int} (hgl : Gl X x) (hin : ∃ t, X.mg x = some (.int i t)) (hdb : (x == ("__debug__" : Str)) = false) : SE X n (.Name x p) fun _ c Q => Q (.int i) c := by
  obtain ⟨t, h⟩ := hin
  exact se_const (pe_glob (v := .int i) hgl h ⟨t, rfl⟩ hdb) (fun F κ => by simp only [Rep1, RepD]) (fun _ => nofun)
/-- a call of what an expression gives -/
theorem se_calv {g : Expr} (hs : Has X k T) (tk : Takes X (wX X n W)) (hg : SE X n g wa) (hst : (e :: es).all noStar = true) (ha : SA X n (e :: es) wl)
    (hform : eval (.Call g (e :: es) [] pos) X.env = (do callWith pos (← eval g X.env) [] (backTo pos (starEach (e :: es) X.env)) (backToKw pos (keywordEach [] X.env)))) :
    SE X n (.Call g (e :: es) [] pos) fun σ c Q => wa σ c fun h c1 => ∃ f, h = .fn f ∧ wl σ c1 fun ds c2 => gam T f ds c2 Q fun m c3 => W m σ c3 := by
  have hst' := hst
  simp only [List.all_cons, Bool.and_eq_true] at hst'
  refine ⟨fun pins s σ H Q I ⟨F, κ, c, σa, P, R, hw, hP⟩ => ?_⟩
  refine PyProof.Rows.Call_ ?_ hform
  have hfun := hg.run pins s σ H (fun v H' => ∃ f c' F', (∃ a, v = .ref a ∧ X.mg f = some (.ref a) ∧ PySem.W.keepIn X.K (.ref a) = true) ∧ wl σa c' (fun ds c2 => gam T f ds c2 P fun m c3 => W m σa c3) ∧ Ext κ H F H' F' ∧ GOk X.K X.mg F' κ c' H') I
    ⟨F, κ, c, σa, _, R, hw, fun h c' v H' F' ⟨f, hf, p⟩ e g r => ⟨f, c', F', by subst hf; simpa only [RepX, Rep1, RepD] using r, p, e, g⟩⟩
  refine thn hfun fun u s1 ⟨v, H1, I1, rv, f, c1, F1, ⟨a, hv, hf, hk⟩, p1, e1, g1⟩ => ?_
  subst hv
  obtain rfl : u = Value.ref a := rv
  have R1 := R.step e1 g1
  have hargs := ha.run pos pins s1 σ H1 (fun vs H' => ∃ ds c' F', gam T f ds c' P (fun m c2 => W m σa c2) ∧ Ext κ H1 F1 H' F' ∧ GOk X.K X.mg F' κ c' H' ∧ Rep1s X.K X.mg F' κ ds vs) I1
    ⟨F1, κ, c1, σa, _, R1, p1, fun ds c' vs H' F' p e g r => ⟨ds, c', F', p, e, g, r⟩⟩
  refine PySem.W.callWith_K (h₀ := X.base) I1.ok.mod.kin hk (thn hargs fun us s2 hh => ?_) (star_of hst'.1) (any_of hst'.2)
  obtain ⟨vs, H2, I2, rv, ds, c2, F2, ⟨t, ht, hn, hl, hsp⟩, e2, g2, r2⟩ := hh
  refine ⟨I2.kIn, ?_⟩
  obtain ⟨f', fd, G, hm, _, hb⟩ := hs.fns t ht
  rw [hn, hf] at hm
  cases hm
  exact run_g G hs.room hs.gd hb (passAt tk σ) I2 rv (wX_of tk (R1.step e2 g2) r2 hl hsp fun d c3 v H' F3 p e g r => hP d c3 v H' F3 p ((e1.trans e2).trans e) g (r.start fun a z => e1.dom a (e2.dom a z)))
end
end Ev

/-! # Ev5: built-in functions, methods, isinstance -/
namespace Ev
open PySem PySem.Spec PyProof.Rows L2
section
variable {X : Cx} {n : En} {a b e : Expr} {es : List Expr} {wa wb w : WE} {pos p : Pos} {wl : WL} {x : Str}
variable {K : PySem.W.Frag} {mg : Str → Option Value} {F F' H0 H H' : Hp} {κ : List Addr} {c : Cells} {d : D} {v : V}
/-- a function of arguments, over data -/
def FunD (X : Cx) (r : List V → Hp → VK → Prop) (o : List D → Cells → (D → Prop) → Prop) : Prop :=
  ∀ (F : Hp) (κ : List Addr) (c : Cells) (H : Hp) (ds : List D) (vs : List V) (P : D → Prop) (Q : VK), GOk X.K X.mg F κ c H → Rep1s X.K X.mg F κ ds vs → o ds c P → Done X.K X.mg F κ c H P Q → r vs H Q
theorem se_fun {id : String} {r : List V → Hp → VK → Prop} {o : List D → Cells → (D → Prop) → Prop} (hc : CallR X (.builtin id) r) (hd : FunD X r o) (hg : Gl X x) (hm : X.mg x = none) (hv : bootBuiltins x = some (.builtin id)) (hn : x ≠ "__name__") (hdb : (x == ("__debug__" : Str)) = false)
    (hst : (e :: es).all noStar = true) (ha : SA X n (e :: es) wl) : SE X n (.Call (.Name x p) (e :: es) [] pos) fun σ c Q => wl σ c fun ds c1 => o ds c1 fun z => Q z c1 := by
  simp only [List.all_cons, Bool.and_eq_true] at hst
  refine (pe_callB hc hg hm hv ha hn hdb (star_of hst.1) (any_of hst.2)).imp fun σ H Q ⟨F, κ, c, σa, P, R, hw, hP⟩ => ?_
  refine ⟨F, κ, c, σa, _, R, hw, fun ds c1 vs H1 F1 p1 e1 g1 r1 => ?_⟩
  exact hd F1 κ c1 H1 ds vs _ Q g1 r1 p1 fun d v H' F' p e g r => hP d c1 v H' F' p (e1.trans e) g (r.start e1.dom)
theorem se_typ {T : String} {r : List V → Hp → VK → Prop} {o : List D → Cells → (D → Prop) → Prop} (hc : CallR X (.type T) r) (hd : FunD X r o) (hg : Gl X x) (hm : X.mg x = none) (hv : bootBuiltins x = some (.type T)) (hn : x ≠ "__name__") (hdb : (x == ("__debug__" : Str)) = false)
    (hst : (e :: es).all noStar = true) (ha : SA X n (e :: es) wl) : SE X n (.Call (.Name x p) (e :: es) [] pos) fun σ c Q => wl σ c fun ds c1 => o ds c1 fun z => Q z c1 := by
  simp only [List.all_cons, Bool.and_eq_true] at hst
  refine (pe_callTy hc hg hm hv ha hn hdb (star_of hst.1) (any_of hst.2)).imp fun σ H Q ⟨F, κ, c, σa, P, R, hw, hP⟩ => ?_
  refine ⟨F, κ, c, σa, _, R, hw, fun ds c1 vs H1 F1 p1 e1 g1 r1 => ?_⟩
  exact hd F1 κ c1 H1 ds vs _ Q g1 r1 p1 fun d v H' F' p e g r => hP d c1 v H' F' p (e1.trans e) g (r.start e1.dom)
theorem one1 {vs : List V} (r : Rep1s K mg F κ [d] vs) : ∃ v, vs = [v] ∧ Rep1 K mg F κ d v := by
  obtain ⟨v, r, rfl, h, q⟩ := r
  simp only [Rep1s] at q; subst q
  exact ⟨v, rfl, h⟩
theorem one2 {d2 : D} {vs : List V} (r : Rep1s K mg F κ [d, d2] vs) : ∃ v v2, vs = [v, v2] ∧ Rep1 K mg F κ d v ∧ Rep1 K mg F κ d2 v2 := by
  obtain ⟨v, r, rfl, h, q⟩ := r
  obtain ⟨v2, rfl, h2⟩ := one1 q
  exact ⟨v, v2, rfl, h, h2⟩
theorem min_is : ∀ (r : List Int) (i m : Int), m ∈ i :: r → (∀ y, y ∈ i :: r → m ≤ y) → m = minL i r
  | [], i, m, h1, h2 => by simpa [minL] using h1
  | x :: r, i, m, h1, h2 => by
    have a := h2 i (by simp)
    have b := h2 x (by simp)
    unfold minL
    by_cases c : x < i
    · rw [if_pos c]
      refine min_is r x m ?_ fun y hy => h2 y (by simp at hy ⊢; exact .inr hy)
      simp only [List.mem_cons] at h1 ⊢
      rcases h1 with h | h | h
      · subst h; omega
      · exact .inl h
      · exact .inr h
    · rw [if_neg c]
      refine min_is r i m ?_ fun y hy => h2 y (by simp at hy ⊢; rcases hy with h | h; exact .inl h; exact .inr (.inr h))
      simp only [List.mem_cons] at h1 ⊢
      rcases h1 with h | h | h
      · exact .inl h
      · subst h; left; omega
      · exact .inr h
theorem max_is : ∀ (r : List Int) (i m : Int), m ∈ i :: r → (∀ y, y ∈ i :: r → y ≤ m) → m = maxL i r
  | [], i, m, h1, h2 => by simpa [maxL] using h1
  | x :: r, i, m, h1, h2 => by
    have a := h2 i (by simp)
    have b := h2 x (by simp)
    unfold maxL
    by_cases c : x > i
    · rw [if_pos c]
      refine max_is r x m ?_ fun y hy => h2 y (by simp at hy ⊢; exact .inr hy)
      simp only [List.mem_cons] at h1 ⊢
      rcases h1 with h | h | h
      · subst h; omega
      · exact .inl h
      · exact .inr h
    · rw [if_neg c]
      refine max_is r i m ?_ fun y hy => h2 y (by simp at hy ⊢; rcases hy with h | h; exact .inl h; exact .inr (.inr h))
      simp only [List.mem_cons] at h1 ⊢
      rcases h1 with h | h | h
      · exact .inl h
      · subst h; left; omega
      · exact .inr h
/-- repr of data -/
def rRepr (K : PySem.W.Frag) : List V → Hp → VK → Prop := fun xs H Q => ∃ x q, xs = [x] ∧ Dp K H x q ∧ q.showable = true ∧ q.hasDict = false ∧ q.depth ≤ 60 ∧ q.shown.length ≤ sizeLine ∧ Q (.str q.shown) H
theorem call_reprD (hu : X.A.units + 64 < cLine) (hg : X.A.guards = some []) : CallR X (.builtin "repr") (rRepr X.K) := by
  intro pins s σ H xs us Q I r h
  obtain ⟨x, q, rfl, hd, h1, h2, h3, h4, k⟩ := h
  obtain ⟨u, rfl, ru⟩ := vals1 r
  cases hd with
  | non =>
    obtain rfl : u = Value.none := ru
    exact PySem.P.repr_of_none ⟨.str _, H, I.tok _, ⟨_, rfl⟩, k⟩
  | bl b =>
    obtain rfl : u = Value.bool b := ru
    exact PySem.P.repr_of_bool ⟨.str _, H, I.tok _, ⟨_, rfl⟩, k⟩
  | int i =>
    obtain ⟨t, rfl⟩ := (show ∃ t, u = Value.int i t from ru)
    exact PySem.P.repr_of_int (by simpa [PyData.showable] using h1) ⟨.str _, H, I.tok _, ⟨_, rfl⟩, k⟩
  | str z =>
    obtain ⟨t, rfl⟩ := (show ∃ t, u = Value.str z t from ru)
    exact PySem.P.repr_of_str ⟨.str _, H, I.tok _, ⟨_, rfl⟩, k⟩ h4
  | lst hs ha =>
    rename_i a vs ds
    obtain ⟨as, rd⟩ := Dp.reads I _ _ u (.lst hs ha) ru
    obtain rfl : u = Value.ref a := ru
    exact repr_of_reads' rd h1 (PyData.noDict_hsm h2) hg (by omega) (fun _ _ z => z) (fun h' u tk hk => ⟨.str _, H, I.kept hk, ⟨_, rfl⟩, k⟩) h4
  | tup hs ha =>
    rename_i a vs ds
    obtain ⟨as, rd⟩ := Dp.reads I _ _ u (.tup hs ha) ru
    obtain rfl : u = Value.ref a := ru
    exact repr_of_reads' rd h1 (PyData.noDict_hsm h2) hg (by omega) (fun _ _ z => z) (fun h' u tk hk => ⟨.str _, H, I.kept hk, ⟨_, rfl⟩, k⟩) h4
def bName : B → Str
  | .len => "len" | .int => "int" | .abs => "abs" | .min => "min" | .max => "max" | .sum => "sum" | .any => "any" | .all => "all" | .tuple => "tuple" | .list => "list" | .repr => "repr"
def bVal : B → Value
  | .len => .builtin "len" | .int => .type "int" | .abs => .builtin "abs" | .min => .builtin "min" | .max => .builtin "max" | .sum => .builtin "sum" | .any => .builtin "any" | .all => .builtin "all" | .tuple => .type "tuple" | .list => .type "list" | .repr => .builtin "repr"
theorem b_boot : ∀ f, bootBuiltins (bName f) = some (bVal f) ∧ bName f ≠ "__name__" ∧ (bName f == ("__debug__" : Str)) = false := by
  intro f
  cases f <;> exact ⟨by decide +kernel, by decide +kernel, by decide +kernel⟩
def rLen (K : PySem.W.Frag) : List V → Hp → VK → Prop := fun xs H Q => ∃ x n, xs = [x] ∧ LenV K x H n ∧ Q (.int n) H
theorem fd_len : FunD X (rLen X.K) (bltK .len) := by
  intro F κ c H ds vs P Q g r h k
  have key : ∀ d, ds = [d] → (∃ xs, lkS c d = some xs ∧ P (.int xs.length)) → rLen X.K vs H Q := fun d e ⟨xs, h1, p⟩ => by
    subst e
    obtain ⟨v, rfl, rv⟩ := one1 r
    obtain ⟨a, us, rfl, q, s⟩ := rep_lkS g (H0 := H) (RepX.of_1 rv) h1
    refine ⟨_, us.length, rfl, ?_, by rw [← s.length]; exact k.int g p⟩
    rcases q with q | q
    · exact .inl ⟨us, q, rfl⟩
    · exact .inr ⟨us, q, rfl⟩
  unfold bltK at h; dsimp only at h
  split at h
  · obtain ⟨v, rfl, rv⟩ := one1 r
    simp only [Rep1, RepD] at rv; subst rv
    exact ⟨_, _, rfl, ⟨h.1, rfl⟩, k.int g h.2⟩
  · exact key _ rfl h
  · exact h.elim
theorem fd_int : FunD X (fun xs H Q => (∃ i, xs = [.int i] ∧ Q (.int i) H) ∨ ∃ k, xs = [.bl k] ∧ Q (.int (if k then 1 else 0)) H) (bltK .int) := by
  intro F κ c H ds vs P Q g r h k
  unfold bltK at h; dsimp only at h
  split at h
  · obtain ⟨v, rfl, rv⟩ := one1 r
    simp only [Rep1, RepD] at rv; subst rv
    exact .inl ⟨_, rfl, k.int g h⟩
  · obtain ⟨v, rfl, rv⟩ := one1 r
    simp only [Rep1, RepD] at rv; subst rv
    exact .inr ⟨_, rfl, k.int g h⟩
  · exact h.elim
theorem fd_abs : FunD X (fun xs H Q => ∃ i, xs = [.int i] ∧ Q (.int (if i < 0 then -i else i)) H) (bltK .abs) := by
  intro F κ c H ds vs P Q g r h k
  unfold bltK at h; dsimp only at h
  split at h
  · obtain ⟨v, rfl, rv⟩ := one1 r
    simp only [Rep1, RepD] at rv; subst rv
    exact ⟨_, rfl, k.int g h⟩
  · exact h.elim
theorem fd_min : FunD X (fun xs H Q => (∃ i j, xs = [.int i, .int j] ∧ Q (.int (if j < i then j else i)) H) ∨ rMin X.K xs H Q) (bltK .min) := by
  intro F κ c H ds vs P Q g r h k
  unfold bltK at h; dsimp only at h
  split at h
  · obtain ⟨v, v2, rfl, rv, rv2⟩ := one2 r
    simp only [Rep1, RepD] at rv rv2; subst rv; subst rv2
    exact .inl ⟨_, _, rfl, k.int g h⟩
  · obtain ⟨xs, i, q, h1, h2, p⟩ := h
    obtain ⟨v, rfl, rv⟩ := one1 r
    obtain ⟨a, us, rfl, hq, s⟩ := rep_lkR g (H0 := H) (RepX.of_1 rv) h1
    have := repDs_ints h2 s
    subst this
    exact .inr ⟨a, _, rfl, hq, by simp, fun m hm hm2 => by rw [min_is q i m hm hm2]; exact k.int g p⟩
  · exact h.elim
theorem fd_max : FunD X (fun xs H Q => (∃ i j, xs = [.int i, .int j] ∧ Q (.int (if j > i then j else i)) H) ∨ rMax X.K xs H Q) (bltK .max) := by
  intro F κ c H ds vs P Q g r h k
  unfold bltK at h; dsimp only at h
  split at h
  · obtain ⟨v, v2, rfl, rv, rv2⟩ := one2 r
    simp only [Rep1, RepD] at rv rv2; subst rv; subst rv2
    exact .inl ⟨_, _, rfl, k.int g h⟩
  · obtain ⟨xs, i, q, h1, h2, p⟩ := h
    obtain ⟨v, rfl, rv⟩ := one1 r
    obtain ⟨a, us, rfl, hq, s⟩ := rep_lkR g (H0 := H) (RepX.of_1 rv) h1
    have := repDs_ints h2 s
    subst this
    exact .inr ⟨a, _, rfl, hq, by simp, fun m hm hm2 => by rw [max_is q i m hm hm2]; exact k.int g p⟩
  · exact h.elim
theorem fd_sum : FunD X (rSum X.K) (bltK .sum) := by
  intro F κ c H ds vs P Q g r h k
  unfold bltK at h; dsimp only at h
  split at h
  · obtain ⟨xs, q, h1, h2, p⟩ := h
    obtain ⟨v, rfl, rv⟩ := one1 r
    obtain ⟨a, us, rfl, hq, s⟩ := rep_lkR g (H0 := H) (RepX.of_1 rv) h1
    have := repDs_ints h2 s
    subst this
    exact ⟨a, _, rfl, hq, k.int g p⟩
  · exact h.elim
theorem fd_any : FunD X (rAny X.K) (bltK .any) := by
  intro F κ c H ds vs P Q g r h k
  unfold bltK at h; dsimp only at h
  split at h
  · obtain ⟨xs, q, h1, h2, p⟩ := h
    obtain ⟨v, rfl, rv⟩ := one1 r
    obtain ⟨a, us, rfl, hq, s⟩ := rep_lkR g (H0 := H) (RepX.of_1 rv) h1
    have := repDs_bls h2 s
    subst this
    exact ⟨a, _, rfl, hq, k.bl g p⟩
  · exact h.elim
theorem fd_all : FunD X (L2.rAll X.K) (bltK .all) := by
  intro F κ c H ds vs P Q g r h k
  unfold bltK at h; dsimp only at h
  split at h
  · obtain ⟨xs, q, h1, h2, p⟩ := h
    obtain ⟨v, rfl, rv⟩ := one1 r
    obtain ⟨a, us, rfl, hq, s⟩ := rep_lkR g (H0 := H) (RepX.of_1 rv) h1
    have := repDs_bls h2 s
    subst this
    exact ⟨a, _, rfl, hq, k.bl g p⟩
  · exact h.elim
theorem fd_tuple : FunD X (fun xs H Q => ∃ p ys, xs = [.ref p] ∧ ((SqL X.K H p ys ∧ ∀ l, H l = none → Q (.ref l) (upd H l (.tup ys))) ∨ (SqT X.K H p ys ∧ Q (.ref p) H))) (bltK .tuple) := by
  intro F κ c H ds vs P Q g r h k
  unfold bltK at h; dsimp only at h
  split at h
  · obtain ⟨v, rfl, rv⟩ := one1 r
    obtain ⟨a, us, rfl, q, s⟩ := rep_tup g (H0 := H) (RepX.of_1 rv)
    exact ⟨a, us, rfl, .inr ⟨q, k.same g (H0 := H) (RepX.of_1 rv) h⟩⟩
  · obtain ⟨xs, h1, p⟩ := h
    obtain ⟨v, rfl, rv⟩ := one1 r
    obtain ⟨a, us, rfl, hq, s⟩ := rep_lkR g (H0 := H) (RepX.of_1 rv) h1
    exact ⟨a, us, rfl, .inl ⟨hq, k.tup g s p⟩⟩
  · exact h.elim
theorem fd_list : FunD X (fun xs H Q => ∃ p ys, xs = [.ref p] ∧ (SqL X.K H p ys ∨ SqT X.K H p ys) ∧ ∀ l, H l = none → Q (.ref l) (upd H l (.lst ys))) (bltK .list) := by
  intro F κ c H ds vs P Q g r h k
  unfold bltK at h; dsimp only at h
  split at h
  · obtain ⟨xs, h1, p⟩ := h
    obtain ⟨v, rfl, rv⟩ := one1 r
    obtain ⟨a, us, rfl, hq, s⟩ := rep_lkS g (H0 := H) (RepX.of_1 rv) h1
    exact ⟨a, us, rfl, hq, k.own g s p⟩
  · exact h.elim
theorem fd_repr : FunD X (rRepr X.K) (bltK .repr) := by
  intro F κ c H ds vs P Q g r h k
  unfold bltK at h; dsimp only at h
  split at h
  · obtain ⟨q, h1, h2, h3, h4, h5, p⟩ := h
    obtain ⟨v, rfl, rv⟩ := one1 r
    exact ⟨v, q, rfl, rep_py g (H0 := H) (RepX.of_1 rv) h1, h2, h3, h4, h5, k.str g p⟩
  · exact h.elim
theorem se_blt (f : B) (hu : X.A.units + 64 < cLine) (hcalm : X.calm = true) (hgd : X.A.guards = some []) (hg : Gl X (bName f)) (hm : X.mg (bName f) = none) (hst : (e :: es).all noStar = true) (ha : SA X n (e :: es) wl) :
    SE X n (.Call (.Name (bName f) p) (e :: es) [] pos) fun σ c Q => wl σ c fun ds c1 => bltK f ds c1 fun z => Q z c1 := by
  obtain ⟨b1, b2, b3⟩ := b_boot f
  cases f with
  | len => exact se_fun call_len fd_len hg hm b1 b2 b3 hst ha
  | int => exact se_typ call_int1 fd_int hg hm b1 b2 b3 hst ha
  | abs => exact se_fun call_abs fd_abs hg hm b1 b2 b3 hst ha
  | min => exact se_fun (CallR.or (call_min2 hcalm) (cr_min hcalm)) fd_min hg hm b1 b2 b3 hst ha
  | max => exact se_fun (CallR.or (call_max2 hcalm) (cr_max hcalm)) fd_max hg hm b1 b2 b3 hst ha
  | sum => exact se_fun (cr_sum hcalm) fd_sum hg hm b1 b2 b3 hst ha
  | any => exact se_fun (cr_any hcalm) fd_any hg hm b1 b2 b3 hst ha
  | all => exact se_fun (cr_all hcalm) fd_all hg hm b1 b2 b3 hst ha
  | tuple => exact se_typ call_tuple_of fd_tuple hg hm b1 b2 b3 hst ha
  | list => exact se_typ call_list_of fd_list hg hm b1 b2 b3 hst ha
  | repr => exact se_fun (call_reprD hu hgd) fd_repr hg hm b1 b2 b3 hst ha

/-! ### isinstance -/
def tyName : Ty → String
  | .int => "int" | .str => "str" | .tuple => "tuple" | .list => "list"
def tyStr : Ty → Str
  | .int => "int" | .str => "str" | .tuple => "tuple" | .list => "list"
def rIs (K : PySem.W.Frag) : List V → Hp → VK → Prop := fun xs H Q => ∃ x T t b, xs = [x, .ty T] ∧ TyOf K H x t ∧ PySem.W.kitOne K t (.type T) = some b ∧ Q (.bl b) H
theorem call_is : CallR X (.builtin "isinstance") (rIs X.K) := by
  intro pins s σ H xs us Q I r h
  obtain ⟨x, T, t, b, rfl, h1, h2, q⟩ := h
  obtain ⟨u, u2, rfl, ru, ru2⟩ := vals2 r
  obtain rfl : u2 = Value.type T := ru2
  exact isinst_ok I ru h1 h2 fun tk => ⟨.bl b, H, I.tok _, rfl, q⟩
theorem kit_ty {T T' : String} {b : Bool} (h : ∀ K, PySem.W.kitOne K (.type T) (.type T') = some b) : PySem.W.kitOne K (.type T) (.type T') = some b := h K
theorem se_isin {T : Ty} {p2 : Pos} (hg : Gl X "isinstance") (hm : X.mg "isinstance" = none) (hg2 : Gl X (tyStr T)) (hm2 : X.mg (tyStr T) = none) (hst : noStar a = true) (ha : SE X n a wa) :
    SE X n (.Call (.Name "isinstance" p) [a, .Name (tyStr T) p2] [] pos) fun σ c Q => wa σ c fun x c1 => ∃ b, isT T x = some b ∧ Q (.bl b) c1 := by
  have hty : PE X (.Name (tyStr T) p2) (tC (.ty (tyName T))) := by
    cases T <;> exact pe_bltn hg2 hm2 (u := .type _) (by decide +kernel) rfl (by decide +kernel) (by decide +kernel)
  refine (pe_callB call_is hg hm (by decide +kernel) (pa_cons ha (pa_cons hty pa_nil) (star_of hst)) (by decide +kernel) (by decide +kernel) (star_of hst) rfl).imp fun σ H Q ⟨F, κ, c, σa, P, R, hw, hP⟩ => ?_
  refine ⟨F, κ, c, σa, _, R, hw, fun x c1 vx H1 F1 p1 e1 g1 r1 => ?_⟩
  obtain ⟨b, hb, p⟩ := p1
  have fin : Q (.bl b) H1 := hP _ c1 _ H1 F1 p e1 g1 rep_bl
  have go : ∀ t, TyOf X.K H1 vx t → PySem.W.kitOne X.K t (.type (tyName T)) = some b → rIs X.K [vx, .ty (tyName T)] H1 Q := fun t h1 h2 => ⟨vx, _, t, b, rfl, h1, h2, fin⟩
  show rIs X.K [vx, .ty (tyName T)] H1 Q
  cases x with
  | non => rw [inv_non r1] at go ⊢; exact go _ .non (by cases T <;> cases hb <;> rfl)
  | bl z => rw [inv_bl r1] at go ⊢; exact go _ (.bl z) (by cases T <;> cases hb <;> rfl)
  | int z => rw [inv_int r1] at go ⊢; exact go _ (.int z) (by cases T <;> cases hb <;> rfl)
  | str z => rw [inv_str r1] at go ⊢; exact go _ (.str z) (by cases T <;> cases hb <;> rfl)
  | tup xs =>
    simp only [RepX, Rep1, RepD] at r1
    obtain ⟨a, vs, rfl, q, s⟩ := r1
    exact go _ (.tup (g1.sub _ _ q)) (by cases T <;> cases hb <;> rfl)
  | lst xs =>
    simp only [RepX, Rep1, RepD] at r1
    obtain ⟨a, vs, rfl, q, s⟩ := r1
    exact go _ (.lst (g1.sub _ _ q)) (by cases T <;> cases hb <;> rfl)
  | own xs =>
    simp only [RepX] at r1
    obtain ⟨a, vs, rfl, q, s⟩ := r1
    exact go _ (.lst q) (by cases T <;> cases hb <;> rfl)
  | scr xs => cases T <;> cases hb
  | cell m => cases T <;> cases hb
  | fn f => cases T <;> cases hb
  | dI _ _ => cases T <;> cases hb
  | dW _ _ => cases T <;> cases hb
end
end Ev

/-! # Ev6: methods; targets; what is walked; comprehensions -/
namespace Ev
open PySem PySem.Spec PyProof.Rows L2
/-- some.count(y), flat -/
def rCnt (K : PySem.W.Frag) : V → List V → Hp → VK → Prop := fun x xs H Q => ∃ (a : Addr) (ys : List V) (y : V), x = V.ref a ∧ xs = [y] ∧ SqL K H a ys ∧ flatV y = true ∧ ys.all flatV = true ∧ Q (.int ((ys.countP fun z => L2.eqV z y : Nat) : Int)) H
theorem cnt_U {y : V} : ∀ {ys : List V} {us : List Value}, Vals ys us → ys.all flatV = true → us.countP (eqU y) = ys.countP fun z => L2.eqV z y
  | _, _, .nil, _ => rfl
  | z :: ys, u :: us, .cons r t, f => by
    rw [List.all_cons, Bool.and_eq_true] at f
    rw [List.countP_cons, List.countP_cons, cnt_U t f.2, eqU_of r f.1]
theorem mt_cnt {X : Cx} : MtR X "list.count" (rCnt X.K) := by
  rintro pins s σ H x xs v us Q I rx rxs ⟨a, ys, y, rfl, rfl, isL, fy, fys, fin⟩
  cases rx
  match us, rxs with
  | [uy], .cons ry .nil =>
    obtain ⟨its, rv, ⟨⟨cls, dd, data, sl⟩, m, got, hc, _, hd⟩, _⟩ := I.list isL
    simp only at hc hd
    subst hc hd
    refine call_meets PySem.F.slot_list_count ⟨_, got, rfl⟩ PySem.F.entry_list_count (PySem.F.args_list_count_2 _ _) (SeqAt.list_countAt a its.toArray m dd sl uy (eqU y)) ⟨got, fun u hu => mem_eqAt ry fy rv fys u (by simpa using hu), ?_⟩
    rw [show its.toArray.toList = its from rfl, cnt_U rv fys]
    exact ⟨.int _, H, I.tok _, ⟨_, rfl⟩, fin⟩
section
variable {X : Cx} {n : En} {a b e : Expr} {es : List Expr} {wa wb w : WE} {pos p : Pos} {wl : WL} {x : Str}
variable {K : PySem.W.Frag} {mg : Str → Option Value} {F F' H0 H H' : Hp} {κ : List Addr} {c : Cells} {d : D} {v : V}
theorem cell_write {i : Nat} {a : Addr} {ob : Ob} {xs : List D} {vs : List V} (g : GOk K mg F κ c H) (hk : κ[i]? = some a) (hc : c[i]? = some ob) (r : RepDs K mg F xs vs) :
    Ext κ H F (upd H a (.lst vs)) F ∧ GOk K mg F κ (c.set i (.lst xs)) (upd H a (.lst vs)) := by
  have hm : a ∈ κ := List.mem_of_getElem? hk
  have hs : H a ≠ none := g.some_ hm
  have hf : F a = none := (g.cell i a ob hk hc).1
  refine ⟨⟨fun b o e hb => ?_, fun _ _ e => e, fun _ _ _ _ e => e, fun b e => ?_⟩, ⟨fun b o e => ?_, g.nd, by rw [List.length_set]; exact g.len, fun j b ob' h1 h2 => ?_⟩⟩
  · rw [upd_ne (fun z => hb (by rw [z]; exact hm))]; exact e
  · by_cases z : b = a
    · rw [z, upd_same] at e; cases e
    · rw [upd_ne z] at e; exact e
  · have : b ≠ a := fun z => by rw [z, hf] at e; cases e
    rw [upd_ne this]; exact g.sub b o e
  · by_cases z : j = i
    · subst z
      rw [hk] at h1; cases h1
      have hl : j < c.length := (List.getElem?_eq_some_iff.mp hc).1
      rw [List.getElem?_set_self hl] at h2
      cases h2
      exact ⟨hf, vs, upd_same, r⟩
    · rw [List.getElem?_set_ne (Ne.symm z)] at h2
      have : b ≠ a := fun q => by
        subst q
        obtain ⟨hi, e1⟩ := List.getElem?_eq_some_iff.mp hk
        obtain ⟨hj, e2⟩ := List.getElem?_eq_some_iff.mp h1
        exact z ((List.getElem_inj g.nd).mp (e2.trans e1.symm))
      rw [upd_ne this]
      exact g.cell j b ob' h1 h2
def mId : M → String
  | .append => "list.append" | .extend => "list.extend" | .pop => "list.pop" | .reverse => "list.reverse" | .index => "list.index" | .count => "list.count"
def mName : M → Str
  | .append => "append" | .extend => "extend" | .pop => "pop" | .reverse => "reverse" | .index => "index" | .count => "count"
def rMeth (K : PySem.W.Frag) : M → V → List V → Hp → VK → Prop
  | .append => rAppend | .extend => rExtend | .pop => rPop | .reverse => rReverse | .index => rIndex K | .count => rCnt K
theorem mt_all : ∀ m, MtR X (mId m) (rMeth X.K m)
  | .append => mt_append
  | .extend => mt_extend
  | .pop => mt_pop
  | .reverse => mt_reverse
  | .index => mt_index
  | .count => mt_cnt
theorem mt_facts : ∀ m, Slot "list" (mName m) (mId m) ∧ typeOf (.builtin (mId m)) = pure (.type "method_descriptor")
  | .append => ⟨PySem.F.slot_list_append, PySem.F.type_list_append⟩
  | .extend => ⟨PySem.F.slot_list_extend, PySem.F.type_list_extend⟩
  | .pop => ⟨PySem.F.slot_list_pop, PySem.F.type_list_pop⟩
  | .reverse => ⟨PySem.F.slot_list_reverse, PySem.F.type_list_reverse⟩
  | .index => ⟨PySem.F.slot_list_index, PySem.F.type_list_index⟩
  | .count => ⟨PySem.F.slot_list_count, PySem.F.type_list_count⟩
/-- the methods over data -/
theorem md_all (m : M) {F : Hp} {κ : List Addr} {c : Cells} {H0 H : Hp} {o : D} {ds : List D} {vo : V} {vs : List V} {P : D → Cells → Prop} {Q : VK} (g : GOk X.K X.mg F κ c H) (ro : RepX X.K X.mg F κ H0 H o vo) (r : Rep1s X.K X.mg F κ ds vs)
    (h : methK m o ds c P) (k : ∀ d c' v H' F', P d c' → Ext κ H F H' F' → GOk X.K X.mg F' κ c' H' → RepX X.K X.mg F' κ H H' d v → Q v H') : rMeth X.K m vo vs H Q := by
  have cel : ∀ {i : Nat} {xs : List D}, o = .cell i → c[i]? = some (.lst xs) → ∃ a us, vo = .ref a ∧ κ[i]? = some a ∧ H a = some (.lst us) ∧ RepDs X.K X.mg F xs us := fun {i xs} e hc => by
    subst e
    simp only [RepX, Rep1] at ro
    obtain ⟨a, rfl, hk⟩ := ro
    obtain ⟨_, us, q, s⟩ := g.cell i a _ hk hc
    exact ⟨a, us, rfl, hk, q, s⟩
  cases m <;> simp only [methK] at h
  · obtain ⟨i, xs, d, ho, hc, rfl, hl, hd, p⟩ := h
    obtain ⟨a, us, rfl, hk, q, s⟩ := cel ho hc
    obtain ⟨v, rfl, rv⟩ := one1 r
    obtain ⟨e1, g1⟩ := cell_write g hk hc (s.append (.cons (rv.toD hd) .nil))
    exact ⟨a, us, v, rfl, rfl, q, by rw [← s.length]; exact hl, k _ _ _ _ _ p e1 g1 rep_non⟩
  · obtain ⟨i, xs, d, ys, ho, hc, rfl, hl, hz, p⟩ := h
    obtain ⟨a, us, rfl, hk, q, s⟩ := cel ho hc
    obtain ⟨v, rfl, rv⟩ := one1 r
    obtain ⟨b, ws, rfl, q2, s2⟩ := rep_lkL g (H0 := H) (RepX.of_1 rv) hl
    obtain ⟨e1, g1⟩ := cell_write g hk hc (s.append s2)
    exact ⟨a, b, us, ws, rfl, rfl, q, q2, by rw [← s.length, ← s2.length]; exact hz, k _ _ _ _ _ p e1 g1 rep_non⟩
  · obtain ⟨i, xs, y, ho, hc, rfl, hy, p⟩ := h
    obtain ⟨a, us, rfl, hk, q, s⟩ := cel ho hc
    simp only [Rep1s] at r; subst r
    obtain ⟨v, hv, rv⟩ := s.get hy
    obtain ⟨e1, g1⟩ := cell_write g hk hc s.dropLast
    exact ⟨a, us, v, rfl, rfl, q, by rw [← s.length]; exact hv, k _ _ _ _ _ p e1 g1 (.ofD rv)⟩
  · obtain ⟨i, xs, ho, hc, rfl, p⟩ := h
    obtain ⟨a, us, rfl, hk, q, s⟩ := cel ho hc
    simp only [Rep1s] at r; subst r
    obtain ⟨e1, g1⟩ := cell_write g hk hc s.reverse
    exact ⟨a, us, rfl, rfl, q, k _ _ _ _ _ p e1 g1 rep_non⟩
  · obtain ⟨xs, y, j, z, hx, rfl, f1, f2, hz, he, hn, p⟩ := h
    obtain ⟨a, us, rfl, q, s⟩ := rep_lkR g ro hx
    obtain ⟨v, rfl, rv⟩ := one1 r
    obtain ⟨e1, e2⟩ := flat_all s f2
    obtain ⟨e3, e4⟩ := flat_one (H0 := H) (H := H) (RepX.of_1 rv) f1
    subst e1; subst e3
    refine ⟨a, _, _, j, toV z, rfl, rfl, q, e4, e2, by rw [List.getElem?_map, hz]; rfl, he, fun m z' hm hz' => ?_, k _ _ _ _ _ p .refl g rep_int⟩
    rw [List.getElem?_map] at hz'
    cases hq : xs[m]? with
    | none => rw [hq] at hz'; cases hz'
    | some z2 => rw [hq] at hz'; cases hz'; exact hn m z2 hm hq
  · obtain ⟨xs, y, hx, rfl, f1, f2, p⟩ := h
    obtain ⟨a, us, rfl, q, s⟩ := rep_lkR g ro hx
    obtain ⟨v, rfl, rv⟩ := one1 r
    obtain ⟨e1, e2⟩ := flat_all s f2
    obtain ⟨e3, e4⟩ := flat_one (H0 := H) (H := H) (RepX.of_1 rv) f1
    subst e1; subst e3
    refine ⟨a, _, _, rfl, rfl, q, e4, e2, ?_⟩
    rw [List.countP_map]
    exact k _ _ _ _ _ p .refl g rep_int
theorem ty_list {K : PySem.W.Frag} {mg : Str → Option Value} {F H0 H : Hp} {κ : List Addr} {c : Cells} {d : D} {v : V} (g : GOk K mg F κ c H) (r : RepX K mg F κ H0 H d v) (h : (lkR c d).isSome = true) : tyV K "list" v H := by
  obtain ⟨xs, hx⟩ := Option.isSome_iff_exists.mp h
  obtain ⟨a, vs, rfl, q, s⟩ := rep_lkR g r hx
  exact .inl ⟨rfl, vs, q⟩
theorem se_meth0 (m : M) {y : Str} {py apos : Pos} (ho : SE X n (.Name y py) wa) (hline : (apos.endLine == pos.line) = true) :
    SE X n (.Call (.Attribute (.Name y py) (mName m) apos) [] [] pos) fun σ c Q => wa σ c fun x c1 => (lkR c1 x).isSome = true ∧ methK m x [] c1 Q := by
  refine (pe_bm0 PySem.F.plainAttrs_list (mt_facts m).1 (mt_facts m).2 (mt_all m) ho rfl hline).imp fun σ H Q ⟨F, κ, c, σa, P, R, hw, hP⟩ => ?_
  refine ⟨F, κ, c, σa, _, R, hw, fun x c1 vx H1 F1 ⟨pl, p1⟩ e1 g1 r1 => ⟨ty_list g1 r1 pl, ?_⟩⟩
  exact md_all m g1 r1 (ds := []) rfl p1 fun d c' v H' F' p e g r => hP d c' v H' F' p (e1.trans e) g (r.start e1.dom)
theorem se_meth1 (m : M) {y : Str} {py apos : Pos} (ho : SE X n (.Name y py) wa) (hline : (apos.endLine == pos.line) = true) (hst : noStar e = true) (ha : SA X n [e] wl) :
    SE X n (.Call (.Attribute (.Name y py) (mName m) apos) [e] [] pos) fun σ c Q => wa σ c fun x c1 => (lkR c1 x).isSome = true ∧ wl σ c1 fun ds c2 => methK m x ds c2 Q := by
  refine (pe_bm PySem.F.plainAttrs_list (mt_facts m).1 (mt_facts m).2 (mt_all m) ho ha rfl (by rw [star_of hst]; rfl) hline (star_of hst) rfl).imp fun σ H Q ⟨F, κ, c, σa, P, R, hw, hP⟩ => ?_
  refine ⟨F, κ, c, σa, _, R, hw, fun x c1 vx H1 F1 ⟨pl, p1⟩ e1 g1 r1 => ⟨ty_list g1 r1 pl, ?_⟩⟩
  refine ⟨F1, κ, c1, σa, _, R.step e1 g1, p1, fun ds c2 vs H2 F2 p2 e2 g2 r2 => ?_⟩
  exact md_all m g2 (r1.step e2) r2 p2 fun d c' v H' F' p e g r => hP d c' v H' F' p ((e1.trans e2).trans e) g (r.start fun a z => e1.dom a (e2.dom a z))
end
end Ev

/-! # Ev7: targets; what is walked; comprehensions -/
namespace Ev
open PySem PySem.Spec PyProof.Rows L2
section
variable {X : Cx} {n : En} {a b e : Expr} {es : List Expr} {wa wb w : WE} {pos p : Pos} {wl : WL} {x : Str}
variable {K : PySem.W.Frag} {mg : Str → Option Value} {F F' H0 H H' : Hp} {κ κ' : List Addr} {c : Cells} {d : D} {v : V} {σa : Sl} {σ : L2.St}

/-! ### targets -/
/-- one turn of a for over data leaves the other slots -/
theorem wipe_set {σ : L2.St} {i : Nat} {v : Option V} : ∀ {vs : List Nat}, i ∈ vs → wipe (σ.set i v) vs = wipe σ vs
  | [], h => by cases h
  | j :: vs, h => by
    show (wipe (σ.set i v) vs).set j none = (wipe σ vs).set j none
    by_cases q : i ∈ vs
    · rw [wipe_set q]
    · rcases List.mem_cons.mp h with z | z
      · subst z
        have : ∀ vs : List Nat, i ∉ vs → ∀ σ : L2.St, wipe (σ.set i v) vs = (wipe σ vs).set i v := by
          intro vs
          induction vs with
          | nil => intro _ _; rfl
          | cons k vs ih =>
            intro hn σ
            show (wipe (σ.set i v) vs).set k none = ((wipe σ vs).set k none).set i v
            rw [ih (fun z => hn (List.mem_cons_of_mem _ z)), List.set_comm]
            intro z; exact hn (by rw [z]; exact List.mem_cons_self)
        rw [this vs q, List.set_set]
      · exact absurd z q
def tgIn (own : List Nat) : Tg → Bool
  | .nm i => own.contains i
  | .tp is => is.all fun i => own.contains i
def tTg (X : Cx) (n : En) (t : Tg) : TG := fun v σ H Q => ∃ F κ c σa d P, Rel X.K X.mg n F κ c H σa σ ∧ Rep1 X.K X.mg F κ d v ∧ asgT t d σa c P ∧
  ∀ σa' σ', Rel X.K X.mg n F κ c H σa' σ' → P σa' → (∀ vs, tgIn vs t = true → wipe σ' vs = wipe σ vs) → Q σ' H
def STg (X : Cx) (n : En) (e : Expr) (t : Tg) : Prop := PG X e (tTg X n t)
theorem SRep.set {i : Nat} (S : SRep K mg F κ σa σ) (r : Rep1 K mg F κ d v) : SRep K mg F κ (σa.set i (some d)) (σ.set i (some v)) := by
  refine ⟨by rw [List.length_set, List.length_set]; exact S.len, fun j d' e => ?_⟩
  by_cases z : j = i
  · subst z
    have hj : j < σa.length := by
      have := (List.getElem?_eq_some_iff.mp e).1
      rwa [List.length_set] at this
    rw [List.getElem?_set_self hj] at e
    cases e
    exact ⟨v, by rw [List.getElem?_set_self (S.len ▸ hj)], r⟩
  · rw [List.getElem?_set_ne (Ne.symm z)] at e
    obtain ⟨u, h1, h2⟩ := S.at_ j d' e
    exact ⟨u, by rw [List.getElem?_set_ne (Ne.symm z)]; exact h1, h2⟩
theorem Rel.set {i : Nat} {n : En} (R : Rel K mg n F κ c H σa σ) (r : Rep1 K mg F κ d v) : Rel K mg n F κ c H (σa.set i (some d)) (σ.set i (some v)) :=
  ⟨R.g, R.sl.set r, R.ext, R.pre, R.new⟩
theorem asg_nm {i : Nat} {P : Sl → Prop} {σ : Sl} (h : asgT (.nm i) d σ c P) (hd : ∀ xs, d ≠ .own xs) : P (σ.set i (some d)) := by
  cases d <;> first | exact h | exact absurd rfl (hd _)
theorem Rep1.noOwn (h : Rep1 K mg F κ d v) : ∀ xs, d ≠ .own xs := fun xs z => by subst z; simp only [Rep1, RepD] at h
theorem stg_nm {i : Nat} (hN : X.N.Nodup) (hi : X.N[i]? = some x) (hx : Loc X.env.scope x) (hf : X.fn x = true ∨ X.env.scope.names.lookup x = some .local) : STg X n (.Name x pos) (.nm i) :=
  ⟨fun pins s σ H v u Q I r ⟨F, κ, c, σa, d, P, R, rd, h, k⟩ => (pg_name hN hi hx hf).run pins s σ H v u Q I r (k _ _ (R.set rd) (asg_nm h rd.noOwn) fun vs hv => wipe_set (by simpa [tgIn] using hv))⟩
/-- names in a row -/
inductive Nms (X : Cx) : List Expr → List Nat → Prop
  | nil : Nms X [] []
  | cons {x : Str} {pos : Pos} {i : Nat} {es : List Expr} {is : List Nat} : X.N[i]? = some x → Loc X.env.scope x → (X.fn x = true ∨ X.env.scope.names.lookup x = some .local) → Nms X es is → Nms X (.Name x pos :: es) (i :: is)
def gNms : List Nat → TGs
  | [] => gNil
  | i :: is => gCons (gName i) (gNms is)
theorem nms_pgs (hN : X.N.Nodup) : ∀ {es : List Expr} {is : List Nat}, Nms X es is → PGs X es (gNms is)
  | _, _, .nil => pgs_nil
  | _, _, .cons h1 h2 h3 r => pgs_cons (pg_name hN h1 h2 h3) (nms_pgs hN r)
theorem nms_len : ∀ {es : List Expr} {is : List Nat}, Nms X es is → (assignEach es X.env).length = is.length
  | _, _, .nil => rfl
  | _, _, .cons h1 h2 h3 r => by
    show (assignEach _ X.env).length + 1 = _
    rw [nms_len r]; rfl
theorem nms_idx : ∀ {es : List Expr} {is : List Nat}, Nms X es is → (assignEach es X.env).findIdx? (·.1) = none
  | _, _, .nil => rfl
  | _, _, .cons h1 h2 h3 r => by
    have := nms_idx r
    rw [List.findIdx?_eq_none_iff] at this ⊢
    intro z hz
    rcases List.mem_cons.mp hz with q | q
    · subst q; rfl
    · exact this z q
theorem gNms_run {n : En} : ∀ {is : List Nat} {ds : List D} {vs : List V} {σa : Sl} {σ : L2.St} {P : Sl → Prop} {Q : L2.St → Hp → Prop}, RepDs K mg F ds vs → ds.length = is.length → Rel K mg n F κ c H σa σ →
    P ((is.zip ds).foldl (fun σ p => σ.set p.1 (some p.2)) σa) → (∀ σa' σ', Rel K mg n F κ c H σa' σ' → P σa' → (∀ ws, (is.all fun i => ws.contains i) = true → wipe σ' ws = wipe σ ws) → Q σ' H) → gNms is vs σ H Q
  | [], ds, vs, σa, σ, P, Q, r, hl, R, p, k => by
    have : ds = [] := List.length_eq_zero_iff.mp hl
    subst this
    simp only [RepDs] at r; subst r
    exact ⟨rfl, k _ _ R p fun _ _ => rfl⟩
  | i :: is, [], vs, σa, σ, P, Q, r, hl, R, p, k => by cases hl
  | i :: is, d :: ds, vs, σa, σ, P, Q, r, hl, R, p, k => by
    obtain ⟨v, us, rfl, rv, rr⟩ := r.inv
    refine ⟨v, us, rfl, gNms_run rr (by simpa using hl) (R.set (.ofD rv)) p fun σa' σ' R' p' hw => k σa' σ' R' p' fun ws hs => ?_⟩
    simp only [List.all_cons, Bool.and_eq_true] at hs
    rw [hw ws hs.2]
    exact wipe_set (by simpa using hs.1)
theorem stg_tp {es : List Expr} {is : List Nat} {k : Nat} (hc : X.calm = true) (hN : X.N.Nodup) (h : Nms X es is) : STg X n (.Tuple es k pos) (.tp is) := by
  refine ⟨fun pins s σ H v u Q I r ⟨F, κ, c, σa, d, P, R, rd, ⟨xs, hx, hl, p⟩, kk⟩ => ?_⟩
  obtain ⟨a, vs, rfl, q, s2⟩ := rep_lkS R.g (H0 := H) (RepX.of_1 rd) hx
  rcases q with q | q
  · exact (pg_lst hc (nms_pgs hN h) (nms_len h) (nms_idx h)).run pins s σ H _ u Q I r ⟨a, vs, rfl, q, by rw [← s2.length]; exact hl, gNms_run s2 hl R p fun σa' σ' R' p' hw => kk σa' σ' R' p' hw⟩
  · exact (pg_tup hc (nms_pgs hN h) (nms_len h) (nms_idx h)).run pins s σ H _ u Q I r ⟨a, vs, rfl, q, by rw [← s2.length]; exact hl, gNms_run s2 hl R p fun σa' σ' R' p' hw => kk σa' σ' R' p' hw⟩

/-! ### what is walked -/
def KExt (κ1 κ : List Addr) : Prop := ∀ (m : Nat) (a : Addr), κ1[m]? = some a → κ[m]? = some a
theorem Rep1.kext (k : KExt κ κ') (h : Rep1 K mg F κ d v) : Rep1 K mg F κ' d v := by
  cases d <;> simp only [Rep1] at h ⊢ <;> first | exact h | (obtain ⟨a, e, q⟩ := h; exact ⟨a, e, k _ _ q⟩)
/-- J walks the items xs while ok stands -/
def ItOk (K : PySem.W.Frag) (mg : Str → Option Value) (F1 : Hp) (κ1 : List Addr) (J : L2.It) (xs : List D) (ok : Cells → Prop) : Prop :=
  ∀ (F : Hp) (κ : List Addr) (c : Cells) (H : Hp), Sub F1 F → KExt κ1 κ → GOk K mg F κ c H → ok c → ∀ i,
    (xs.length ≤ i → J.stop i H) ∧ (i < xs.length → J.go i H ∧ ∀ x H', J.yld i H x H' → ∃ d F', xs[i]? = some d ∧ Ext κ H F H' F' ∧ GOk K mg F' κ c H' ∧ RepD K mg F' d x)
def tIt (X : Cx) (n : En) (w : WIt) : TI := fun σ H R => ∃ F κ c σa P, Rel X.K X.mg n F κ c H σa σ ∧ w σa c P ∧
  ∀ xs ok c' J H' F', P xs ok c' → Ext κ H F H' F' → GOk X.K X.mg F' κ c' H' → ItOk X.K X.mg F' κ J xs ok → R J H'
def SI (X : Cx) (n : En) (tg it : Expr) (w : WIt) : Prop := PI X tg it (tIt X n w)
theorem _root_.L2.PI.imp {X : Cx} {tg it : Expr} {t t' : TI} (h : PI X tg it t) (i : ∀ σ H R, t' σ H R → t σ H R) : PI X tg it t' :=
  ⟨fun pins s σ H R I q => h.run pins s σ H R I (i σ H R q)⟩
theorem it_list {xs : List D} {a : Addr} (h : ∀ (F' : Hp) (κ' : List Addr) (c : Cells) (H : Hp), Sub F F' → KExt κ κ' → GOk K mg F' κ' c H → lkR c d = some xs → ∃ vs, SqL K H a vs ∧ RepDs K mg F' xs vs)
    : ItOk K mg F κ (Itl K a) xs (fun c => lkR c d = some xs) := by
  intro F' κ' c H s k g ok i
  obtain ⟨vs, q, r⟩ := h F' κ' c H s k g ok
  have hl := r.length
  refine ⟨fun hi => ⟨vs, q, by omega⟩, fun hi => ⟨?_, fun x H' ⟨e, hy⟩ => ?_⟩⟩
  · have : i < vs.length := by omega
    exact ⟨vs, vs[i], q, List.getElem?_eq_getElem this⟩
  · subst e
    obtain ⟨d, h1, h2⟩ := r.get' (hy vs q)
    exact ⟨d, F', h1, .refl, g, h2⟩
/-- any list, tuple or text -/
def iSeq (K : PySem.W.Frag) (te : TE) : TI := fun σ H R => te σ H fun x H1 =>
  (∃ a xs, x = .ref a ∧ SqL K H1 a xs ∧ R (Itl K a) H1) ∨ (∃ a xs, x = .ref a ∧ SqT K H1 a xs ∧ R (Itt K a) H1) ∨ (∃ z, x = .str z ∧ R (Its z) H1)
theorem pi_seq {tg : Expr} {te : TE} (he : PE X e te) : PI X tg e (iSeq X.K te) := by
  refine ⟨fun pins s σ H R I h => ?_⟩
  refine thn (he.run pins s σ H _ I h) fun u s1 ⟨y, J1, I1, ry, alt⟩ => ?_
  have fresh : ∀ b ∈ [s1.heap.objs.size], FpOk X pins J1 b := fun b hb => by
    obtain rfl : b = s1.heap.objs.size := by simpa using hb
    exact I1.fpOk (Nat.le_refl _) (I1.hok.fresh (Nat.le_refl _))
  rcases alt with ⟨a, xs, rfl, q, k⟩ | ⟨a, xs, rfl, q, k⟩ | ⟨z, rfl, k⟩
  · obtain rfl : u = Value.ref a := ry
    obtain ⟨its, _, pl, _⟩ := I1.list q
    exact wpAny_pyIter_list pl.isList ⟨_, _, _, _, J1, rfl, I1.kept (t' := s1.toks) fun _ _ z => Heap.get?_push_of_some _ z, turn_list a _, ⟨_, Heap.get?_push_size _ rfl, rfl, rfl⟩, fresh, k⟩
  · obtain rfl : u = Value.ref a := ry
    obtain ⟨its, _, pl, _⟩ := I1.tuple q
    exact wpAny_pyIter_tuple (show s1.heap.IsTuple a its.toArray from pl) ⟨_, _, _, _, J1, rfl, I1.kept (t' := s1.toks) fun _ _ z => Heap.get?_push_of_some _ z, turn_tuple a _, ⟨_, Heap.get?_push_size _ rfl, rfl, rfl⟩, fresh, k⟩
  · obtain ⟨t, rfl⟩ := (show ∃ t, u = Value.str z t from ry)
    cases ha : z.cps.all (· < 128) with
    | false => exact wpAny_pyIter_wide ha (pi_one (tk := s1.toks) I1 _ (turn_str _ z t "str_iterator" (.inr rfl)) ⟨_, Heap.get?_push_size _ rfl, rfl, rfl⟩ k)
    | true => exact wpAny_pyIter_ascii ha (pi_one (tk := s1.toks) I1 _ (turn_str _ z t "str_ascii_iterator" (.inl rfl)) ⟨_, Heap.get?_push_size _ rfl, rfl, rfl⟩ k)
theorem lst_inj {xs ys : List V} {a : Addr} {F H : Hp} (s : Sub F H) (h : F a = some (.lst xs)) (k : H a = some (.lst ys)) : xs = ys := by
  rw [s _ _ h] at k; cases k; rfl
theorem it_tup {xs : List D} {vs : List V} {a : Addr} (h : F a = some (.tup vs)) (r : RepDs K mg F xs vs) : ItOk K mg F κ (Itt K a) xs (fun _ => True) := by
  intro F' κ' c H s k g ok i
  have q : SqT K H a vs := .of (g.sub _ _ (s _ _ h))
  have hl := r.length
  refine ⟨fun hi => ⟨vs, q, by omega⟩, fun hi => ⟨?_, fun x H' ⟨e, hy⟩ => ?_⟩⟩
  · have : i < vs.length := by omega
    exact ⟨vs, vs[i], q, List.getElem?_eq_getElem this⟩
  · subst e
    obtain ⟨d, h1, h2⟩ := (r.mono s).get' (hy vs q)
    exact ⟨d, F', h1, .refl, g, h2⟩
theorem it_str {z : Str} : ItOk K mg F κ (Its z) (z.cps.toList.map fun g => D.str ⟨#[g]⟩) (fun _ => True) := by
  intro F' κ' c H s k g ok i
  have hl : (z.cps.toList.map fun g => D.str ⟨#[g]⟩).length = z.cps.size := by simp
  rw [hl]
  refine ⟨fun hi => hi, fun hi => ⟨hi, fun x H' ⟨e, cp, hc, hx⟩ => ?_⟩⟩
  subst e; subst hx
  refine ⟨.str ⟨#[cp]⟩, F', ?_, .refl, g, by simp only [RepD]⟩
  rw [List.getElem?_map]
  have : z.cps.toList[i]? = some cp := by simpa using hc
  rw [this]; rfl
theorem it_rng {lo : Int} {m : Nat} : ItOk K mg F κ (Itr lo m) ((List.range m).map fun i => D.int (lo + (i : Nat))) (fun _ => True) := by
  intro F' κ' c H s k g ok i
  have hl : ((List.range m).map fun i => D.int (lo + (i : Nat))).length = m := by simp
  rw [hl]
  refine ⟨fun hi => hi, fun hi => ⟨hi, fun x H' ⟨e, hx⟩ => ?_⟩⟩
  subst e; subst hx
  refine ⟨.int (lo + i), F', ?_, .refl, g, by simp only [RepD]⟩
  simp [List.getElem?_map, List.getElem?_range hi]
theorem it_stp {lo st : Int} {m : Nat} : ItOk K mg F κ (Itc lo st m) (stepL lo st m) (fun _ => True) := by
  intro F' κ' c H s k g ok i
  have hl : (stepL lo st m).length = m := by simp [stepL]
  rw [hl]
  refine ⟨fun hi => hi, fun hi => ⟨hi, fun x H' ⟨e, hx⟩ => ?_⟩⟩
  subst e; subst hx
  refine ⟨.int _, F', ?_, .refl, g, by simp only [RepD]; rfl⟩
  simp [stepL, List.getElem?_map, List.getElem?_range hi]
/-- the value walked, kept -/
theorem it_walk {P : List D → (Cells → Prop) → Cells → Prop} {R : L2.It → Hp → Prop} {F2 : Hp} (g : GOk X.K X.mg F2 κ c H) (r : Rep1 X.K X.mg F2 κ d.fz v) (h : walkK d c P)
    (k : ∀ xs ok J, P xs ok c → ItOk X.K X.mg F2 κ J xs ok → R J H) :
    (∃ a xs, v = .ref a ∧ SqL X.K H a xs ∧ R (Itl X.K a) H) ∨ (∃ a xs, v = .ref a ∧ SqT X.K H a xs ∧ R (Itt X.K a) H) ∨ (∃ z, v = .str z ∧ R (Its z) H) := by
  have key : (∃ xs, lkR c d = some xs ∧ P xs (fun c' => lkR c' d = some xs) c) → ∃ a xs, v = .ref a ∧ SqL X.K H a xs ∧ R (Itl X.K a) H := fun ⟨xs, hx, p⟩ => by
    have hfz : ∀ c', lkR c' d.fz = lkR c' d := fun c' => by cases d <;> rfl
    obtain ⟨a, vs, rfl, q, s⟩ := rep_lkR g (H0 := H) (RepX.of_1 r) ((hfz c).trans hx)
    refine ⟨a, vs, rfl, q, k xs _ _ p (it_list fun F' κ' c' H' s' k' g' hok => ?_)⟩
    obtain ⟨a', us, e, q', s2⟩ := rep_lkR g' (H0 := H') (RepX.of_1 ((r.mono s').kext k')) ((hfz c').trans hok)
    cases e
    exact ⟨us, q', s2⟩
  cases d with
  | str z =>
    simp only [D.fz, Rep1, RepD] at r
    subst r
    exact .inr (.inr ⟨z, rfl, k _ _ _ h it_str⟩)
  | tup xs =>
    simp only [D.fz, Rep1, RepD] at r
    obtain ⟨a, vs, rfl, q, s⟩ := r
    exact .inr (.inl ⟨a, vs, rfl, .of (g.sub _ _ q), k _ _ _ h (it_tup q s)⟩)
  | _ => exact .inl (key h)
end
end Ev

/-! # Ev7b: enumerate over a tuple -/
namespace PySem
open Builtin
set_option maxHeartbeats 4000000 in
theorem ev_enum_new {v : Value} {o : Obj} {H : Heap → Prop} (B : Begins v o H) :
    Meets (Builtin.«enumerate.__new__» ⟨[.type "enumerate", v], []⟩) (fun _ R s => H s.heap ∧
      R (.ok (.ret (.ref (s.heap.push o).objs.size))) { s with heap := (s.heap.push o).push { cls := .type "enumerate", data := .fields #[.none, .bool false, .ref s.heap.objs.size, rawInt 0, .none, .none] } }) :=
  .of_wp fun P0 w0 A0 R0 s0 hh => by
    obtain ⟨hp0, g0, d0, t0, os0⟩ := s0
    obtain ⟨hH, hR⟩ := hh
    have hsub := sub_enumerate
    have go : ∀ {A' : Around} {E' : Value → Shared → Prop} {Q' : Value → Shared → Prop}, Q' (.ref hp0.objs.size) ⟨hp0.push o, g0, d0, t0, os0⟩ → wpAny (model P0 w0) A' (pyIter v) Q' E' ⟨hp0, g0, d0, t0, os0⟩ :=
      fun z => B.iter P0 w0 _ _ ⟨hp0, g0, d0, t0, os0⟩ _ hH z
    wp_walk
    refine wpAny_stack_any fun stk => wpAny_pure ?_
    split
    · rename_i c1 _ _ _ _ _
      cases (c1 == Value.type "enumerate") <;> (wp_walk using go; exact ⟨_, rfl, hR⟩)
    · wp_walk using go
      exact ⟨_, rfl, hR⟩
section
variable {prog : Program} {w : World} {A : Around} {E : Value → Shared → Prop} {s : Shared}
theorem ev_call_enum {v : Value} {o : Obj} {H : Heap → Prop} {Q : Value → Shared → Prop} (B : Begins v o H) (h1 : H s.heap)
    (h : ∀ h', IsEnum h' (s.heap.objs.size + 1) s.heap.objs.size 0 .none → h'.get? s.heap.objs.size = some o → (∀ b u, s.heap.get? b = some u → h'.get? b = some u) → Q (.ref (s.heap.objs.size + 1)) { s with heap := h' }) :
    wpAny (model prog w) A (call (.type "enumerate") [v]) Q E s := by
  refine callType_new F.called_enumerate (by decide) (F.typeCall_enumerate_1 _) (F.newCall_enumerate_1 _) (fun ob => F.args_object_init_2 ob _) F.entry_enumerate_new (ev_enum_new B) ⟨h1, ?_⟩
  have z : (s.heap.push o).objs.size = s.heap.objs.size + 1 := Heap.size_push ..
  have he : IsEnum ((s.heap.push o).push { cls := .type "enumerate", data := .fields #[.none, .bool false, .ref s.heap.objs.size, rawInt 0, .none, .none] }) (s.heap.objs.size + 1) s.heap.objs.size 0 .none := by
    have q := Heap.get?_push_size (s.heap.push o) (o := { cls := .type "enumerate", data := .fields #[.none, .bool false, .ref s.heap.objs.size, rawInt 0, .none, .none] }) rfl
    rw [z] at q; exact q
  show _ ∧ _
  rw [z]
  exact ⟨⟨_, he, rfl⟩, h _ he (Heap.get?_push_of_some _ (Heap.get?_push_size _ B.free)) fun b u q => Heap.get?_push_of_some _ (Heap.get?_push_of_some _ q)⟩
/-- the end of such a walk -/
theorem ev_enum_end {e it t : Addr} {i : Nat} {items : Array Value} {old : Value} {Q : Option Value → Shared → Prop} (hh : A.handled = none)
    (q1 : IsEnum s.heap e it i old) (q2 : s.heap.IsTupleIter it t i) (q3 : s.heap.IsTuple t items) (q4 : items[i]? = none)
    (k : ∀ h', Heap.ExtBut it s.heap h' → Q none { s with heap := h' }) : wpAny (model prog w) A (pyNext (.ref e)) Q E s := by
  have ty : s.TypeIs (.ref e) "enumerate" := ⟨_, q1, rfl⟩
  unfold pyNext
  refine wpAny_bind (wpAny_attempt (wpAny_callSpecial?_slot (name := Str.ofString "__next__") ty F.slot_enumerate_next (wpAny_call_entry F.slot_enumerate_next ty F.entry_enumerate_next ?_ (F.args_enumerate_next_1 _))))
  show wpAny _ _ (field (.ref e) 2 >>= _) _ _ _
  refine wpAny_bind (wpAny_field q1 rfl (x := .ref it) rfl (wpAny_bind (wpAny_nextOf_tuple_end hh q2 q3 q4 fun h1 x1 b1 b2 => ?_)))
  obtain ⟨ob, c1, c2⟩ := b2
  exact wpAny_bind (wpAny_isInstance (T := "StopIteration") (b := true) ⟨ob, c1, c2⟩ isSubtype_stop (wpAny_pure (k _ b1)))
end
end PySem
namespace Ev
open PySem PySem.Spec PyProof.Rows L2
/-- the tuple at a, each item in a new pair -/
def IteT (K : PySem.W.Frag) (a : Addr) : L2.It :=
  ⟨fun i H => ∃ (xs : List V) (x : V), SqT K H a xs ∧ xs[i]? = some x, fun i H v H' => ∃ T x, v = .ref T ∧ H T = none ∧ H' = upd H T (.tup [.int (i : Nat), x]) ∧ ∀ xs, SqT K H a xs → xs[i]? = some x, fun i H => ∃ xs : List V, SqT K H a xs ∧ xs.length ≤ i⟩
theorem turnT {P : Program} {w : World} {K : PySem.W.Frag} {elts : List Expr} {kk : Nat} {tpos : Pos} (a e it : Addr) :
    Turn P w K (.Tuple elts kk tpos) (IteT K a) [e, it] e (fun i h => (∃ old, IsEnum h e it ((i : Nat) : Int) old) ∧ h.IsTupleIter it a i ∧ e ≠ it) where
  mem := by simp
  obj := fun i h st b hb => by
    obtain ⟨⟨_, q1⟩, ⟨ob, q2, _, q3⟩, _⟩ := st
    rcases List.mem_cons.mp hb with rfl | hb
    · exact ⟨_, q1, nofun⟩
    · obtain rfl : b = it := by simpa using hb
      exact ⟨ob, q2, fun v z => by rw [q3] at z; cases z⟩
  keep := fun i h h' ⟨⟨old, q1⟩, q2, q3⟩ k => ⟨⟨old, k e (by simp) _ q1⟩, q2.at fun o z => k it (by simp) o z, q3⟩
  item := by
    intro X hP hw hK hc i pins s σ H E I hf ⟨⟨old, q1⟩, q2, q3⟩ ⟨xs, x, hx, hxi⟩
    subst hP hw hK
    obtain ⟨its, rv, pl, _⟩ := I.tuple hx
    obtain ⟨u0, hu0, ru0⟩ := rv.get hxi
    have le : e < s.heap.objs.size := Heap.lt_size q1
    have li : it < s.heap.objs.size := by obtain ⟨_, z, _⟩ := q2; exact Heap.lt_size z
    have la : a < s.heap.objs.size := pl.lt
    have tp : s.heap.IsTuple a its.toArray := pl
    have hne : a ≠ it := fun z => by
      obtain ⟨o1, z1, c1, _⟩ := q2
      obtain ⟨o2, z2, c2, _⟩ := tp
      rw [z, z1] at z2; cases z2
      rw [c1] at c2; injection c2 with c2; exact absurd c2 (by decide)
    have hae : e ∉ [it, a] := fun z => by
      rcases List.mem_cons.mp z with z | z
      · exact q3 z
      · obtain rfl : e = a := by simpa using z
        obtain ⟨o2, z2, c2, _⟩ := tp
        rw [q1] at z2; cases z2
        injection c2 with c2; exact absurd c2 (by decide)
    have hlt : i < its.toArray.size := by
      have := (List.getElem?_eq_some_iff.mp hu0).1
      simpa using this
    refine wpAny_pyNext_enum_itemD (Draws.tuple (A := X.A.in1) (I.ok.hd hc) it a hne its.toArray) q1 ⟨q2, tp⟩ hlt q3 hae fun y h' tk hy ho st' hT hz hk => ?_
    have ey : y = u0 := by
      have z : its[i]? = some y := by simpa using hy
      rw [hu0] at z; cases z; rfl
    subst ey
    refine ⟨_, rfl, wpAny_letOwnedTupleGo_enum (s := { s with heap := h', toks := tk + 1 }) ho fun h2 he2 sb => ?_⟩
    have hT2 : h2.get? s.heap.objs.size = some { cls := .type "tuple", data := .seq #[.int i tk, y] } := (sb.2 _ (Nat.ne_of_gt le)).trans hT
    have nw : ObjOk X.prog X.w (upd H s.heap.objs.size (.tup [.int (i : Nat), x])) h2 s.heap.objs.size (.tup [.int (i : Nat), x]) :=
      ⟨by show 2 ≤ sizeLine; decide, [.int i tk, y], .cons ⟨_, rfl⟩ (.cons ru0 .nil), ⟨_, hT2, rfl, _, rfl⟩⟩
    have J : Inv X pins σ (upd H s.heap.objs.size (.tup [.int (i : Nat), x])) { s with heap := h2, toks := tk + 1 } :=
      I.turnedNew (ch := [e, it]) (fun b ob nb z => (sb.2 b fun y => nb (by simp [y])).trans (hk b ob (fun y => nb (by simp [y])) (fun y => nb (by simp [y])) z)) hf (Nat.le_refl _) nw
    refine ⟨.ref s.heap.objs.size, _, J, rfl, ⟨_, x, rfl, I.hok.fresh (Nat.le_refl _), rfl, fun ys hy => by rw [I.tuple_inj hy hx]; exact hxi⟩, ⟨⟨y, ?_⟩, st'.1.at fun o z => (sb.2 it (Ne.symm q3)).trans z, q3⟩, fun b hb => ?_⟩
    · have : ((i + 1 : Nat) : Int) = (i : Int) + 1 := by omega
      rw [this]; exact he2
    · have hlt : b < s.heap.objs.size := by
        rcases List.mem_cons.mp hb with rfl | hb
        · exact le
        · obtain rfl : b = it := by simpa using hb
          exact li
      rw [upd_ne (Nat.ne_of_lt hlt)]
      exact (hf b hb).1
  done := by
    intro X hP hw hK hc i pins s σ H E I hf ⟨⟨old, q1⟩, q2, q3⟩ ⟨xs, hx, hl⟩
    subst hP hw hK
    obtain ⟨its, rv, pl, _⟩ := I.tuple hx
    obtain ⟨f0, f1, f2, f3, f4, f5⟩ := hf it (by simp)
    have hln := rv.length
    exact ev_enum_end (I.ok.hd hc) q1 q2 (show s.heap.IsTuple a its.toArray from pl) (by simp; omega) fun h' eb => ⟨rfl, I.turned (t' := s.toks) (fun b o nb z => eb b o nb z) f0 f1 f3 f4 f5⟩
  self := fun A i s Q E ⟨⟨_, q1⟩, _⟩ h => wpAny_pyIter_enum q1 h
/-- enumerate of any list or tuple -/
def iEnumA (K : PySem.W.Frag) (te : TE) : TI := fun σ H R => te σ H fun v H1 => ∃ a xs, v = .ref a ∧ ((SqL K H1 a xs ∧ R (Ite K a) H1) ∨ (SqT K H1 a xs ∧ R (IteT K a) H1))
theorem pi_enumA {X : Cx} {e : Expr} {te : TE} {p pos tpos : Pos} {elts : List Expr} {kk : Nat} (hg : Gl X "enumerate") (hm : X.mg "enumerate" = none) (he : PE X e te) (hs : starEach [e] X.env = (false, eval e X.env) :: starEach [] X.env) :
    PI X (.Tuple elts kk tpos) (.Call (.Name "enumerate" p) [e] [] pos) (iEnumA X.K te) := by
  refine ⟨fun pins s σ H R I h => ?_⟩
  refine Call_ (ld_blt I hg hm boot_enumerate (PyProof.Rows.callWith_type1 (thn ((pa_cons he pa_nil hs).run pos pins s σ H (fun vs H1 => ∃ a xs, vs = [V.ref a] ∧ ((SqL X.K H1 a xs ∧ R (Ite X.K a) H1) ∨ (SqT X.K H1 a xs ∧ R (IteT X.K a) H1))) I ?_) fun us s1 ⟨vs, H1, I1, rv, a, xs, ev, alt⟩ => ?_) hs rfl))
  · refine (show te σ H (fun x H1 => ∃ a xs, [x] = [V.ref a] ∧ _) from ?_)
    have mono : ∀ {x : V} {a : Addr}, x = .ref a → [x] = [V.ref a] := fun z => by rw [z]
    simpa [iEnumA] using h
  subst ev
  cases rv with
  | cons r rr =>
    cases rr
    cases r
    have fresh : ∀ b ∈ [s1.heap.objs.size + 1, s1.heap.objs.size], FpOk X pins H1 b := fun b hb => by
      have hle : s1.heap.objs.size ≤ b := by
        rcases List.mem_cons.mp hb with z | z
        · rw [z]; exact Nat.le_succ _
        · obtain z : b = s1.heap.objs.size := by simpa using z
          rw [z]; exact Nat.le_refl _
      exact I1.fpOk hle (I1.hok.fresh hle)
    rcases alt with ⟨q, k⟩ | ⟨q, k⟩
    · obtain ⟨its, _, pl, _⟩ := I1.list q
      refine ev_call_enum (begins_list a its.toArray) pl.isList fun h' he0 hit hk => wpAny_pyIter_enum he0 ?_
      exact ⟨s1.heap.objs.size + 1, [s1.heap.objs.size + 1, s1.heap.objs.size], _, _, H1, rfl, I1.kept (t' := s1.toks) hk, turn_enum a _ _, ⟨⟨.none, he0⟩, ⟨_, hit, rfl, rfl⟩, Nat.succ_ne_self _⟩, fresh, k⟩
    · obtain ⟨its, _, pl, _⟩ := I1.tuple q
      refine ev_call_enum (begins_tuple a its.toArray) (show s1.heap.IsTuple a its.toArray from pl) fun h' he0 hit hk => wpAny_pyIter_enum he0 ?_
      exact ⟨s1.heap.objs.size + 1, [s1.heap.objs.size + 1, s1.heap.objs.size], _, _, H1, rfl, I1.kept (t' := s1.toks) hk, turnT a _ _, ⟨⟨.none, he0⟩, ⟨_, hit, rfl, rfl⟩, Nat.succ_ne_self _⟩, fresh, k⟩
end Ev

/-! # Ev8: rules of what is walked; comprehensions -/
namespace Ev
open PySem PySem.Spec PyProof.Rows L2
section
variable {X : Cx} {n : En} {tg a b e : Expr} {es : List Expr} {wa wb w : WE} {pos p : Pos} {wl : WL} {x : Str}
variable {K : PySem.W.Frag} {mg : Str → Option Value} {F F' H0 H H' : Hp} {κ κ' : List Addr} {c : Cells} {d : D} {v : V} {σa : Sl} {σ : L2.St}
theorem si_seq (he : SE X n e w) : SI X n tg e fun σ c Q => w σ c fun d c1 => walkK d c1 Q := by
  refine (pi_seq he).imp fun σ H R ⟨F, κ, c, σa, P, hR, hw, hP⟩ => ?_
  refine ⟨F, κ, c, σa, _, hR, hw, fun d c1 v H1 F1 p1 e1 g1 r1 => ?_⟩
  obtain ⟨F2, s2, e2, g2, r2⟩ := freeze e1 g1 r1
  exact it_walk g2 r2 p1 fun xs ok J p it => hP xs ok c1 J H1 F2 p e2 g2 it
theorem fz_int {i : Int} (h : d.fz = .int i) : d = .int i := by cases d <;> simp only [D.fz, reduceCtorEq] at h; exact congrArg _ (by injection h)
theorem fz_step (e : RepX K mg F κ H0 H d v) : ∀ i, d.fz = .int i → v = .int i := fun i h => by
  have := fz_int h
  subst this
  exact inv_int e
theorem si_rng1 (hg : Gl X "range") (hm : X.mg "range" = none) (hst : noStar a = true) (ha : SE X n a wa) :
    SI X n tg (.Call (.Name "range" p) [a] [] pos) fun σ c Q => wa σ c fun x c1 => rngK [x.fz] c1 Q := by
  refine (pi_range1 hg hm (pa_cons ha pa_nil (star_of hst)) (star_of hst)).imp fun σ H R ⟨F, κ, c, σa, P, hR, hw, hP⟩ => ?_
  refine ⟨F, κ, c, σa, _, hR, hw, fun d c1 v H1 F1 p1 e1 g1 r1 => ?_⟩
  unfold rngK at p1
  split at p1
  · rename_i j hj
    injection hj with hj
    have := fz_step r1 _ hj
    subst this
    refine ⟨j, rfl, p1.1.1, p1.1.2, hP _ _ c1 _ H1 F1 p1.2 e1 g1 ?_⟩
    have := it_rng (K := X.K) (mg := X.mg) (F := F1) (κ := κ) (lo := 0) (m := j.toNat)
    unfold rngL
    rw [Int.sub_zero]; exact this
  · rename_i hj; simp at hj
  · rename_i hj; simp at hj
  · exact p1.elim
theorem si_rng2 (hg : Gl X "range") (hm : X.mg "range" = none) (hst : noStar a = true) (hst2 : noStar b = true) (ha : SE X n a wa) (hb : SE X n b wb) :
    SI X n tg (.Call (.Name "range" p) [a, b] [] pos) fun σ c Q => wa σ c fun x c1 => wb σ c1 fun y c2 => rngK [x.fz, y.fz] c2 Q := by
  refine (pi_range2 hg hm (pa_cons ha (pa_cons hb pa_nil (star_of hst2)) (star_of hst)) (by rw [star_of hst, star_of hst2]; rfl) (star_of hst2)).imp fun σ H R ⟨F, κ, c, σa, P, hR, hw, hP⟩ => ?_
  refine ⟨F, κ, c, σa, _, hR, hw, fun d c1 v H1 F1 p1 e1 g1 r1 => ?_⟩
  refine ⟨F1, κ, c1, σa, _, hR.step e1 g1, p1, fun d2 c2 v2 H2 F2 p2 e2 g2 r2 => ?_⟩
  unfold rngK at p2
  split at p2
  · rename_i hj; simp at hj
  · rename_i i j hj
    injection hj with h1 h2
    injection h2 with h2
    have q1 := fz_step r1 _ h1
    have q2 := fz_step r2 _ h2
    subst q1; subst q2
    exact ⟨i, j, rfl, ⟨p2.1.1, p2.1.2, p2.2.1.1, p2.2.1.2⟩, hP _ _ c2 _ H2 F2 p2.2.2 (e1.trans e2) g2 it_rng⟩
  · rename_i hj; simp at hj
  · exact p2.elim
theorem si_rng3 {b3 : Expr} {w3 : WE} (hg : Gl X "range") (hm : X.mg "range" = none) (hst : noStar a = true) (hst2 : noStar b = true) (hst3 : noStar b3 = true) (ha : SE X n a wa) (hb : SE X n b wb) (hc : SE X n b3 w3) :
    SI X n tg (.Call (.Name "range" p) [a, b, b3] [] pos) fun σ c Q => wa σ c fun x c1 => wb σ c1 fun y c2 => w3 σ c2 fun z c3 => rngK [x.fz, y.fz, z.fz] c3 Q := by
  refine (pi_range3 hg hm (pa_cons ha (pa_cons hb (pa_cons hc pa_nil (star_of hst3)) (star_of hst2)) (star_of hst)) (star_of hst) (any_of (by simp [hst2, hst3]))).imp fun σ H R ⟨F, κ, c, σa, P, hR, hw, hP⟩ => ?_
  refine ⟨F, κ, c, σa, _, hR, hw, fun d c1 v H1 F1 p1 e1 g1 r1 => ?_⟩
  refine ⟨F1, κ, c1, σa, _, hR.step e1 g1, p1, fun d2 c2 v2 H2 F2 p2 e2 g2 r2 => ?_⟩
  refine ⟨F2, κ, c2, σa, _, (hR.step e1 g1).step e2 g2, p2, fun d3 c3 v3 H3 F3 p3 e3 g3 r3 => ?_⟩
  unfold rngK at p3
  split at p3
  · rename_i hj; simp at hj
  · rename_i hj; simp at hj
  · rename_i i j k hj
    injection hj with h1 h2
    injection h2 with h2 h3
    injection h3 with h3
    have q1 := fz_step r1 _ h1
    have q2 := fz_step r2 _ h2
    have q3 := fz_step r3 _ h3
    subst q1; subst q2; subst q3
    obtain ⟨m, hm, q⟩ := p3
    exact ⟨i, j, k, m, rfl, hm, hP _ _ c3 _ H3 F3 q ((e1.trans e2).trans e3) g3 it_stp⟩
  · exact p3.elim
theorem lkS_fz (c : Cells) : lkS c d.fz = lkS c d := by cases d <;> rfl
theorem enumF_len : ∀ (k : Nat) (xs : List D), (enumF k xs).length = xs.length
  | _, [] => rfl
  | k, x :: r => by simp [enumF, enumF_len (k + 1) r]
theorem enumF_get : ∀ (k : Nat) (xs : List D) (i : Nat) (z : D), xs[i]? = some z → (enumF k xs)[i]? = some (.tup [.int ((k + i : Nat) : Int), z])
  | _, [], i, z, h => by simp at h
  | k, x :: r, 0, z, h => by simp at h; subst h; simp [enumF]
  | k, x :: r, i + 1, z, h => by
    have := enumF_get (k + 1) r i z (by simpa using h)
    simp only [enumF, List.getElem?_cons_succ]
    rw [this, show k + 1 + i = k + (i + 1) by omega]
/-- pairs, made new -/
theorem it_pair {T : Addr} {x y : V} {d1 d2 : D} (g : GOk K mg F κ c H) (hT : H T = none) (r1 : RepD K mg F d1 x) (r2 : RepD K mg F d2 y) :
    ∃ F', Ext κ H F (upd H T (.tup [x, y])) F' ∧ GOk K mg F' κ c (upd H T (.tup [x, y])) ∧ RepD K mg F' (.tup [d1, d2]) (.ref T) := by
  obtain ⟨e, g', r⟩ := fin_tup (ds := [d1, d2]) g hT (.cons r1 (.cons r2 .nil))
  exact ⟨_, e, g', by simpa only [RepX, Rep1] using r⟩
theorem repD_int {i : Int} : RepD K mg F (.int i) (.int i) := by simp only [RepD]
theorem it_enumL {xs : List D} {a : Addr} {ok : Cells → Prop} (look : ∀ (F' : Hp) (κ' : List Addr) (c' : Cells) (H' : Hp), Sub F F' → KExt κ κ' → GOk K mg F' κ' c' H' → ok c' → ∃ us, SqL K H' a us ∧ RepDs K mg F' xs us) : ItOk K mg F κ (Ite K a) (enumL xs) ok := by
  intro F' κ' c' H' s' k' g' hok i
  rw [show (enumL xs).length = xs.length from enumF_len 0 xs]
  obtain ⟨us, q', s3⟩ := look F' κ' c' H' s' k' g' hok
  have hl := s3.length
  refine ⟨fun hi => ⟨us, q', by omega⟩, fun hi => ⟨?_, fun y H2 ⟨T, u, hy, hT, hH, hu⟩ => ?_⟩⟩
  · have : i < us.length := by omega
    exact ⟨us, us[i], q', List.getElem?_eq_getElem this⟩
  · subst hy; subst hH
    obtain ⟨d1, h1, h2⟩ := s3.get' (hu us q')
    obtain ⟨F3, e3, g3, r3⟩ := it_pair g' hT (repD_int (i := ((i : Nat) : Int))) h2
    exact ⟨_, F3, by rw [enumL, enumF_get 0 xs i d1 h1, Nat.zero_add], e3, g3, r3⟩
theorem it_enumT {xs : List D} {a : Addr} {ok : Cells → Prop} (look : ∀ (F' : Hp) (κ' : List Addr) (c' : Cells) (H' : Hp), Sub F F' → KExt κ κ' → GOk K mg F' κ' c' H' → ok c' → ∃ us, SqT K H' a us ∧ RepDs K mg F' xs us) : ItOk K mg F κ (IteT K a) (enumL xs) ok := by
  intro F' κ' c' H' s' k' g' hok i
  rw [show (enumL xs).length = xs.length from enumF_len 0 xs]
  obtain ⟨us, q', s3⟩ := look F' κ' c' H' s' k' g' hok
  have hl := s3.length
  refine ⟨fun hi => ⟨us, q', by omega⟩, fun hi => ⟨?_, fun y H2 ⟨T, u, hy, hT, hH, hu⟩ => ?_⟩⟩
  · have : i < us.length := by omega
    exact ⟨us, us[i], q', List.getElem?_eq_getElem this⟩
  · subst hy; subst hH
    obtain ⟨d1, h1, h2⟩ := s3.get' (hu us q')
    obtain ⟨F3, e3, g3, r3⟩ := it_pair g' hT (repD_int (i := ((i : Nat) : Int))) h2
    exact ⟨_, F3, by rw [enumL, enumF_get 0 xs i d1 h1, Nat.zero_add], e3, g3, r3⟩
/-- a value that is a tuple, or else a list -/
theorem tup_or {xs : List D} {F2 : Hp} (g2 : GOk K mg F2 κ c H) (r2 : Rep1 K mg F2 κ d.fz v) (hx : lkS c d = some xs) :
    (∃ a vs, v = .ref a ∧ SqT K H a vs ∧ RepDs K mg F2 xs vs ∧ ∀ (F' : Hp) (κ' : List Addr) (c' : Cells) (H' : Hp), Sub F2 F' → KExt κ κ' → GOk K mg F' κ' c' H' → lkS c' d = some xs → ∃ us, SqT K H' a us ∧ RepDs K mg F' xs us) ∨
    (∃ a vs, v = .ref a ∧ SqL K H a vs ∧ RepDs K mg F2 xs vs ∧ ∀ (F' : Hp) (κ' : List Addr) (c' : Cells) (H' : Hp), Sub F2 F' → KExt κ κ' → GOk K mg F' κ' c' H' → lkS c' d = some xs → ∃ us, SqL K H' a us ∧ RepDs K mg F' xs us) := by
  by_cases hd : ∃ ys, d = .tup ys
  · obtain ⟨ys, rfl⟩ := hd
    simp only [lkS, Option.some.injEq] at hx
    subst hx
    simp only [D.fz, Rep1, RepD] at r2
    obtain ⟨a, vs, rfl, q, s⟩ := r2
    exact .inl ⟨a, vs, rfl, .of (g2.sub _ _ q), s, fun F' κ' c' H' s' k' g' hok => ⟨vs, .of (g'.sub _ _ (s' _ _ q)), s.mono s'⟩⟩
  · have toR : ∀ c' ys, lkS c' d = some ys → lkR c' d.fz = some ys := fun c' ys h => by cases d <;> first | exact h | exact absurd ⟨_, rfl⟩ hd
    obtain ⟨a, vs, rfl, q, s⟩ := rep_lkR g2 (H0 := H) (RepX.of_1 r2) (toR c xs hx)
    refine .inr ⟨a, vs, rfl, q, s, fun F' κ' c' H' s' k' g' hok => ?_⟩
    obtain ⟨a', us, z, q', s3⟩ := rep_lkR g' (H0 := H') (RepX.of_1 ((r2.mono s').kext k')) (toR c' xs hok)
    cases z
    exact ⟨us, q', s3⟩
theorem si_enum {elts : List Expr} {kk : Nat} {tpos : Pos} (hg : Gl X "enumerate") (hm : X.mg "enumerate" = none) (hst : noStar e = true) (he : SE X n e w) :
    SI X n (.Tuple elts kk tpos) (.Call (.Name "enumerate" p) [e] [] pos) fun σ c Q => w σ c fun x c1 => ∃ xs, lkS c1 x = some xs ∧ Q (enumL xs) (fun c' => lkS c' x = some xs) c1 := by
  refine (pi_enumA hg hm he (star_of hst)).imp fun σ H R ⟨F, κ, c, σa, P, hR, hw, hP⟩ => ?_
  refine ⟨F, κ, c, σa, _, hR, hw, fun d c1 v H1 F1 p1 e1 g1 r1 => ?_⟩
  obtain ⟨xs, hx, p⟩ := p1
  obtain ⟨F2, s2, e2, g2, r2⟩ := freeze e1 g1 r1
  rcases tup_or g2 r2 hx with ⟨a, vs, rfl, q, s, look⟩ | ⟨a, vs, rfl, q, s, look⟩
  · exact ⟨a, vs, rfl, .inr ⟨q, hP _ _ c1 _ H1 F2 p e2 g2 (it_enumT look)⟩⟩
  · exact ⟨a, vs, rfl, .inl ⟨q, hP _ _ c1 _ H1 F2 p e2 g2 (it_enumL look)⟩⟩
end

/-! ### list comprehensions -/
section
variable {X : Cx} {n : En} {tg it elt : Expr} {ifs : List Expr} {scope : Scope} {own : List (Str × Nat)} {pos : Pos} {wi : WIt} {t : Tg} {tt : WT} {te : WE}
variable {K : PySem.W.Frag} {mg : Str → Option Value} {F F' H0 H H' : Hp} {κ κ' : List Addr} {c : Cells} {d : D} {v : V} {σa : Sl} {σ : L2.St}
def SC (X : Cx) (n : En) (ifs : List Expr) (t : WT) : Prop := PTs X ifs (tTst X n t)
theorem sc_none : SC X n [] fun _ c Q => Q true c :=
  ⟨fun pins s σ H Q I ⟨F, κ, c, σa, P, R, hw, hP⟩ => pts_nil.run pins s σ H Q I (hP _ c H F hw .refl R.g)⟩
theorem sc_some {e : Expr} (h : ST X n e tt) : SC X n [e] tt := pts_one h
theorem SRep.none {i : Nat} (S : SRep K mg F κ σa σ) : SRep K mg F κ (σa.set i none) (σ.set i none) := by
  refine ⟨by rw [List.length_set, List.length_set]; exact S.len, fun j d' e => ?_⟩
  by_cases z : j = i
  · subst z
    have hj : j < σa.length := by
      have := (List.getElem?_eq_some_iff.mp e).1
      rwa [List.length_set] at this
    rw [List.getElem?_set_self hj] at e
    cases e
  · rw [List.getElem?_set_ne (Ne.symm z)] at e
    obtain ⟨u, h1, h2⟩ := S.at_ j d' e
    exact ⟨u, by rw [List.getElem?_set_ne (Ne.symm z)]; exact h1, h2⟩
theorem SRep.wipe (S : SRep K mg F κ σa σ) : ∀ vs : List Nat, SRep K mg F κ (wipeD σa vs) (wipe σ vs)
  | [] => S
  | v :: vs => (SRep.wipe S vs).none
theorem wipe_at {σ : L2.St} {vs : List Nat} {i : Nat} {w : Option V} (h : (wipe σ vs)[i]? = some w) (hi : i ∈ vs) : w = none := by
  induction vs with
  | nil => cases hi
  | cons j vs ih =>
    have h : ((wipe σ vs).set j none)[i]? = some w := h
    by_cases z : j = i
    · subst z
      have := (List.getElem?_eq_some_iff.mp h).1
      rw [List.length_set] at this
      rw [List.getElem?_set_self this] at h
      cases h; rfl
    · rw [List.getElem?_set_ne z] at h
      rcases List.mem_cons.mp hi with q | q
      · exact absurd q.symm z
      · exact ih h q
theorem set_none_same {σ : L2.St} {i : Nat} (h : ∀ w, σ[i]? = some w → w = none) : σ.set i none = σ := by
  apply List.ext_getElem?
  intro j
  by_cases z : i = j
  · subst z
    by_cases hl : i < σ.length
    · rw [List.getElem?_set_self hl, List.getElem?_eq_getElem hl]
      rw [h _ (List.getElem?_eq_getElem hl)]
    · rw [List.getElem?_eq_none (by rw [List.length_set]; omega), List.getElem?_eq_none (by omega)]
  · rw [List.getElem?_set_ne z]
theorem wipe_none {σ : L2.St} : ∀ {vs : List Nat}, (∀ i ∈ vs, ∀ w, σ[i]? = some w → w = none) → wipe σ vs = σ
  | [], _ => rfl
  | j :: vs, h => by
    show (wipe σ vs).set j none = σ
    rw [wipe_none fun i hi => h i (List.mem_cons_of_mem _ hi)]
    exact set_none_same (h j List.mem_cons_self)
theorem wipe_wipe {σ : L2.St} {vs : List Nat} : wipe (wipe σ vs) vs = wipe σ vs := wipe_none fun i hi w h => wipe_at h hi
theorem other_upd {D : Addr} {o : HO} (g : GOk K mg F κ c H) (hF : F D = none) (hD : D ∉ κ) : GOk K mg F κ c (upd H D o) := by
  refine ⟨fun a u e => ?_, g.nd, g.len, fun i a ob h1 h2 => ?_⟩
  · have : a ≠ D := fun z => by rw [z, hF] at e; cases e
    rw [upd_ne this]; exact g.sub a u e
  · have : a ≠ D := fun z => hD (z ▸ List.mem_of_getElem? h1)
    rw [upd_ne this]; exact g.cell i a ob h1 h2
theorem other_ext {D : Addr} {o : HO} (e : Ext κ H F H' F') (hD : H D = none) : Ext κ H F (upd H' D o) F' := by
  refine ⟨fun a u q hn => ?_, e.fk, e.fr, fun a q => ?_⟩
  · have : a ≠ D := fun z => by rw [z, hD] at q; cases q
    rw [upd_ne this]; exact e.keep a u q hn
  · by_cases z : a = D
    · rw [z]; exact hD
    · rw [upd_ne z] at q; exact e.dom a q
theorem lc_read (own : List (Str × Nat)) (hown : tgIn (own.map (·.2)) t = true) (σ : L2.St) (H : Hp) (Q : VK)
    (h : tS X n (fun σ c Q => wi σ c fun xs ok c1 => xs.length ≤ sizeLine ∧ lcGo ok (lcTurn t tt te (wipeD σ (own.map (·.2)))) xs c1 fun ys c2 => Q (.own ys) c2) σ H Q) :
    tLc (tIt X n wi) (tTg X n t) (tTst X n tt) (tS X n te) (own.map (·.2)) σ H Q := by
  obtain ⟨F, κ, c, σa, P, R, hw, hP⟩ := h
  refine ⟨F, κ, c, σa, _, R, hw, fun xs okp c1 J H1 F1 p1 e1 g1 itk => ?_⟩
  obtain ⟨hz, p1⟩ := p1
  intro D hD
  have hDk : D ∉ κ := g1.notin hD
  let vs := own.map (·.2)
  let Wd : Nat → Hp → Prop := fun i H' => i ≤ xs.length ∧ ∃ F' c' acc accV, H' D = some (.lst accV) ∧ RepDs X.K X.mg F' acc accV ∧ acc.length ≤ i ∧ F' D = none ∧ Ext κ H1 F1 H' F' ∧ GOk X.K X.mg F' κ c' H' ∧
    lcGo okp (lcTurn t tt te (wipeD σa vs)) (xs.drop i) c' (fun ys c2 => P (.own (acc ++ ys)) c2)
  refine ⟨fun i m H' => m = xs.length - i ∧ Wd i H', ⟨_, rfl, Nat.zero_le _, F1, c1, [], [], upd_same, .nil, Nat.le_refl _, g1.fnone hD, (fin_own g1 hD .nil).1, (fin_own g1 hD .nil).2.1, p1⟩, ?_⟩
  rintro i m H' ⟨rfl, hi, F', c', acc, accV, h1, r1, hl, hF, e2, g2, hgo⟩
  by_cases hlt : i < xs.length
  · rw [List.drop_eq_getElem_cons hlt] at hgo
    obtain ⟨hok, hgo⟩ := hgo
    obtain ⟨hgo1, hyld⟩ := (itk F' κ c' H' e2.fk (fun _ _ z => z) g2 hok i).2 hlt
    refine .inr ⟨hgo1, Wd (i + 1), fun H'' q => ⟨_, by omega, rfl, q⟩, fun x H2 hy => ?_⟩
    obtain ⟨d, F3, hd, e3, g3, r3⟩ := hyld x H2 hy
    rw [List.getElem?_eq_getElem hlt] at hd
    cases hd
    have R3 : Rel X.K X.mg n F3 κ c' H2 σa σ := R.step (e1.trans (e2.trans e3)) g3
    have D3 : H2 D = some (.lst accV) := e3.keep _ _ h1 hDk
    have F3D : F3 D = none := e3.fr D _ hDk h1 hF
    refine ⟨F3, κ, c', wipeD σa vs, xs[i], _, ⟨R3.g, R3.sl.wipe vs, R3.ext, R3.pre, R3.new⟩, .ofD r3, hgo, fun σa' σ' R' p' hww => ⟨(hww vs hown).trans wipe_wipe, ?_⟩⟩
    refine ⟨F3, κ, c', σa', _, R', p', fun b c4 H4 F4 p4 e4 g4 => ?_⟩
    have D4 : H4 D = some (.lst accV) := e4.keep _ _ D3 hDk
    have F4D : F4 D = none := e4.fr D _ hDk D3 F3D
    cases b with
    | false =>
      exact ⟨hlt, F4, c4, acc, accV, D4, r1.mono fun a o z => e4.fk a o (e3.fk a o z), by omega, F4D, e2.trans (e3.trans e4), g4, p4⟩
    | true =>
      refine ⟨F4, κ, c4, σa', _, R'.step e4 g4, p4, fun y c5 v H5 F5 p5 e5 g5 r5 => ?_⟩
      obtain ⟨hcell, p5⟩ := p5
      obtain ⟨F6, s6, e6, g6, r6⟩ := freeze e5 g5 r5
      have D5 : H5 D = some (.lst accV) := e6.keep _ _ D4 hDk
      have F6D : F6 D = none := e6.fr D _ hDk D4 F4D
      have rr : RepDs X.K X.mg F6 acc accV := r1.mono fun a o z => e6.fk a o (e4.fk a o (e3.fk a o z))
      have hfz : y.fz.isCell = false := by cases y <;> first | exact hcell | rfl
      refine ⟨accV, D5, by rw [← rr.length]; omega, hlt, F6, c5, acc ++ [y.fz], accV ++ [v], upd_same, rr.append (.cons (r6.toD hfz) .nil), by rw [List.length_append, List.length_singleton]; omega, F6D,
        other_ext (e2.trans (e3.trans (e4.trans e6))) hD, other_upd g6 F6D hDk, ?_⟩
      simpa only [Option.toList_some, List.append_assoc, List.singleton_append] using p5
  · have hie : i = xs.length := by omega
    subst hie
    rw [List.drop_length] at hgo
    obtain ⟨hok, p⟩ := hgo
    rw [List.append_nil] at p
    refine .inl ⟨(itk F' κ c' H' e2.fk (fun _ _ z => z) g2 hok _).1 (Nat.le_refl _), ?_⟩
    exact hP _ c' _ H' F' p (e1.trans e2) g2 ⟨D, accV, rfl, h1, hF, hDk, e1.dom D hD, r1⟩
theorem se_lc (hc : X.calm = true) (hN : X.N.Nodup) (hi : SI X n tg it wi) (ok : BlkOk X.N X.env.scope scope own) (hown : tgIn (own.map (·.2)) t = true)
    (hg : ∀ (s : Shared) (H : Hp) (C : Addr) (cl : List (Str × Addr)) (fp : List Addr), STg (X.blk s H scope (compEnvC scope cl C X.env) fp) n tg t)
    (ht : ∀ (s : Shared) (H : Hp) (C : Addr) (cl : List (Str × Addr)) (fp : List Addr), SC (X.blk s H scope (compEnvC scope cl C X.env) fp) n ifs tt)
    (he : ∀ (s : Shared) (H : Hp) (C : Addr) (cl : List (Str × Addr)) (fp : List Addr), SE (X.blk s H scope (compEnvC scope cl C X.env) fp) n elt te)
    (hs : ∀ x, foldedSetIterable it X.env x = pure x) :
    SE X n (.ListComp elt [⟨tg, it, ifs, 0⟩] scope pos) fun σ c Q => wi σ c fun xs ok c1 => xs.length ≤ sizeLine ∧ lcGo ok (lcTurn t tt te (wipeD σ (own.map (·.2)))) xs c1 fun ys c2 => Q (.own ys) c2 :=
  (pe_lc (g := tTg X n t) (tt := tTst X n tt) (te := tS X n te) hc hN hi ok (fun s H C cl fp => hg s H C cl fp) (fun s H C cl fp => ht s H C cl fp) (fun s H C cl fp => he s H C cl fp) hs).imp (lc_read own hown)
end
section
variable {X : Cx} {n : En} {a : Expr} {wa : WE} {p p2 pos pos2 : Pos}
theorem rep_rng {K : PySem.W.Frag} {mg : Str → Option Value} {F : Hp} (m : Int) : RepDs K mg F (rngL 0 m) (rgV 0 m) := by
  unfold rngL rgV
  generalize (m - 0).toNat = k
  have : ∀ l : List Nat, RepDs K mg F (l.map fun i => D.int (0 + (i : Nat))) (l.map fun i => V.int (0 + (i : Nat))) := fun l => by
    induction l with
    | nil => exact .nil
    | cons x r ih => exact .cons (by simp only [RepD]) ih
  exact this _
/-- tuple(range(a)), list(range(a)) -/
theorem se_trg (b : Bool) (hc : X.calm = true) (hg : Gl X (if b = true then "tuple" else "list")) (hm : X.mg (if b = true then "tuple" else "list") = none) (hr : Gl X "range") (hrm : X.mg "range" = none) (hst : noStar a = true) (ha : SE X n a wa) :
    SE X n (.Call (.Name (if b = true then "tuple" else "list") p) [.Call (.Name "range" p2) [a] [] pos2] [] pos) fun σ c Q => wa σ c fun x c1 => ∃ m, x = .int m ∧ RgI m ∧ m.toNat ≤ 2 ^ 24 ∧ Q (if b = true then .tup (rngL 0 m) else .own (rngL 0 m)) c1 := by
  have hp := prg_1 (p := p2) (pos := pos2) hr hrm ha (by rw [star_of hst])
  cases b with
  | true =>
    refine (pe_tupRg (p := p) (pos := pos) hc hg hm hp).imp fun σ H Q ⟨F, κ, c, σa, P, R, hw, hP⟩ => ?_
    refine ⟨F, κ, c, σa, _, R, hw, fun x c1 vx H1 F1 p1 e1 g1 r1 => ?_⟩
    obtain ⟨m, rfl, h1, h2, q⟩ := p1
    rw [inv_int r1]
    unfold RgI at h1
    refine ⟨m, rfl, ⟨by omega, by omega, by omega, by omega, by omega⟩, fun a ha => ?_⟩
    obtain ⟨e2, g2, r2⟩ := fin_tup g1 ha (rep_rng m)
    exact hP _ c1 _ _ _ q (e1.trans e2) g2 (r2.start e1.dom)
  | false =>
    refine (pe_listRg (p := p) (pos := pos) hc hg hm hp).imp fun σ H Q ⟨F, κ, c, σa, P, R, hw, hP⟩ => ?_
    refine ⟨F, κ, c, σa, _, R, hw, fun x c1 vx H1 F1 p1 e1 g1 r1 => ?_⟩
    obtain ⟨m, rfl, h1, h2, q⟩ := p1
    rw [inv_int r1]
    unfold RgI at h1
    refine ⟨m, rfl, ⟨by omega, by omega, by omega, by omega, by omega⟩, fun a ha => ?_⟩
    obtain ⟨e2, g2, r2⟩ := fin_own g1 ha (rep_rng m)
    exact hP _ c1 _ _ _ q (e1.trans e2) g2 (r2.start e1.dom)
end
end Ev

/-! # Ev9: statements -/
namespace Ev
open PySem PySem.Spec PyProof.Rows L2
structure Post (X : Cx) (n : En) (P : Ev.DE) (D : Ends) : Prop where
  nx : ∀ F κ c H σa σ, Rel X.K X.mg n F κ c H σa σ → P.nx σa c → D.nx σ H
  bk : ∀ F κ c H σa σ, Rel X.K X.mg n F κ c H σa σ → P.bk σa c → D.bk σ H
  ct : ∀ F κ c H σa σ, Rel X.K X.mg n F κ c H σa σ → P.ct σa c → D.ct σ H
  rt : ∀ F κ c H σa σ d v, Rel X.K X.mg n F κ c H σa σ → RepX X.K X.mg F κ n.H H d v → P.rt d c → D.rt v H
def tSS (X : Cx) (n : En) (w : WS) : TS := fun D σ H => ∃ F κ c σa P, Rel X.K X.mg n F κ c H σa σ ∧ w P σa c ∧ Post X n P D
def SSt (X : Cx) (n : En) (st : Stmt) (w : WS) : Prop := PS X st (tSS X n w)
def SSs (X : Cx) (n : En) (st : List Stmt) (w : WS) : Prop := PSs X st (tSS X n w)
theorem _root_.L2.PS.imp {X : Cx} {st : Stmt} {t t' : TS} (h : PS X st t) (i : ∀ D σ H, t' D σ H → t D σ H) : PS X st t' :=
  ⟨fun pins s σ H D I q => h.run pins s σ H D I (i D σ H q)⟩
theorem _root_.L2.PSs.imp {X : Cx} {st : List Stmt} {t t' : TS} (h : PSs X st t) (i : ∀ D σ H, t' D σ H → t D σ H) : PSs X st t' :=
  ⟨fun pins s σ H D I q => h.run pins s σ H D I (i D σ H q)⟩
section
variable {X : Cx} {n : En} {st : Stmt} {sts : List Stmt} {w1 w2 : WS} {e a b tg : Expr} {we wa wb : WE} {wt : WT} {pos : Pos} {x : Str}
variable {K : PySem.W.Frag} {mg : Str → Option Value} {F F' H0 H H' : Hp} {κ κ' : List Addr} {c : Cells} {d : D} {v : V} {σa : Sl} {σ : L2.St}
theorem ss_nil : SSs X n [] fun P σ c => P.nx σ c :=
  pss_nil.imp fun D σ H ⟨F, κ, c, σa, P, R, h, p⟩ => p.nx _ _ _ _ _ _ R h
theorem ss_cons (h1 : SSt X n st w1) (h2 : SSs X n sts w2) : SSs X n (st :: sts) fun P σ c => w1 { P with nx := w2 P } σ c :=
  (pss_cons h1 h2).imp fun D σ H ⟨F, κ, c, σa, P, R, h, p⟩ => ⟨F, κ, c, σa, _, R, h, ⟨fun F κ c H σa σ R h => ⟨F, κ, c, σa, P, R, h, p⟩, p.bk, p.ct, p.rt⟩⟩
/-- a cell at the end is a list from now on -/
theorem ss_frz {i : Nat} (h2 : SSs X n sts w2) : SSs X n sts fun P σ c => ∃ m xs, σ[i]? = some (some (.cell m)) ∧ n.κ.length ≤ m ∧ m + 1 = c.length ∧ c[m]? = some (.lst xs) ∧ w2 P (σ.map (thawS m xs)) (c.take m) := by
  refine h2.imp fun D σ H ⟨F, κ, c, σa, P, R, ⟨m, xs, hi, hb, hm, hc, h⟩, p⟩ => ?_
  have hkl := R.g.len
  have hmk : m < κ.length := by omega
  have hk : κ[m]? = some κ[m] := List.getElem?_eq_getElem hmk
  obtain ⟨hF, vs, hH, rv⟩ := R.g.cell m _ _ hk hc
  have hks : κ = κ.take m ++ [κ[m]] := by
    have := List.take_append_getElem hmk
    rw [this, List.take_of_length_le (by omega)]
  have hs : Sub F (upd F κ[m] (.lst vs)) := fun b o q => by
    have : b ≠ κ[m] := fun z => by rw [z, hF] at q; cases q
    rw [upd_ne this]; exact q
  have hnew : n.H κ[m] = none := R.new _ (by
    rw [List.mem_iff_getElem?]
    refine ⟨m - n.κ.length, ?_⟩
    rw [List.getElem?_drop, show n.κ.length + (m - n.κ.length) = m by omega]; exact hk)
  have hnot : ∀ b, b ∈ κ.take m → b ≠ κ[m] := fun b hb z => by
    have := R.g.nd
    rw [hks, List.nodup_append] at this
    exact this.2.2 b hb κ[m] (by simp) z
  have g' : GOk X.K X.mg (upd F κ[m] (.lst vs)) (κ.take m) (c.take m) H := by
    refine ⟨fun b o q => ?_, ?_, by rw [List.length_take, List.length_take, hkl], fun j b ob h1 h2 => ?_⟩
    · by_cases z : b = κ[m]
      · subst z; rw [upd_same] at q; cases q; exact hH
      · rw [upd_ne z] at q; exact R.g.sub b o q
    · exact List.Nodup.sublist (List.take_sublist _ _) R.g.nd
    · have hmem : b ∈ κ.take m := List.mem_of_getElem? h1
      have hj : j < m := by have := (List.getElem?_eq_some_iff.mp h1).1; rw [List.length_take] at this; omega
      rw [List.getElem?_take_of_lt hj] at h1 h2
      obtain ⟨q1, q2⟩ := R.g.cell j b ob h1 h2
      rw [upd_ne (hnot b hmem)]
      exact ⟨q1, q2.mono hs⟩
  refine ⟨_, κ.take m, c.take m, _, P, ⟨g', ⟨by rw [List.length_map]; exact R.sl.len, fun j d' hj => ?_⟩, ⟨R.ext.keep, fun b o q => hs b o (R.ext.fk b o q), fun b us hn q f => ?_, R.ext.dom⟩, ?_, fun b hb => R.new b ?_⟩, h, p⟩
  · rw [List.getElem?_map, Option.map_eq_some_iff] at hj
    obtain ⟨o, ho, hq⟩ := hj
    cases o with
    | none => cases hq
    | some d0 =>
      obtain ⟨u, h1, h2⟩ := R.sl.at_ j d0 ho
      refine ⟨u, h1, ?_⟩
      cases d0 with
      | cell k =>
        simp only [Rep1] at h2
        obtain ⟨b, rfl, h2⟩ := h2
        simp only [thawS] at hq
        by_cases z : k = m
        · rw [if_pos z] at hq; cases hq
          rw [z, hk] at h2; cases h2
          simp only [Rep1, RepD]
          exact ⟨_, vs, rfl, upd_same, rv.mono hs⟩
        · rw [if_neg z] at hq; cases hq
          have hkl : k < κ.length := (List.getElem?_eq_some_iff.mp h2).1
          exact ⟨b, rfl, by rw [List.getElem?_take_of_lt (by omega)]; exact h2⟩
      | _ => cases hq; exact (show Rep1 X.K X.mg (upd F κ[m] (.lst vs)) (κ.take m) _ u from RepD.mono hs _ _ h2)
  · have : b ≠ κ[m] := fun z => by rw [z, hnew] at q; cases q
    rw [upd_ne this]; exact R.ext.fr b us hn q f
  · rw [List.take_take, show min n.κ.length m = n.κ.length by omega]; exact R.pre
  · rw [List.drop_take] at hb
    exact List.mem_of_mem_take hb
/-- a value of an expression is kept: the state behind -/
theorem kept_rel (R : Rel K mg n F κ c H σa σ) {H1 F1 : Hp} {c1 : Cells} (e1 : Ext κ H F H1 F1) (g1 : GOk K mg F1 κ c1 H1) (r1 : RepX K mg F1 κ H H1 d v) :
    ∃ F2, Rel K mg n F2 κ c1 H1 σa σ ∧ Rep1 K mg F2 κ d.fz v := by
  obtain ⟨F2, _, e2, g2, r2⟩ := freeze e1 g1 r1
  exact ⟨F2, R.step e2 g2, r2⟩
theorem asg_fz {t : Tg} {P : Sl → Prop} {σ : Sl} (h : asgT t d σ c P) : asgT t d.fz σ c P := by
  cases t with
  | nm i => cases d <;> exact h
  | tp is =>
    obtain ⟨xs, hx, q⟩ := h
    exact ⟨xs, (lkS_fz c).trans hx, q⟩
/-- t = e -/
theorem ss_asg {t : Tg} (he : SE X n e we) (hg : STg X n tg t) (hs : swapsWithSole [tg] e pos.line X.env = pure false) (hw : swappedStores [tg] e X.env = pure none) (h1 : (assignEach [tg] X.env).map (·.2) = [assign tg X.env]) :
    SSt X n (.Assign [tg] e pos) fun P σ c => we σ c fun d c1 => asgT t d σ c1 fun σ1 => P.nx σ1 c1 := by
  refine (ps_asg he hg hs hw h1).imp fun D σ H ⟨F, κ, c, σa, P, R, h, p⟩ => ?_
  refine ⟨F, κ, c, σa, _, R, h, fun d c1 v H1 F1 p1 e1 g1 r1 => ?_⟩
  obtain ⟨F2, R2, r2⟩ := kept_rel R e1 g1 r1
  exact ⟨F2, κ, c1, σa, d.fz, _, R2, r2, asg_fz p1, fun σa' σ' R' h' _ => p.nx _ _ _ _ _ _ R' h'⟩
/-- name = e, a plain local or a cell -/
theorem ss_set {i : Nat} {pos' : Pos} (hN : X.N.Nodup) (hi : X.N[i]? = some x) (hx : Loc X.env.scope x) (hf : X.fn x = true ∨ X.env.scope.names.lookup x = some .local) (he : SE X n e we)
    (hs : swapsWith e (some (.Name x pos')) pos.line X.env = pure false) : SSt X n (.Assign [.Name x pos'] e pos) fun P σ c => we σ c fun d c1 => asgT (.nm i) d σ c1 fun σ1 => P.nx σ1 c1 := by
  refine (ps_set hN hi hx he hs hf).imp fun D σ H ⟨F, κ, c, σa, P, R, h, p⟩ => ?_
  refine ⟨F, κ, c, σa, _, R, h, fun d c1 v H1 F1 p1 e1 g1 r1 => ?_⟩
  obtain ⟨F2, R2, r2⟩ := kept_rel R e1 g1 r1
  exact p.nx _ _ _ _ _ _ (R2.set r2) (asg_nm (asg_fz p1) r2.noOwn)
/-- a list that is to be changed: its cell -/
theorem rel_cell {i : Nat} {xs : List D} {H1 F1 : Hp} {c1 : Cells} (R : Rel K mg n F κ c H σa σ) (e1 : Ext κ H F H1 F1) (g1 : GOk K mg F1 κ c1 H1) (r1 : RepX K mg F1 κ H H1 (.own xs) v) :
    ∃ κ', Rel K mg n F1 κ' (c1 ++ [.lst xs]) H1 (σa.set i (some (.cell c1.length))) (σ.set i (some v)) := by
  have R1 := R.step e1 g1
  simp only [RepX] at r1
  obtain ⟨a, vs, rfl, h1, h2, h3, h4, h5⟩ := r1
  have hl := g1.len
  have ka : (κ ++ [a])[c1.length]? = some a := by rw [← hl, List.getElem?_append_right (Nat.le_refl _)]; simp
  have kx : KExt κ (κ ++ [a]) := fun m b hm => by rw [List.getElem?_append_left (List.getElem?_eq_some_iff.mp hm).1]; exact hm
  have hpre : n.κ.length ≤ κ.length := by have := congrArg List.length R1.pre; rw [List.length_take] at this; omega
  refine ⟨κ ++ [a], ⟨⟨g1.sub, ?_, by simp [hl], fun j b ob q1 q2 => ?_⟩, ?_, R1.ext, by rw [List.take_append_of_le_length hpre]; exact R1.pre, fun b hb => ?_⟩⟩
  · rw [List.nodup_append]
    exact ⟨g1.nd, by simp, fun b hb b' hb' z => h3 (by simp at hb'; rw [← hb', ← z]; exact hb)⟩
  · by_cases z : j < κ.length
    · rw [List.getElem?_append_left z] at q1
      rw [List.getElem?_append_left (by omega)] at q2
      exact g1.cell j b ob q1 q2
    · have : j = κ.length := by
        have := (List.getElem?_eq_some_iff.mp q1).1
        simp at this; omega
      subst this
      rw [List.getElem?_append_right (Nat.le_refl _)] at q1
      rw [hl, List.getElem?_append_right (Nat.le_refl _)] at q2
      simp at q1 q2
      subst q1; subst q2
      exact ⟨h2, vs, h1, h5⟩
  · have S : SRep K mg F1 (κ ++ [a]) σa σ := ⟨R1.sl.len, fun j d hj => let ⟨u, q1, q2⟩ := R1.sl.at_ j d hj; ⟨u, q1, q2.kext kx⟩⟩
    exact S.set (d := .cell c1.length) ⟨a, rfl, ka⟩
  · rw [List.drop_append_of_le_length hpre] at hb
    rcases List.mem_append.mp hb with hb | hb
    · exact R1.new b hb
    · simp at hb; subst hb; exact R.ext.dom b h4
theorem ss_setC {i : Nat} {pos' : Pos} (hN : X.N.Nodup) (hi : X.N[i]? = some x) (hx : Loc X.env.scope x) (hf : X.fn x = true ∨ X.env.scope.names.lookup x = some .local) (he : SE X n e we)
    (hs : swapsWith e (some (.Name x pos')) pos.line X.env = pure false) : SSt X n (.Assign [.Name x pos'] e pos) fun P σ c => we σ c fun d c1 => ∃ xs, d = .own xs ∧ P.nx (σ.set i (some (.cell c1.length))) (c1 ++ [.lst xs]) := by
  refine (ps_set hN hi hx he hs hf).imp fun D σ H ⟨F, κ, c, σa, P, R, h, p⟩ => ?_
  refine ⟨F, κ, c, σa, _, R, h, fun d c1 v H1 F1 p1 e1 g1 r1 => ?_⟩
  obtain ⟨xs, rfl, p1⟩ := p1
  obtain ⟨κ', R'⟩ := rel_cell (i := i) R e1 g1 r1
  exact p.nx _ _ _ _ _ _ R' p1
/-- a += b, tuples -/
theorem noI_tup : typeLookup (.type "tuple") (dunderI "add") = pure none := by
  rw [typeLookup_type, builtinLookup_eq_fast]
  kernel_rfl
theorem iop_catA : OpR X (inplaceOp .Add) (rCatA X.K) := by
  rintro pins s σ H x y v u Q I rx ry ⟨a, b, xs, ys, rfl, rfl, isA, isB, small, q0, q1, q2⟩
  cases rx
  cases ry
  obtain ⟨us, rA, pA, _⟩ := I.tuple isA
  obtain ⟨ws, rB, pB, _⟩ := I.tuple isB
  obtain ⟨⟨k1, d1, e1, s1⟩, o1, z1, n1, w1⟩ := id pA
  obtain ⟨⟨k2, d2, e2, s2⟩, o2, z2, n2, w2⟩ := id pB
  simp only at z1 w1 z2 w2
  subst z1 w1 z2 w2
  refine inplaceOp_concat ⟨_, o1, rfl⟩ ⟨_, o2, rfl⟩ noI_tup noFill_tuple_add seq_tuple_add ?_
  have sl := PySem.F.slot_tuple_add
  have en := PySem.F.entry_tuple_add
  by_cases hx : us = []
  · exact call_meets sl ⟨_, o1, rfl⟩ en (PySem.F.args_tuple_add_2 _ _) (tuple_addW0 a b us.toArray ws.toArray n1 n2 d1 d2 s1 s2 (by simp [hx])) ⟨o1, o2, .ref b, H, I, rfl, q0 (rA.nil_iff.mp hx)⟩
  · have hx' := fun z => hx (rA.nil_iff.mpr z)
    by_cases hy : ws = []
    · exact call_meets sl ⟨_, o1, rfl⟩ en (PySem.F.args_tuple_add_2 _ _) (tuple_addW1 a b us.toArray ws.toArray n1 n2 d1 d2 s1 s2 (by simpa using hx) (by simp [hy])) ⟨o1, o2, .ref a, H, I, rfl, q1 hx' (rB.nil_iff.mp hy)⟩
    · have hy' := fun z => hy (rB.nil_iff.mpr z)
      have hz : us.length + ws.length ≤ sizeLine := by rw [← rA.length, ← rB.length]; exact small
      refine call_meets sl ⟨_, o1, rfl⟩ en (PySem.F.args_tuple_add_2 _ _) (tuple_addW2 a b us.toArray ws.toArray n1 n2 d1 d2 s1 s2 (by simpa using hx) (by simpa using hy) (by rw [List.size_toArray, List.size_toArray]; exact hz)) ⟨o1, o2, .ref s.heap.objs.size, _, I.laid (t' := s.toks) (o := .tup (xs ++ ys)) (fun _ _ q => Heap.get?_push_of_some _ q) (Nat.le_refl _) ?_, rfl, q2 hx' hy' _ (I.hok.fresh (Nat.le_refl _))⟩
      rw [show us.toArray ++ ws.toArray = (us ++ ws).toArray by simp]
      exact ⟨by rw [List.length_append]; exact small, _, rA.append rB, IsTup.new _ _⟩
def augR (K : PySem.W.Frag) (op : Operator) : R2 := match op with
  | .Add => fun x y H Q => rI0 (fun i j => .int (i + j)) x y H Q ∨ rCatA K x y H Q ∨ (∃ i j, x = .str i ∧ y = .str j ∧ i.length + j.length ≤ sizeLine ∧ Q (.str (i ++ j)) H)
  | .Sub => rI0 fun i j => .int (i - j)
  | .Mult => rI CMul fun i j => .int (i * j)
  | .Mod => rI (fun _ j => 0 < j) fun i j => .int (i % j)
  | .FloorDiv => rI CDiv fun i j => .int (i / j)
  | _ => fun _ _ _ _ => False
theorem aug_all : ∀ op, PIp X op (augR X.K op)
  | .Add => OpR.or iop_add (OpR.or iop_catA iop_add_str)
  | .Sub => iop_sub
  | .Mult => iop_mul
  | .Mod => iop_mod
  | .FloorDiv => iop_fdiv
  | .Pow | .MatMult | .Div | .LShift | .RShift | .BitOr | .BitXor | .BitAnd => fun _ _ _ _ _ _ _ _ _ _ _ _ h => h.elim
theorem ss_aug {i : Nat} {op : Operator} {pos' : Pos} (hN : X.N.Nodup) (hi : X.N[i]? = some x) (hx : Loc X.env.scope x) (hf : X.fn x = true ∨ X.env.scope.names.lookup x = some .local) (he : SE X n e we) :
    SSt X n (.AugAssign (.Name x pos') op e pos) fun P σ c => ∃ x, σ[i]? = some (some x) ∧ we σ c fun y c1 => augK op x y fun z => P.nx (σ.set i (some z)) c1 := by
  refine (ps_aug hN hi hx he (aug_all op) hf).imp fun D σ H ⟨F, κ, c, σa, P, R, ⟨x0, hx0, h⟩, p⟩ => ?_
  obtain ⟨v0, hv0, r0⟩ := R.sl.at_ i x0 hx0
  refine ⟨v0, hv0, F, κ, c, σa, _, R, h, fun y c1 v H1 F1 p1 e1 g1 r1 => ?_⟩
  have R1 := R.step e1 g1
  have fin : ∀ z vz, P.nx (σa.set i (some z)) c1 → Rep1 X.K X.mg F1 κ z vz → D.nx (σ.set i (some vz)) H1 := fun z vz q r => p.nx _ _ _ _ _ _ (R1.set r) q
  unfold augK at p1
  split at p1
  · rename_i i0 j0
    rw [inv_int r1]
    have : v0 = .int i0 := by simpa only [Rep1, RepD] using r0
    subst this
    cases op <;> simp only at p1
    · exact .inl ⟨_, _, rfl, rfl, fin _ _ p1 (by simp only [Rep1, RepD])⟩
    · exact ⟨_, _, rfl, rfl, fin _ _ p1 (by simp only [Rep1, RepD])⟩
    · exact ⟨_, _, rfl, rfl, p1.1, fin _ _ p1.2 (by simp only [Rep1, RepD])⟩
    · exact ⟨_, _, rfl, rfl, p1.1, fin _ _ p1.2 (by simp only [Rep1, RepD])⟩
    · exact ⟨_, _, rfl, rfl, p1.1, fin _ _ p1.2 (by simp only [Rep1, RepD])⟩
  · rename_i i0 j0
    rw [inv_str r1]
    have : v0 = .str i0 := by simpa only [Rep1, RepD] using r0
    subst this
    cases op <;> simp only [strK] at p1
    exact .inr (.inr ⟨_, _, rfl, rfl, p1.1, fin _ _ p1.2 (by simp only [Rep1, RepD])⟩)
  · rename_i xs ys
    cases op <;> simp only [tupK] at p1
    obtain ⟨hl, p1⟩ := p1
    obtain ⟨a, vs, rfl, h1, s1⟩ := rep_tup (H0 := H) g1 (RepX.of1 (r0.mono e1.fk) (fun _ => nofun) : RepX X.K X.mg F1 κ H H1 (.tup xs) v0)
    obtain ⟨b, us, rfl, h2, s2⟩ := rep_tup g1 r1
    refine .inr (.inl ⟨a, b, vs, us, rfl, rfl, h1, h2, by rw [← s1.length, ← s2.length]; exact hl, fun z => ?_, fun _ z => ?_, fun _ _ q hq => ?_⟩)
    · have := s1.nil_iff.mp z
      subst this
      exact fin _ _ (by simpa using p1) (by exact r1)
    · have := s2.nil_iff.mp z
      subst this
      exact fin _ _ (by simpa using p1) (r0.mono e1.fk)
    · obtain ⟨e3, g3, r3⟩ := fin_tup g1 hq (s1.append s2)
      exact p.nx _ _ _ _ _ _ ((R1.step e3 g3).set (by exact r3)) p1
  · exact p1.elim
/-- o[i] = e -/
theorem ss_setI {o i : Expr} {wo wi : WE} {tpos : Pos} (he : SE X n e we) (ho : SE X n o wo) (hi : SE X n i wi) (hni : noSlice i = true) (hs : swapsWithSole [.Subscript o i tpos] e pos.line X.env = pure false) :
    SSt X n (.Assign [.Subscript o i tpos] e pos) fun P σ c => we σ c fun v c1 => wo σ c1 fun x c2 => wi σ c2 fun y c3 => ∃ m xs k j, x = .cell m ∧ c3[m]? = some (.lst xs) ∧ y = .int k ∧ L2.ixN xs.length k = some j ∧ stK v fun d => P.nx σ (c3.set m (.lst (xs.set j d))) := by
  refine (ps_asg he (pg_sub ho hi set_list (by intro v; cases i <;> first | rfl | cases hni)) hs rfl rfl).imp fun D σ H ⟨F, κ, c, σa, P, R, h, p⟩ => ?_
  refine ⟨F, κ, c, σa, _, R, h, fun d c1 v H1 F1 p1 e1 g1 r1 => ?_⟩
  obtain ⟨F2, R2, r2⟩ := kept_rel R e1 g1 r1
  refine ⟨F2, κ, c1, σa, _, R2, p1, fun x c2 vx H3 F3 p3 e3 g3 r3 => ?_⟩
  refine ⟨F3, κ, c2, σa, _, R2.step e3 g3, p3, fun y c3 vy H4 F4 p4 e4 g4 r4 => ?_⟩
  obtain ⟨m, xs, k, j, rfl, hc, rfl, hj, hcell, p4⟩ := p4
  simp only [RepX, Rep1] at r3
  obtain ⟨a, rfl, hk⟩ := r3
  rw [inv_int r4]
  obtain ⟨_, us, hu, ru⟩ := g4.cell m a _ hk hc
  have hfz : d.fz.isCell = false := by cases d <;> first | exact hcell | rfl
  obtain ⟨e5, g5⟩ := cell_write g4 hk hc (ru.set (i := j) (((r2.mono e3.fk).mono e4.fk).toD hfz))
  refine ⟨a, us, k, j, rfl, rfl, hu, by rw [← ru.length]; exact hj, ?_⟩
  exact p.nx _ _ _ _ _ _ (((R2.step e3 g3).step e4 g4).step e5 g5) p4
/-- the item of a list, by values -/
theorem get_list : PGet X (rIxL X.K) := by
  intro pins s σ H x y v u Q I rx ry h
  obtain ⟨p, xs, i, z, rfl, rfl, hq, he, q⟩ := h
  cases rx
  obtain ⟨t, rfl⟩ := ry
  obtain ⟨its, r, pl, hz⟩ := I.list hq
  obtain ⟨j, h1, h2, h3, h4, h5⟩ := atI_get he
  obtain ⟨w, ew, rw'⟩ := r.get h2
  have hl := r.length
  have hn := line63
  have fin : EP X pins σ Q w s := ⟨z, H, I, rw', q⟩
  by_cases h0 : 0 ≤ i
  · have hj : i.toNat = j := by
      rw [seqIndex_of h0 h5] at h1
      exact Option.some.inj h1
    exact wpAny_getItem_list pl.isList h0 (by omega) (by rw [hj]; simpa using ew) fin
  · have hj : (i + (its.toArray.size : Int)).toNat = j := by
      rw [seqIndex_neg (by omega) h4] at h1
      rw [List.size_toArray, ← hl]
      exact Option.some.inj h1
    exact wpAny_getItem_list_neg pl.isList (by omega) (by rw [List.size_toArray] <;> omega) (by omega) (by rw [hj]; simpa using ew) fin
/-- o[i] += e -/
theorem ss_augI {o i : Expr} {wo wi : WE} {tpos : Pos} (ho : SE X n o wo) (hi : SE X n i wi) (he : SE X n e we) (hni : noSlice i = true) :
    SSt X n (.AugAssign (.Subscript o i tpos) .Add e pos) fun P σ c => wo σ c fun x c1 => wi σ c1 fun y c2 => ∃ m xs k a, Operator.Add = .Add ∧ x = .cell m ∧ c2[m]? = some (.lst xs) ∧ y = .int k ∧ L2.atI xs k = some (.int a) ∧ we σ c2 fun z c3 => ∃ b ys j, z = .int b ∧ c3[m]? = some (.lst ys) ∧ L2.ixN ys.length k = some j ∧ P.nx σ (c3.set m (.lst (ys.set j (.int (a + b))))) := by
  refine (ps_augS ho hi get_list he ip_add set_list (by intro _ _ _; cases i <;> first | rfl | cases hni)).imp fun D σ H ⟨F, κ, c, σa, P, R, h, p⟩ => ?_
  refine ⟨F, κ, c, σa, _, R, h, fun x c1 vx H1 F1 p1 e1 g1 r1 => ?_⟩
  refine ⟨F1, κ, c1, σa, _, R.step e1 g1, p1, fun y c2 vy H2 F2 p2 e2 g2 r2 => ?_⟩
  obtain ⟨m, xs, k, a, _, rfl, hc, rfl, ha, p2⟩ := p2
  simp only [RepX, Rep1] at r1
  obtain ⟨ad, rfl, hk⟩ := r1
  rw [inv_int r2]
  obtain ⟨_, us, hu, ru⟩ := g2.cell m ad _ hk hc
  obtain ⟨va, h4, h5⟩ := atI_rep ru ha
  refine ⟨ad, us, k, va, rfl, rfl, SqL.of hu, h4, ?_⟩
  have hva : va = .int a := by simpa only [RepD] using h5
  subst hva
  refine ⟨F2, κ, c2, σa, _, (R.step e1 g1).step e2 g2, p2, fun z c3 vz H3 F3 p3 e3 g3 r3 => ?_⟩
  obtain ⟨b, ys, j, rfl, hc3, hj, p3⟩ := p3
  rw [inv_int r3]
  refine ⟨a, b, rfl, rfl, ?_⟩
  obtain ⟨_, us3, hu3, ru3⟩ := g3.cell m ad _ hk hc3
  have rv : RepD X.K X.mg F3 (.int (a + b)) (.int (a + b)) := by simp only [RepD]
  obtain ⟨e5, g5⟩ := cell_write g3 hk hc3 (ru3.set (i := j) rv)
  refine ⟨ad, us3, k, j, rfl, rfl, hu3, by rw [← ru3.length]; exact hj, ?_⟩
  exact p.nx _ _ _ _ _ _ ((((R.step e1 g1).step e2 g2).step e3 g3).step e5 g5) p3
theorem ss_if {sb : List Stmt} (hc : ST X n a wt) (h1 : SSs X n sts w1) (h2 : SSs X n sb w2) : SSt X n (.If a sts sb pos) fun P σ c => wt σ c fun k c1 => if k = true then w1 P σ c1 else w2 P σ c1 := by
  refine (ps_if hc h1 h2).imp fun D σ H ⟨F, κ, c, σa, P, R, h, p⟩ => ?_
  refine ⟨F, κ, c, σa, _, R, h, fun k c1 H1 F1 p1 e1 g1 => ?_⟩
  cases k with
  | true => exact ⟨F1, κ, c1, σa, P, R.step e1 g1, p1, p⟩
  | false => exact ⟨F1, κ, c1, σa, P, R.step e1 g1, p1, p⟩
theorem ss_ret (he : SE X n e we) : SSt X n (.Return (some e) pos) fun P σ c => we σ c P.rt := by
  refine (ps_ret he).imp fun D σ H ⟨F, κ, c, σa, P, R, h, p⟩ => ?_
  refine ⟨F, κ, c, σa, _, R, h, fun d c1 v H1 F1 p1 e1 g1 r1 => ?_⟩
  exact p.rt _ _ _ _ _ _ _ _ (R.step e1 g1) (r1.start R.ext.dom) p1
theorem ss_retN : SSt X n (.Return none pos) fun P σ c => P.rt .non c :=
  ps_retN.imp fun D σ H ⟨F, κ, c, σa, P, R, h, p⟩ => p.rt _ _ _ _ _ _ _ _ R rep_non h
theorem ss_expr (he : SE X n e we) (hs : swapsWith e none pos.line X.env = pure false) : SSt X n (.Expr e pos) fun P σ c => we σ c fun _ c1 => P.nx σ c1 := by
  refine (ps_expr he hs).imp fun D σ H ⟨F, κ, c, σa, P, R, h, p⟩ => ?_
  exact ⟨F, κ, c, σa, _, R, h, fun d c1 v H1 F1 p1 e1 g1 r1 => p.nx _ _ _ _ _ _ (R.step e1 g1) p1⟩
theorem ss_brk : SSt X n (.Break pos) fun P σ c => P.bk σ c := ps_break.imp fun D σ H ⟨F, κ, c, σa, P, R, h, p⟩ => p.bk _ _ _ _ _ _ R h
theorem ss_cnt : SSt X n (.Continue pos) fun P σ c => P.ct σ c := ps_continue.imp fun D σ H ⟨F, κ, c, σa, P, R, h, p⟩ => p.ct _ _ _ _ _ _ R h
theorem ss_pas : SSt X n (.Pass pos) fun P σ c => P.nx σ c := ps_pass.imp fun D σ H ⟨F, κ, c, σa, P, R, h, p⟩ => p.nx _ _ _ _ _ _ R h
end
end Ev

/-! # Ev10: loops, pairs of stores, errors, a comprehension stored, defs -/
namespace Ev
open PySem PySem.Spec PyProof.Rows L2
section
variable {K : PySem.W.Frag} {mg : Str → Option Value} {F F' H0 H H' : Hp} {κ κ' : List Addr} {c : Cells} {d : D} {v : V} {σa : Sl} {σ : L2.St} {n n1 : En}
/-- n1 stands within n -/
structure Base (n n1 : En) : Prop where
  ext : Ext n.κ n.H n.F n1.H n1.F
  pre : n1.κ.take n.κ.length = n.κ
  new : ∀ a ∈ n1.κ.drop n.κ.length, n.H a = none
theorem Rel.base (R : Rel K mg n F κ c H σa σ) : Base n ⟨F, κ, H⟩ := ⟨R.ext, R.pre, R.new⟩
theorem Rel.self (R : Rel K mg n F κ c H σa σ) : Rel K mg ⟨F, κ, H⟩ F κ c H σa σ :=
  ⟨R.g, R.sl, .refl, by simp, fun a ha => by simp at ha⟩
theorem Base.rel (b : Base n n1) (R : Rel K mg n1 F κ c H σa σ) : Rel K mg n F κ c H σa σ := by
  have hl : n.κ.length ≤ n1.κ.length := by have := congrArg List.length b.pre; rw [List.length_take] at this; omega
  have hl1 : n1.κ.length ≤ κ.length := by have := congrArg List.length R.pre; rw [List.length_take] at this; omega
  have ni : ∀ a o, n.H a = some o → a ∉ n.κ → a ∉ n1.κ := fun a o e hn hk => by
    rw [← List.take_append_drop n.κ.length n1.κ, b.pre] at hk
    rcases List.mem_append.mp hk with z | z
    · exact hn z
    · rw [b.new a z] at e; cases e
  refine ⟨R.g, R.sl, ⟨fun a o e hn => R.ext.keep a o (b.ext.keep a o e hn) (ni a o e hn), fun a o e => R.ext.fk a o (b.ext.fk a o e), fun a vs hn e f => R.ext.fr a vs (ni a _ e hn) (b.ext.keep a _ e hn) (b.ext.fr a vs hn e f), fun a e => b.ext.dom a (R.ext.dom a e)⟩, ?_, fun a ha => ?_⟩
  · have q := congrArg (List.take n.κ.length) R.pre
    rw [List.take_take, Nat.min_eq_left hl] at q
    rw [q]; exact b.pre
  · have hk : κ = n1.κ ++ κ.drop n1.κ.length := by conv => lhs; rw [← List.take_append_drop n1.κ.length κ, R.pre]
    rw [hk, List.drop_append_of_le_length hl] at ha
    rcases List.mem_append.mp ha with z | z
    · exact b.new a z
    · exact b.ext.dom a (R.new a z)
theorem Base.refl : Base n n := ⟨.refl, by simp, fun a ha => by simp at ha⟩
theorem Base.wX {X : Cx} {W : XW} (b : Base n n1) : ∀ cls d σ H, wX X n1 W cls d σ H → wX X n W cls d σ H := fun cls d σ H ⟨F, κ, c, σa, x, C, R, h⟩ => ⟨F, κ, c, σa, x, C, b.rel R, h⟩
theorem Base.post {X : Cx} {P : Ev.DE} {D : Ends} (b : Base n n1) (p : Post X n P D) : Post X n1 P D :=
  ⟨fun F κ c H σa σ R => p.nx F κ c H σa σ (b.rel R), fun F κ c H σa σ R => p.bk F κ c H σa σ (b.rel R), fun F κ c H σa σ R => p.ct F κ c H σa σ (b.rel R), fun F κ c H σa σ d v R r => p.rt F κ c H σa σ d v (b.rel R) (r.start b.ext.dom)⟩
end
section
variable {X : Cx} {n : En} {st : Stmt} {sts : List Stmt} {w1 w2 : WS} {e a b tg it : Expr} {we wa wb : WE} {wt : WT} {wi : WIt} {pos : Pos} {x : Str} {t : Tg}
variable {K : PySem.W.Frag} {mg : Str → Option Value} {F F' H0 H H' : Hp} {κ κ' : List Addr} {c : Cells} {d : D} {v : V} {σa : Sl} {σ : L2.St}
/-- the body of a loop, wherever the loop begins; the number of cells there is told -/
def SBody (X : Cx) (n : En) (sts : List Stmt) (w : Nat → WS) : Prop := ∀ n1, Base n n1 → SSs X n1 sts (w n1.κ.length)
def tBody (X : Cx) (n : En) (w : Nat → WS) : TS := fun D σ H => ∃ n1, Base n n1 ∧ tSS X n1 (w n1.κ.length) D σ H
theorem body_of {w : Nat → WS} (h : SBody X n sts w) : PSs X sts (tBody X n w) :=
  ⟨fun pins s σ H D I ⟨n1, b, q⟩ => (h n1 b).run pins s σ H D I q⟩
theorem ss_for {w : Nat → WS} (hp : PassesOwn (model X.prog X.w) X.A X.env X.xe) (hc : X.calm = true) (hi : SI X n tg it wi) (hg : ∀ n1, Base n n1 → STg X n1 tg t) (hb : SBody X n sts w) (hs : ∀ x, foldedSetIterable it X.env x = pure x) :
    SSt X n (.For tg it sts [] pos) fun P σ c => wi σ c fun xs ok c1 => forGo ok t (w c1.length) P xs σ c1 := by
  have hg' : PG X tg (fun v σ H Q => ∃ n1, Base n n1 ∧ tTg X n1 t v σ H Q) := ⟨fun pins s σ H v u Q I r ⟨n1, b, q⟩ => (hg n1 b).run pins s σ H v u Q I r q⟩
  refine (ps_for hp hc hi hg' (body_of hb) hs).imp fun D σ H ⟨F, κ, c, σa, P, R, h, p⟩ => ?_
  refine ⟨F, κ, c, σa, _, R, h, fun xs okp c1 J H1 F1 p1 e1 g1 itk => ?_⟩
  have R1 := R.step e1 g1
  let n1 : En := ⟨F1, κ, H1⟩
  have b1 : Base n n1 := R1.base
  have hlen : κ.length = c1.length := g1.len
  let Wd : Nat → L2.St → Hp → Prop := fun i σ' H' => i ≤ xs.length ∧ ∃ F' κ' c' σa', Rel X.K X.mg n1 F' κ' c' H' σa' σ' ∧ forGo okp t (w c1.length) P (xs.drop i) σa' c'
  refine ⟨fun i m σ' H' => m = xs.length - i ∧ Wd i σ' H', ⟨_, rfl, Nat.zero_le _, F1, κ, c1, σa, R1.self, p1⟩, ?_⟩
  rintro i m σ' H' ⟨rfl, hi, F', κ', c', σa', R', hgo⟩
  have kx : KExt κ κ' := fun m a hm => by
    have hm' : m < κ.length := (List.getElem?_eq_some_iff.mp hm).1
    have pre : κ'.take κ.length = κ := R'.pre
    rw [← pre, List.getElem?_take_of_lt hm'] at hm
    exact hm
  by_cases hlt : i < xs.length
  · rw [List.drop_eq_getElem_cons hlt] at hgo
    obtain ⟨hok, hgo⟩ := hgo
    obtain ⟨hgo1, hyld⟩ := (itk F' κ' c' H' R'.ext.fk kx R'.g hok i).2 hlt
    refine .inr ⟨hgo1, Wd (i + 1), fun σ2 H2 q => ⟨_, by omega, rfl, q⟩, fun y H2 hy => ?_⟩
    obtain ⟨d, F3, hd, e3, g3, r3⟩ := hyld y H2 hy
    rw [List.getElem?_eq_getElem hlt] at hd
    cases hd
    have R3 := R'.step e3 g3
    refine ⟨n1, b1, F3, κ', c', σa', xs[i], _, R3, .ofD r3, hgo, fun σ2 σ3 R4 h4 _ => ?_⟩
    refine ⟨n1, b1, F3, κ', c', σ2, _, R4, by rw [show n1.κ.length = c1.length from hlen]; exact h4, ?_⟩
    exact ⟨fun F κ c H σa σ R h => ⟨hlt, F, κ, c, σa, R, h⟩, fun F κ c H σa σ R h => p.nx _ _ _ _ _ _ (b1.rel R) h, fun F κ c H σa σ R h => ⟨hlt, F, κ, c, σa, R, h⟩, fun F κ c H σa σ d v R r => p.rt _ _ _ _ _ _ _ _ (b1.rel R) (r.start b1.ext.dom)⟩
  · have hie : i = xs.length := by omega
    subst hie
    rw [List.drop_length] at hgo
    exact .inl ⟨(itk F' κ' c' H' R'.ext.fk kx R'.g hgo.1 _).1 (Nat.le_refl _), p.nx _ _ _ _ _ _ (b1.rel R') hgo.2⟩
theorem ss_whl {w : Nat → WS} (hp : PassesOwn (model X.prog X.w) X.A X.env X.xe) (hc : ∀ n1, Base n n1 → ST X n1 a wt) (hb : SBody X n sts w) :
    SSt X n (.While a sts [] pos) fun P σ c => ∃ m, whlGo wt (w c.length) P m σ c := by
  have hc' : PT X a (fun σ H Q => ∃ n1, Base n n1 ∧ tTst X n1 wt σ H Q) := ⟨fun pins s σ H Q I ⟨n1, b, q⟩ => (hc n1 b).run pins s σ H Q I q⟩
  refine (ps_while hp hc' (body_of hb)).imp fun D σ H ⟨F, κ, c, σa, P, R, ⟨m0, h⟩, p⟩ => ?_
  let n1 : En := ⟨F, κ, H⟩
  have b1 : Base n n1 := R.base
  have hlen : κ.length = c.length := R.g.len
  refine ⟨fun m σ' H' => ∃ F' κ' c' σa', Rel X.K X.mg n1 F' κ' c' H' σa' σ' ∧ whlGo wt (w c.length) P m σa' c', ⟨m0, F, κ, c, σa, R.self, h⟩, ?_⟩
  rintro m σ' H' ⟨F', κ', c', σa', R', hgo⟩
  cases m with
  | zero => exact hgo.elim
  | succ m =>
    refine ⟨n1, b1, F', κ', c', σa', _, R', hgo, fun k c2 H2 F2 p2 e2 g2 => ?_⟩
    have R2 := R'.step e2 g2
    cases k with
    | true =>
      refine ⟨fun σ' H' => ∃ F' κ' c' σa', Rel X.K X.mg n1 F' κ' c' H' σa' σ' ∧ whlGo wt (w c.length) P m σa' c', fun σ' H' q => ⟨m, Nat.lt_succ_self _, q⟩, n1, b1, F2, κ', c2, σa', _, R2, by rw [show n1.κ.length = c.length from hlen]; exact p2, ?_⟩
      exact ⟨fun F κ c H σa σ R h => ⟨F, κ, c, σa, R, h⟩, fun F κ c H σa σ R h => p.nx _ _ _ _ _ _ (b1.rel R) h, fun F κ c H σa σ R h => ⟨F, κ, c, σa, R, h⟩, fun F κ c H σa σ d v R r => p.rt _ _ _ _ _ _ _ _ (b1.rel R) (r.start b1.ext.dom)⟩
    | false => exact p.nx _ _ _ _ _ _ (b1.rel R2) p2
/-- a, b = x, y stored one by one -/
theorem ss_par2 {i j : Nat} {y : Str} {a b : Expr} {px py pt : Pos} {kt k2 : Nat} {pt2 : Pos} {wl : WL} (hc : X.calm = true) (hN : X.N.Nodup) (hi : X.N[i]? = some x) (hj : X.N[j]? = some y) (hij : i ≠ j)
    (hx : X.env.scope.names.lookup x = some .local) (hy : X.env.scope.names.lookup y = some .local) (ha : SLs X n [a, b] wl)
    (hw : swappedStores [.Tuple [.Name x px, .Name y py] kt pt] (.Tuple [a, b] k2 pt2) X.env = pure (some [x, y])) :
    SSt X n (.Assign [.Tuple [.Name x px, .Name y py] kt pt] (.Tuple [a, b] k2 pt2) pos) fun P σ c => wl σ c fun ds c1 => ds.length = 2 ∧ P.nx (([i, j].zip ds).foldl (fun σ p => σ.set p.1 (some p.2)) σ) c1 := by
  refine (ps_par hc hN hi hj hij hx hy ha hw rfl).imp fun D σ H ⟨F, κ, c, σa, P, R, h, p⟩ => ?_
  refine ⟨F, κ, c, σa, _, R, h, fun ds c1 vs H1 F1 p1 e1 g1 r1 => ?_⟩
  match ds, p1, r1 with
  | [d1, d2], ⟨_, p1⟩, r1 =>
    obtain ⟨v1, us, rfl, q1, r2⟩ := r1.inv
    obtain ⟨v2, us, rfl, q2, r3⟩ := r2.inv
    simp only [RepDs] at r3; subst r3
    exact ⟨v1, v2, rfl, p.nx _ _ _ _ _ _ (((R.step e1 g1).set (.ofD q1)).set (.ofD q2)) p1⟩
theorem ss_par3 {i j l : Nat} {y z : Str} {a b e : Expr} {px py pz pt : Pos} {kt k2 : Nat} {pt2 : Pos} {wl : WL} (hc : X.calm = true) (hN : X.N.Nodup) (hi : X.N[i]? = some x) (hj : X.N[j]? = some y) (hl : X.N[l]? = some z) (hij : i ≠ j) (hil : i ≠ l) (hjl : j ≠ l)
    (hx : X.env.scope.names.lookup x = some .local) (hy : X.env.scope.names.lookup y = some .local) (hz : X.env.scope.names.lookup z = some .local) (ha : SLs X n [a, b, e] wl)
    (hw : swappedStores [.Tuple [.Name x px, .Name y py, .Name z pz] kt pt] (.Tuple [a, b, e] k2 pt2) X.env = pure (some [x, y, z])) :
    SSt X n (.Assign [.Tuple [.Name x px, .Name y py, .Name z pz] kt pt] (.Tuple [a, b, e] k2 pt2) pos) fun P σ c => wl σ c fun ds c1 => ds.length = 3 ∧ P.nx (([i, j, l].zip ds).foldl (fun σ p => σ.set p.1 (some p.2)) σ) c1 := by
  refine (ps_par3 hc hN hi hj hl hij hil hjl hx hy hz ha hw rfl).imp fun D σ H ⟨F, κ, c, σa, P, R, h, p⟩ => ?_
  refine ⟨F, κ, c, σa, _, R, h, fun ds c1 vs H1 F1 p1 e1 g1 r1 => ?_⟩
  match ds, p1, r1 with
  | [d1, d2, d3], ⟨_, p1⟩, r1 =>
    obtain ⟨v1, us, rfl, q1, r2⟩ := r1.inv
    obtain ⟨v2, us, rfl, q2, r3⟩ := r2.inv
    obtain ⟨v3, us, rfl, q3, r4⟩ := r3.inv
    simp only [RepDs] at r4; subst r4
    exact ⟨v1, v2, v3, rfl, p.nx _ _ _ _ _ _ ((((R.step e1 g1).set (.ofD q1)).set (.ofD q2)).set (.ofD q3)) p1⟩
/-- what a class of the text must have to be raised with a text -/
structure ExcOk (X : Cx) (x : Str) : Prop where
  ex : ∃ C, X.mg x = some (.ref C) ∧ PySem.W.excIn X.K C [.type "ValueError", .type "Exception", .type "BaseException", .type "object"] "ValueError.__new__" = true ∧ PySem.W.keepIn X.K (.ref C) = true ∧ Raises X (.ref C)
theorem ss_raise {W : XW} {m : Str} {k : Nat} {p p2 p3 : Pos} (hc : X.calm = true) (tk : Takes X (wX X n W)) (hx : ExcOk X x) (hg : Gl X x) (hdb : (x == ("__debug__" : Str)) = false) :
    SSt X n (.Raise (some (.Call (.Name x p) [.Constant (.str m) k p2] [] p3)) none pos) fun P σ c => W x σ c := by
  obtain ⟨C, h1, h2, h3, h4⟩ := hx.ex
  refine (ps_raise hc tk (pmk_own PySem.F.excBase_ValueError h2 h1 h3 h4 hg hdb)).imp fun D σ H ⟨F, κ, c, σa, P, R, h, p⟩ => ?_
  exact ⟨F, κ, c, σa, x, C, R, h, h1, rfl, rfl⟩
/-- name = [..] in one row, a plain local: kept, or as a cell -/
theorem ss_setLc {i : Nat} {py : Pos} {elt : Expr} {ifs : List Expr} {scope : Scope} {own : List (Str × Nat)} {spos : Pos} {tt : WT} {te : WE} (hc : X.calm = true) (hN : X.N.Nodup) (hy : X.N[i]? = some x) (hyl : X.env.scope.names.lookup x = some .local)
    (hsw : swapsWith (.ListComp elt [⟨tg, it, ifs, 0⟩] scope pos) (some (.Name x py)) spos.line X.env = pure true) (hi : SI X n tg it wi) (ok : BlkOk X.N X.env.scope scope own) (hown : tgIn (own.map (·.2)) t = true)
    (hg : ∀ (s : Shared) (H : Hp) (C : Addr) (cl : List (Str × Addr)) (fp : List Addr), STg (X.blk s H scope (compEnvC scope cl C X.env) fp) n tg t)
    (ht : ∀ (s : Shared) (H : Hp) (C : Addr) (cl : List (Str × Addr)) (fp : List Addr), SC (X.blk s H scope (compEnvC scope cl C X.env) fp) n ifs tt)
    (he : ∀ (s : Shared) (H : Hp) (C : Addr) (cl : List (Str × Addr)) (fp : List Addr), SE (X.blk s H scope (compEnvC scope cl C X.env) fp) n elt te)
    (hs : ∀ x, foldedSetIterable it X.env x = pure x) (cel : Bool) :
    SSt X n (.Assign [.Name x py] (.ListComp elt [⟨tg, it, ifs, 0⟩] scope pos) spos) fun P σ c => wi σ c fun xs ok c1 => xs.length ≤ sizeLine ∧ lcGo ok (lcTurn t tt te (wipeD σ (own.map (·.2)))) xs c1 fun ys c2 =>
      if cel = true then P.nx (σ.set i (some (.cell c2.length))) (c2 ++ [.lst ys]) else P.nx (σ.set i (some (.lst ys))) c2 := by
  refine (ps_setLc (g := tTg X n t) (tt := tTst X n tt) (te := tS X n te) hc hN hy hyl hsw hi ok (fun s H C cl fp => hg s H C cl fp) (fun s H C cl fp => ht s H C cl fp) (fun s H C cl fp => he s H C cl fp) hs).imp fun D σ H ⟨F, κ, c, σa, P, R, h, p⟩ => ?_
  refine lc_read own hown σ H _ ⟨F, κ, c, σa, fun d c2 => ∃ ys, d = .own ys ∧ if cel = true then P.nx (σa.set i (some (.cell c2.length))) (c2 ++ [.lst ys]) else P.nx (σa.set i (some (.lst ys))) c2, R, ?_, fun d c1 v H1 F1 p1 e1 g1 r1 => ?_⟩
  · simpa using h
  · obtain ⟨ys, rfl, q⟩ := p1
    cases cel with
    | true =>
      obtain ⟨κ', R'⟩ := rel_cell (i := i) R e1 g1 r1
      exact p.nx _ _ _ _ _ _ R' q
    | false =>
      obtain ⟨F2, R2, r2⟩ := kept_rel R e1 g1 r1
      exact p.nx _ _ _ _ _ _ (R2.set r2) q
end
end Ev

/-! # Ev10b: zip; slices with a step -/
namespace Ev
open PySem PySem.Spec PyProof.Rows L2
section
variable {K : PySem.W.Frag} {mg : Str → Option Value} {F F' H0 H H' : Hp} {κ κ' : List Addr} {c : Cells} {d : D} {v : V}
theorem zipL_get {xs ys : List D} {i : Nat} {x y : D} (h1 : xs[i]? = some x) (h2 : ys[i]? = some y) : (zipL xs ys)[i]? = some (.tup [x, y]) := by
  unfold zipL
  rw [List.getElem?_zipWith, h1, h2]
theorem zipL_len {xs ys : List D} : (zipL xs ys).length = min xs.length ys.length := by simp [zipL]
theorem it_zipL {xs ys : List D} {a b : Addr} {ok : Cells → Prop} (l1 : ∀ (F' : Hp) (κ' : List Addr) (c' : Cells) (H' : Hp), Sub F F' → KExt κ κ' → GOk K mg F' κ' c' H' → ok c' → ∃ us, SqL K H' a us ∧ RepDs K mg F' xs us)
    (l2 : ∀ (F' : Hp) (κ' : List Addr) (c' : Cells) (H' : Hp), Sub F F' → KExt κ κ' → GOk K mg F' κ' c' H' → ok c' → ∃ us, SqL K H' b us ∧ RepDs K mg F' ys us) : ItOk K mg F κ (Itz K a b) (zipL xs ys) ok := by
  intro F' κ' c' H' s' k' g' hok i
  rw [zipL_len]
  obtain ⟨us, q, r⟩ := l1 F' κ' c' H' s' k' g' hok
  obtain ⟨ws, q', r'⟩ := l2 F' κ' c' H' s' k' g' hok
  have hl := r.length
  have hl' := r'.length
  refine ⟨fun hi => ⟨us, ws, q, q', by omega⟩, fun hi => ⟨?_, fun z H2 ⟨T, x, y, hz, hT, hH, hx, hy⟩ => ?_⟩⟩
  · have h1 : i < us.length := by omega
    have h2 : i < ws.length := by omega
    exact ⟨us, ws, us[i], ws[i], q, q', List.getElem?_eq_getElem h1, List.getElem?_eq_getElem h2⟩
  · subst hz; subst hH
    obtain ⟨d1, h1, h2⟩ := r.get' (hx us q)
    obtain ⟨d2, h3, h4⟩ := r'.get' (hy ws q')
    obtain ⟨F3, e3, g3, r3⟩ := it_pair g' hT h2 h4
    exact ⟨_, F3, zipL_get h1 h3, e3, g3, r3⟩
theorem it_zipT {xs ys : List D} {a b : Addr} {ok : Cells → Prop} (l1 : ∀ (F' : Hp) (κ' : List Addr) (c' : Cells) (H' : Hp), Sub F F' → KExt κ κ' → GOk K mg F' κ' c' H' → ok c' → ∃ us, SqT K H' a us ∧ RepDs K mg F' xs us)
    (l2 : ∀ (F' : Hp) (κ' : List Addr) (c' : Cells) (H' : Hp), Sub F F' → KExt κ κ' → GOk K mg F' κ' c' H' → ok c' → ∃ us, SqT K H' b us ∧ RepDs K mg F' ys us) : ItOk K mg F κ (RZ.ItzT K a b) (zipL xs ys) ok := by
  intro F' κ' c' H' s' k' g' hok i
  rw [zipL_len]
  obtain ⟨us, q, r⟩ := l1 F' κ' c' H' s' k' g' hok
  obtain ⟨ws, q', r'⟩ := l2 F' κ' c' H' s' k' g' hok
  have hl := r.length
  have hl' := r'.length
  refine ⟨fun hi => ⟨us, ws, q, q', by omega⟩, fun hi => ⟨?_, fun z H2 ⟨T, x, y, hz, hT, hH, hx, hy⟩ => ?_⟩⟩
  · have h1 : i < us.length := by omega
    have h2 : i < ws.length := by omega
    exact ⟨us, ws, us[i], ws[i], q, q', List.getElem?_eq_getElem h1, List.getElem?_eq_getElem h2⟩
  · subst hz; subst hH
    obtain ⟨d1, h1, h2⟩ := r.get' (hx us q)
    obtain ⟨d2, h3, h4⟩ := r'.get' (hy ws q')
    obtain ⟨F3, e3, g3, r3⟩ := it_pair g' hT h2 h4
    exact ⟨_, F3, zipL_get h1 h3, e3, g3, r3⟩
end
section
variable {X : Cx} {n : En} {tg a b e : Expr} {wa wb w : WE} {pos p : Pos}
theorem lkS_fz' (c : Cells) {d : D} : d.fz.fz = d.fz := by cases d <;> rfl
theorem isTp_fz {d : D} : isTp d.fz = isTp d := by cases d <;> rfl
theorem tup_kind {K : PySem.W.Frag} {mg : Str → Option Value} {H F2 : Hp} {κ : List Addr} {c : Cells} {d : D} {v : V} {xs : List D} (g2 : GOk K mg F2 κ c H) (r2 : Rep1 K mg F2 κ d.fz v) (hx : lkS c d = some xs) (ht : isTp d = true) :
    (∃ a vs, v = .ref a ∧ SqT K H a vs ∧ RepDs K mg F2 xs vs ∧ ∀ (F' : Hp) (κ' : List Addr) (c' : Cells) (H' : Hp), Sub F2 F' → KExt κ κ' → GOk K mg F' κ' c' H' → lkS c' d = some xs → ∃ us, SqT K H' a us ∧ RepDs K mg F' xs us) := by
  cases d with
  | tup ys =>
    simp only [lkS, Option.some.injEq] at hx
    subst hx
    simp only [D.fz, Rep1, RepD] at r2
    obtain ⟨a, vs, rfl, q, s⟩ := r2
    exact ⟨a, vs, rfl, .of (g2.sub _ _ q), s, fun F' κ' c' H' s' k' g' hok => ⟨vs, .of (g'.sub _ _ (s' _ _ q)), s.mono s'⟩⟩
  | _ => cases ht
theorem lst_kind {K : PySem.W.Frag} {mg : Str → Option Value} {H F2 : Hp} {κ : List Addr} {c : Cells} {d : D} {v : V} {xs : List D} (g2 : GOk K mg F2 κ c H) (r2 : Rep1 K mg F2 κ d.fz v) (hx : lkS c d = some xs) (ht : isTp d = false) :
    (∃ a vs, v = .ref a ∧ SqL K H a vs ∧ RepDs K mg F2 xs vs ∧ ∀ (F' : Hp) (κ' : List Addr) (c' : Cells) (H' : Hp), Sub F2 F' → KExt κ κ' → GOk K mg F' κ' c' H' → lkS c' d = some xs → ∃ us, SqL K H' a us ∧ RepDs K mg F' xs us) := by
  have toR : ∀ c' ys, lkS c' d = some ys → lkR c' d.fz = some ys := fun c' ys h => by cases d <;> first | exact h | cases ht
  obtain ⟨a, vs, rfl, q, s⟩ := rep_lkR g2 (H0 := H) (RepX.of_1 r2) (toR c xs hx)
  refine ⟨a, vs, rfl, q, s, fun F' κ' c' H' s' k' g' hok => ?_⟩
  obtain ⟨a', us, z, q', s3⟩ := rep_lkR g' (H0 := H') (RepX.of_1 ((r2.mono s').kext k')) (toR c' xs hok)
  cases z
  exact ⟨us, q', s3⟩
theorem si_zip {elts : List Expr} {kk : Nat} {tpos : Pos} (hg : Gl X "zip") (hm : X.mg "zip" = none) (hst : noStar a = true) (hst2 : noStar b = true) (ha : SE X n a wa) (hb : SE X n b wb) :
    SI X n (.Tuple elts kk tpos) (.Call (.Name "zip" p) [a, b] [] pos) fun σ c Q => wa σ c fun x c1 => wb σ c1 fun y c2 => zipK x.fz y.fz c2 Q := by
  refine (RZ.pi_zipA hg hm (sa_cons ha (sa_cons hb sa_nil hst2) hst) (star_of hst) (any_of (by simp [hst2]))).imp fun σ H R ⟨F, κ, c, σa, P, hR, hw, hP⟩ => ?_
  refine ⟨F, κ, c, σa, fun ds c' => match ds with | [x, y] => zipK x y c' P | _ => False, hR, hw, fun ds c' vs H' F' hz e1 g1 r1 => ?_⟩
  dsimp only at hz
  split at hz
  · rename_i x y
    obtain ⟨v1, r, rfl, s1, r⟩ := r1
    obtain ⟨v2, r, rfl, s2, r⟩ := r
    cases r
    obtain ⟨xs, ys, h1, h2, h3, q⟩ := hz
    have fx : Rep1 X.K X.mg F' κ x.fz v1 := by cases x <;> first | exact s1 | (simp only [Rep1, RepD] at s1)
    have fy : Rep1 X.K X.mg F' κ y.fz v2 := by cases y <;> first | exact s2 | (simp only [Rep1, RepD] at s2)
    cases ht : isTp x with
    | true =>
      obtain ⟨a', us, rfl, q1, t1, l1⟩ := tup_kind g1 fx h1 ht
      obtain ⟨b', ws, rfl, q2, t2, l2⟩ := tup_kind g1 fy h2 (h3 ▸ ht)
      exact ⟨a', b', us, ws, rfl, .inr ⟨q1, q2, hP _ _ c' _ H' F' q e1 g1 (it_zipT (fun F' κ' c' H' s k g o => l1 F' κ' c' H' s k g o.1) (fun F' κ' c' H' s k g o => l2 F' κ' c' H' s k g o.2))⟩⟩
    | false =>
      obtain ⟨a', us, rfl, q1, t1, l1⟩ := lst_kind g1 fx h1 ht
      obtain ⟨b', ws, rfl, q2, t2, l2⟩ := lst_kind g1 fy h2 (h3 ▸ ht)
      exact ⟨a', b', us, ws, rfl, .inl ⟨q1, q2, hP _ _ c' _ H' F' q e1 g1 (it_zipL (fun F' κ' c' H' s k g o => l1 F' κ' c' H' s k g o.1) (fun F' κ' c' H' s k g o => l2 F' κ' c' H' s k g o.2))⟩⟩
  · exact hz.elim
end
/-! ### slices with a step -/
section
variable {prog : Program} {w : World} {A : Around} {E : Value → Shared → Prop} {s : Shared}
theorem sliceApplied_step {sl : Addr} {vs : Value} {k : Int} {n : Nat} {Q : Int × Int × Nat → Shared → Prop} (hs : s.heap.IsSliceOf sl .none .none vs) (ps : IsPart vs (some k)) (h0 : k ≠ 0)
    (h : Q ((if k < 0 then (n : Int) - 1 else 0), k, Builtin.Slice.slicePlaces (if k < 0 then (n : Int) - 1 else 0) (if k < 0 then -1 else (n : Int)) k) s) : wpAny (model prog w) A (Builtin.Slice.sliceApplied (.ref sl) (pure (n : Int))) Q E s := by
  obtain ⟨os, hos, hcs, hds⟩ := id hs
  unfold Builtin.Slice.sliceApplied Builtin.Slice.sliceFields
  refine wpAny_bind (wpAny_bind (wpAny_field hos hds (x := .none) rfl (wpAny_bind (wpAny_field hos hds (x := .none) rfl (wpAny_bind (wpAny_field hos hds (x := vs) rfl (wpAny_pure ?_)))))))
  refine wpAny_bind (HT.slicePart_ ps ?_)
  show wpAny _ _ (if ((k : Int) == 0) = true then _ else _) _ _ s
  rw [if_neg (by simpa using h0)]
  refine wpAny_bind (PyProof.Rows.slicePart_none (wpAny_bind (PyProof.Rows.slicePart_none (wpAny_bind (wpAny_pure ?_)))))
  have e : Builtin.Slice.sliceAdjust none none k (n : Int) = (if k < 0 then (n : Int) - 1 else 0, if k < 0 then -1 else (n : Int)) := by
    unfold Builtin.Slice.sliceAdjust
    by_cases hk : k < 0 <;> simp [hk]
  show wpAny _ _ (match Builtin.Slice.sliceAdjust none none k (n : Int) with | (lo, hi) => pure (lo, k, Builtin.Slice.slicePlaces lo hi k)) _ _ s
  rw [e]
  exact wpAny_pure h
theorem getItem_tuple_step {t sl : Addr} {items : Array Value} {vs : Value} {k : Int} {Q : Value → Shared → Prop} (ht : IsTup s.heap t items) (hs : s.heap.IsSliceOf sl .none .none vs) (ps : IsPart vs (some k)) (h0 : k ≠ 0) (h1 : k ≠ 1)
    (hle : (stepT items.toList k).length ≤ sizeLine)
    (h : Q (.ref s.heap.objs.size) { s with heap := s.heap.push { cls := .type "tuple", data := .seq (stepT items.toList k).toArray } }) : wpAny (model prog w) A (getItem (.ref t) (.ref sl)) Q E s := by
  have htake : sizeOk (.seq (stepT items.toList k).toArray) := by
    show (stepT items.toList k).toArray.size ≤ sizeLine
    rw [List.size_toArray]
    exact hle
  obtain ⟨os, hos, hcs, hds⟩ := id hs
  have hTs : s.TypeIs (.ref sl) "slice" := ⟨os, hos, hcs⟩
  unfold getItem
  try with_reducible refine wpAny_holding ?_
  first | refine wpAny_bind (wpAny_pure ?_) | skip
  refine wpAny_bind (wpAny_sequenceKey ht.typeIs (by decide) ?_)
  refine wpAny_bind (wpAny_callSpecial?_slot (name := Str.ofString "__getitem__") ht.typeIs PyProof.Rows.slot_tuple_getitem
    (wpAny_call_entry PyProof.Rows.slot_tuple_getitem ht.typeIs entry_tuple_getitem ?_ (args_tuple_getitem _ _)))
  show wpAny _ _ (Builtin.Tuple.tupleItemsOf (.ref t) >>= _) _ _ s
  refine wpAny_bind (tupleItemsOf_ ht ?_)
  refine wpAny_bind (wpAny_typeOf hTs ?_)
  rw [if_pos (by decide)]
  refine wpAny_bind (sliceApplied_step hs ps h0 ?_)
  have e : ((List.range (Builtin.Slice.slicePlaces (if k < 0 then (items.size : Int) - 1 else 0) (if k < 0 then -1 else (items.size : Int)) k)).filterMap fun (i : Nat) => items[((if k < 0 then (items.size : Int) - 1 else 0) + (i : Int) * k).toNat]?) = stepT items.toList k := by
    unfold stepT
    simp only [Array.length_toList, Array.getElem?_toList]
  show wpAny _ _ (if ((if k < 0 then (items.size : Int) - 1 else 0) == 0 && k == 1 && _) = true then _ else _) _ _ s
  rw [if_neg (by rw [show (k == 1) = false by simpa using h1]; simp), e]
  first
    | exact wpAny_bind (m := Builtin.Tuple.tupleExact _) (wpAny_newObj_type (wpAny_pure ⟨_, rfl, wpAny_pure h⟩) htake)
    | exact wpAny_bind (m := Builtin.Tuple.tupleExact _) (wpAny_newObj_type (wpAny_bind (wpAny_pure (wpAny_pure ⟨_, rfl, wpAny_pure h⟩))) htake)
    | exact wpAny_bind (wpAny_bind (m := Builtin.Tuple.tupleExact _) (wpAny_newObj_type (wpAny_pure (wpAny_pure ⟨_, rfl, wpAny_pure h⟩)) htake))
    | exact wpAny_bind (wpAny_bind (m := Builtin.Tuple.tupleExact _) (wpAny_newObj_type (wpAny_pure ⟨_, rfl, wpAny_pure h⟩) htake))
end
section
variable {α : Type}
theorem stepT_le (xs : List α) {k : Int} (h0 : k ≠ 0) : (stepT xs k).length ≤ xs.length := by
  unfold stepT
  refine Nat.le_trans (List.length_filterMap_le _ _) ?_
  rw [List.length_range]
  unfold Builtin.Slice.slicePlaces
  have hd : ∀ a m : Int, 0 ≤ a → 1 ≤ m → a / m ≤ a := fun a m h h' => Int.ediv_le_self m h
  by_cases hk : k < 0
  · rw [if_neg (by omega : ¬ k > 0)]
    simp only [hk, if_true]
    split
    · have := hd ((xs.length : Int) - 1 - -1 - 1) (-k) (by omega) (by omega)
      omega
    · omega
  · rw [if_pos (by omega : k > 0)]
    simp only [hk, if_false]
    split
    · have := hd ((xs.length : Int) - 0 - 1) k (by omega) (by omega)
      omega
    · omega
theorem vals_pick {xs : List V} {us : List Value} (r : Vals xs us) (f : Nat → Nat) : ∀ is : List Nat, Vals (is.filterMap fun i => xs[f i]?) (is.filterMap fun i => us[f i]?)
  | [] => .nil
  | i :: is => by
    rw [List.filterMap_cons, List.filterMap_cons]
    have ih := vals_pick r f is
    cases h : xs[f i]? with
    | none =>
      have hl := r.length
      have : us[f i]? = none := by
        rw [List.getElem?_eq_none_iff] at h ⊢
        omega
      rw [this]
      exact ih
    | some x =>
      obtain ⟨u, hu, ru⟩ := r.get h
      rw [hu]
      exact .cons ru ih
theorem vals_step {xs : List V} {us : List Value} (r : Vals xs us) (k : Int) : Vals (stepT xs k) (stepT us k) := by
  unfold stepT
  rw [r.length]
  exact vals_pick r _ _
theorem reps_pick {K : PySem.W.Frag} {mg : Str → Option Value} {F : Hp} {ds : List D} {vs : List V} (r : RepDs K mg F ds vs) (f : Nat → Nat) : ∀ is : List Nat, RepDs K mg F (is.filterMap fun i => ds[f i]?) (is.filterMap fun i => vs[f i]?)
  | [] => .nil
  | i :: is => by
    rw [List.filterMap_cons, List.filterMap_cons]
    have ih := reps_pick r f is
    cases h : ds[f i]? with
    | none =>
      have hl := r.length
      have : vs[f i]? = none := by
        rw [List.getElem?_eq_none_iff] at h ⊢
        omega
      rw [this]
      exact ih
    | some x =>
      obtain ⟨u, hu, ru⟩ := r.get h
      rw [hu]
      exact .cons ru ih
theorem reps_step {K : PySem.W.Frag} {mg : Str → Option Value} {F : Hp} {ds : List D} {vs : List V} (r : RepDs K mg F ds vs) (k : Int) : RepDs K mg F (stepT ds k) (stepT vs k) := by
  unfold stepT
  rw [r.length]
  exact reps_pick r _ _
end
section
variable {X : Cx}
def qStep (K : PySem.W.Frag) (Q : VK) (x : V) (o : Option Int) (H4 : Hp) : Prop := ∃ a xs i, o = some i ∧ x = .ref a ∧ i ≠ 0 ∧ i ≠ 1 ∧
  ((SqT K H4 a xs ∧ ∀ p, H4 p = none → Q (.ref p) (upd H4 p (.tup (stepT xs i)))) ∨ (i = -1 ∧ SqL K H4 a xs ∧ ∀ p, H4 p = none → Q (.ref p) (upd H4 p (.lst xs.reverse))))
def tStep (K : PySem.W.Frag) (te tk : TE) : TE := fun σ H Q => te σ H fun x H1 => tk σ H1 fun y H2 => ∃ i, y = .int i ∧ qStep K Q x (some i) H2
theorem pe_step {e k : Expr} {te tk : TE} {p3 pos : Pos} (he : PE X e te) (hk : PE X k tk) : PE X (.Subscript e (.Slice none none (some k) p3) pos) (tStep X.K te tk) := by
  refine ⟨fun pins s σ H Q I h => ?_⟩
  refine Subscript_ (thn (he.run pins s σ H _ I h) fun v s1 ⟨x, H1, I1, r1, q1⟩ => ?_)
  refine wpAny_Slice (thn (po_none.run pins s1 σ H1 (fun o H2 => o = none ∧ H2 = H1) I1 ⟨rfl, rfl⟩) fun vl s2 ⟨l, H2, I2, pl, el, e2⟩ => ?_)
  subst el e2
  refine thn (po_none.run pins s2 σ H2 (fun o H3 => o = none ∧ H3 = H2) I2 ⟨rfl, rfl⟩) fun vu s3 ⟨u, H3, I3, pu, eu, e3⟩ => ?_
  subst eu e3
  refine thn ((po_some hk).run pins s3 σ H3 (qStep X.K Q x) I3 q1) fun vs s4 ⟨o, H4, I4, ps, q4⟩ => ?_
  obtain ⟨a, xs, i, rfl, rfl, h0, h1, q⟩ := q4
  cases r1
  have I5 : Inv X pins σ H4 { s4 with heap := s4.heap.push { cls := .type "slice", data := .fields #[vl, vu, vs] } } := I4.kept (t' := s4.toks) fun b ob q => Heap.get?_push_of_some _ q
  show wpAny (model X.prog X.w) X.A (subscriptTail e (.Slice none none (some k) p3) (.ref a) (.ref s4.heap.objs.size)) (EP X pins σ Q) X.xe { s4 with heap := s4.heap.push { cls := .type "slice", data := .fields #[vl, vu, vs] } }
  have evl : vl = .none := by cases pl; rfl
  have evu : vu = .none := by cases pu; rfl
  subst evl; subst evu
  rcases q with ⟨hx, q⟩ | ⟨hi, hx, q⟩
  · obtain ⟨its, r, ht, hz⟩ := I5.tuple hx
    have hlen := r.length
    refine tail_any (ops := [.ref a, .ref s4.heap.objs.size]) ht.typeIs PyProof.Rows.slot_tuple_getitem.lookup ?_ (by with_unfolding_all rfl)
    refine getItem_tuple_step ht (Heap.IsSliceOf.new _ .none .none vs) ps h0 h1 ?_ ?_
    · exact Nat.le_trans (stepT_le _ h0) (by simp; omega)
    · refine ⟨.ref _, _, I5.laid (t' := s4.toks) (o := .tup (stepT xs i)) (fun b ob q => Heap.get?_push_of_some _ q) (Nat.le_refl _) ?_, rfl, q _ (I5.hok.fresh (Nat.le_refl _))⟩
      exact ⟨Nat.le_trans (stepT_le _ h0) hz, _, vals_step r i, IsTup.new _ _⟩
  · subst hi
    obtain ⟨its, r, ht, hz⟩ := I5.list hx
    have hlen := r.length
    refine tail_any (ops := [.ref a, .ref s4.heap.objs.size]) ht.isList.typeIs (PySem.slot_list_getitem.lookup) ?_ (by with_unfolding_all rfl)
    refine wpAny_getItem_list_slice ht.isList (Heap.IsSliceOf.new _ .none .none vs) .none .none ps (by decide) ?_ (by rw [List.size_toArray]; omega)
    rw [PySem.W.krv_pick]
    refine ⟨.ref _, _, I5.laid (t' := s4.toks) (o := .lst xs.reverse) (fun b ob q => Heap.get?_push_of_some _ q) (Nat.le_refl _) ?_, rfl, q _ (I5.hok.fresh (Nat.le_refl _))⟩
    exact ⟨by rw [List.length_reverse]; exact hz, _, 0, r.reverse, Heap.get?_push_size _ rfl⟩
end
section
variable {X : Cx} {n : En} {a k : Expr} {wa wk : WE} {p3 pos : Pos}
theorem se_sls (ha : SE X n a wa) (hk : SE X n k wk) : SE X n (.Subscript a (.Slice none none (some k) p3) pos) fun σ c Q => wa σ c fun x c1 => wk σ c1 fun y c2 => slsK x y c2 fun z => Q z c2 := by
  refine (pe_step ha hk).imp fun σ H Q ⟨F, κ, c, σa, P, R, hw, hP⟩ => ?_
  refine ⟨F, κ, c, σa, _, R, hw, fun x c1 vx H1 F1 p1 e1 g1 r1 => ?_⟩
  refine ⟨F1, κ, c1, σa, _, R.step e1 g1, p1, fun y c2 vy H2 F2 p2 e2 g2 r2 => ?_⟩
  have r3 := r1.step e2
  have e03 := e1.trans e2
  cases x with
  | tup xs =>
    obtain ⟨i, rfl, h0, h1, p⟩ := p2
    obtain ⟨a, vs, rfl, q, s⟩ := rep_tup g2 r3
    refine ⟨i, inv_int r2, a, vs, i, rfl, rfl, h0, h1, .inl ⟨q, fun p hp => ?_⟩⟩
    obtain ⟨e4, g4, r4⟩ := fin_tup g2 hp (reps_step s i)
    exact hP _ c2 _ _ _ ‹_› (e03.trans e4) g4 (r4.start e03.dom)
  | _ =>
    obtain ⟨xs, h1, rfl, p⟩ := p2
    obtain ⟨a, vs, rfl, q, s⟩ := rep_lkR g2 r3 h1
    refine ⟨-1, inv_int r2, a, vs, -1, rfl, rfl, by decide, by decide, .inr ⟨rfl, q, fun p hp => ?_⟩⟩
    obtain ⟨e4, g4, r4⟩ := fin_own g2 hp s.reverse
    exact hP _ c2 _ _ _ ‹_› (e03.trans e4) g4 (r4.start e03.dom)
end
end Ev

/-! # Ev10c: dicts -/
namespace Ev
open PySem PySem.Spec PyProof.Rows L2
/-! ### tables -/
section
variable {κ κ' : Type} [DecidableEq κ] [DecidableEq κ'] {f : κ → κ'} {K : PySem.W.Frag} {mg : Str → Option Value} {F : Hp}
theorem dval_nil {k : κ} : dval ([] : List (κ × D)) k = none := rfl
theorem dval_pos {p : κ × D} {r : List (κ × D)} {k : κ} (e : p.1 = k) : dval (p :: r) k = some p.2 := by simp [dval, List.find?_cons, e]
theorem dval_neg {p : κ × D} {r : List (κ × D)} {k : κ} (e : ¬ p.1 = k) : dval (p :: r) k = dval r k := by simp [dval, List.find?_cons, e]
theorem dval_rep (hf : ∀ a b, f a = f b → a = b) : ∀ {kvs : List (κ × D)} {vs : List V}, RepDs K mg F (kvs.map (·.2)) vs → ∀ k, (∀ d, dval kvs k = some d → ∃ v, valV ((kvs.map fun p => f p.1).zip vs) (f k) = some v ∧ RepD K mg F d v) ∧ (dval kvs k = none → valV ((kvs.map fun p => f p.1).zip vs) (f k) = none)
  | [], vs, h, k => by
    simp only [List.map_nil, RepDs] at h
    subst h
    exact ⟨fun d e => by rw [dval_nil] at e; exact absurd e (by simp), fun _ => rfl⟩
  | p :: r, vs, h, k => by
    rw [List.map_cons] at h
    obtain ⟨v, s, rfl, p1, q⟩ := h.inv
    rw [List.map_cons, List.zip_cons_cons]
    by_cases e : p.1 = k
    · rw [dval_pos e, valV_pos (by simp [e])]
      exact ⟨fun d z => by cases z; exact ⟨v, rfl, p1⟩, fun z => by cases z⟩
    · rw [dval_neg e, valV_neg (fun z => e (hf _ _ z))]
      exact dval_rep hf q k
theorem any_rep (hf : ∀ a b, f a = f b → a = b) (k : κ) : ∀ {kvs : List (κ × D)} {vs : List V}, kvs.length = vs.length → (((kvs.map fun p => f p.1).zip vs).any fun kv => decide (kv.1 = f k)) = (kvs.any fun kv => decide (kv.1 = k))
  | [], vs, h => rfl
  | p :: r, [], h => by simp at h
  | p :: r, v :: vs, h => by
    rw [List.map_cons, List.zip_cons_cons, List.any_cons, List.any_cons, any_rep hf k (by simpa using h)]
    congr 1
    by_cases e : p.1 = k
    · simp [e]
    · rw [decide_eq_false e, decide_eq_false (fun z => e (hf _ _ z))]
theorem repl_rep (hf : ∀ a b, f a = f b → a = b) (k : κ) {d : D} {v : V} (hd : RepD K mg F d v) : ∀ {kvs : List (κ × D)} {vs : List V}, RepDs K mg F (kvs.map (·.2)) vs →
    ∃ vs', (((kvs.map fun p => f p.1).zip vs).map fun kv => if kv.1 = f k then (kv.1, v) else kv) = ((kvs.map fun kv => if kv.1 = k then (kv.1, d) else kv).map fun p => f p.1).zip vs' ∧ RepDs K mg F ((kvs.map fun kv => if kv.1 = k then (kv.1, d) else kv).map (·.2)) vs'
  | [], vs, h => by
    simp only [List.map_nil, RepDs] at h
    subst h
    exact ⟨[], rfl, .nil⟩
  | p :: r, vs, h => by
    rw [List.map_cons] at h
    obtain ⟨u, s, rfl, p1, q⟩ := h.inv
    obtain ⟨vs', h1, h2⟩ := repl_rep hf k hd q
    by_cases e : p.1 = k
    · refine ⟨v :: vs', ?_, ?_⟩
      · simp only [List.map_cons, List.zip_cons_cons, h1, if_pos e, if_pos (congrArg f e)]
      · simp only [List.map_cons, if_pos e]
        exact .cons hd h2
    · refine ⟨u :: vs', ?_, ?_⟩
      · simp only [List.map_cons, List.zip_cons_cons, h1, if_neg e, if_neg (fun z => e (hf _ _ z))]
      · simp only [List.map_cons, if_neg e]
        exact .cons p1 h2
theorem dput_rep (hf : ∀ a b, f a = f b → a = b) (k : κ) {d : D} {v : V} (hd : RepD K mg F d v) {kvs : List (κ × D)} {vs : List V} (h : RepDs K mg F (kvs.map (·.2)) vs) :
    ∃ vs', putK ((kvs.map fun p => f p.1).zip vs) (f k) v = ((dput kvs k d).map fun p => f p.1).zip vs' ∧ RepDs K mg F ((dput kvs k d).map (·.2)) vs' := by
  have hl : kvs.length = vs.length := by have := h.length; rwa [List.length_map] at this
  unfold putK dput
  rw [any_rep hf k hl]
  by_cases e : (kvs.any fun kv => decide (kv.1 = k)) = true
  · rw [if_pos e, if_pos e]
    exact repl_rep hf k hd h
  · rw [if_neg e, if_neg e]
    refine ⟨vs ++ [v], ?_, ?_⟩
    · rw [List.map_append, List.zip_append (by rw [List.length_map]; exact hl)]
      rfl
    · rw [List.map_append]
      exact h.append (.cons hd .nil)
end
abbrev kI (k : Int) : L2.Key := Sum.inl k
abbrev kW (k : List Int) : List L2.Key := k.map fun i => (Sum.inl i : L2.Key)
theorem kI_inj : ∀ a b, kI a = kI b → a = b := fun a b h => by injection h
theorem kW_inj : ∀ a b, kW a = kW b → a = b
  | [], [], _ => rfl
  | [], _ :: _, h => by cases h
  | _ :: _, [], h => by cases h
  | x :: a, y :: b, h => by
    simp only [kW, List.map_cons, List.cons.injEq] at h
    rw [kI_inj _ _ h.1, kW_inj a b h.2]
theorem kW_kV (k : List Int) : (kW k).map kV = k.map V.int := by simp [kW, Function.comp_def, kV]
/-! ### dicts are seen -/
section
variable {K : PySem.W.Frag} {mg : Str → Option Value} {F F' H0 H H' : Hp} {κ : List Addr} {c : Cells} {x y d : D} {vx vy v : V}
theorem map_fst_zip {α β : Type} : ∀ {l : List α} {m : List β}, l.length = m.length → (l.zip m).map (·.1) = l
  | [], _, _ => rfl
  | _ :: _, [], h => by simp at h
  | a :: l, b :: m, h => by rw [List.zip_cons_cons, List.map_cons, map_fst_zip (by simpa using h)]
theorem map_snd_zip {α β : Type} : ∀ {l : List α} {m : List β}, l.length = m.length → (l.zip m).map (·.2) = m
  | [], [], _ => rfl
  | [], _ :: _, h => by simp at h
  | _ :: _, [], h => by simp at h
  | a :: l, b :: m, h => by rw [List.zip_cons_cons, List.map_cons, map_snd_zip (by simpa using h)]
theorem rep_lkI {kvs : List (Int × D)} (g : GOk K mg F κ c H) (r : RepX K mg F κ H0 H x vx) (h : lkI c x = some kvs) : ∃ a us, vx = .ref a ∧ Rd H a (.dK ((kvs.map fun p => kI p.1).zip us)) ∧ RepDs K mg F (kvs.map (·.2)) us := by
  cases x <;> simp only [lkI, reduceCtorEq] at h
  · rename_i m
    simp only [RepX, Rep1] at r
    obtain ⟨a, e, q⟩ := r
    cases ho : c[m]? with
    | none => rw [ho] at h; cases h
    | some ob =>
      rw [ho] at h
      cases ob with
      | lst _ => cases h
      | dW _ => cases h
      | dI ys =>
        cases h
        obtain ⟨_, vs, z, s⟩ := g.cell m a _ q ho
        exact ⟨a, vs, e, .inl z, s⟩
  · rename_i ks ds
    split at h
    · rename_i hl
      cases h
      simp only [RepX, Rep1, RepD] at r
      obtain ⟨a, o, vs, e, q, _, s⟩ := r
      refine ⟨a, vs, e, .inr ⟨o, ?_⟩, by rw [map_snd_zip hl]; exact s⟩
      have := g.sub _ _ q
      have e2 : ((ks.zip ds).map fun p => kI p.1) = ks.map kI := by
        have : ((ks.zip ds).map fun p => kI p.1) = ((ks.zip ds).map (·.1)).map kI := by rw [List.map_map]; rfl
        rw [this, map_fst_zip hl]
      rw [e2]
      exact this
    · cases h
theorem rep_lkW {kvs : List (List Int × D)} (g : GOk K mg F κ c H) (r : RepX K mg F κ H0 H x vx) (h : lkW c x = some kvs) : ∃ a us, vx = .ref a ∧ Rd H a (.dT ((kvs.map fun p => kW p.1).zip us)) ∧ RepDs K mg F (kvs.map (·.2)) us := by
  cases x <;> simp only [lkW, reduceCtorEq] at h
  · rename_i m
    simp only [RepX, Rep1] at r
    obtain ⟨a, e, q⟩ := r
    cases ho : c[m]? with
    | none => rw [ho] at h; cases h
    | some ob =>
      rw [ho] at h
      cases ob with
      | lst _ => cases h
      | dI _ => cases h
      | dW ys =>
        cases h
        obtain ⟨_, vs, z, s⟩ := g.cell m a _ q ho
        exact ⟨a, vs, e, .inl z, s⟩
  · rename_i ks ds
    split at h
    · rename_i hl
      cases h
      simp only [RepX, Rep1, RepD] at r
      obtain ⟨a, o, vs, e, q, _, s⟩ := r
      refine ⟨a, vs, e, .inr ⟨o, ?_⟩, by rw [map_snd_zip hl]; exact s⟩
      have := g.sub _ _ q
      have e2 : ((ks.zip ds).map fun p => kW p.1) = ks.map kW := by
        have : ((ks.zip ds).map fun p => kW p.1) = ((ks.zip ds).map (·.1)).map kW := by rw [List.map_map]; rfl
        rw [this, map_fst_zip hl]
      rw [e2]
      exact this
    · cases h
/-- a word stands as a key -/
theorem rep_key {ks : List Int} (g : GOk K mg F κ c H) (r : RepX K mg F κ H0 H (.tup (ks.map .int)) vy) : ∃ b, vy = .ref b ∧ H b = some (.tup ((kW ks).map kV)) := by
  simp only [RepX, Rep1, RepD] at r
  obtain ⟨b, vs, e, q, s⟩ := r
  refine ⟨b, e, ?_⟩
  rw [kW_kV, ← repDs_ints (intsOf_map' ks) s]
  exact g.sub _ _ q
where
  intsOf_map' : ∀ ks : List Int, intsOf (ks.map D.int) = some ks
    | [] => rfl
    | k :: r => by rw [List.map_cons, intsOf, intsOf_map' r]; rfl
theorem dg_rep {P : Option D → Prop} (g : GOk K mg F κ c H) (rx : RepX K mg F κ H0 H x vx) (ry : RepX K mg F κ H0 H y vy) (h : dgK x y c P) :
    ∃ a o u, vx = .ref a ∧ DGet H a vy o ∧ P u ∧ ((u = none ∧ o = none) ∨ ∃ d v, u = some d ∧ o = some v ∧ RepD K mg F d v) := by
  rcases h with ⟨kvs, k, h1, rfl, h3⟩ | ⟨kvs, ks, h1, rfl, h3⟩
  · obtain ⟨a, us, e, q, s⟩ := rep_lkI g rx h1
    rw [inv_int ry]
    obtain ⟨d1, d2⟩ := dval_rep kI_inj s k
    refine ⟨a, _, _, e, .inl ⟨_, kI k, q, rfl, rfl⟩, h3, ?_⟩
    cases hd : dval kvs k with
    | none => exact .inl ⟨rfl, d2 hd⟩
    | some d =>
      obtain ⟨v, e1, e2⟩ := d1 d hd
      exact .inr ⟨d, v, rfl, e1, e2⟩
  · obtain ⟨a, us, e, q, s⟩ := rep_lkW g rx h1
    obtain ⟨b, rfl, hb⟩ := rep_key g ry
    obtain ⟨d1, d2⟩ := dval_rep kW_inj s ks
    refine ⟨a, _, _, e, .inr ⟨_, kW ks, b, q, rfl, hb, rfl⟩, h3, ?_⟩
    cases hd : dval kvs ks with
    | none => exact .inl ⟨rfl, d2 hd⟩
    | some d =>
      obtain ⟨v, e1, e2⟩ := d1 d hd
      exact .inr ⟨d, v, rfl, e1, e2⟩
end
/-! ### expressions -/
section
variable {X : Cx} {n : En} {a b e : Expr} {wa wb we : WE} {pos : Pos}
theorem noSl_of (h : noSlice b = true) : NoSl b := fun ov iv => plain_ix h ov iv
theorem se_dix (hu : X.A.units + 64 < cLine) (hs : noSlice b = true) (ha : SE X n a wa) (hb : SE X n b wb) :
    SE X n (.Subscript a b pos) fun σ c Q => wa σ c fun x c1 => wb σ c1 fun y c2 => dgK x y c2 fun o => ∃ v, o = some v ∧ Q v c2 := by
  refine (pe_dget (by omega) ha hb (noSl_of hs)).imp fun σ H Q ⟨F, κ, c, σa, P, R, hw, hP⟩ => ?_
  refine ⟨F, κ, c, σa, _, R, hw, fun x c1 vx H1 F1 p1 e1 g1 r1 => ?_⟩
  refine ⟨F1, κ, c1, σa, _, R.step e1 g1, p1, fun y c2 vy H2 F2 p2 e2 g2 r2 => ?_⟩
  obtain ⟨ad, o, u, rfl, hg, ⟨w, rfl, hp⟩, ho⟩ := dg_rep g2 (r1.step e2) (r2.start e1.dom) p2
  rcases ho with ⟨z, _⟩ | ⟨d, v, z, rfl, rv⟩
  · cases z
  · cases z
    exact ⟨ad, v, rfl, hg, hP _ c2 v H2 F2 hp (e1.trans e2) g2 (.ofD rv)⟩
def rDin (neg : Bool) : R2 := fun y x H Q => ∃ a o, x = .ref a ∧ DGet H a y o ∧ Q (.bl (if neg = true then !o.isSome else o.isSome)) H
def dinOp (neg : Bool) : CmpOp := if neg = true then .NotIn else .In
theorem op_din (hu : X.A.units + 1 < cLine) : ∀ neg, OpR X (compareOp (dinOp neg)) (rDin neg)
  | true => by
    rintro pins s σ H y x v u Q I ry rx ⟨a, o, rfl, hg, q⟩
    obtain rfl : u = Value.ref a := rx
    exact d_notIn hu I hg ry fun s3 I3 => ⟨.bl (!o.isSome), H, I3, rfl, q⟩
  | false => by
    rintro pins s σ H y x v u Q I ry rx ⟨a, o, rfl, hg, q⟩
    obtain rfl : u = Value.ref a := rx
    exact d_in hu I hg ry fun s3 I3 => ⟨.bl o.isSome, H, I3, rfl, q⟩
theorem din_read {F H1 H2 F1 F2 H : Hp} {κ : List Addr} {c1 c2 : Cells} {x y : D} {vx vy : V} {neg : Bool} {P : Bool → Cells → Prop} {Q : VK} (g2 : GOk X.K X.mg F2 κ c2 H2) (rx : RepX X.K X.mg F2 κ H H2 y vy) (ry : RepX X.K X.mg F2 κ H H2 x vx)
    (p2 : dgK y x c2 fun o => P (if neg = true then !o.isSome else o.isSome) c2) (k : ∀ b, P b c2 → Q (.bl b) H2) : rDin neg vx vy H2 Q := by
  obtain ⟨ad, o, u, rfl, hg, hp, ho⟩ := dg_rep g2 rx ry p2
  refine ⟨ad, o, rfl, hg, ?_⟩
  have : o.isSome = u.isSome := by
    rcases ho with ⟨rfl, rfl⟩ | ⟨d, v, rfl, rfl, _⟩ <;> rfl
  rw [this]
  exact k _ hp
theorem se_din (hu : X.A.units + 64 < cLine) (neg : Bool) (hm : ∀ es k p, b ≠ .Set es k p) (ha : SE X n a wa) (hb : SE X n b wb) :
    SE X n (.Compare a [dinOp neg] [b] pos) fun σ c Q => wa σ c fun x c1 => wb σ c1 fun y c2 => dgK y x c2 fun o => Q (.bl (if neg = true then !o.isSome else o.isSome)) c2 := by
  refine (pe_cmpR (op_din (by omega) neg) ha hb (marks_of hm)).imp fun σ H Q ⟨F, κ, c, σa, P, R, hw, hP⟩ => ?_
  refine ⟨F, κ, c, σa, _, R, hw, fun x c1 vx H1 F1 p1 e1 g1 r1 => ?_⟩
  refine ⟨F1, κ, c1, σa, _, R.step e1 g1, p1, fun y c2 vy H2 F2 p2 e2 g2 r2 => ?_⟩
  exact din_read (F := F) (H1 := H1) (F1 := F1) (c1 := c1) (P := fun b c => P (.bl b) c) g2 (r2.start e1.dom) (r1.step e2) p2 fun b p => hP _ c2 _ H2 F2 p (e1.trans e2) g2 rep_bl
theorem st_din (hu : X.A.units + 64 < cLine) (neg : Bool) (hm : ∀ es k p, b ≠ .Set es k p) (ha : SE X n a wa) (hb : SE X n b wb) :
    ST X n (.Compare a [dinOp neg] [b] pos) fun σ c Q => wa σ c fun x c1 => wb σ c1 fun y c2 => dgK y x c2 fun o => Q (if neg = true then !o.isSome else o.isSome) c2 := by
  refine (pt_cmpR (op_din (by omega) neg) ha hb (marks_of hm)).imp fun σ H Q ⟨F, κ, c, σa, P, R, hw, hP⟩ => ?_
  refine ⟨F, κ, c, σa, _, R, hw, fun x c1 vx H1 F1 p1 e1 g1 r1 => ?_⟩
  refine ⟨F1, κ, c1, σa, _, R.step e1 g1, p1, fun y c2 vy H2 F2 p2 e2 g2 r2 => ?_⟩
  exact din_read (F := F) (H1 := H1) (F1 := F1) (c1 := c1) (P := P) g2 (r2.start e1.dom) (r1.step e2) p2 fun b p => ⟨b, rfl, hP _ c2 H2 F2 p (e1.trans e2) g2⟩
theorem rep_lkN {K : PySem.W.Frag} {mg : Str → Option Value} {F H0 H : Hp} {κ : List Addr} {c : Cells} {x : D} {vx : V} {m : Nat} (g : GOk K mg F κ c H) (r : RepX K mg F κ H0 H x vx) (h : lkN c x = some m) :
    ∃ a, vx = .ref a ∧ ((∃ kvs, Rd H a (.dK kvs) ∧ kvs.length = m) ∨ ∃ kvs, Rd H a (.dT kvs) ∧ kvs.length = m) := by
  unfold lkN at h
  cases h1 : lkI c x with
  | some kvs =>
    rw [h1] at h
    cases h
    obtain ⟨a, us, e, q, s⟩ := rep_lkI g r h1
    refine ⟨a, e, .inl ⟨_, q, ?_⟩⟩
    have := s.length
    rw [List.length_map] at this
    rw [List.length_zip, List.length_map]
    omega
  | none =>
    rw [h1] at h
    cases h2 : lkW c x with
    | none => rw [h2] at h; cases h
    | some kvs =>
      rw [h2] at h
      cases h
      obtain ⟨a, us, e, q, s⟩ := rep_lkW g r h2
      refine ⟨a, e, .inr ⟨_, q, ?_⟩⟩
      have := s.length
      rw [List.length_map] at this
      rw [List.length_zip, List.length_map]
      show _ = kvs.length
      omega
def rDln : List V → Hp → VK → Prop := fun xs H Q => ∃ a m, xs = [V.ref a] ∧ ((∃ kvs, Rd H a (.dK kvs) ∧ kvs.length = m) ∨ ∃ kvs, Rd H a (.dT kvs) ∧ kvs.length = m) ∧ Q (.int (m : Nat)) H
theorem call_dln : CallR X (.builtin "len") rDln := by
  intro pins s σ H xs us Q I r h
  obtain ⟨a, m, rfl, ⟨kvs, hr, rfl⟩ | ⟨kvs, hr, rfl⟩, q⟩ := h
  · obtain ⟨u, rfl, ru⟩ := vals1 r
    obtain rfl : u = .ref a := ru
    exact d_len I hr fun t s' I' => ⟨.int kvs.length, H, I', ⟨t, rfl⟩, q⟩
  · obtain ⟨u, rfl, ru⟩ := vals1 r
    obtain rfl : u = .ref a := ru
    obtain ⟨z, hd, ys, rel, dd⟩ := dt_rd I.hok hr
    have hl : kvs.length = ys.length := Paired.length rel
    refine call_len_dictH hd dd (by rw [← hl]; rw [sizeLine_eq] at z; omega) ?_
    rw [← hl]
    exact ⟨.int kvs.length, H, I.tok _, ⟨_, rfl⟩, q⟩
theorem se_dln {p : Pos} (hg : Gl X "len") (hm : X.mg "len" = none) (hst : noStar a = true) (ha : SE X n a wa) :
    SE X n (.Call (.Name "len" p) [a] [] pos) fun σ c Q => wa σ c fun x c1 => ∃ m, lkN c1 x = some m ∧ Q (.int (m : Nat)) c1 := by
  refine (pe_callB call_dln hg hm (by decide +kernel) (pa_cons ha pa_nil (star_of hst)) (by decide +kernel) (by decide +kernel) (star_of hst) rfl).imp fun σ H Q ⟨F, κ, c, σa, P, R, hw, hP⟩ => ?_
  refine ⟨F, κ, c, σa, _, R, hw, fun x c1 vx H1 F1 p1 e1 g1 r1 => ?_⟩
  obtain ⟨m, hm, p⟩ := p1
  obtain ⟨ad, rfl, hd⟩ := rep_lkN g1 r1 hm
  exact ⟨ad, m, rfl, hd, hP _ c1 _ H1 F1 p e1 g1 rep_int⟩
def okBase : Expr → Bool
  | .Name _ _ => true
  | .Subscript _ _ _ => true
  | .Call _ (_ :: _) _ _ => true
  | _ => false
theorem base_of {o : Expr} (h : okBase o = true) {m : Str} {env : Env} : attributeBase o m env (eval o env) = eval o env := by
  cases o with
  | Call f as ks p =>
    cases as with
    | nil => cases h
    | cons x r => cases f <;> rfl
  | Name _ _ => rfl
  | Subscript _ _ _ => rfl
  | _ => cases h
theorem isD_of {K : PySem.W.Frag} {mg : Str → Option Value} {F H0 H : Hp} {κ : List Addr} {c : Cells} {x : D} {vx : V} (g : GOk K mg F κ c H) (r : RepX K mg F κ H0 H x vx) (h : (lkN c x).isSome = true) : ∃ a, vx = .ref a ∧ IsD H a := by
  obtain ⟨m, hm⟩ := Option.isSome_iff_exists.mp h
  obtain ⟨a, e, ⟨kvs, q, _⟩ | ⟨kvs, q, _⟩⟩ := rep_lkN g r hm
  · exact ⟨a, e, .inl ⟨_, q⟩⟩
  · exact ⟨a, e, .inr ⟨_, q⟩⟩
theorem se_dg1 {apos : Pos} (hu : X.A.units + 64 < cLine) (hb0 : okBase a = true) (hline : (apos.endLine == pos.line) = true) (hst : noStar b = true) (ha : SE X n a wa) (hb : SE X n b wb) :
    SE X n (.Call (.Attribute a "get" apos) [b] [] pos) fun σ c Q => wa σ c fun x c1 => (lkN c1 x).isSome = true ∧ wb σ c1 fun y c2 => dgK x y c2 fun o => Q (o.getD .non) c2 := by
  have hs := fun r => star_of (env := X.env) (e := b) (es := r) hst
  refine (pe_dget1 (by omega) ha hb ⟨base_of hb0, by rw [hs]; rfl, hline, by rw [hs]; rfl⟩).imp fun σ H Q ⟨F, κ, c, σa, P, R, hw, hP⟩ => ?_
  refine ⟨F, κ, c, σa, _, R, hw, fun x c1 vx H1 F1 ⟨hx, p1⟩ e1 g1 r1 => ?_⟩
  obtain ⟨ad, rfl, hd⟩ := isD_of g1 r1 hx
  refine ⟨ad, rfl, hd, F1, κ, c1, σa, _, R.step e1 g1, p1, fun y c2 vy H2 F2 p2 e2 g2 r2 => ?_⟩
  obtain ⟨ad', o, u, z, hg, hp, ho⟩ := dg_rep g2 (r1.step e2) (r2.start e1.dom) p2
  cases z
  refine ⟨o, hg, hP _ c2 _ H2 F2 hp (e1.trans e2) g2 ?_⟩
  rcases ho with ⟨rfl, rfl⟩ | ⟨d, v, rfl, rfl, rv⟩
  · exact rep_non
  · exact .ofD rv
theorem se_dg2 {apos : Pos} (hu : X.A.units + 64 < cLine) (hb0 : okBase a = true) (hline : (apos.endLine == pos.line) = true) (hst : noStar b = true) (hst2 : noStar e = true) (ha : SE X n a wa) (hb : SE X n b wb) (he : SE X n e we) :
    SE X n (.Call (.Attribute a "get" apos) [b, e] [] pos) fun σ c Q => wa σ c fun x c1 => (lkN c1 x).isSome = true ∧ wb σ c1 fun y c2 => we σ c2 fun z c3 => stK z fun d => dgK x y c3 fun o => Q (o.getD d) c3 := by
  have hs := fun r => star_of (env := X.env) (e := b) (es := r) hst
  have hs2 := fun r => star_of (env := X.env) (e := e) (es := r) hst2
  refine (pe_dget2 (by omega) ha hb he ⟨base_of hb0, by rw [hs, hs2]; rfl, hline, by rw [hs, hs2]; rfl⟩).imp fun σ H Q ⟨F, κ, c, σa, P, R, hw, hP⟩ => ?_
  refine ⟨F, κ, c, σa, _, R, hw, fun x c1 vx H1 F1 ⟨hx, p1⟩ e1 g1 r1 => ?_⟩
  obtain ⟨ad, rfl, hd⟩ := isD_of g1 r1 hx
  refine ⟨ad, rfl, hd, F1, κ, c1, σa, _, R.step e1 g1, p1, fun y c2 vy H2 F2 p2 e2 g2 r2 => ?_⟩
  refine ⟨F2, κ, c2, σa, _, (R.step e1 g1).step e2 g2, p2, fun z c3 vz H3 F3 p3 e3 g3 r3 => ?_⟩
  obtain ⟨hcell, p3⟩ := p3
  obtain ⟨F4, s4, e4, g4, r4⟩ := freeze e3 g3 r3
  have hfz : z.fz.isCell = false := by cases z <;> first | exact hcell | rfl
  obtain ⟨ad', o, u, z', hg, hp, ho⟩ := dg_rep g4 ((r1.step e2).step e4) ((r2.start e1.dom).step e4) p3
  cases z'
  refine ⟨o, hg, hP _ c3 _ H3 F4 hp ((e1.trans e2).trans e4) g4 ?_⟩
  rcases ho with ⟨rfl, rfl⟩ | ⟨d, v, rfl, rfl, rv⟩
  · exact .ofD (r4.toD hfz)
  · exact .ofD rv
end
end Ev

/-! # Ev10d: dicts: statements, walks -/
namespace Ev
open PySem PySem.Spec PyProof.Rows L2
section
variable {K : PySem.W.Frag} {mg : Str → Option Value} {F F' H0 H H' : Hp} {κ : List Addr} {c : Cells} {x y d : D} {vx vy v : V} {σa : Sl} {σ : L2.St} {n : En}
theorem cell_put {i : Nat} {a : Addr} {ob ob' : Ob} {o : HO} (g : GOk K mg F κ c H) (hk : κ[i]? = some a) (hc : c[i]? = some ob) (r : RepO K mg F ob' (some o)) :
    Ext κ H F (upd H a o) F ∧ GOk K mg F κ (c.set i ob') (upd H a o) := by
  have hm : a ∈ κ := List.mem_of_getElem? hk
  have hs : H a ≠ none := g.some_ hm
  have hf : F a = none := (g.cell i a ob hk hc).1
  refine ⟨⟨fun b o e hb => ?_, fun _ _ e => e, fun _ _ _ _ e => e, fun b e => ?_⟩, ⟨fun b o e => ?_, g.nd, by rw [List.length_set]; exact g.len, fun j b ob' h1 h2 => ?_⟩⟩
  · rw [upd_ne (fun z => hb (by rw [z]; exact hm))]; exact e
  · by_cases z : b = a
    · rw [z, upd_same] at e; cases e
    · rw [upd_ne z] at e; exact e
  · have : b ≠ a := fun z => by rw [z, hf] at e; cases e
    rw [upd_ne this]; exact g.sub b o e
  · by_cases z : j = i
    · subst z
      rw [hk] at h1; cases h1
      have hl : j < c.length := (List.getElem?_eq_some_iff.mp hc).1
      rw [List.getElem?_set_self hl] at h2
      cases h2
      exact ⟨hf, by rw [upd_same]; exact r⟩
    · rw [List.getElem?_set_ne (Ne.symm z)] at h2
      have : b ≠ a := fun q => by
        subst q
        obtain ⟨hi, e1⟩ := List.getElem?_eq_some_iff.mp hk
        obtain ⟨hj, e2⟩ := List.getElem?_eq_some_iff.mp h1
        exact z ((List.getElem_inj g.nd).mp (e2.trans e1.symm))
      rw [upd_ne this]
      exact g.cell j b ob' h1 h2
theorem ds_rep {P : Cells → Prop} (g : GOk K mg F κ c H) (rx : RepX K mg F κ H0 H x vx) (ry : RepX K mg F κ H0 H y vy) (rv : RepD K mg F d v) (h : dsK x y d c P) :
    ∃ a H' c', vx = .ref a ∧ DPut H a vy v H' ∧ P c' ∧ Ext κ H F H' F ∧ GOk K mg F κ c' H' := by
  rcases h with ⟨m, kvs, k, rfl, hc, rfl, hl, p⟩ | ⟨m, kvs, ks, rfl, hc, rfl, hl, p⟩
  · simp only [RepX, Rep1] at rx
    obtain ⟨a, rfl, hk⟩ := rx
    obtain ⟨_, us, hu, ru⟩ := g.cell m a _ hk hc
    have hlen : kvs.length = us.length := by have := ru.length; rwa [List.length_map] at this
    obtain ⟨vs', e1, e2⟩ := dput_rep kI_inj k rv ru
    obtain ⟨e5, g5⟩ := cell_put (ob' := .dI (dput kvs k d)) g hk hc ⟨vs', rfl, e2⟩
    refine ⟨a, _, _, rfl, .inl ⟨_, kI k, hu, inv_int ry, ?_, ?_⟩, p, e5, g5⟩
    · rw [List.length_zip, List.length_map]; omega
    · rw [← e1]
  · simp only [RepX, Rep1] at rx
    obtain ⟨a, rfl, hk⟩ := rx
    obtain ⟨_, us, hu, ru⟩ := g.cell m a _ hk hc
    have hlen : kvs.length = us.length := by have := ru.length; rwa [List.length_map] at this
    obtain ⟨b, rfl, hb⟩ := rep_key g ry
    obtain ⟨vs', e1, e2⟩ := dput_rep kW_inj ks rv ru
    obtain ⟨e5, g5⟩ := cell_put (ob' := .dW (dput kvs ks d)) g hk hc ⟨vs', rfl, e2⟩
    refine ⟨a, _, _, rfl, .inr ⟨_, kW ks, b, hu, rfl, hb, ?_, ?_⟩, p, e5, g5⟩
    · rw [List.length_zip, List.length_map]; omega
    · rw [← e1]
/-- a new cell -/
theorem rel_new {i : Nat} {p : Addr} {o : HO} {ob : Ob} (R : Rel K mg n F κ c H σa σ) (hp : H p = none) (r : RepO K mg F ob (some o)) :
    Rel K mg n F (κ ++ [p]) (c ++ [ob]) (upd H p o) (σa.set i (some (.cell c.length))) (σ.set i (some (.ref p))) := by
  have g := R.g
  have hl := g.len
  have hF : F p = none := g.fnone hp
  have hk : p ∉ κ := g.notin hp
  have hn : ∀ a u, H a = some u → a ≠ p := fun a u e z => by rw [z, hp] at e; cases e
  have ka : (κ ++ [p])[c.length]? = some p := by rw [← hl, List.getElem?_append_right (Nat.le_refl _)]; simp
  have kx : KExt κ (κ ++ [p]) := fun m b hm => by rw [List.getElem?_append_left (List.getElem?_eq_some_iff.mp hm).1]; exact hm
  have hpre : n.κ.length ≤ κ.length := by have := congrArg List.length R.pre; rw [List.length_take] at this; omega
  refine ⟨⟨fun a u e => ?_, ?_, by simp [hl], fun j b ob q1 q2 => ?_⟩, ?_, ⟨fun a u q hm => ?_, R.ext.fk, R.ext.fr, fun a q => ?_⟩, by rw [List.take_append_of_le_length hpre]; exact R.pre, fun b hb => ?_⟩
  · have := g.sub a u e
    rw [upd_ne (hn a u this)]; exact this
  · rw [List.nodup_append]
    exact ⟨g.nd, by simp, fun b hb b' hb' z => hk (by simp at hb'; rw [← hb', ← z]; exact hb)⟩
  · by_cases z : j < κ.length
    · rw [List.getElem?_append_left z] at q1
      rw [List.getElem?_append_left (by omega)] at q2
      have : b ≠ p := fun w => hk (w ▸ List.mem_of_getElem? q1)
      rw [upd_ne this]
      exact g.cell j b ob q1 q2
    · have : j = κ.length := by
        have := (List.getElem?_eq_some_iff.mp q1).1
        simp at this; omega
      subst this
      rw [List.getElem?_append_right (Nat.le_refl _)] at q1
      rw [hl, List.getElem?_append_right (Nat.le_refl _)] at q2
      simp at q1 q2
      subst q1; subst q2
      exact ⟨hF, by rw [upd_same]; exact r⟩
  · have S : SRep K mg F (κ ++ [p]) σa σ := ⟨R.sl.len, fun j d hj => let ⟨u, q1, q2⟩ := R.sl.at_ j d hj; ⟨u, q1, q2.kext kx⟩⟩
    exact S.set (d := .cell c.length) ⟨p, rfl, ka⟩
  · have := R.ext.keep a u q hm
    rw [upd_ne (hn a u this)]; exact this
  · by_cases z : a = p
    · rw [z]; exact R.ext.dom p hp
    · rw [upd_ne z] at q; exact R.ext.dom a q
  · rw [List.drop_append_of_le_length hpre] at hb
    rcases List.mem_append.mp hb with hb | hb
    · exact R.new b hb
    · simp at hb; subst hb; exact R.ext.dom b hp
theorem pss_lockS {X : Cx} {sts : List Stmt} {t : TS} (h : PSs X sts t) : PSs X sts fun D σ H => ∃ d u, H d = some u ∧ Mut (some u) ∧ ∀ od, t D σ (upd H d (.frz od u)) :=
  ⟨fun pins s σ H D I ⟨d, u, hd, mu, hw⟩ => by
    obtain ⟨od, I1⟩ := I.lock hd mu
    exact h.run pins s σ _ D I1 (hw od)⟩
/-- what stands at a dict's cell, locked -/
theorem ob_lock {ob : Ob} {d : D} {ho : Option HO} (r : RepO K mg F ob ho) (h : obD ob = some d) : ∃ u, ho = some u ∧ Mut (some u) ∧ ∀ (F' : Hp) (a : Addr) (od : Obj), Sub F F' → F' a = some (.frz od u) → RepD K mg F' d (.ref a) := by
  cases ob with
  | lst _ => cases h
  | dI kvs =>
    cases h
    obtain ⟨vs, rfl, q⟩ := r
    refine ⟨_, rfl, trivial, fun F' a od s e => ?_⟩
    simp only [RepD]
    exact ⟨a, od, vs, rfl, by rw [e, List.map_map]; rfl, by simp, q.mono s⟩
  | dW kvs =>
    cases h
    obtain ⟨vs, rfl, q⟩ := r
    refine ⟨_, rfl, trivial, fun F' a od s e => ?_⟩
    simp only [RepD]
    exact ⟨a, od, vs, rfl, by rw [e, List.map_map]; rfl, by simp, q.mono s⟩
end
section
variable {X : Cx} {n : En} {sts : List Stmt} {w2 : WS} {a b e o i : Expr} {wa wb we wo wi : WE} {pos : Pos} {x : Str}
theorem noCellD {ob : Ob} {d : D} (h : obD ob = some d) : (∀ m, d ≠ .cell m) ∧ ∀ xs, d ≠ .own xs := by
  cases ob <;> simp only [obD, reduceCtorEq, Option.some.injEq] at h <;> subst h <;> exact ⟨fun _ => nofun, fun _ => nofun⟩
/-- a dict's cell at the end is never changed from now on -/
theorem ss_frd {i : Nat} (h2 : SSs X n sts w2) : SSs X n sts fun P σ c => ∃ m o d, σ[i]? = some (some (.cell m)) ∧ n.κ.length ≤ m ∧ m + 1 = c.length ∧ c[m]? = some o ∧ obD o = some d ∧ w2 P (σ.map (thawD m d)) (c.take m) := by
  refine (pss_lockS h2).imp fun D σ H ⟨F, κ, c, σa, P, R, ⟨m, ob, dd, hi, hb, hm, hc, hd, h⟩, p⟩ => ?_
  have hkl := R.g.len
  have hmk : m < κ.length := by omega
  have hk : κ[m]? = some κ[m] := List.getElem?_eq_getElem hmk
  obtain ⟨hF, rv⟩ := R.g.cell m _ _ hk hc
  obtain ⟨u, hH, mu, rl⟩ := ob_lock rv hd
  refine ⟨κ[m], u, hH, mu, fun od => ?_⟩
  have hks : κ = κ.take m ++ [κ[m]] := by
    have := List.take_append_getElem hmk
    rw [this, List.take_of_length_le (by omega)]
  have hs : Sub F (upd F κ[m] (.frz od u)) := fun b o q => by
    have : b ≠ κ[m] := fun z => by rw [z, hF] at q; cases q
    rw [upd_ne this]; exact q
  have hnew : n.H κ[m] = none := R.new _ (by
    rw [List.mem_iff_getElem?]
    refine ⟨m - n.κ.length, ?_⟩
    rw [List.getElem?_drop, show n.κ.length + (m - n.κ.length) = m by omega]; exact hk)
  have hnot : ∀ b, b ∈ κ.take m → b ≠ κ[m] := fun b hb z => by
    have := R.g.nd
    rw [hks, List.nodup_append] at this
    exact this.2.2 b hb κ[m] (by simp) z
  have g' : GOk X.K X.mg (upd F κ[m] (.frz od u)) (κ.take m) (c.take m) (upd H κ[m] (.frz od u)) := by
    refine ⟨fun b o q => ?_, ?_, by rw [List.length_take, List.length_take, hkl], fun j b ob h1 h2 => ?_⟩
    · by_cases z : b = κ[m]
      · subst z; rw [upd_same] at q ⊢; exact q
      · rw [upd_ne z] at q ⊢; exact R.g.sub b o q
    · exact List.Nodup.sublist (List.take_sublist _ _) R.g.nd
    · have hmem : b ∈ κ.take m := List.mem_of_getElem? h1
      have hj : j < m := by have := (List.getElem?_eq_some_iff.mp h1).1; rw [List.length_take] at this; omega
      rw [List.getElem?_take_of_lt hj] at h1 h2
      obtain ⟨q1, q2⟩ := R.g.cell j b ob h1 h2
      rw [upd_ne (hnot b hmem), upd_ne (hnot b hmem)]
      exact ⟨q1, q2.mono hs⟩
  refine ⟨_, κ.take m, c.take m, _, P, ⟨g', ⟨by rw [List.length_map]; exact R.sl.len, fun j d' hj => ?_⟩, ⟨fun b o q hn => ?_, fun b o q => hs b o (R.ext.fk b o q), fun b us hn q f => ?_, fun b q => ?_⟩, ?_, fun b hb => R.new b ?_⟩, h, p⟩
  · rw [List.getElem?_map, Option.map_eq_some_iff] at hj
    obtain ⟨o, ho, hq⟩ := hj
    cases o with
    | none => cases hq
    | some d0 =>
      obtain ⟨v0, h1, h2⟩ := R.sl.at_ j d0 ho
      refine ⟨v0, h1, ?_⟩
      cases d0 with
      | cell k =>
        simp only [Rep1] at h2
        obtain ⟨b, rfl, h2⟩ := h2
        simp only [thawD] at hq
        by_cases z : k = m
        · rw [if_pos z] at hq; cases hq
          rw [z, hk] at h2; cases h2
          exact .ofD (rl _ _ od hs upd_same)
        · rw [if_neg z] at hq; cases hq
          have hkl : k < κ.length := (List.getElem?_eq_some_iff.mp h2).1
          exact ⟨b, rfl, by rw [List.getElem?_take_of_lt (by omega)]; exact h2⟩
      | _ => cases hq; exact (show Rep1 X.K X.mg (upd F κ[m] (.frz od u)) (κ.take m) _ v0 from RepD.mono hs _ _ h2)
  · have q2 := R.ext.keep b o q hn
    have : b ≠ κ[m] := fun z => by rw [z, hnew] at q; cases q
    rw [upd_ne this]; exact q2
  · have : b ≠ κ[m] := fun z => by rw [z, hnew] at q; cases q
    rw [upd_ne this]; exact R.ext.fr b us hn q f
  · by_cases z : b = κ[m]
    · rw [z]; exact hnew
    · rw [upd_ne z] at q; exact R.ext.dom b q
  · rw [List.take_take, show min n.κ.length m = n.κ.length by omega]; exact R.pre
  · rw [List.drop_take] at hb
    exact List.mem_of_mem_take hb
/-- x = {} -/
theorem ss_dnw (t : Bool) {i : Nat} {pos' p2 : Pos} (hN : X.N.Nodup) (hi : X.N[i]? = some x) (hx : Loc X.env.scope x) (hf : X.fn x = true ∨ X.env.scope.names.lookup x = some .local) :
    SSt X n (.Assign [.Name x pos'] (.Dict [] [] p2) pos) fun P σ c => P.nx (σ.set i (some (.cell c.length))) (c ++ [if t = true then .dW [] else .dI []]) := by
  cases t with
  | true =>
    refine (ps_set hN hi hx pe_dnewT rfl hf).imp fun D σ H ⟨F, κ, c, σa, P, R, h, p⟩ q hq => ?_
    exact p.nx _ _ _ _ _ _ (rel_new (ob := .dW []) R hq ⟨[], rfl, .nil⟩) h
  | false =>
    refine (ps_set hN hi hx pe_dnewK rfl hf).imp fun D σ H ⟨F, κ, c, σa, P, R, h, p⟩ q hq => ?_
    exact p.nx _ _ _ _ _ _ (rel_new (ob := .dI []) R hq ⟨[], rfl, .nil⟩) h
theorem swaps_sub1 {e a b : Expr} {p : Pos} {l : Nat} {env : Env} : swapsWith e (some (.Subscript a b p)) l env = pure false := by
  cases e <;> rfl
/-- o[i] = e -/
theorem ss_dst {tpos : Pos} (hu : X.A.units + 64 < cLine) (he : SE X n e we) (ho : SE X n o wo) (hi : SE X n i wi) (hni : noSlice i = true) :
    SSt X n (.Assign [.Subscript o i tpos] e pos) fun P σ c => we σ c fun v c1 => stK v fun d => wo σ c1 fun x c2 => wi σ c2 fun y c3 => dsK x y d c3 fun c4 => P.nx σ c4 := by
  refine (ps_dput (by omega) ho hi he swaps_sub1).imp fun D σ H ⟨F, κ, c, σa, P, R, h, p⟩ => ?_
  refine ⟨F, κ, c, σa, _, R, h, fun d c1 v H1 F1 p1 e1 g1 r1 => ?_⟩
  obtain ⟨hcell, p1⟩ := p1
  obtain ⟨F2, R2, r2⟩ := kept_rel R e1 g1 r1
  refine ⟨F2, κ, c1, σa, _, R2, p1, fun x c2 vx H3 F3 p3 e3 g3 r3 => ?_⟩
  refine ⟨F3, κ, c2, σa, _, R2.step e3 g3, p3, fun y c3 vy H4 F4 p4 e4 g4 r4 => ?_⟩
  have hfz : d.fz.isCell = false := by cases d <;> first | exact hcell | rfl
  obtain ⟨ad, H5, c5, rfl, hp, q, e5, g5⟩ := ds_rep g4 (r3.step e4) (r4.start e3.dom) (((r2.mono e3.fk).mono e4.fk).toD hfz) p4
  exact ⟨ad, H5, rfl, hp, p.nx _ _ _ _ _ _ (((R2.step e3 g3).step e4 g4).step e5 g5) q⟩
/-- o[i] += e -/
theorem ss_dau {tpos : Pos} (hu : X.A.units + 64 < cLine) (ho : SE X n o wo) (hi : SE X n i wi) (he : SE X n e we) (hni : noSlice i = true) :
    SSt X n (.AugAssign (.Subscript o i tpos) .Add e pos) fun P σ c => wo σ c fun x c1 => wi σ c1 fun y c2 => dgK x y c2 fun u => ∃ a, Operator.Add = .Add ∧ u = some (.int a) ∧ we σ c2 fun z c3 => ∃ b, z = .int b ∧ dsK x y (.int (a + b)) c3 fun c4 => P.nx σ c4 := by
  refine (ps_daug (by omega) ho hi he ip_add (by intro _ _ _; cases i <;> first | rfl | cases hni)).imp fun D σ H ⟨F, κ, c, σa, P, R, h, p⟩ => ?_
  refine ⟨F, κ, c, σa, _, R, h, fun x c1 vx H1 F1 p1 e1 g1 r1 => ?_⟩
  refine ⟨F1, κ, c1, σa, _, R.step e1 g1, p1, fun y c2 vy H2 F2 p2 e2 g2 r2 => ?_⟩
  obtain ⟨ad, ov, u, rfl, hg, ⟨a, _, rfl, p2⟩, hov⟩ := dg_rep g2 (r1.step e2) (r2.start e1.dom) p2
  rcases hov with ⟨z, _⟩ | ⟨d, v, z, rfl, rv⟩
  · cases z
  cases z
  have hv : v = .int a := by simpa only [RepD] using rv
  subst hv
  refine ⟨ad, _, rfl, hg, F2, κ, c2, σa, _, (R.step e1 g1).step e2 g2, p2, fun z c3 vz H3 F3 p3 e3 g3 r3 => ?_⟩
  obtain ⟨b, rfl, p3⟩ := p3
  rw [inv_int r3]
  refine ⟨a, b, rfl, rfl, ?_⟩
  obtain ⟨ad', H5, c5, z', hp, q, e5, g5⟩ := ds_rep (v := .int (a + b)) g3 ((r1.step e2).step e3) ((r2.start e1.dom).step e3) (by simp only [RepD]) p3
  cases z'
  exact ⟨H5, hp, p.nx _ _ _ _ _ _ ((((R.step e1 g1).step e2 g2).step e3 g3).step e5 g5) q⟩
end
end Ev

/-! # Ev10e: dicts: walks -/
namespace Ev
open PySem PySem.Spec PyProof.Rows L2
section
variable {K : PySem.W.Frag} {mg : Str → Option Value} {F F' H0 H H' : Hp} {κ : List Addr} {c : Cells} {x d : D} {vx v : V} {ks vs : List D}
/-- a dict that is never changed: its locked object -/
theorem rep_dfz (g : GOk K mg F κ c H) (r : RepX K mg F κ H0 H x vx) (h : dfz x = some (ks, vs)) : ∃ a o us, vx = .ref a ∧ ks.length = vs.length ∧ RepDs K mg F vs us ∧
    ((∃ ns : List Int, ks = ns.map .int ∧ F a = some (.frz o (.dK ((ns.map kI).zip us)))) ∨ ∃ ns : List (List Int), ks = ns.map (fun k => .tup (k.map .int)) ∧ F a = some (.frz o (.dT ((ns.map kW).zip us)))) := by
  cases x <;> simp only [dfz, reduceCtorEq] at h
  · split at h
    · rename_i hl
      cases h
      simp only [RepX, Rep1, RepD] at r
      obtain ⟨a, o, us, e, q, _, s⟩ := r
      exact ⟨a, o, us, e, by rw [List.length_map]; exact hl, s, .inl ⟨_, rfl, q⟩⟩
    · cases h
  · split at h
    · rename_i hl
      cases h
      simp only [RepX, Rep1, RepD] at r
      obtain ⟨a, o, us, e, q, _, s⟩ := r
      exact ⟨a, o, us, e, by rw [List.length_map]; exact hl, s, .inr ⟨_, rfl, q⟩⟩
    · cases h
theorem zip_get {α β : Type} {l : List α} {m : List β} {i : Nat} {p : α × β} (h : (l.zip m)[i]? = some p) : l[i]? = some p.1 ∧ m[i]? = some p.2 := by
  rw [List.getElem?_zip_eq_some] at h
  exact h
theorem it_keysK {ns : List Int} {us : List V} {a : Addr} {o : Obj} (hl : ns.length = us.length) (hF : F a = some (.frz o (.dK ((ns.map kI).zip us)))) : ItOk K mg F κ (Itk a o ((ns.map kI).zip us)) (ns.map .int) (fun _ => True) := by
  intro F' κ' c H s k g _ i
  have hH : H a = some (.frz o (.dK ((ns.map kI).zip us))) := g.sub _ _ (s _ _ hF)
  have hz : ((ns.map kI).zip us).length = ns.length := by rw [List.length_zip, List.length_map]; omega
  rw [List.length_map]
  refine ⟨fun hi => ⟨hH, by omega⟩, fun hi => ⟨⟨hH, by omega⟩, fun x H' ⟨e, k0, v0, h1, h2⟩ => ?_⟩⟩
  subst e
  obtain ⟨q1, _⟩ := zip_get h1
  rw [List.getElem?_map] at q1
  obtain ⟨m, hm, e⟩ := Option.map_eq_some_iff.mp q1
  refine ⟨.int m, F', by rw [List.getElem?_map, hm]; rfl, .refl, g, ?_⟩
  subst h2
  have : kI m = k0 := e
  rw [← this]
  simp only [RepD]
  rfl
/-- a word that stands in the heap is known from now on -/
theorem know_tup {ks : List Int} {q : Addr} (g : GOk K mg F κ c H) (hq : H q = some (.tup ((kW ks).map kV))) : ∃ F', Ext κ H F H F' ∧ GOk K mg F' κ c H ∧ RepD K mg F' (.tup (ks.map .int)) (.ref q) := by
  rw [kW_kV] at hq
  have rr : ∀ (F : Hp) (ks : List Int), RepDs K mg F (ks.map .int) (ks.map V.int) := fun F ks => by
    induction ks with
    | nil => exact .nil
    | cons k r ih => exact .cons (by simp only [RepD]) ih
  have hcell : q ∉ κ := fun hk => by
    obtain ⟨i, hi, e⟩ := List.getElem_of_mem hk
    have h1 : κ[i]? = some q := by rw [List.getElem?_eq_getElem hi, e]
    have hc : i < c.length := g.len ▸ hi
    obtain ⟨_, p⟩ := g.cell i q c[i] h1 (List.getElem?_eq_getElem hc)
    cases ho : c[i] with
    | lst ds => rw [ho] at p; obtain ⟨vs, p, _⟩ := p; rw [hq] at p; cases p
    | dI ds => rw [ho] at p; obtain ⟨vs, p, _⟩ := p; rw [hq] at p; cases p
    | dW ds => rw [ho] at p; obtain ⟨vs, p, _⟩ := p; rw [hq] at p; cases p
  have hs : Sub F (upd F q (.tup (ks.map V.int))) := fun b o e => by
    by_cases z : b = q
    · subst z
      have := g.sub _ _ e
      rw [hq] at this
      cases this
      exact upd_same
    · rw [upd_ne z]; exact e
  refine ⟨upd F q (.tup (ks.map V.int)), ⟨fun _ _ e _ => e, hs, fun a vs _ e f => ?_, fun _ e => e⟩, ⟨fun a o e => ?_, g.nd, g.len, fun i a ob h1 h2 => ?_⟩, ?_⟩
  · have : a ≠ q := fun z => by rw [z, hq] at e; cases e
    rw [upd_ne this]; exact f
  · by_cases z : a = q
    · subst z; rw [upd_same] at e; cases e; exact hq
    · rw [upd_ne z] at e; exact g.sub a o e
  · obtain ⟨p1, p2⟩ := g.cell i a ob h1 h2
    have : a ≠ q := fun z => hcell (z ▸ List.mem_of_getElem? h1)
    rw [upd_ne this]
    exact ⟨p1, p2.mono hs⟩
  · simp only [RepD]
    exact ⟨q, _, rfl, upd_same, rr _ ks⟩
theorem it_keysT {ns : List (List Int)} {us : List V} {a : Addr} {o : Obj} (hl : ns.length = us.length) (hF : F a = some (.frz o (.dT ((ns.map kW).zip us)))) : ItOk K mg F κ (Itkt a o ((ns.map kW).zip us)) (ns.map fun k => .tup (k.map .int)) (fun _ => True) := by
  intro F' κ' c H s k g _ i
  have hH : H a = some (.frz o (.dT ((ns.map kW).zip us))) := g.sub _ _ (s _ _ hF)
  have hz : ((ns.map kW).zip us).length = ns.length := by rw [List.length_zip, List.length_map]; omega
  rw [List.length_map]
  refine ⟨fun hi => ⟨hH, by omega⟩, fun hi => ⟨⟨hH, by omega⟩, fun x H' ⟨e, k0, v0, q, h1, h2, h3⟩ => ?_⟩⟩
  subst e
  obtain ⟨q1, _⟩ := zip_get h1
  rw [List.getElem?_map] at q1
  obtain ⟨m, hm, e⟩ := Option.map_eq_some_iff.mp q1
  have : kW m = k0 := e
  subst h2
  rw [← this] at h3
  obtain ⟨F2, e2, g2, r2⟩ := know_tup g h3
  exact ⟨_, F2, by rw [List.getElem?_map, hm]; rfl, e2, g2, r2⟩
theorem it_valsK {ns : List Int} {us : List V} {a : Addr} {o : Obj} (hl : ns.length = us.length) (rv : RepDs K mg F vs us) (hF : F a = some (.frz o (.dK ((ns.map kI).zip us)))) : ItOk K mg F κ (Itd a o ((ns.map kI).zip us)) vs (fun _ => True) := by
  intro F' κ' c H s k g _ i
  have hH : H a = some (.frz o (.dK ((ns.map kI).zip us))) := g.sub _ _ (s _ _ hF)
  have hz : ((ns.map kI).zip us).length = ns.length := by rw [List.length_zip, List.length_map]; omega
  have hv := rv.length
  refine ⟨fun hi => ⟨hH, by omega⟩, fun hi => ⟨⟨hH, by omega⟩, fun x H' ⟨e, k0, h1⟩ => ?_⟩⟩
  subst e
  obtain ⟨_, q2⟩ := zip_get h1
  obtain ⟨d, h3, h4⟩ := rv.get' q2
  exact ⟨d, F', h3, .refl, g, h4.mono s⟩
theorem zipL_at : ∀ {xs ys : List D} {i : Nat} {x y : D}, xs[i]? = some x → ys[i]? = some y → (zipL xs ys)[i]? = some (.tup [x, y])
  | a :: xs, b :: ys, 0, x, y, h1, h2 => by
    simp at h1 h2
    subst h1; subst h2
    rfl
  | a :: xs, b :: ys, i + 1, x, y, h1, h2 => by
    simp only [List.getElem?_cons_succ] at h1 h2
    have := zipL_at h1 h2
    simpa [zipL] using this
  | [], _, _, _, _, h, _ => by simp at h
  | _ :: _, [], _, _, _, _, h => by simp at h
theorem it_itemsK {ns : List Int} {us : List V} {a : Addr} {o : Obj} (hl : ns.length = us.length) (rv : RepDs K mg F vs us) (hF : F a = some (.frz o (.dK ((ns.map kI).zip us)))) : ItOk K mg F κ (Iti a o ((ns.map kI).zip us)) (zipL (ns.map .int) vs) (fun _ => True) := by
  intro F' κ' c H s k g _ i
  have hH : H a = some (.frz o (.dK ((ns.map kI).zip us))) := g.sub _ _ (s _ _ hF)
  have hz : ((ns.map kI).zip us).length = ns.length := by rw [List.length_zip, List.length_map]; omega
  have hv := rv.length
  have hzl : (zipL (ns.map .int) vs).length = ns.length := by rw [zipL, List.length_zipWith, List.length_map]; omega
  rw [hzl]
  refine ⟨fun hi => ⟨hH, by omega⟩, fun hi => ⟨⟨hH, by omega⟩, fun x H' ⟨T, k0, v0, h1, h2, h3, h4⟩ => ?_⟩⟩
  subst h2; subst h4
  obtain ⟨q1, q2⟩ := zip_get h1
  rw [List.getElem?_map] at q1
  obtain ⟨m, hm, e⟩ := Option.map_eq_some_iff.mp q1
  have : kI m = k0 := e
  obtain ⟨d, h5, h6⟩ := rv.get' q2
  obtain ⟨F3, e3, g3, r3⟩ := it_pair (d1 := .int m) g h3 (x := kV k0) (by rw [← this]; simp only [RepD]; rfl) (h6.mono s)
  exact ⟨_, F3, zipL_at (by rw [List.getElem?_map, hm]; rfl) h5, e3, g3, r3⟩
end
section
variable {X : Cx} {n : En} {tg e : Expr} {w : WE} {pos p : Pos}
theorem si_dks (he : SE X n e w) : SI X n tg e fun σ c Q => w σ c fun x c1 => ∃ ks vs, dfz x = some (ks, vs) ∧ Q ks (fun _ => True) c1 := by
  refine (pi_keys he).imp fun σ H R ⟨F, κ, c, σa, P, hR, hw, hP⟩ => ?_
  refine ⟨F, κ, c, σa, _, hR, hw, fun d c1 v H1 F1 p1 e1 g1 r1 => ?_⟩
  obtain ⟨ks, vs, hd, p⟩ := p1
  obtain ⟨a, o, us, rfl, hl, rv, ⟨ns, rfl, hF⟩ | ⟨ns, rfl, hF⟩⟩ := rep_dfz g1 r1 hd
  · rw [List.length_map] at hl
    exact ⟨a, o, rfl, .inl ⟨_, g1.sub _ _ hF, hP _ _ c1 _ H1 F1 p e1 g1 (it_keysK (hl.trans rv.length) hF)⟩⟩
  · rw [List.length_map] at hl
    exact ⟨a, o, rfl, .inr ⟨_, g1.sub _ _ hF, hP _ _ c1 _ H1 F1 p e1 g1 (it_keysT (hl.trans rv.length) hF)⟩⟩
end
end Ev

/-! # Ev10f: walks of the values and the pairs of a dict whose keys are words -/
namespace Ev
open PySem PySem.Spec PyProof.Rows L2
section
variable {X : Cx} {pins : List (Addr × Obj)} {σ : L2.St} {H : Hp} {s : Shared} {d : Addr} {o : Obj}
theorem frzTV {kvs : List (List Key × V)} (I : Inv X pins σ H s) (h : H d = some (.frz o (.dT kvs))) :
    (d == sysModules) = false ∧ ∃ (es : Array DictEntry) (ep : Nat), o.data = .dict es ep ∧ s.heap.DictRaw d es ep ∧ es.size = kvs.length ∧
      ∀ (i : Nat) (hi : i < es.size) (k : List Key) (v : V), kvs[i]? = some (k, v) → RelV v es[i].val ∧ ∃ (q : Addr), es[i].key = .ref q ∧ H q = some (.tup (k.map kV)) := by
  obtain ⟨hd, z, hs, xs, pr, o', es, ep, ho, hx, hdt, he, _⟩ := I.hok d _ h
  rw [hd] at ho
  cases ho
  refine ⟨hs, es, ep, hdt, ⟨o, hd, hx, hdt⟩, ?_, fun i hi k v e => ?_⟩
  · have l1 : es.size = xs.length := size_of_entries he
    have l2 : kvs.length = xs.length := Paired.length pr
    omega
  · obtain ⟨b, hb, e1, e2, e3⟩ := paired_get pr e
    have q := entry_at he i
    rw [hb, Array.getElem?_eq_getElem hi] at q
    have q := Option.some.inj q
    rw [q]
    exact ⟨e3, b.2.1, rfl, e2⟩
end
def Itdt (d : Addr) (o : Obj) (kvs : List (List Key × V)) : L2.It :=
  ⟨fun i H => H d = some (.frz o (.dT kvs)) ∧ i < kvs.length, fun i H x H' => H' = H ∧ ∃ k, kvs[i]? = some (k, x), fun i H => H d = some (.frz o (.dT kvs)) ∧ kvs.length ≤ i⟩
def Itit (d : Addr) (o : Obj) (kvs : List (List Key × V)) : L2.It :=
  ⟨fun i H => H d = some (.frz o (.dT kvs)) ∧ i < kvs.length, fun i H x H' => ∃ T k v q, kvs[i]? = some (k, v) ∧ x = .ref T ∧ H q = some (.tup (k.map kV)) ∧ H T = none ∧ H' = upd H T (.tup [.ref q, v]), fun i H => H d = some (.frz o (.dT kvs)) ∧ kvs.length ≤ i⟩
section
variable {P : Program} {w : World} {K : PySem.W.Frag} {tg : Expr} {d : Addr} {o : Obj} {es : Array DictEntry} {ep : Nat}
theorem turn_valsT {kvs : List (List Key × V)} (it : Addr) (hod : o.data = .dict es ep) : Turn P w K tg (Itdt d o kvs) [it] it (fun i h => h.IsValIter it d i kvs.length ep) where
  mem := by simp
  obj := fun i h st b hb => by
    have e : b = it := by simpa using hb
    subst e
    obtain ⟨oi, e, c, dd⟩ := st
    exact ⟨oi, e, fun v z => by rw [dd] at z; cases z⟩
  keep := fun i h h' st k => st.at fun oi e => k it (by simp) oi e
  item := by
    intro X hP hw hK hc i pins s σ H E I hf st hg
    subst hP hw hK
    obtain ⟨hd, hi⟩ := hg
    obtain ⟨f0, f1, f2, f3, f4, f5⟩ := hf it (by simp)
    obtain ⟨hs, es', ep', hdt, hm, hsz, ent⟩ := frzTV I hd
    obtain ⟨rfl, rfl⟩ := dict_ep hod hdt
    obtain ⟨⟨k, v⟩, hkv⟩ : ∃ p, kvs[i]? = some p := ⟨kvs[i], List.getElem?_eq_getElem hi⟩
    have hie : i < es'.size := by omega
    obtain ⟨ru, q, _, _⟩ := ent i hie k v hkv
    rw [← hsz] at st
    refine wpAny_pyNext_values_item_raw st hm hie fun h' st' sb => ?_
    have I1 : Inv X pins σ H { s with heap := h' } := I.turned (t' := s.toks) (fun b ob hb e => (sb.2 b hb).trans e) f0 f1 f3 f4 f5
    obtain ⟨oi, e, c, dd⟩ := id st'
    refine ⟨_, rfl, go_of (s := { s with heap := h' }) e c dd (by decide) ⟨v, H, I1, ru, ⟨rfl, k, hkv⟩, ?_, fun b hb => (hf b hb).1⟩⟩
    show h'.IsValIter it d (i + 1) kvs.length _
    rw [← hsz]
    exact st'
  done := by
    intro X hP hw hK hc i pins s σ H E I hf st hg
    subst hP hw hK
    obtain ⟨hd, hi⟩ := hg
    obtain ⟨f0, f1, f2, f3, f4, f5⟩ := hf it (by simp)
    obtain ⟨hs, es', ep', hdt, hm, hsz, ent⟩ := frzTV I hd
    obtain ⟨rfl, rfl⟩ := dict_ep hod hdt
    rw [← hsz] at st
    exact wpAny_pyNext_values_end_raw (I.ok.hd hc) st hm (by omega) fun h' eb => ⟨rfl, I.turned (t' := s.toks) (fun b ob hb e => eb b ob hb e) f0 f1 f3 f4 f5⟩
  self := fun A i s Q E st h => wpAny_pyIter_valiter st h
theorem turn_itemsT {kvs : List (List Key × V)} {elts : List Expr} {kk : Nat} {tpos : Pos} (it : Addr) (hod : o.data = .dict es ep) :
    Turn P w K (.Tuple elts kk tpos) (Itit d o kvs) [it] it (fun i h => ∃ ok ov, IsItemIter h it d i kvs.length ep ok ov) where
  mem := by simp
  obj := fun i h st b hb => by
    have e : b = it := by simpa using hb
    subst e
    obtain ⟨ok, ov, e⟩ := st
    exact ⟨_, e, fun v z => nomatch z⟩
  keep := fun i h h' st k => let ⟨ok, ov, e⟩ := st; ⟨ok, ov, k it (by simp) _ e⟩
  item := by
    intro X hP hw hK hc i pins s σ H E I hf st hg
    subst hP hw hK
    obtain ⟨hd, hi⟩ := hg
    obtain ⟨hs, es', ep', hdt, hm, hsz, ent⟩ := frzTV I hd
    obtain ⟨rfl, rfl⟩ := dict_ep hod hdt
    obtain ⟨⟨k, v⟩, hkv⟩ : ∃ p, kvs[i]? = some p := ⟨kvs[i], List.getElem?_eq_getElem hi⟩
    have hie : i < es'.size := by omega
    obtain ⟨ru, q, hkey, hq⟩ := ent i hie k v hkv
    obtain ⟨ok, ov, he⟩ := st
    rw [← hsz] at he
    have hlt : it < s.heap.objs.size := Heap.lt_size he
    refine wpAny_pyNext_items_item_raw he hm hie fun h' ho hT hz hk => ?_
    refine ⟨_, rfl, wpAny_letOwnedTupleGo_items (s := { s with heap := h' }) ho fun h'' he' sb => ?_⟩
    have hT2 : h''.get? s.heap.objs.size = some { cls := .type "tuple", data := .seq #[es'[i].key, es'[i].val] } := (sb.2 _ (Nat.ne_of_gt hlt)).trans hT
    have new : ObjOk X.prog X.w (upd H s.heap.objs.size (.tup [.ref q, v])) h'' s.heap.objs.size (.tup [.ref q, v]) :=
      ⟨by show 2 ≤ sizeLine; decide, [es'[i].key, es'[i].val], .cons hkey (.cons ru .nil), ⟨_, hT2, rfl, _, rfl⟩⟩
    have I1 : Inv X pins σ (upd H s.heap.objs.size (.tup [.ref q, v])) { s with heap := h'' } :=
      I.turnedNew (t' := s.toks) (ch := [it]) (fun b ob hb e => (sb.2 b (by simpa using hb)).trans (hk b ob (by simpa using hb) e)) hf (Nat.le_refl _) new
    refine ⟨.ref s.heap.objs.size, _, I1, rfl, ⟨_, k, v, q, hkv, rfl, hq, I.hok.fresh (Nat.le_refl _), rfl⟩, ⟨es'[i].key, es'[i].val, ?_⟩, fun b hb => ?_⟩
    · rw [← hsz]; exact he'
    · have e : b = it := by simpa using hb
      rw [e, upd_ne (Nat.ne_of_lt hlt)]
      exact (hf it (by simp)).1
  done := by
    intro X hP hw hK hc i pins s σ H E I hf st hg
    subst hP hw hK
    obtain ⟨hd, hi⟩ := hg
    obtain ⟨f0, f1, f2, f3, f4, f5⟩ := hf it (by simp)
    obtain ⟨hs, es', ep', hdt, hm, hsz, ent⟩ := frzTV I hd
    obtain ⟨rfl, rfl⟩ := dict_ep hod hdt
    obtain ⟨ok, ov, he⟩ := st
    rw [← hsz] at he
    exact wpAny_pyNext_items_end_raw (I.ok.hd hc) he hm (by omega) fun h' eb => ⟨rfl, I.turned (t' := s.toks) (fun b ob hb e => eb b ob hb e) f0 f1 f3 f4 f5⟩
  self := fun A i s Q E st h => let ⟨_, _, e⟩ := st; PySem.W.kcp_self e h
end
/-- either kind -/
def iVals2 (td : TE) : TI := fun σ H R => td σ H fun x H1 => ∃ d o, x = .ref d ∧ ((∃ kvs, H1 d = some (.frz o (.dK kvs)) ∧ R (Itd d o kvs) H1) ∨ ∃ kvs, H1 d = some (.frz o (.dT kvs)) ∧ R (Itdt d o kvs) H1)
def iItems2 (td : TE) : TI := fun σ H R => td σ H fun x H1 => ∃ d o, x = .ref d ∧ ((∃ kvs, H1 d = some (.frz o (.dK kvs)) ∧ R (Iti d o kvs) H1) ∨ ∃ kvs, H1 d = some (.frz o (.dT kvs)) ∧ R (Itit d o kvs) H1)
theorem frzK2 {X : Cx} {pins : List (Addr × Obj)} {σ : L2.St} {H : Hp} {s : Shared} {d : Addr} {o : Obj} {kvs : List (Key × V)} (I : Inv X pins σ H s) (h : H d = some (.frz o (.dK kvs))) : ∃ es ep, o.data = .dict es ep ∧ s.heap.DictRaw d es ep ∧ es.size = kvs.length := by
  obtain ⟨hs, hgd, hx, es, ep, vs, hdt, hsz, kv, hm⟩ := I.frzK h
  exact ⟨es, ep, hdt, ⟨o, hgd, hx, hdt⟩, hsz⟩
section
variable {X : Cx} {tg e : Expr} {td : TE} {apos cpos : Pos}
theorem pi_values2 (he : PE X e td) (hbase : attributeBase e "values" X.env (eval e X.env) = eval e X.env) (hline : (apos.endLine == cpos.line) = true) : PI X tg (.Call (.Attribute e "values" apos) [] [] cpos) (iVals2 td) := by
  refine ⟨fun pins s σ H R I h => ?_⟩
  refine wpAny_Call_method (T := "dict") (id := "dict.values") hbase rfl hline F.plainAttrs_dict F.slot_dict_values F.type_dict_values (thn (he.run pins s σ H _ I h) fun u s1 ⟨x, H1, I1, rx, d, o, ex, q⟩ => ?_)
  subst ex
  obtain rfl : u = Value.ref d := rx
  have key : ∀ (es : Array DictEntry) (ep : Nat), (d == sysModules) = false → s1.heap.DictRaw d es ep → (∀ s2 : Shared, s2 = { s1 with heap := s1.heap.push { cls := .type "dict_values", data := .fields #[.ref d] } } → s2.heap.IsValuesView s1.heap.objs.size d → s2.heap.DictRaw d es ep → Inv X pins σ H1 s2 → wpAny (model X.prog X.w) X.A (pyIter (.ref s1.heap.objs.size)) (PIE X pins σ tg R) X.xe s2) →
      s1.TypeIs (.ref d) "dict" ∧ (∀ b, Value.ref d = .ref b → ∃ ob, s1.heap.get? b = some ob ∧ ob.dict = none) ∧ wpAny (model X.prog X.w) X.A (callWith cpos (.builtin "dict.values") [.ref d] [] []) (fun v s' => wpAny (model X.prog X.w) X.A (pyIter v) (PIE X pins σ tg R) X.xe s') X.xe s1 := by
    intro es ep hs hm k
    refine ⟨hm.typeIs, fun b z => ?_, ?_⟩
    · cases z
      obtain ⟨ob, h1, h2, _⟩ := id hm
      exact ⟨ob, h1, h2.2.1⟩
    · have I2 : Inv X pins σ H1 { s1 with heap := s1.heap.push { cls := .type "dict_values", data := .fields #[.ref d] } } := I1.kept (t' := s1.toks) fun b ob q => Heap.get?_push_of_some _ q
      have fin := k _ rfl ⟨_, Heap.get?_push_size _ rfl, rfl, rfl⟩ (hm.at fun _ e => Heap.get?_push_of_some _ e) I2
      exact method_meetsIn F.slot_dict_values F.entry_dict_values rfl (PySem.evalArgs_none ⟨rfl, hm.typeIs, F.args_dict_values_1 _, _, meets_dict_values_raw d hs, ⟨⟨es, ep, hm⟩, fin⟩⟩)
  rcases q with ⟨kvs, hd, q⟩ | ⟨kvs, hd, q⟩
  · obtain ⟨hs, hgd, hx, es, ep, vs, hdt, hsz, kv, hm⟩ := I1.frzK hd
    refine key es ep hs ⟨o, hgd, hx, hdt⟩ fun s2 e2 hv hm2 I2 => ?_
    subst e2
    refine wpAny_pyIter_values_raw (d := d) hv hm2 (pi_one (tk := s1.toks) I2 _ (turn_vals _ hdt) ⟨_, Heap.get?_push_size _ rfl, rfl, ?_⟩ q)
    rw [hsz] <;> rfl
  · obtain ⟨hs, es, ep, hdt, hm, hsz, ent⟩ := frzTV I1 hd
    refine key es ep hs hm fun s2 e2 hv hm2 I2 => ?_
    subst e2
    refine wpAny_pyIter_values_raw (d := d) hv hm2 (pi_one (tk := s1.toks) I2 _ (turn_valsT _ hdt) ⟨_, Heap.get?_push_size _ rfl, rfl, ?_⟩ q)
    rw [hsz] <;> rfl
theorem pi_items2 {elts : List Expr} {kk : Nat} {tpos : Pos} (he : PE X e td) (hbase : attributeBase e "items" X.env (eval e X.env) = eval e X.env) (hline : (apos.endLine == cpos.line) = true) :
    PI X (.Tuple elts kk tpos) (.Call (.Attribute e "items" apos) [] [] cpos) (iItems2 td) := by
  refine ⟨fun pins s σ H R I h => ?_⟩
  refine wpAny_Call_method (T := "dict") (id := "dict.items") hbase rfl hline F.plainAttrs_dict F.slot_dict_items F.type_dict_items (thn (he.run pins s σ H _ I h) fun u s1 ⟨x, H1, I1, rx, d, o, ex, q⟩ => ?_)
  subst ex
  obtain rfl : u = Value.ref d := rx
  have key : ∀ (es : Array DictEntry) (ep : Nat), (d == sysModules) = false → s1.heap.DictRaw d es ep → (∀ s2 : Shared, s2 = { s1 with heap := s1.heap.push { cls := .type "dict_items", data := .fields #[.ref d] } } → s2.heap.IsItemsView s1.heap.objs.size d → s2.heap.DictRaw d es ep → Inv X pins σ H1 s2 → wpAny (model X.prog X.w) X.A (pyIter (.ref s1.heap.objs.size)) (PIE X pins σ (.Tuple elts kk tpos) R) X.xe s2) →
      s1.TypeIs (.ref d) "dict" ∧ (∀ b, Value.ref d = .ref b → ∃ ob, s1.heap.get? b = some ob ∧ ob.dict = none) ∧ wpAny (model X.prog X.w) X.A (callWith cpos (.builtin "dict.items") [.ref d] [] []) (fun v s' => wpAny (model X.prog X.w) X.A (pyIter v) (PIE X pins σ (.Tuple elts kk tpos) R) X.xe s') X.xe s1 := by
    intro es ep hs hm k
    refine ⟨hm.typeIs, fun b z => ?_, ?_⟩
    · cases z
      obtain ⟨ob, h1, h2, _⟩ := id hm
      exact ⟨ob, h1, h2.2.1⟩
    · have I2 : Inv X pins σ H1 { s1 with heap := s1.heap.push { cls := .type "dict_items", data := .fields #[.ref d] } } := I1.kept (t' := s1.toks) fun b ob q => Heap.get?_push_of_some _ q
      have fin := k _ rfl ⟨_, Heap.get?_push_size _ rfl, rfl, rfl⟩ (hm.at fun _ e => Heap.get?_push_of_some _ e) I2
      exact method_meetsIn F.slot_dict_items F.entry_dict_items rfl (PySem.evalArgs_none ⟨rfl, hm.typeIs, F.args_dict_items_1 _, _, meets_dict_items_raw d hs, ⟨⟨es, ep, hm⟩, fin⟩⟩)
  rcases q with ⟨kvs, hd, q⟩ | ⟨kvs, hd, q⟩
  · obtain ⟨hs, hgd, hx, es, ep, vs, hdt, hsz, kv, hm⟩ := I1.frzK hd
    refine key es ep hs ⟨o, hgd, hx, hdt⟩ fun s2 e2 hv hm2 I2 => ?_
    subst e2
    refine wpAny_pyIter_items_raw (d := d) hv hm2 (pi_one (tk := s1.toks) I2 _ (turn_items _ hdt) ⟨.none, .none, ?_⟩ q)
    rw [← hsz]
    exact Heap.get?_push_size _ rfl
  · obtain ⟨hs, es, ep, hdt, hm, hsz, ent⟩ := frzTV I1 hd
    refine key es ep hs hm fun s2 e2 hv hm2 I2 => ?_
    subst e2
    refine wpAny_pyIter_items_raw (d := d) hv hm2 (pi_one (tk := s1.toks) I2 _ (turn_itemsT _ hdt) ⟨.none, .none, ?_⟩ q)
    rw [← hsz]
    exact Heap.get?_push_size _ rfl
end
section
variable {K : PySem.W.Frag} {mg : Str → Option Value} {F F' H0 H H' : Hp} {κ : List Addr} {c : Cells} {vs : List D}
theorem it_valsT {ns : List (List Int)} {us : List V} {a : Addr} {o : Obj} (hl : ns.length = us.length) (rv : RepDs K mg F vs us) (hF : F a = some (.frz o (.dT ((ns.map kW).zip us)))) : ItOk K mg F κ (Itdt a o ((ns.map kW).zip us)) vs (fun _ => True) := by
  intro F' κ' c H s k g _ i
  have hH : H a = some (.frz o (.dT ((ns.map kW).zip us))) := g.sub _ _ (s _ _ hF)
  have hz : ((ns.map kW).zip us).length = ns.length := by rw [List.length_zip, List.length_map]; omega
  have hv := rv.length
  refine ⟨fun hi => ⟨hH, by omega⟩, fun hi => ⟨⟨hH, by omega⟩, fun x H' ⟨e, k0, h1⟩ => ?_⟩⟩
  subst e
  obtain ⟨_, q2⟩ := zip_get h1
  obtain ⟨d, h3, h4⟩ := rv.get' q2
  exact ⟨d, F', h3, .refl, g, h4.mono s⟩
theorem it_itemsT {ns : List (List Int)} {us : List V} {a : Addr} {o : Obj} (hl : ns.length = us.length) (rv : RepDs K mg F vs us) (hF : F a = some (.frz o (.dT ((ns.map kW).zip us)))) : ItOk K mg F κ (Itit a o ((ns.map kW).zip us)) (zipL (ns.map fun k => .tup (k.map .int)) vs) (fun _ => True) := by
  intro F' κ' c H s k g _ i
  have hH : H a = some (.frz o (.dT ((ns.map kW).zip us))) := g.sub _ _ (s _ _ hF)
  have hz : ((ns.map kW).zip us).length = ns.length := by rw [List.length_zip, List.length_map]; omega
  have hv := rv.length
  have hzl : (zipL (ns.map fun k => .tup (k.map .int)) vs).length = ns.length := by rw [zipL, List.length_zipWith, List.length_map]; omega
  rw [hzl]
  refine ⟨fun hi => ⟨hH, by omega⟩, fun hi => ⟨⟨hH, by omega⟩, fun x H' ⟨T, k0, v0, q, h1, h2, hq, h3, h4⟩ => ?_⟩⟩
  subst h2; subst h4
  obtain ⟨q1, q2⟩ := zip_get h1
  rw [List.getElem?_map] at q1
  obtain ⟨m, hm, e⟩ := Option.map_eq_some_iff.mp q1
  have : kW m = k0 := e
  rw [← this] at hq
  obtain ⟨F2, e2, g2, r2⟩ := know_tup g hq
  obtain ⟨d, h5, h6⟩ := rv.get' q2
  obtain ⟨F3, e3, g3, r3⟩ := it_pair g2 h3 r2 ((h6.mono s).mono e2.fk)
  exact ⟨_, F3, zipL_at (by rw [List.getElem?_map, hm]; rfl) h5, e2.trans e3, g3, r3⟩
end
section
variable {X : Cx} {n : En} {tg e : Expr} {w : WE} {cpos apos : Pos}
theorem si_dvs (hb : okBase e = true) (hline : (apos.endLine == cpos.line) = true) (he : SE X n e w) : SI X n tg (.Call (.Attribute e "values" apos) [] [] cpos) fun σ c Q => w σ c fun x c1 => ∃ ks vs, dfz x = some (ks, vs) ∧ Q vs (fun _ => True) c1 := by
  refine (pi_values2 he (base_of hb) hline).imp fun σ H R ⟨F, κ, c, σa, P, hR, hw, hP⟩ => ?_
  refine ⟨F, κ, c, σa, _, hR, hw, fun d c1 v H1 F1 p1 e1 g1 r1 => ?_⟩
  obtain ⟨ks, vs, hd, p⟩ := p1
  obtain ⟨a, o, us, rfl, hl, rv, ⟨ns, rfl, hF⟩ | ⟨ns, rfl, hF⟩⟩ := rep_dfz g1 r1 hd
  · rw [List.length_map] at hl
    exact ⟨a, o, rfl, .inl ⟨_, g1.sub _ _ hF, hP _ _ c1 _ H1 F1 p e1 g1 (it_valsK (hl.trans rv.length) rv hF)⟩⟩
  · rw [List.length_map] at hl
    exact ⟨a, o, rfl, .inr ⟨_, g1.sub _ _ hF, hP _ _ c1 _ H1 F1 p e1 g1 (it_valsT (hl.trans rv.length) rv hF)⟩⟩
theorem si_dit {elts : List Expr} {kk : Nat} {tpos : Pos} (hb : okBase e = true) (hline : (apos.endLine == cpos.line) = true) (he : SE X n e w) : SI X n (.Tuple elts kk tpos) (.Call (.Attribute e "items" apos) [] [] cpos) fun σ c Q => w σ c fun x c1 => ∃ ks vs, dfz x = some (ks, vs) ∧ Q (zipL ks vs) (fun _ => True) c1 := by
  refine (pi_items2 he (base_of hb) hline).imp fun σ H R ⟨F, κ, c, σa, P, hR, hw, hP⟩ => ?_
  refine ⟨F, κ, c, σa, _, hR, hw, fun d c1 v H1 F1 p1 e1 g1 r1 => ?_⟩
  obtain ⟨ks, vs, hd, p⟩ := p1
  obtain ⟨a, o, us, rfl, hl, rv, ⟨ns, rfl, hF⟩ | ⟨ns, rfl, hF⟩⟩ := rep_dfz g1 r1 hd
  · rw [List.length_map] at hl
    exact ⟨a, o, rfl, .inl ⟨_, g1.sub _ _ hF, hP _ _ c1 _ H1 F1 p e1 g1 (it_itemsK (hl.trans rv.length) rv hF)⟩⟩
  · rw [List.length_map] at hl
    exact ⟨a, o, rfl, .inr ⟨_, g1.sub _ _ hF, hP _ _ c1 _ H1 F1 p e1 g1 (it_itemsT (hl.trans rv.length) rv hF)⟩⟩
end
end Ev

/-! # Ev11: the check of a text against the small language; expressions are sound -/
namespace Ev
open PySem PySem.Spec PyProof.Rows L2

/-- what is known of the module's names -/
structure Glob where
  fs : List Str
  cs : List (Str × Int)
  xs : List Str
  ks : List Str
def bAll : List B := [.len, .int, .abs, .min, .max, .sum, .any, .all, .tuple, .list, .repr]
def moreB : List Str := ["range", "isinstance", "enumerate", "zip", "reversed", "int", "str", "tuple", "list"]
structure GlobOk (G : Glob) (X : Cx) (k : Nat) (T : List Tab) : Prop where
  has : Has X k T
  fs : ∀ f ∈ G.fs, ∃ t ∈ T, t.name = f
  cs : ∀ p ∈ G.cs, ∃ t, X.mg p.1 = some (.int p.2 t)
  xs : ∀ x ∈ G.xs, ExcOk X x
  blt : ∀ b, X.mg (bName b) = none
  more : ∀ x ∈ moreB, X.mg x = none
structure Cok (X : Cx) (N : List Str) (sc : Scope) (cf : Str → Bool) : Prop where
  hN : X.N = N
  nd : N.Nodup
  hsc : X.env.scope = sc
  kd : sc.kind = .function
  calm : X.calm = true
  fn : ∀ x, X.fn x = cf x
def isGl (sc : Scope) (x : Str) : Bool := (match sc.names.lookup x with | some .globalImplicit => true | _ => false) && !(x == ("__debug__" : Str))
def okVar (N : List Str) (sc : Scope) (i : Nat) (x : Str) : Bool :=
  (match N[i]? with | some y => decide (y = x) | none => false) && (match sc.names.lookup x with | some .local => true | some .cell => true | some .free => true | _ => false) && !(x == ("__debug__" : Str)) && !(x == ("__classdict__" : Str))
def okTgt (N : List Str) (sc : Scope) (cf : Str → Bool) (i : Nat) (x : Str) : Bool :=
  (match N[i]? with | some y => decide (y = x) | none => false) && (match sc.names.lookup x with | some .local => true | some .cell => cf x | _ => false)
def okTgts (N : List Str) (sc : Scope) (cf : Str → Bool) : List Nat → List Expr → Bool
  | [], [] => true
  | i :: is, e :: es => (match e with | .Name x _ => okTgt N sc cf i x | _ => false) && okTgts N sc cf is es
  | _, _ => false
def chkTg (N : List Str) (sc : Scope) (cf : Str → Bool) (t : Tg) (e : Expr) : Bool := match t with
  | .nm i => match e with
    | .Name x _ => okTgt N sc cf i x
    | _ => false
  | .tp is => match e with
    | .Tuple es _ _ => okTgts N sc cf is es
    | _ => false
def noSet : Expr → Bool
  | .Set _ _ _ => false
  | _ => true
def ownN (N : List Str) (own : List Nat) : List (Str × Nat) := own.map fun i => (N.getD i Str.empty, i)
variable (G : Glob)
mutual
def chkE (N : List Str) (sc : Scope) (cf : Str → Bool) (ir : E) (e : Expr) : Bool := match ir with
  | .var i => match e with
    | .Name x _ => okVar N sc i x
    | _ => false
  | .lit d => match e with
    | .Constant c _ _ => match d, c with
      | .int i, .int j => decide (i = j)
      | .bl i, .bool j => decide (i = j)
      | .str i, .str j => decide (i = j)
      | .non, .none => true
      | _, _ => false
    | _ => false
  | .gint x i => match e with
    | .Name y _ => decide (y = x) && isGl sc x && decide ((x, i) ∈ G.cs)
    | _ => false
  | .gfn x => match e with
    | .Name y _ => decide (y = x) && isGl sc x && decide (x ∈ G.fs)
    | _ => false
  | .bin op a b => match e with
    | .BinOp a' op' b' _ => decide (op' = op) && chkE N sc cf a a' && chkE N sc cf b b'
    | _ => false
  | .neg a => match e with
    | .UnaryOp .USub a' _ => chkE N sc cf a a'
    | _ => false
  | .not a => match e with
    | .UnaryOp .Not a' _ => chkE N sc cf a a'
    | _ => false
  | .cmp op a b => match e with
    | .Compare a' [op'] [b'] _ => decide (op' = op) && noSet b' && chkE N sc cf a a' && chkE N sc cf b b'
    | _ => false
  | .chain o1 o2 a b d => match e with
    | .Compare a' [o1', o2'] [b', d'] _ => decide (o1' = o1) && decide (o2' = o2) && noSet d' && chkE N sc cf a a' && chkE N sc cf b b' && chkE N sc cf d d'
    | _ => false
  | .and a b => match e with
    | .BoolOp .And [a', b'] _ => chkE N sc cf a a' && chkE N sc cf b b'
    | .BoolOp .And (a' :: b' :: d' :: r) p => chkE N sc cf a a' && chkE N sc cf b (.BoolOp .And (b' :: d' :: r) p)
    | _ => false
  | .or a b => match e with
    | .BoolOp .Or [a', b'] _ => chkE N sc cf a a' && chkE N sc cf b b'
    | .BoolOp .Or (a' :: b' :: d' :: r) p => chkE N sc cf a a' && chkE N sc cf b (.BoolOp .Or (b' :: d' :: r) p)
    | _ => false
  | .ite t a b => match e with
    | .IfExp t' a' b' _ => chkT N sc cf t t' && chkE N sc cf a a' && chkE N sc cf b b'
    | _ => false
  | .tup es => match e with
    | .Tuple es' _ _ => chkL N sc cf es es'
    | _ => false
  | .lst es => match e with
    | .List es' _ => chkL N sc cf es es'
    | _ => false
  | .idx a b => match e with
    | .Subscript a' b' _ => noSlice b' && chkE N sc cf a a' && chkE N sc cf b b'
    | _ => false
  | .sl a lo hi => match e with
    | .Subscript a' (.Slice lo' hi' none _) _ => chkE N sc cf a a' && chkO N sc cf lo lo' && chkO N sc cf hi hi'
    | _ => false
  | .call f es => match e with
    | .Call (.Name x _) (e1 :: er) [] _ => decide (x = f) && isGl sc f && decide (f ∈ G.fs) && (e1 :: er).all noStar && chkA N sc cf es (e1 :: er)
    | _ => false
  | .calv g es => match e with
    | .Call (.Subscript a' b' p) (e1 :: er) [] _ => (e1 :: er).all noStar && chkE N sc cf g (.Subscript a' b' p) && chkA N sc cf es (e1 :: er)
    | _ => false
  | .blt b es => match e with
    | .Call (.Name x _) (e1 :: er) [] _ => decide (x = bName b) && isGl sc x && (e1 :: er).all noStar && chkA N sc cf es (e1 :: er)
    | _ => false
  | .meth m o es => match e with
    | .Call (.Attribute (.Name y py) nm apos) as [] pos => decide (nm = mName m) && (apos.endLine == pos.line) && chkE N sc cf o (.Name y py) && (match as with
      | [] => (match es with | .nil => true | _ => false)
      | [a1] => noStar a1 && chkA N sc cf es [a1]
      | _ => false)
    | _ => false
  | .isin a ty => match e with
    | .Call (.Name f _) [a', .Name t _] [] _ => decide (f = ("isinstance" : Str)) && decide (t = tyStr ty) && isGl sc f && isGl sc t && noStar a' && chkE N sc cf a a'
    | _ => false
  | .lc own tg it cnd el => match e with
    | .ListComp el' [⟨tg', it', ifs', 0⟩] scope _ =>
      blkC N sc scope (ownN N own) && tgIn own tg && noSet it' && chkTg N (relS scope sc) (fun x => scope.names.lookup x == some .cell) tg tg' && chkI N sc cf it tg' it' &&
        chkC N (relS scope sc) (fun x => scope.names.lookup x == some .cell) cnd ifs' && chkE N (relS scope sc) (fun x => scope.names.lookup x == some .cell) el el'
    | _ => false
  | .sls a k => match e with
    | .Subscript a' (.Slice none none (some k') _) _ => chkE N sc cf a a' && chkE N sc cf k k'
    | _ => false
  | .trg b a => match e with
    | .Call (.Name f _) [.Call (.Name r _) [a'] [] _] [] _ => decide (f = (if b = true then ("tuple" : Str) else "list")) && decide (r = ("range" : Str)) && isGl sc f && isGl sc r && noStar a' && chkE N sc cf a a'
    | _ => false
  | .dix a b => match e with
    | .Subscript a' b' _ => noSlice b' && chkE N sc cf a a' && chkE N sc cf b b'
    | _ => false
  | .din neg a b => match e with
    | .Compare a' [op'] [b'] _ => decide (op' = dinOp neg) && noSet b' && chkE N sc cf a a' && chkE N sc cf b b'
    | _ => false
  | .dg1 a b => match e with
    | .Call (.Attribute a' nm apos) [b'] [] pos => decide (nm = ("get" : Str)) && okBase a' && (apos.endLine == pos.line) && noStar b' && chkE N sc cf a a' && chkE N sc cf b b'
    | _ => false
  | .dg2 a b d => match e with
    | .Call (.Attribute a' nm apos) [b', d'] [] pos => decide (nm = ("get" : Str)) && okBase a' && (apos.endLine == pos.line) && noStar b' && noStar d' && chkE N sc cf a a' && chkE N sc cf b b' && chkE N sc cf d d'
    | _ => false
  | .dln a => match e with
    | .Call (.Name f _) [a'] [] _ => decide (f = ("len" : Str)) && isGl sc f && noStar a' && chkE N sc cf a a'
    | _ => false
def chkT (N : List Str) (sc : Scope) (cf : Str → Bool) (ir : T) (e : Expr) : Bool := match ir with
  | .not a => match e with
    | .UnaryOp .Not a' _ => chkT N sc cf a a'
    | _ => false
  | .and a b => match e with
    | .BoolOp .And [a', b'] _ => chkT N sc cf a a' && chkT N sc cf b b'
    | .BoolOp .And (a' :: b' :: d' :: r) p => chkT N sc cf a a' && chkT N sc cf b (.BoolOp .And (b' :: d' :: r) p)
    | _ => false
  | .or a b => match e with
    | .BoolOp .Or [a', b'] _ => chkT N sc cf a a' && chkT N sc cf b b'
    | .BoolOp .Or (a' :: b' :: d' :: r) p => chkT N sc cf a a' && chkT N sc cf b (.BoolOp .Or (b' :: d' :: r) p)
    | _ => false
  | .cmp op a b => match e with
    | .Compare a' [op'] [b'] _ => decide (op' = op) && noSet b' && chkE N sc cf a a' && chkE N sc cf b b'
    | _ => false
  | .chain o1 o2 a b d => match e with
    | .Compare a' [o1', o2'] [b', d'] _ => decide (o1' = o1) && decide (o2' = o2) && noSet d' && chkE N sc cf a a' && chkE N sc cf b b' && chkE N sc cf d d'
    | _ => false
  | .val a => valT e && chkE N sc cf a e
  | .din neg a b => match e with
    | .Compare a' [op'] [b'] _ => decide (op' = dinOp neg) && noSet b' && chkE N sc cf a a' && chkE N sc cf b b'
    | _ => false
def chkL (N : List Str) (sc : Scope) (cf : Str → Bool) (ir : Es) (es : List Expr) : Bool := match ir with
  | .nil => match es with
    | [] => true
    | _ => false
  | .cons a r => match es with
    | a' :: r' => noStar a' && chkE N sc cf a a' && chkL N sc cf r r'
    | _ => false
  | .star a r => match es with
    | .Starred a' _ :: r' => chkE N sc cf a a' && chkL N sc cf r r'
    | _ => false
def chkA (N : List Str) (sc : Scope) (cf : Str → Bool) (ir : Es) (es : List Expr) : Bool := match ir with
  | .nil => match es with
    | [] => true
    | _ => false
  | .cons a r => match es with
    | a' :: r' => noStar a' && chkE N sc cf a a' && chkA N sc cf r r'
    | _ => false
  | .star _ _ => false
def chkO (N : List Str) (sc : Scope) (cf : Str → Bool) (ir : Eo) (e : Option Expr) : Bool := match ir with
  | .none => match e with
    | none => true
    | _ => false
  | .some a => match e with
    | some a' => chkE N sc cf a a'
    | _ => false
def chkC (N : List Str) (sc : Scope) (cf : Str → Bool) (ir : To) (es : List Expr) : Bool := match ir with
  | .none => match es with
    | [] => true
    | _ => false
  | .some a => match es with
    | [a'] => chkT N sc cf a a'
    | _ => false
def chkI (N : List Str) (sc : Scope) (cf : Str → Bool) (ir : It) (tg e : Expr) : Bool := match ir with
  | .seq a => chkE N sc cf a e
  | .rng es => match e with
    | .Call (.Name x _) as [] _ => decide (x = ("range" : Str)) && isGl sc x && (as.length == 1 || as.length == 2 || as.length == 3) && chkA N sc cf es as
    | _ => false
  | .enum a => match e with
    | .Call (.Name x _) [a'] [] _ => decide (x = ("enumerate" : Str)) && isGl sc x && noStar a' && (match tg with | .Tuple _ _ _ => true | _ => false) && chkE N sc cf a a'
    | _ => false
  | .zip a b => match e with
    | .Call (.Name x _) [a', b'] [] _ => decide (x = ("zip" : Str)) && isGl sc x && noStar a' && noStar b' && (match tg with | .Tuple _ _ _ => true | _ => false) && chkE N sc cf a a' && chkE N sc cf b b'
    | _ => false
  | .rev _ => false
  | .dks a => chkE N sc cf a e
  | .dvs a => match e with
    | .Call (.Attribute a' nm apos) [] [] pos => decide (nm = ("values" : Str)) && okBase a' && (apos.endLine == pos.line) && chkE N sc cf a a'
    | _ => false
  | .dit a => match e with
    | .Call (.Attribute a' nm apos) [] [] pos => decide (nm = ("items" : Str)) && okBase a' && (apos.endLine == pos.line) && (match tg with | .Tuple _ _ _ => true | _ => false) && chkE N sc cf a a'
    | _ => false
end

section
variable {G : Glob} {X : Cx} {n : En} {N : List Str} {sc : Scope} {cf : Str → Bool} {k : Nat} {T : List Tab} {W : XW}
theorem gl_of (hC : Cok X N sc cf) {x : Str} (h : isGl sc x = true) : Gl X x ∧ (x == ("__debug__" : Str)) = false := by
  simp only [isGl, Bool.and_eq_true, Bool.not_eq_true'] at h
  refine ⟨?_, h.2⟩
  have h1 := h.1
  show X.env.scope.names.lookup x = some .globalImplicit
  rw [hC.hsc]
  revert h1
  cases sc.names.lookup x with
  | none => intro q; cases q
  | some kd => cases kd <;> intro q <;> first | rfl | cases q
theorem ix_of {i : Nat} {x : Str} (h : (match N[i]? with | some y => decide (y = x) | none => false) = true) : N[i]? = some x := by
  cases e : N[i]? with
  | none => rw [e] at h; cases h
  | some y => rw [e] at h; rw [of_decide_eq_true h]
theorem var_of (hC : Cok X N sc cf) {i : Nat} {x : Str} (h : okVar N sc i x = true) : X.N[i]? = some x ∧ Vis X.env.scope x ∧ (x == ("__debug__" : Str)) = false ∧ (x == ("__classdict__" : Str)) = false := by
  simp only [okVar, Bool.and_eq_true, Bool.not_eq_true'] at h
  refine ⟨by rw [hC.hN]; exact ix_of h.1.1.1, ?_, h.1.2, h.2⟩
  have h1 := h.1.1.2
  unfold Vis
  rw [hC.hsc]
  revert h1
  cases sc.names.lookup x with
  | none => intro q; cases q
  | some kd => cases kd <;> intro q <;> first | exact .inl rfl | exact .inr (.inl rfl) | exact .inr (.inr rfl) | cases q
theorem tgt_of (hC : Cok X N sc cf) {i : Nat} {x : Str} (h : okTgt N sc cf i x = true) : X.N[i]? = some x ∧ L2.Loc X.env.scope x ∧ (X.fn x = true ∨ X.env.scope.names.lookup x = some .local) := by
  simp only [okTgt, Bool.and_eq_true] at h
  refine ⟨by rw [hC.hN]; exact ix_of h.1, ?_⟩
  have h1 := h.2
  unfold L2.Loc
  rw [hC.hsc, hC.fn]
  revert h1
  cases sc.names.lookup x with
  | none => intro q; cases q
  | some kd => cases kd <;> intro q <;> first | exact ⟨.inl rfl, .inr rfl⟩ | exact ⟨.inr rfl, .inl q⟩ | cases q
theorem tgts_of (hC : Cok X N sc cf) : ∀ {is : List Nat} {es : List Expr}, okTgts N sc cf is es = true → Nms X es is
  | [], [], _ => .nil
  | i :: is, e :: es, h => by
    simp only [okTgts, Bool.and_eq_true] at h
    cases e with
    | Name x p =>
      obtain ⟨a, b, c⟩ := tgt_of hC h.1
      exact .cons a b c (tgts_of hC h.2)
    | _ => cases h.1
  | [], _ :: _, h => by cases h
  | _ :: _, [], h => by cases h
theorem snd_Tg (hC : Cok X N sc cf) {t : Tg} {e : Expr} (h : chkTg N sc cf t e = true) : STg X n e t := by
  cases t with
  | nm i =>
    simp only [chkTg] at h
    split at h
    · obtain ⟨a, b, c⟩ := tgt_of hC h
      exact stg_nm (by rw [hC.hN]; exact hC.nd) a b c
    · cases h
  | tp is =>
    simp only [chkTg] at h
    split at h
    · exact stg_tp hC.calm (by rw [hC.hN]; exact hC.nd) (tgts_of hC h)
    · cases h
theorem set_of {e : Expr} (h : noSet e = true) : ∀ es k p, e ≠ .Set es k p := fun es k p z => by subst z; cases h
theorem fold_of {e : Expr} {env : Env} (h : noSet e = true) : ∀ x, foldedSetIterable e env x = pure x := fun x => by cases e <;> first | rfl | cases h
theorem own_map (own : List Nat) : (ownN N own).map (·.2) = own := by simp [ownN, List.map_map, Function.comp_def]
end
end Ev

/-! # Ev12: expressions are sound -/
namespace Ev
open PySem PySem.Spec PyProof.Rows L2
section
variable {G : Glob} {k : Nat} {T : List Tab}
/-- the block of a comprehension stands in the same text -/
theorem GlobOk.blk {X : Cx} (g : GlobOk G X k T) (s : Shared) (H : Hp) (scope : Scope) (cenv : Env) (fp : List Addr) : GlobOk G (X.blk s H scope cenv fp) k T :=
  ⟨⟨g.has.room, g.has.gd, g.has.fns⟩, g.fs, g.cs, fun x hx => let ⟨C, a, b, c, d⟩ := (g.xs x hx).ex; ⟨C, a, b, c, d⟩, g.blt, g.more⟩
theorem Cok.blk {X : Cx} {N : List Str} {sc : Scope} {cf : Str → Bool} (hC : Cok X N sc cf) {scope : Scope} (hk : scope.kind = .function) (s : Shared) (H : Hp) (C : Addr) (cl : List (Str × Addr)) (fp : List Addr) :
    Cok (X.blk s H scope (compEnvC scope cl C X.env) fp) N (relS scope sc) (fun x => scope.names.lookup x == some .cell) := by
  refine ⟨hC.hN, hC.nd, ?_, hk, hC.calm, fun x => rfl⟩
  rw [← hC.hsc]; rfl
theorem never_takes {X : Cx} {n : En} : Takes X (wX X n fun _ _ _ => False) := fun u s' x => by
  obtain ⟨_, _, _, _, _, _, _, _, _, _, _, _, _, _, _, _, h⟩ := x
  obtain ⟨_, _, _, _, _, _, _, h, _⟩ := h
  exact h.elim
abbrev noX : XW := fun _ _ _ => False
mutual
theorem snd_E : ∀ (ir : E) (X : Cx) (n : En) (N : List Str) (sc : Scope) (cf : Str → Bool) (W : XW), GlobOk G X k T → Cok X N sc cf → Takes X (wX X n W) → ∀ e, chkE G N sc cf ir e = true → SE X n e (wE (gam T) W ir)
  | .var i, X, n, N, sc, cf, W, g, hC, tk, e, h => by
    unfold chkE at h; split at h
    · obtain ⟨a, b, c, d⟩ := var_of hC h
      exact se_var a b c d
    · cases h
  | .lit d, X, n, N, sc, cf, W, g, hC, tk, e, h => by
    unfold chkE at h; split at h
    · split at h
      · rw [← of_decide_eq_true h]; exact se_const pe_int (fun F κ => by simp only [Rep1, RepD]) (fun _ => nofun)
      · rw [← of_decide_eq_true h]; exact se_const pe_bl (fun F κ => by simp only [Rep1, RepD]) (fun _ => nofun)
      · rw [← of_decide_eq_true h]; exact se_const pe_str (fun F κ => by simp only [Rep1, RepD]) (fun _ => nofun)
      · exact se_const pe_non (fun F κ => by simp only [Rep1, RepD]) (fun _ => nofun)
      · cases h
    · cases h
  | .gint x i, X, n, N, sc, cf, W, g, hC, tk, e, h => by
    unfold chkE at h; split at h
    · simp only [Bool.and_eq_true, decide_eq_true_eq] at h
      obtain ⟨⟨rfl, h1⟩, h2⟩ := h
      obtain ⟨a, b⟩ := gl_of hC h1
      exact se_gint a (g.cs _ h2) b
    · cases h
  | .gfn x, X, n, N, sc, cf, W, g, hC, tk, e, h => by
    unfold chkE at h; split at h
    · simp only [Bool.and_eq_true, decide_eq_true_eq] at h
      obtain ⟨⟨rfl, h1⟩, h2⟩ := h
      obtain ⟨a, b⟩ := gl_of hC h1
      exact se_gfn g.has a (g.fs _ h2) b
    · cases h
  | .bin op a b, X, n, N, sc, cf, W, g, hC, tk, e, h => by
    unfold chkE at h; split at h
    · simp only [Bool.and_eq_true, decide_eq_true_eq] at h
      obtain ⟨⟨rfl, h1⟩, h2⟩ := h
      exact se_bin (snd_E a X n N sc cf W g hC tk _ h1) (snd_E b X n N sc cf W g hC tk _ h2)
    · cases h
  | .neg a, X, n, N, sc, cf, W, g, hC, tk, e, h => by
    unfold chkE at h; split at h
    · exact se_neg (snd_E a X n N sc cf W g hC tk _ h)
    · cases h
  | .not a, X, n, N, sc, cf, W, g, hC, tk, e, h => by
    unfold chkE at h; split at h
    · exact se_not (snd_E a X n N sc cf W g hC tk _ h)
    · cases h
  | .cmp op a b, X, n, N, sc, cf, W, g, hC, tk, e, h => by
    unfold chkE at h; split at h
    · simp only [Bool.and_eq_true, decide_eq_true_eq] at h
      obtain ⟨⟨⟨rfl, h0⟩, h1⟩, h2⟩ := h
      exact se_cmp g.has.units (set_of h0) (snd_E a X n N sc cf W g hC tk _ h1) (snd_E b X n N sc cf W g hC tk _ h2)
    · cases h
  | .chain o1 o2 a b d, X, n, N, sc, cf, W, g, hC, tk, e, h => by
    unfold chkE at h; split at h
    · simp only [Bool.and_eq_true, decide_eq_true_eq] at h
      obtain ⟨⟨⟨⟨⟨rfl, rfl⟩, h0⟩, h1⟩, h2⟩, h3⟩ := h
      exact se_chain g.has.units (set_of h0) (snd_E a X n N sc cf W g hC tk _ h1) (snd_E b X n N sc cf W g hC tk _ h2) (snd_E d X n N sc cf W g hC tk _ h3)
    · cases h
  | .and a b, X, n, N, sc, cf, W, g, hC, tk, e, h => by
    unfold chkE at h; split at h
    · simp only [Bool.and_eq_true] at h
      exact se_and (snd_E a X n N sc cf W g hC tk _ h.1) (se_one (snd_E b X n N sc cf W g hC tk _ h.2))
    · simp only [Bool.and_eq_true] at h
      exact se_and (snd_E a X n N sc cf W g hC tk _ h.1) (snd_E b X n N sc cf W g hC tk _ h.2)
    · cases h
  | .or a b, X, n, N, sc, cf, W, g, hC, tk, e, h => by
    unfold chkE at h; split at h
    · simp only [Bool.and_eq_true] at h
      exact se_or (snd_E a X n N sc cf W g hC tk _ h.1) (se_one (snd_E b X n N sc cf W g hC tk _ h.2))
    · simp only [Bool.and_eq_true] at h
      exact se_or (snd_E a X n N sc cf W g hC tk _ h.1) (snd_E b X n N sc cf W g hC tk _ h.2)
    · cases h
  | .ite t a b, X, n, N, sc, cf, W, g, hC, tk, e, h => by
    unfold chkE at h; split at h
    · simp only [Bool.and_eq_true] at h
      exact se_ite (snd_T t X n N sc cf W g hC tk _ h.1.1) (snd_E a X n N sc cf W g hC tk _ h.1.2) (snd_E b X n N sc cf W g hC tk _ h.2)
    · cases h
  | .tup es, X, n, N, sc, cf, W, g, hC, tk, e, h => by
    unfold chkE at h; split at h
    · exact se_tup (snd_L es X n N sc cf W g hC tk _ h)
    · cases h
  | .lst es, X, n, N, sc, cf, W, g, hC, tk, e, h => by
    unfold chkE at h; split at h
    · exact se_lst (snd_L es X n N sc cf W g hC tk _ h)
    · cases h
  | .idx a b, X, n, N, sc, cf, W, g, hC, tk, e, h => by
    unfold chkE at h; split at h
    · simp only [Bool.and_eq_true] at h
      exact se_idx h.1.1 (snd_E a X n N sc cf W g hC tk _ h.1.2) (snd_E b X n N sc cf W g hC tk _ h.2)
    · cases h
  | .sl a lo hi, X, n, N, sc, cf, W, g, hC, tk, e, h => by
    unfold chkE at h; split at h
    · simp only [Bool.and_eq_true] at h
      exact se_sl (snd_E a X n N sc cf W g hC tk _ h.1.1) (snd_O lo X n N sc cf W g hC tk _ h.1.2) (snd_O hi X n N sc cf W g hC tk _ h.2)
    · cases h
  | .call f es, X, n, N, sc, cf, W, g, hC, tk, e, h => by
    unfold chkE at h; split at h
    · simp only [Bool.and_eq_true, decide_eq_true_eq] at h
      obtain ⟨⟨⟨⟨rfl, h1⟩, h2⟩, h3⟩, h4⟩ := h
      obtain ⟨a, b⟩ := gl_of hC h1
      exact se_call g.has tk a (g.fs _ h2) b h3 (snd_A es X n N sc cf W g hC tk _ h4)
    · cases h
  | .calv f es, X, n, N, sc, cf, W, g, hC, tk, e, h => by
    unfold chkE at h; split at h
    · simp only [Bool.and_eq_true, decide_eq_true_eq] at h
      exact se_calv g.has tk (snd_E f X n N sc cf W g hC tk _ h.1.2) h.1.1 (snd_A es X n N sc cf W g hC tk _ h.2) rfl
    · cases h
  | .blt b es, X, n, N, sc, cf, W, g, hC, tk, e, h => by
    unfold chkE at h; split at h
    · simp only [Bool.and_eq_true, decide_eq_true_eq] at h
      obtain ⟨⟨⟨rfl, h1⟩, h3⟩, h4⟩ := h
      obtain ⟨a, _⟩ := gl_of hC h1
      exact se_blt b g.has.units hC.calm g.has.gd a (g.blt b) h3 (snd_A es X n N sc cf W g hC tk _ h4)
    · cases h
  | .meth m o es, X, n, N, sc, cf, W, g, hC, tk, e, h => by
    unfold chkE at h; split at h
    · simp only [Bool.and_eq_true, decide_eq_true_eq] at h
      obtain ⟨⟨⟨rfl, h1⟩, h2⟩, h3⟩ := h
      have ho := snd_E o X n N sc cf W g hC tk _ h2
      split at h3
      · split at h3
        · exact se_meth0 m ho h1
        · cases h3
      · simp only [Bool.and_eq_true] at h3
        exact se_meth1 m ho h1 h3.1 (snd_A es X n N sc cf W g hC tk _ h3.2)
      · cases h3
    · cases h
  | .isin a ty, X, n, N, sc, cf, W, g, hC, tk, e, h => by
    unfold chkE at h; split at h
    · simp only [Bool.and_eq_true, decide_eq_true_eq] at h
      obtain ⟨⟨⟨⟨⟨rfl, rfl⟩, h1⟩, h2⟩, h3⟩, h4⟩ := h
      obtain ⟨q1, _⟩ := gl_of hC h1
      obtain ⟨q2, _⟩ := gl_of hC h2
      exact se_isin q1 (g.more _ (by decide +kernel)) q2 (g.more _ (by cases ty <;> decide +kernel)) h3 (snd_E a X n N sc cf W g hC tk _ h4)
    · cases h
  | .lc own tg it cnd el, X, n, N, sc, cf, W, g, hC, tk, e, h => by
    unfold chkE at h; split at h
    · simp only [Bool.and_eq_true] at h
      obtain ⟨⟨⟨⟨⟨⟨h1, h2⟩, h3⟩, h4⟩, h5⟩, h6⟩, h7⟩ := h
      rename_i scope pos0
      have hb : BlkOk X.N X.env.scope scope (ownN N own) := by rw [hC.hN, hC.hsc]; exact blkOk_by h1
      have kd : scope.kind = .function := hb.kind
      have := se_lc (pos := pos0) (own := ownN N own) hC.calm (by rw [hC.hN]; exact hC.nd) (snd_I it X n N sc cf W g hC tk _ _ h5) hb (by rw [own_map]; exact h2)
        (fun s H C cl fp => snd_Tg (hC.blk kd s H C cl fp) h4) (fun s H C cl fp => snd_C cnd _ n N _ _ (g.blk s H scope _ fp) (hC.blk kd s H C cl fp) _ h6)
        (fun s H C cl fp => snd_E el _ n N _ _ noX (g.blk s H scope _ fp) (hC.blk kd s H C cl fp) never_takes _ h7) (fold_of h3)
      rw [own_map] at this
      exact this
    · cases h
  | .sls a b, X, n, N, sc, cf, W, g, hC, tk, e, h => by
    unfold chkE at h; split at h
    · simp only [Bool.and_eq_true] at h
      exact se_sls (snd_E a X n N sc cf W g hC tk _ h.1) (snd_E b X n N sc cf W g hC tk _ h.2)
    · cases h
  | .trg b a, X, n, N, sc, cf, W, g, hC, tk, e, h => by
    unfold chkE at h; split at h
    · simp only [Bool.and_eq_true, decide_eq_true_eq] at h
      obtain ⟨⟨⟨⟨⟨rfl, rfl⟩, h1⟩, h2⟩, h3⟩, h4⟩ := h
      obtain ⟨q1, _⟩ := gl_of hC h1
      obtain ⟨q2, _⟩ := gl_of hC h2
      exact se_trg b hC.calm q1 (g.more _ (by cases b <;> decide +kernel)) q2 (g.more "range" (by decide +kernel)) h3 (snd_E a X n N sc cf W g hC tk _ h4)
    · cases h
  | .dix a b, X, n, N, sc, cf, W, g, hC, tk, e, h => by
    unfold chkE at h; split at h
    · simp only [Bool.and_eq_true] at h
      exact se_dix g.has.units h.1.1 (snd_E a X n N sc cf W g hC tk _ h.1.2) (snd_E b X n N sc cf W g hC tk _ h.2)
    · cases h
  | .din neg a b, X, n, N, sc, cf, W, g, hC, tk, e, h => by
    unfold chkE at h; split at h
    · simp only [Bool.and_eq_true, decide_eq_true_eq] at h
      obtain ⟨⟨⟨rfl, h0⟩, h1⟩, h2⟩ := h
      exact se_din g.has.units neg (set_of h0) (snd_E a X n N sc cf W g hC tk _ h1) (snd_E b X n N sc cf W g hC tk _ h2)
    · cases h
  | .dg1 a b, X, n, N, sc, cf, W, g, hC, tk, e, h => by
    unfold chkE at h; split at h
    · simp only [Bool.and_eq_true, decide_eq_true_eq] at h
      obtain ⟨⟨⟨⟨⟨rfl, h1⟩, h2⟩, h3⟩, h4⟩, h5⟩ := h
      exact se_dg1 g.has.units h1 h2 h3 (snd_E a X n N sc cf W g hC tk _ h4) (snd_E b X n N sc cf W g hC tk _ h5)
    · cases h
  | .dg2 a b d, X, n, N, sc, cf, W, g, hC, tk, e, h => by
    unfold chkE at h; split at h
    · simp only [Bool.and_eq_true, decide_eq_true_eq] at h
      obtain ⟨⟨⟨⟨⟨⟨⟨rfl, h1⟩, h2⟩, h3⟩, h3'⟩, h4⟩, h5⟩, h6⟩ := h
      exact se_dg2 g.has.units h1 h2 h3 h3' (snd_E a X n N sc cf W g hC tk _ h4) (snd_E b X n N sc cf W g hC tk _ h5) (snd_E d X n N sc cf W g hC tk _ h6)
    · cases h
  | .dln a, X, n, N, sc, cf, W, g, hC, tk, e, h => by
    unfold chkE at h; split at h
    · simp only [Bool.and_eq_true, decide_eq_true_eq] at h
      obtain ⟨⟨⟨rfl, h1⟩, h3⟩, h4⟩ := h
      obtain ⟨q1, _⟩ := gl_of hC h1
      exact se_dln q1 (g.blt .len) h3 (snd_E a X n N sc cf W g hC tk _ h4)
    · cases h
theorem snd_T : ∀ (ir : Ev.T) (X : Cx) (n : En) (N : List Str) (sc : Scope) (cf : Str → Bool) (W : XW), GlobOk G X k T → Cok X N sc cf → Takes X (wX X n W) → ∀ e, chkT G N sc cf ir e = true → ST X n e (wT (gam T) W ir)
  | .not a, X, n, N, sc, cf, W, g, hC, tk, e, h => by
    unfold chkT at h; split at h
    · exact st_not (snd_T a X n N sc cf W g hC tk _ h)
    · cases h
  | .and a b, X, n, N, sc, cf, W, g, hC, tk, e, h => by
    unfold chkT at h; split at h
    · simp only [Bool.and_eq_true] at h
      exact st_and (snd_T a X n N sc cf W g hC tk _ h.1) (st_one_and (snd_T b X n N sc cf W g hC tk _ h.2))
    · simp only [Bool.and_eq_true] at h
      exact st_and (snd_T a X n N sc cf W g hC tk _ h.1) (snd_T b X n N sc cf W g hC tk _ h.2)
    · cases h
  | .or a b, X, n, N, sc, cf, W, g, hC, tk, e, h => by
    unfold chkT at h; split at h
    · simp only [Bool.and_eq_true] at h
      exact st_or (snd_T a X n N sc cf W g hC tk _ h.1) (st_one_or (snd_T b X n N sc cf W g hC tk _ h.2))
    · simp only [Bool.and_eq_true] at h
      exact st_or (snd_T a X n N sc cf W g hC tk _ h.1) (snd_T b X n N sc cf W g hC tk _ h.2)
    · cases h
  | .cmp op a b, X, n, N, sc, cf, W, g, hC, tk, e, h => by
    unfold chkT at h; split at h
    · simp only [Bool.and_eq_true, decide_eq_true_eq] at h
      obtain ⟨⟨⟨rfl, h0⟩, h1⟩, h2⟩ := h
      exact st_cmp g.has.units (set_of h0) (snd_E a X n N sc cf W g hC tk _ h1) (snd_E b X n N sc cf W g hC tk _ h2)
    · cases h
  | .chain o1 o2 a b d, X, n, N, sc, cf, W, g, hC, tk, e, h => by
    unfold chkT at h; split at h
    · simp only [Bool.and_eq_true, decide_eq_true_eq] at h
      obtain ⟨⟨⟨⟨⟨rfl, rfl⟩, h0⟩, h1⟩, h2⟩, h3⟩ := h
      exact st_chain g.has.units (set_of h0) (snd_E a X n N sc cf W g hC tk _ h1) (snd_E b X n N sc cf W g hC tk _ h2) (snd_E d X n N sc cf W g hC tk _ h3)
    · cases h
  | .val a, X, n, N, sc, cf, W, g, hC, tk, e, h => by
    unfold chkT at h
    simp only [Bool.and_eq_true] at h
    exact st_val h.1 (snd_E a X n N sc cf W g hC tk _ h.2)
  | .din neg a b, X, n, N, sc, cf, W, g, hC, tk, e, h => by
    unfold chkT at h; split at h
    · simp only [Bool.and_eq_true, decide_eq_true_eq] at h
      obtain ⟨⟨⟨rfl, h0⟩, h1⟩, h2⟩ := h
      exact st_din g.has.units neg (set_of h0) (snd_E a X n N sc cf W g hC tk _ h1) (snd_E b X n N sc cf W g hC tk _ h2)
    · cases h
theorem snd_L : ∀ (ir : Es) (X : Cx) (n : En) (N : List Str) (sc : Scope) (cf : Str → Bool) (W : XW), GlobOk G X k T → Cok X N sc cf → Takes X (wX X n W) → ∀ es, chkL G N sc cf ir es = true → SLs X n es (wL (gam T) W ir)
  | .nil, X, n, N, sc, cf, W, g, hC, tk, es, h => by
    unfold chkL at h; split at h
    · exact sl_nil
    · cases h
  | .cons a r, X, n, N, sc, cf, W, g, hC, tk, es, h => by
    unfold chkL at h; split at h
    · simp only [Bool.and_eq_true] at h
      exact sl_cons (snd_E a X n N sc cf W g hC tk _ h.1.2) (snd_L r X n N sc cf W g hC tk _ h.2) h.1.1
    · cases h
  | .star a r, X, n, N, sc, cf, W, g, hC, tk, es, h => by
    unfold chkL at h; split at h
    · simp only [Bool.and_eq_true] at h
      exact sl_star (snd_E a X n N sc cf W g hC tk _ h.1) (snd_L r X n N sc cf W g hC tk _ h.2)
    · cases h
theorem snd_A : ∀ (ir : Es) (X : Cx) (n : En) (N : List Str) (sc : Scope) (cf : Str → Bool) (W : XW), GlobOk G X k T → Cok X N sc cf → Takes X (wX X n W) → ∀ es, chkA G N sc cf ir es = true → SA X n es (wA (gam T) W ir)
  | .nil, X, n, N, sc, cf, W, g, hC, tk, es, h => by
    unfold chkA at h; split at h
    · exact sa_nil
    · cases h
  | .cons a r, X, n, N, sc, cf, W, g, hC, tk, es, h => by
    unfold chkA at h; split at h
    · simp only [Bool.and_eq_true] at h
      exact sa_cons (snd_E a X n N sc cf W g hC tk _ h.1.2) (snd_A r X n N sc cf W g hC tk _ h.2) h.1.1
    · cases h
  | .star a r, X, n, N, sc, cf, W, g, hC, tk, es, h => by unfold chkA at h; cases h
theorem snd_O : ∀ (ir : Eo) (X : Cx) (n : En) (N : List Str) (sc : Scope) (cf : Str → Bool) (W : XW), GlobOk G X k T → Cok X N sc cf → Takes X (wX X n W) → ∀ e, chkO G N sc cf ir e = true → SO X n e (wO (gam T) W ir)
  | .none, X, n, N, sc, cf, W, g, hC, tk, es, h => by
    unfold chkO at h; split at h
    · exact so_none
    · cases h
  | .some a, X, n, N, sc, cf, W, g, hC, tk, es, h => by
    unfold chkO at h; split at h
    · exact so_some (snd_E a X n N sc cf W g hC tk _ h)
    · cases h
theorem snd_C : ∀ (ir : To) (X : Cx) (n : En) (N : List Str) (sc : Scope) (cf : Str → Bool), GlobOk G X k T → Cok X N sc cf → ∀ es, chkC G N sc cf ir es = true → SC X n es (wC (gam T) ir)
  | .none, X, n, N, sc, cf, g, hC, es, h => by
    unfold chkC at h; split at h
    · exact sc_none
    · cases h
  | .some a, X, n, N, sc, cf, g, hC, es, h => by
    unfold chkC at h; split at h
    · exact sc_some (snd_T a X n N sc cf noX g hC never_takes _ h)
    · cases h
theorem snd_I : ∀ (ir : Ev.It) (X : Cx) (n : En) (N : List Str) (sc : Scope) (cf : Str → Bool) (W : XW), GlobOk G X k T → Cok X N sc cf → Takes X (wX X n W) → ∀ tg e, chkI G N sc cf ir tg e = true → SI X n tg e (wI (gam T) W ir)
  | .seq a, X, n, N, sc, cf, W, g, hC, tk, tg, e, h => by
    unfold chkI at h
    exact si_seq (snd_E a X n N sc cf W g hC tk _ h)
  | .rng es, X, n, N, sc, cf, W, g, hC, tk, tg, e, h => by
    unfold chkI at h; split at h
    · simp only [Bool.and_eq_true, decide_eq_true_eq, Bool.or_eq_true, beq_iff_eq] at h
      obtain ⟨⟨⟨rfl, h1⟩, h2⟩, h3⟩ := h
      obtain ⟨q1, _⟩ := gl_of hC h1
      have q2 := g.more "range" (by decide +kernel)
      match es, h3 with
      | .nil, h3 =>
        unfold chkA at h3; split at h3
        · simp at h2
        · cases h3
      | .cons a1 .nil, h3 =>
        unfold chkA at h3; split at h3
        · simp only [Bool.and_eq_true] at h3
          obtain ⟨⟨n1, c1⟩, h3⟩ := h3
          unfold chkA at h3; split at h3
          · exact si_rng1 q1 q2 n1 (snd_E a1 X n N sc cf W g hC tk _ c1)
          · cases h3
        · cases h3
      | .cons a1 (.cons a2 .nil), h3 =>
        unfold chkA at h3; split at h3
        · simp only [Bool.and_eq_true] at h3
          obtain ⟨⟨n1, c1⟩, h3⟩ := h3
          unfold chkA at h3; split at h3
          · simp only [Bool.and_eq_true] at h3
            obtain ⟨⟨n2, c2⟩, h3⟩ := h3
            unfold chkA at h3; split at h3
            · exact si_rng2 q1 q2 n1 n2 (snd_E a1 X n N sc cf W g hC tk _ c1) (snd_E a2 X n N sc cf W g hC tk _ c2)
            · cases h3
          · cases h3
        · cases h3
      | .cons a1 (.cons a2 (.cons a3 .nil)), h3 =>
        unfold chkA at h3; split at h3
        · simp only [Bool.and_eq_true] at h3
          obtain ⟨⟨n1, c1⟩, h3⟩ := h3
          unfold chkA at h3; split at h3
          · simp only [Bool.and_eq_true] at h3
            obtain ⟨⟨n2, c2⟩, h3⟩ := h3
            unfold chkA at h3; split at h3
            · simp only [Bool.and_eq_true] at h3
              obtain ⟨⟨n3, c3⟩, h3⟩ := h3
              unfold chkA at h3; split at h3
              · exact si_rng3 q1 q2 n1 n2 n3 (snd_E a1 X n N sc cf W g hC tk _ c1) (snd_E a2 X n N sc cf W g hC tk _ c2) (snd_E a3 X n N sc cf W g hC tk _ c3)
              · cases h3
            · cases h3
          · cases h3
        · cases h3
      | .cons a1 (.cons a2 (.cons a3 (.cons a4 r))), h3 =>
        exfalso
        unfold chkA at h3; split at h3
        · simp only [Bool.and_eq_true] at h3
          obtain ⟨_, h3⟩ := h3
          unfold chkA at h3; split at h3
          · simp only [Bool.and_eq_true] at h3
            obtain ⟨_, h3⟩ := h3
            unfold chkA at h3; split at h3
            · simp only [Bool.and_eq_true] at h3
              obtain ⟨_, h3⟩ := h3
              unfold chkA at h3; split at h3
              · simp at h2
              · cases h3
            · cases h3
          · cases h3
        · cases h3
      | .star _ _, h3 => unfold chkA at h3; cases h3
      | .cons _ (.star _ _), h3 =>
        unfold chkA at h3; split at h3
        · simp only [Bool.and_eq_true] at h3
          have := h3.2; unfold chkA at this; cases this
        · cases h3
      | .cons _ (.cons _ (.star _ _)), h3 =>
        unfold chkA at h3; split at h3
        · simp only [Bool.and_eq_true] at h3
          obtain ⟨_, h3⟩ := h3
          unfold chkA at h3; split at h3
          · simp only [Bool.and_eq_true] at h3
            have := h3.2; unfold chkA at this; cases this
          · cases h3
        · cases h3
      | .cons _ (.cons _ (.cons _ (.star _ _))), h3 =>
        unfold chkA at h3; split at h3
        · simp only [Bool.and_eq_true] at h3
          obtain ⟨_, h3⟩ := h3
          unfold chkA at h3; split at h3
          · simp only [Bool.and_eq_true] at h3
            obtain ⟨_, h3⟩ := h3
            unfold chkA at h3; split at h3
            · simp only [Bool.and_eq_true] at h3
              have := h3.2; unfold chkA at this; cases this
            · cases h3
          · cases h3
        · cases h3
    · cases h
  | .enum a, X, n, N, sc, cf, W, g, hC, tk, tg, e, h => by
    unfold chkI at h; split at h
    · simp only [Bool.and_eq_true, decide_eq_true_eq] at h
      obtain ⟨⟨⟨⟨rfl, h1⟩, h2⟩, h3⟩, h4⟩ := h
      obtain ⟨q1, _⟩ := gl_of hC h1
      split at h3
      · exact si_enum q1 (g.more "enumerate" (by decide +kernel)) h2 (snd_E a X n N sc cf W g hC tk _ h4)
      · cases h3
    · cases h
  | .zip a b, X, n, N, sc, cf, W, g, hC, tk, tg, e, h => by
    unfold chkI at h; split at h
    · simp only [Bool.and_eq_true, decide_eq_true_eq] at h
      obtain ⟨⟨⟨⟨⟨⟨rfl, h1⟩, h2⟩, h2'⟩, h3⟩, h4⟩, h5⟩ := h
      obtain ⟨q1, _⟩ := gl_of hC h1
      split at h3
      · exact si_zip q1 (g.more "zip" (by decide +kernel)) h2 h2' (snd_E a X n N sc cf W g hC tk _ h4) (snd_E b X n N sc cf W g hC tk _ h5)
      · cases h3
    · cases h
  | .rev _, X, n, N, sc, cf, W, g, hC, tk, tg, e, h => by unfold chkI at h; cases h
  | .dks a, X, n, N, sc, cf, W, g, hC, tk, tg, e, h => by
    unfold chkI at h
    exact si_dks (snd_E a X n N sc cf W g hC tk _ h)
  | .dvs a, X, n, N, sc, cf, W, g, hC, tk, tg, e, h => by
    unfold chkI at h; split at h
    · simp only [Bool.and_eq_true, decide_eq_true_eq] at h
      obtain ⟨⟨⟨rfl, h1⟩, h2⟩, h3⟩ := h
      exact si_dvs h1 h2 (snd_E a X n N sc cf W g hC tk _ h3)
    · cases h
  | .dit a, X, n, N, sc, cf, W, g, hC, tk, tg, e, h => by
    unfold chkI at h; split at h
    · simp only [Bool.and_eq_true, decide_eq_true_eq] at h
      obtain ⟨⟨⟨⟨rfl, h1⟩, h2⟩, h3⟩, h4⟩ := h
      split at h3
      · exact si_dit h1 h2 (snd_E a X n N sc cf W g hC tk _ h4)
      · cases h3
    · cases h
end
end
end Ev

/-! # Ev13: statements against the small language; they are sound -/
namespace Ev
open PySem PySem.Spec PyProof.Rows L2
/-! ### stores of several names -/
def noComp : Expr → Bool
  | .ListComp _ _ _ _ => false
  | .SetComp _ _ _ _ => false
  | .DictComp _ _ _ _ _ => false
  | _ => true
def isLc : Expr → Bool
  | .ListComp _ _ _ _ => true
  | _ => false
def noTup : Expr → Bool
  | .Tuple _ _ _ => false
  | _ => true
theorem swaps_no {e : Expr} {t : Option Expr} {l : Nat} {env : Env} (h : noComp e = true) : swapsWith e t l env = pure false := by
  cases e <;> first | rfl | cases h
theorem swaps_tup {e : Expr} {es : List Expr} {k : Nat} {p : Pos} {l : Nat} {env : Env} : swapsWithSole [.Tuple es k p] e l env = pure false := by
  cases e <;> rfl
theorem swaps_sub {e a b : Expr} {p : Pos} {l : Nat} {env : Env} : swapsWithSole [.Subscript a b p] e l env = pure false := by
  cases e <;> rfl
theorem swapped_tup {e : Expr} {es : List Expr} {k : Nat} {p : Pos} {env : Env} (h : noTup e = true) : swappedStores [.Tuple es k p] e env = pure none := by
  cases e <;> first | rfl | cases h
/-- a tuple is stored as it is: some name is no plain local one -/
def nLoc (sc : Scope) (t : Expr) : Bool := match t with
  | .Name x _ => !decide (sc.names.lookup x = some .local)
  | _ => true
def swN (sc : Scope) (ts : List Expr) (e : Expr) : Bool := noTup e || ts.any (nLoc sc)
theorem fm_lt {α β : Type} {f : α → Option β} : ∀ {l : List α}, (∃ a ∈ l, f a = none) → (l.filterMap f).length < l.length
  | [], ⟨_, h, _⟩ => by cases h
  | a :: r, ⟨b, hb, e⟩ => by
    rw [List.filterMap_cons]
    rcases List.mem_cons.mp hb with rfl | q
    · rw [e]
      exact Nat.lt_succ_of_le (List.length_filterMap_le _ _)
    · have := fm_lt (f := f) ⟨b, q, e⟩
      cases f a with
      | none => exact Nat.lt_succ_of_lt this
      | some x => exact Nat.succ_lt_succ this
theorem swN_is {sc : Scope} {ts : List Expr} {e : Expr} {k : Nat} {p : Pos} {env : Env} (hs : env.scope = sc) (h : swN sc ts e = true) : swappedStores [.Tuple ts k p] e env = pure none := by
  unfold swN at h
  rw [Bool.or_eq_true] at h
  rcases h with h | h
  · exact swapped_tup h
  · cases e with
    | Tuple vs k2 p2 =>
      unfold swappedStores
      simp only [pure_bind]
      have hlt : (ts.filterMap fun
          | .Name id pos => if env.kindOf id == some .local && pos.line == (ts.head?.map (·.pos.line)).getD 0 then some id else none
          | _ => none).length < ts.length := by
        refine fm_lt ?_
        obtain ⟨t, ht, hn⟩ := List.any_eq_true.mp h
        refine ⟨t, ht, ?_⟩
        cases t with
        | Name x pos =>
          have : ¬ sc.names.lookup x = some .local := by simpa [nLoc] using hn
          have hx : (env.kindOf x == some NameKind.local) = false := by
            unfold Env.kindOf
            rw [hs]
            simpa using this
          simp only [hx, Bool.false_and, Bool.false_eq_true, if_false]
        | _ => rfl
      split
      · rfl
      · split
        · rfl
        · rw [if_pos]
          simp only [Bool.or_eq_true, bne_iff_ne, ne_eq]
          exact .inl (Nat.ne_of_lt hlt)
    | _ => exact swapped_tup rfl
/-- is a comprehension stored in a name of its row -/
def lcSw (sc : Scope) (x : Str) (px : Pos) (e : Expr) : Bool := match e with
  | .ListComp _ _ scope pos => decide (sc.names.lookup x = some .local) && px.line == pos.line && !(scope.names.any fun (n, k) => n == x && (k == .local || k == .cell))
  | _ => false
theorem lcSw_is {sc : Scope} {x : Str} {px : Pos} {elt : Expr} {gs : List Comprehension} {scope : Scope} {pos : Pos} {l : Nat} {env : Env} (hs : env.scope = sc) (hk : sc.kind = .function) :
    swapsWith (.ListComp elt gs scope pos) (some (.Name x px)) l env = pure (lcSw sc x px (.ListComp elt gs scope pos)) := by
  have hb : env.blockKind = .function := by unfold Env.blockKind; rw [hs, hk]; rfl
  have hl : env.kindOf x = sc.names.lookup x := by unfold Env.kindOf; rw [hs]
  show pure (env.blockKind == .function && env.kindOf x == some .local && px.line == pos.line && !(scope.names.any fun (n, k) => n == x && (k == .local || k == .cell))) = _
  rw [hb, hl]
  unfold lcSw
  congr 1
  cases h : sc.names.lookup x with
  | none => simp
  | some kd => cases kd <;> simp
/-- two, three names stored one by one -/
def sw2 (sc : Scope) (x y : Str) (px py : Pos) (vs : List Expr) : Bool :=
  decide (sc.names.lookup x = some .local) && decide (sc.names.lookup y = some .local) && (py.line == px.line) && decide (x ≠ y) && vs.all noStar && !(vs.all (foldedForSure 8)) && !(vs.all (constantsAlone 8))
theorem star_any {vs : List Expr} (h : vs.all noStar = true) : (vs.any fun | .Starred .. => true | _ => false) = false := by
  induction vs with
  | nil => rfl
  | cons e vs ih =>
    simp only [List.all_cons, Bool.and_eq_true] at h
    rw [List.any_cons, ih h.2]
    have := h.1
    cases e <;> first | rfl | cases this
theorem sw2_is {sc : Scope} {x y : Str} {px py pt p2 : Pos} {a b : Expr} {kt k2 : Nat} {env : Env} (hs : env.scope = sc) (hk : sc.kind = .function) (h : sw2 sc x y px py [a, b] = true) :
    swappedStores [.Tuple [.Name x px, .Name y py] kt pt] (.Tuple [a, b] k2 p2) env = pure (some [x, y]) := by
  simp only [sw2, Bool.and_eq_true, decide_eq_true_eq, Bool.not_eq_true', beq_iff_eq] at h
  obtain ⟨⟨⟨⟨⟨⟨h1, h2⟩, h3⟩, h4⟩, h5⟩, h6⟩, h7⟩ := h
  have hb : env.blockKind = .function := by unfold Env.blockKind; rw [hs, hk]; rfl
  have hx : env.kindOf x = some .local := by unfold Env.kindOf; rw [hs]; exact h1
  have hy : env.kindOf y = some .local := by unfold Env.kindOf; rw [hs]; exact h2
  have e1 : (y == x) = false := by simpa using Ne.symm h4
  have e1' : (x == y) = false := by simpa using h4
  unfold swappedStores
  simp only [pure_bind]
  simp [hb, hx, hy, h3, h6, h7, Expr.pos, List.filterMap, List.eraseDups]
  rw [if_neg]
  · rw [if_pos]
    simp [List.eraseDupsBy, List.eraseDupsBy.loop, e1, e1', h4, Ne.symm h4]
  · simp only [List.all_cons, List.all_nil, Bool.and_true, Bool.and_eq_true] at h5
    intro q
    rcases q with q | q
    · have w := h5.1
      cases a <;> first | (cases q; done) | (cases w; done)
    · have w := h5.2
      cases b <;> first | (cases q; done) | (cases w; done)
def sw3 (sc : Scope) (x y z : Str) (px py pz : Pos) (vs : List Expr) : Bool :=
  decide (sc.names.lookup x = some .local) && decide (sc.names.lookup y = some .local) && decide (sc.names.lookup z = some .local) && (py.line == px.line) && (pz.line == px.line) && decide (x ≠ y) && decide (x ≠ z) && decide (y ≠ z) && vs.all noStar && !(vs.all (foldedForSure 8)) && !(vs.all (constantsAlone 8))
theorem sw3_is {sc : Scope} {x y z : Str} {px py pz pt p2 : Pos} {a b d : Expr} {kt k2 : Nat} {env : Env} (hs : env.scope = sc) (hk : sc.kind = .function) (h : sw3 sc x y z px py pz [a, b, d] = true) :
    swappedStores [.Tuple [.Name x px, .Name y py, .Name z pz] kt pt] (.Tuple [a, b, d] k2 p2) env = pure (some [x, y, z]) := by
  simp only [sw3, Bool.and_eq_true, decide_eq_true_eq, Bool.not_eq_true', beq_iff_eq] at h
  obtain ⟨⟨⟨⟨⟨⟨⟨⟨⟨⟨h1, h2⟩, h2'⟩, h3⟩, h3'⟩, h4⟩, h4'⟩, h4''⟩, h5⟩, h6⟩, h7⟩ := h
  have hb : env.blockKind = .function := by unfold Env.blockKind; rw [hs, hk]; rfl
  have hx : env.kindOf x = some .local := by unfold Env.kindOf; rw [hs]; exact h1
  have hy : env.kindOf y = some .local := by unfold Env.kindOf; rw [hs]; exact h2
  have hz : env.kindOf z = some .local := by unfold Env.kindOf; rw [hs]; exact h2'
  have nst : ∀ {e : Expr}, noStar e = true → (match e with | .Starred _ _ => true | _ => false) = false := fun {e} q => by cases e <;> first | rfl | cases q
  have hst := star_any h5
  have e1 : (y == x) = false := by simpa using Ne.symm h4
  have e2 : (z == x) = false := by simpa using Ne.symm h4'
  have e3 : (z == y) = false := by simpa using Ne.symm h4''
  have e1' : (x == y) = false := by simpa using h4
  have e2' : (x == z) = false := by simpa using h4'
  have e3' : (y == z) = false := by simpa using h4''
  unfold swappedStores
  simp only [pure_bind]
  simp [hb, hx, hy, hz, h3, h3', h6, h7, Expr.pos, List.filterMap, List.eraseDups]
  rw [if_neg]
  · rw [if_pos]
    simp [List.eraseDupsBy, List.eraseDupsBy.loop, e1, e2, e3, e1', e2', e3', h4, h4', h4'', Ne.symm h4, Ne.symm h4', Ne.symm h4'']
  · simp only [List.all_cons, List.all_nil, Bool.and_true, Bool.and_eq_true] at h5
    intro q
    rcases q with q | q | q
    · have w := h5.1
      cases a <;> first | (cases q; done) | (cases w; done)
    · have w := h5.2.1
      cases b <;> first | (cases q; done) | (cases w; done)
    · have w := h5.2.2
      cases d <;> first | (cases q; done) | (cases w; done)

/-! ### the check -/
variable (G : Glob)
/-- a constant that an except suite hands back -/
def cstD (c : Const) : Option D := match c with
  | .none => some .non
  | .bool b => some (.bl b)
  | .int i => some (.int i)
  | .str s => some (.str s)
  | _ => none
def eqD0 (d : D) (e : Option D) : Bool := match d, e with
  | .non, some .non => true
  | .bl a, some (.bl b) => decide (a = b)
  | .int a, some (.int b) => decide (a = b)
  | .str a, some (.str b) => decide (a = b)
  | _, _ => false
mutual
def chkS (N : List Str) (sc : Scope) (cf : Str → Bool) (ir : S) (st : Stmt) : Bool := match ir with
  | .asg t e => match st with
    | .Assign [.Name x px] e' _ => (match t with | .nm i => okTgt N sc cf i x | _ => false) && (if lcSw sc x px e' = true then (match e, e' with | .lc _ _ _ _ _, .ListComp _ _ _ _ => true | _, _ => false) else (noComp e' || isLc e')) && chkE G N sc cf e e'
    | .Assign [.Tuple es _ _] e' _ => (match t with | .tp is => okTgts N sc cf is es | _ => false) && swN sc es e' && chkE G N sc cf e e'
    | _ => false
  | .asgC i e => match st with
    | .Assign [.Name x px] e' _ => okTgt N sc cf i x && (if lcSw sc x px e' = true then (match e, e' with | .lc _ _ _ _ _, .ListComp _ _ _ _ => true | _, _ => false) else (noComp e' || isLc e')) && chkE G N sc cf e e'
    | _ => false
  | .par is es => match st with
    | .Assign [.Tuple [.Name x px, .Name y py] _ _] (.Tuple [a, b] _ _) _ => (match is with | [i, j] => okTgt N sc cf i x && okTgt N sc cf j y && decide (i ≠ j) | _ => false) && sw2 sc x y px py [a, b] && chkL G N sc cf es [a, b]
    | .Assign [.Tuple [.Name x px, .Name y py, .Name z pz] _ _] (.Tuple [a, b, d] _ _) _ => (match is with | [i, j, l] => okTgt N sc cf i x && okTgt N sc cf j y && okTgt N sc cf l z && decide (i ≠ j) && decide (i ≠ l) && decide (j ≠ l) | _ => false) && sw3 sc x y z px py pz [a, b, d] && chkL G N sc cf es [a, b, d]
    | _ => false
  | .frz _ => false
  | .frd _ => false
  | .dnw i _ => match st with
    | .Assign [.Name x _] (.Dict [] [] _) _ => okTgt N sc cf i x
    | _ => false
  | .dst o i e => match st with
    | .Assign [.Subscript o' i' _] e' _ => noSlice i' && chkE G N sc cf e e' && chkE G N sc cf o o' && chkE G N sc cf i i'
    | _ => false
  | .dau o i op e => match st with
    | .AugAssign (.Subscript o' i' _) op' e' _ => noSlice i' && decide (op' = op) && decide (op = .Add) && chkE G N sc cf o o' && chkE G N sc cf i i' && chkE G N sc cf e e'
    | _ => false
  | .aug i op e => match st with
    | .AugAssign (.Name x _) op' e' _ => okTgt N sc cf i x && decide (op' = op) && chkE G N sc cf e e'
    | _ => false
  | .setI o i e => match st with
    | .Assign [.Subscript o' i' _] e' _ => noSlice i' && chkE G N sc cf e e' && chkE G N sc cf o o' && chkE G N sc cf i i'
    | _ => false
  | .augI o i op e => match st with
    | .AugAssign (.Subscript o' i' _) op' e' _ => noSlice i' && decide (op' = op) && decide (op = .Add) && chkE G N sc cf o o' && chkE G N sc cf i i' && chkE G N sc cf e e'
    | _ => false
  | .ifS t a b => match st with
    | .If t' a' b' _ => chkT G N sc cf t t' && chkSs N sc cf a a' && chkSs N sc cf b b'
    | _ => false
  | .forS tg it b => match st with
    | .For tg' it' b' [] _ => noSet it' && chkTg N sc cf tg tg' && chkI G N sc cf it tg' it' && chkSs N sc cf b b'
    | _ => false
  | .whl t b => match st with
    | .While t' b' [] _ => chkT G N sc cf t t' && chkSs N sc cf b b'
    | _ => false
  | .ret e => match st with
    | .Return (some e') _ => chkE G N sc cf e e'
    | _ => false
  | .retN => match st with
    | .Return none _ => true
    | _ => false
  | .raise x m => match st with
    | .Raise (some (.Call (.Name x' _) [.Constant (.str _) _ _] [] _)) none _ => decide (x' = x) && isGl sc x && decide (x ∈ G.xs)
    | _ => false
  | .expr e => match st with
    | .Expr e' _ => noComp e' && chkE G N sc cf e e'
    | _ => false
  | .brk => match st with
    | .Break _ => true
    | _ => false
  | .cnt => match st with
    | .Continue _ => true
    | _ => false
  | .pas => match st with
    | .Pass _ => true
    | _ => false
  | .tryK b x i kf => match st with
    | .Try b' [.ExceptHandler (some (.Name x' _)) (some n) [.Return (some (.Call (.Name kf' _) [.Name n' _] [] _)) _] _] [] [] _ =>
      decide (x' = x) && decide (n' = n) && decide (kf' = kf) && isGl sc x && isGl sc kf && decide (kf ∈ G.ks) && okVar N sc i n && decide (sc.names.lookup n = some .local) && decide (x ∈ G.xs) && chkSs N sc cf b b'
    | _ => false
  | .tryC b x d => match st with
    | .Try b' [.ExceptHandler (some (.Name x' _)) none [.Return (some (.Constant c _ _)) _] _] [] [] _ => decide (x' = x) && isGl sc x && decide (x ∈ G.xs) && eqD0 d (cstD c) && chkSs N sc cf b b'
    | _ => false
def chkSs (N : List Str) (sc : Scope) (cf : Str → Bool) (ir : Ss) (sts : List Stmt) : Bool := match ir with
  | .nil => match sts with
    | [] => true
    | _ => false
  | .cons (.frz _) r => chkSs N sc cf r sts
  | .cons (.frd _) r => chkSs N sc cf r sts
  | .cons s r => match sts with
    | st :: rest => chkS N sc cf s st && chkSs N sc cf r rest
    | _ => false
end
/-! ### soundness -/
/-- heaps that only grow -/
def Grow (H H' : Hp) : Prop := ∀ a o, H a = some o → H' a = some o
/-- the answers of `sub` are right -/
def SubOk (X : Cx) (sub : Str → Str → Option Bool) : Prop := ∀ y x b C D, sub y x = some b → X.mg y = some (.ref C) → X.mg x = some (.ref D) → PySem.W.exmOne X.K (.ref C) (.ref D) = some b
/-- the answers of `kind` are right -/
def KindOk (X : Cx) (ks : List Str) (kind : Str → Str → D) : Prop :=
  ∀ kf ∈ ks, ∀ (i : Nat) (nm : Str) (p1 p2 p3 p4 : Pos), X.N[i]? = some nm → X.env.scope.names.lookup nm = some .local → Gl X kf → (kf == ("__debug__" : Str)) = false → (nm == ("__debug__" : Str)) = false → (nm == ("__classdict__" : Str)) = false →
    ∀ (a : Addr) (oe : Obj) (cls : Value) (d : Option Addr) (pn : List (Addr × Obj)), Zc cls d oe → (∃ vs, oe.data = .fields vs) →
      PSs (X.suite a ((a, oe) :: pn)) [.Return (some (.Call (.Name kf p1) [.Name nm p2] [] p3)) p4] fun D σ H =>
        (i < σ.length → σ[i]? = some (some (.ref a))) ∧ H a = none ∧ ∃ y C z, X.mg y = some (.ref C) ∧ cls = .ref C ∧ d = none ∧ kind kf y = .str z ∧ ∀ H', Grow H H' → D.rt (.str z) H'
structure SX (X : Cx) (k : Nat) (T : List Tab) (G : Glob) (N : List Str) (sc : Scope) (cf : Str → Bool) (sub : Str → Str → Option Bool) (kind : Str → Str → D) : Prop where
  g : GlobOk G X k T
  c : Cok X N sc cf
  st : X.stack = X.env :: X.outer
  fr : X.env.frame = some X.env.locals
  sb : SubOk X sub
  kd : KindOk X G.ks kind
  ks : ∀ kf ∈ G.ks, ∀ x y, sub y x = some true → ∃ z, kind kf y = .str z
section
variable {G : Glob} {k : Nat} {T : List Tab} {N : List Str} {sc : Scope} {cf : Str → Bool} {sub : Str → Str → Option Bool} {kind : Str → Str → D} {X : Cx} {n : En}
theorem SX.tr (h : SX X k T G N sc cf sub kind) (pn : List (Addr × Obj)) (xe : Value → Shared → Prop) : SX (X.tr pn xe) k T G N sc cf sub kind :=
  ⟨⟨⟨h.g.has.room, h.g.has.gd, h.g.has.fns⟩, h.g.fs, h.g.cs, fun x hx => let ⟨C, a, b, c, d⟩ := (h.g.xs x hx).ex; ⟨C, a, b, c, d⟩, h.g.blt, h.g.more⟩,
    ⟨h.c.hN, h.c.nd, h.c.hsc, h.c.kd, h.c.calm, h.c.fn⟩, h.st, h.fr, h.sb, h.kd, h.ks⟩
theorem tss_tr {w : WS} {D : Ends} {σ : L2.St} {H : Hp} {pn : List (Addr × Obj)} {xe : Value → Shared → Prop} : tSS X n w D σ H → tSS (X.tr pn xe) n w D σ H := fun ⟨F, κ, c, σa, P, R, h, p⟩ =>
  ⟨F, κ, c, σa, P, R, h, ⟨p.nx, p.bk, p.ct, p.rt⟩⟩
theorem names_of (h : SX X k T G N sc cf sub kind) {x : Str} (hx : x ∈ G.xs) (hg : isGl sc x = true) : ∃ C, X.mg x = some (.ref C) ∧ Names X x (.ref C) := by
  obtain ⟨C, hm, _⟩ := (h.g.xs x hx).ex
  obtain ⟨a, b⟩ := gl_of h.c hg
  exact ⟨C, hm, a, b, .inl hm⟩
theorem ext_grow {K : PySem.W.Frag} {mg : Str → Option Value} {F H H' : Hp} {κ : List Addr} {c : Cells} (g : GOk K mg F κ c H) (h : Grow H H') : Ext κ H F H' F ∧ GOk K mg F κ c H' := by
  refine ⟨⟨fun a o e _ => h a o e, fun _ _ e => e, fun _ _ _ _ e => e, fun a e => ?_⟩, ⟨fun a o e => h _ _ (g.sub a o e), g.nd, g.len, fun i a ob h1 h2 => ?_⟩⟩
  · cases q : H a with
    | none => rfl
    | some o => rw [h a o q] at e; cases e
  · obtain ⟨q1, q2⟩ := g.cell i a ob h1 h2
    refine ⟨q1, ?_⟩
    cases ob with
    | lst ds => obtain ⟨vs, q, r⟩ := q2; exact ⟨vs, h _ _ q, r⟩
    | dI ds => obtain ⟨vs, q, r⟩ := q2; exact ⟨vs, h _ _ q, r⟩
    | dW ds => obtain ⟨vs, q, r⟩ := q2; exact ⟨vs, h _ _ q, r⟩
theorem cst_of {X : Cx} {d : D} {c0 : Const} {k0 : Nat} {p2 : Pos} (hd : eqD0 d (cstD c0) = true) : ∃ v, PE X (.Constant c0 k0 p2) (tC v) ∧ d.isCell = false ∧ ∀ K mg F κ H0 H, RepX K mg F κ H0 H d v := by
  cases c0 <;> cases d <;> simp only [cstD, eqD0, decide_eq_true_eq, reduceCtorEq, Bool.false_eq_true] at hd
  · exact ⟨.non, pe_non, rfl, fun _ _ _ _ _ _ => rep_non⟩
  · subst hd; exact ⟨.bl _, pe_bl, rfl, fun _ _ _ _ _ _ => rep_bl⟩
  · subst hd; exact ⟨.int _, pe_int, rfl, fun _ _ _ _ _ _ => rep_int⟩
  · subst hd; exact ⟨.str _, pe_str, rfl, fun _ _ _ _ _ _ => rep_str⟩
/-- try .. except x: return a constant -/
theorem ss_tryC {x : Str} {body : List Stmt} {np pos pos' p2 p3 : Pos} {k0 : Nat} {c0 : Const} {d : D} {w : XW → WS} {W : XW} (h : SX X k T G N sc cf sub kind) (hx : x ∈ G.xs) (hg : isGl sc x = true) (tk : Takes X (wX X n W))
    (hd : eqD0 d (cstD c0) = true) (hb : ∀ (W' : XW) (pn : List (Addr × Obj)) (xe : Value → Shared → Prop), Takes (X.tr pn xe) (wX X n W') → PassesOwn (model X.prog X.w) X.A X.env xe → SSs (X.tr pn xe) n body (w W')) :
    SSt X n (.Try body [.ExceptHandler (some (.Name x np)) none [.Return (some (.Constant c0 k0 p2)) p3] pos'] [] [] pos) fun P σ c =>
      w (fun y σ1 c1 => (sub y x = some true ∧ P.rt d c1) ∨ (sub y x = some false ∧ W y σ1 c1)) P σ c := by
  obtain ⟨C, hm, hn⟩ := names_of h hx hg
  obtain ⟨v, _, hcell, hv⟩ := cst_of (X := X) (p2 := p2) (k0 := k0) hd
  refine (ps_try_only (ts := fun _ _ _ D _ H => D.rt v H) (tb := fun W' D σ H => ∃ Wd', (∀ cls d σ H, wX X n Wd' cls d σ H → W' cls d σ H) ∧ tSS X n (w Wd') D σ H) (Wout := wX X n W) h.st h.fr hn tk
    (fun W' pn xe tk' hp => ⟨fun pins s σ H D I ⟨Wd', i, q⟩ => (hb Wd' pn xe (tk'.imp i) hp).run pins s σ H D I (tss_tr q)⟩)
    (fun a oe cls d' pn _ _ => ?_)).imp fun D σ H ⟨F, κ, c, σa, P, R, hh, p⟩ => ⟨_, fun cls dd σ' H' hw => ?_, F, κ, c, σa, P, R, hh, p⟩
  · obtain ⟨v', hp, _, hv'⟩ := cst_of (X := X.suite a ((a, oe) :: pn)) (p2 := p2) (k0 := k0) hd
    have hvv : v' = v := by
      have h1 := hv X.K X.mg (fun _ => none) [] (fun _ => none) (fun _ => none)
      have h2 := hv' X.K X.mg (fun _ => none) [] (fun _ => none) (fun _ => none)
      cases c0 <;> cases d <;> simp only [cstD, eqD0, decide_eq_true_eq, reduceCtorEq, Bool.false_eq_true] at hd
      · rw [inv_non h1, inv_non h2]
      · rw [inv_bl h1, inv_bl h2]
      · rw [inv_int h1, inv_int h2]
      · rw [inv_str h1, inv_str h2]
    rw [← hvv]
    exact (pss_one (ps_ret hp)).imp fun D σ H q => q
  · obtain ⟨F1, κ1, c1, σ1, y, Cy, R1, hq, hy, rfl, rfl⟩ := hw
    rcases hq with ⟨hs, hp⟩ | ⟨hs, hp⟩
    · exact ⟨true, h.sb y x true Cy C hs hy hm, fun _ a ha => p.rt _ _ _ _ _ _ _ _ R1 (hv _ _ _ _ _ _) hp, nofun⟩
    · exact ⟨false, h.sb y x false Cy C hs hy hm, nofun, fun _ => ⟨F1, κ1, c1, σ1, y, Cy, R1, hp, hy, rfl, rfl⟩⟩
/-- try .. except x as i: return kf(i) -/
theorem ss_tryK {x kf nm : Str} {i : Nat} {body : List Stmt} {np pos pos' p1 p2 p3 p4 : Pos} {w : XW → WS} {W : XW} (h : SX X k T G N sc cf sub kind) (hx : x ∈ G.xs) (hg : isGl sc x = true) (hkf : kf ∈ G.ks) (hgk : isGl sc kf = true)
    (hi : X.N[i]? = some nm) (hl : X.env.scope.names.lookup nm = some .local) (hd1 : (nm == ("__debug__" : Str)) = false) (hd2 : (nm == ("__classdict__" : Str)) = false) (tk : Takes X (wX X n W))
    (hb : ∀ (W' : XW) (pn : List (Addr × Obj)) (xe : Value → Shared → Prop), Takes (X.tr pn xe) (wX X n W') → PassesOwn (model X.prog X.w) X.A X.env xe → SSs (X.tr pn xe) n body (w W')) :
    SSt X n (.Try body [.ExceptHandler (some (.Name x np)) (some nm) [.Return (some (.Call (.Name kf p1) [.Name nm p2] [] p3)) p4] pos'] [] [] pos) fun P σ c =>
      w (fun y σ1 c1 => (sub y x = some true ∧ P.rt (kind kf y) c1) ∨ (sub y x = some false ∧ W y σ1 c1)) P σ c := by
  obtain ⟨C, hm, hn⟩ := names_of h hx hg
  obtain ⟨hglk, hdk⟩ := gl_of h.c hgk
  have hND : X.N.Nodup := by rw [h.c.hN]; exact h.c.nd
  refine (ps_try_as (ts := fun a cls d D σ H => (i < σ.length → σ[i]? = some (some (.ref a))) ∧ H a = none ∧ ∃ y C z, X.mg y = some (.ref C) ∧ cls = .ref C ∧ d = none ∧ kind kf y = .str z ∧ ∀ H', Grow H H' → D.rt (.str z) H')
    (tb := fun W' D σ H => ∃ Wd', (∀ cls d σ H, wX X n Wd' cls d σ H → W' cls d σ H) ∧ tSS X n (w Wd') D σ H) (Wout := wX X n W) h.st h.fr hND hi hl hn tk
    (fun W' pn xe tk' hp => ⟨fun pins s σ H D I ⟨Wd', i, q⟩ => (hb Wd' pn xe (tk'.imp i) hp).run pins s σ H D I (tss_tr q)⟩)
    (fun a oe cls d' pn hz hf => h.kd kf hkf i nm p1 p2 p3 p4 hi hl hglk hdk hd1 hd2 a oe cls d' pn hz hf)).imp fun D σ H ⟨F, κ, c, σa, P, R, hh, p⟩ => ⟨_, fun cls dd σ' H' hw => ?_, F, κ, c, σa, P, R, hh, p⟩
  obtain ⟨F1, κ1, c1, σ1, y, Cy, R1, hq, hy, rfl, rfl⟩ := hw
  rcases hq with ⟨hs, hp⟩ | ⟨hs, hp⟩
  · refine ⟨true, h.sb y x true Cy C hs hy hm, fun _ a ha => ⟨fun hlt => ?_, ha, y, Cy, ?_⟩, nofun⟩
    · rw [List.getElem?_set_self (by simpa using hlt)]
    · obtain ⟨z, hz⟩ := h.ks kf hkf x y hs
      refine ⟨z, hy, rfl, rfl, hz, fun H2 g2 => ?_⟩
      obtain ⟨e2, g2'⟩ := ext_grow R1.g g2
      exact p.rt _ _ _ _ _ _ _ _ (R1.step e2 g2') rep_str (by rw [← hz]; exact hp)
  · exact ⟨false, h.sb y x false Cy C hs hy hm, nofun, fun _ => ⟨F1, κ1, c1, σ1, y, Cy, R1, hp, hy, rfl, rfl⟩⟩
section
variable (h : SX X k T G N sc cf sub kind)
include h
theorem asg_sw {x : Str} {px : Pos} {e : Expr} {l : Nat} (hs : lcSw sc x px e = false) (hq : (noComp e || isLc e) = true) : swapsWith e (some (.Name x px)) l X.env = pure false := by
  cases e with
  | ListComp elt gs scope pos => rw [lcSw_is h.c.hsc h.c.kd, hs]
  | SetComp _ _ _ _ => cases hq
  | DictComp _ _ _ _ _ => cases hq
  | _ => exact swaps_no rfl
end
end
section
variable {G : Glob} {k : Nat} {T : List Tab} {N : List Str} {sc : Scope} {cf : Str → Bool} {sub : Str → Str → Option Bool} {kind : Str → Str → D}
theorem chkSs_cons {s : S} {r : Ss} {sts : List Stmt} (q : chkSs G N sc cf (.cons s r) sts = true) :
    (∃ i, s = .frz i ∧ chkSs G N sc cf r sts = true) ∨ (∃ i, s = .frd i ∧ chkSs G N sc cf r sts = true) ∨ (∃ st rest, sts = st :: rest ∧ chkS G N sc cf s st = true ∧ chkSs G N sc cf r rest = true) := by
  cases s with
  | frz i => unfold chkSs at q; exact .inl ⟨i, rfl, q⟩
  | frd i => unfold chkSs at q; exact .inr (.inl ⟨i, rfl, q⟩)
  | _ =>
    refine .inr ?_
    unfold chkSs at q
    cases sts with
    | nil => cases q
    | cons st rest =>
      simp only [Bool.and_eq_true] at q
      exact .inr ⟨st, rest, rfl, q.1, q.2⟩
theorem lc_eq {i : Nat} {P : DE} {σ : Sl} {ok : Cells → Prop} {turn : D → Cells → (Option D → Cells → Prop) → Prop} {xs : List D} {c : Cells} :
    lcGo ok turn xs c (fun ys c2 => ∃ zs, D.own ys = .own zs ∧ P.nx (σ.set i (some (.cell c2.length))) (c2 ++ [.lst zs])) =
    lcGo ok turn xs c (fun ys c2 => P.nx (σ.set i (some (.cell c2.length))) (c2 ++ [.lst ys])) := by
  congr 1
  funext ys c2
  refine propext ⟨?_, fun h => ⟨ys, rfl, h⟩⟩
  rintro ⟨zs, h1, h2⟩
  cases h1
  exact h2
theorem snd_lc {X : Cx} {n : En} {W : XW} (h : SX X k T G N sc cf sub kind) (tk : Takes X (wX X n W)) {i : Nat} {x : Str} {px lpos spos : Pos} {own : List Nat} {tg : Tg} {it : Ev.It} {cnd : To} {el : E} {elt : Expr} {gs : List Comprehension} {scope : Scope} (cel : Bool)
    (q1 : okTgt N sc cf i x = true) (hsw : lcSw sc x px (.ListComp elt gs scope lpos) = true) (q3 : chkE G N sc cf (.lc own tg it cnd el) (.ListComp elt gs scope lpos) = true) :
    SSt X n (.Assign [.Name x px] (.ListComp elt gs scope lpos) spos) fun P σ c => wI (gam T) W it σ c fun xs ok c1 => xs.length ≤ sizeLine ∧ lcGo ok (lcTurn tg (wC (gam T) cnd) (wE (gam T) noX el) (wipeD σ own)) xs c1 fun ys c2 =>
      if cel = true then P.nx (σ.set i (some (.cell c2.length))) (c2 ++ [.lst ys]) else P.nx (σ.set i (some (.lst ys))) c2 := by
  obtain ⟨a1, a2, a3⟩ := tgt_of h.c q1
  have hND : X.N.Nodup := by rw [h.c.hN]; exact h.c.nd
  unfold chkE at q3; split at q3
  · rename_i el' tg' it' ifs' sc' lp he
    cases he
    simp only [Bool.and_eq_true] at q3
    obtain ⟨⟨⟨⟨⟨⟨h1, h2⟩, h3⟩, h4⟩, h5⟩, h6⟩, h7⟩ := q3
    have hb : BlkOk X.N X.env.scope scope (ownN N own) := by rw [h.c.hN, h.c.hsc]; exact blkOk_by h1
    have kd : scope.kind = .function := hb.kind
    have hlk : X.env.scope.names.lookup x = some .local := by
      rw [h.c.hsc]
      unfold lcSw at hsw
      simp only [Bool.and_eq_true, decide_eq_true_eq] at hsw
      exact hsw.1.1
    have := ss_setLc (spos := spos) (py := px) (own := ownN N own) h.c.calm hND a1 hlk (by rw [lcSw_is h.c.hsc h.c.kd, hsw]) (snd_I it X n N sc cf W h.g h.c tk _ _ h5) hb (by rw [own_map]; exact h2)
      (fun s H C cl fp => snd_Tg (h.c.blk kd s H C cl fp) h4) (fun s H C cl fp => snd_C cnd _ n N _ _ (h.g.blk s H scope _ fp) (h.c.blk kd s H C cl fp) _ h6)
      (fun s H C cl fp => snd_E el _ n N _ _ noX (h.g.blk s H scope _ fp) (h.c.blk kd s H C cl fp) never_takes _ h7) (fold_of h3) cel
    rw [own_map] at this
    exact this
  · cases q3
mutual
theorem snd_S : ∀ (ir : S) (X : Cx) (n : En) (W : XW), SX X k T G N sc cf sub kind → Takes X (wX X n W) → PassesOwn (model X.prog X.w) X.A X.env X.xe → ∀ st, chkS G N sc cf ir st = true → SSt X n st (wS (gam T) sub kind n.κ.length W ir)
  | .asg t e, X, n, W, h, tk, hp, st, q => by
    unfold chkS at q; split at q
    · rename_i x px e' pos
      simp only [Bool.and_eq_true] at q
      obtain ⟨⟨q1, q2⟩, q3⟩ := q
      split at q1
      · rename_i i
        obtain ⟨a1, a2, a3⟩ := tgt_of h.c q1
        have hND : X.N.Nodup := by rw [h.c.hN]; exact h.c.nd
        by_cases hsw : lcSw sc x px e' = true
        · rw [if_pos hsw] at q2
          split at q2
          · exact snd_lc h tk false q1 hsw q3
          · cases q2
        · rw [if_neg hsw] at q2
          exact ss_set hND a1 a2 a3 (snd_E e X n N sc cf W h.g h.c tk _ q3) (asg_sw h (by simpa using hsw) q2)
      · cases q1
    · simp only [Bool.and_eq_true] at q
      obtain ⟨⟨q1, q2⟩, q3⟩ := q
      split at q1
      · exact ss_asg (snd_E e X n N sc cf W h.g h.c tk _ q3) (stg_tp h.c.calm (by rw [h.c.hN]; exact h.c.nd) (tgts_of h.c q1)) swaps_tup (swN_is h.c.hsc q2) rfl
      · cases q1
    · cases q
  | .asgC i e, X, n, W, h, tk, hp, st, q => by
    unfold chkS at q; split at q
    · rename_i x px e' pos
      simp only [Bool.and_eq_true] at q
      obtain ⟨⟨q1, q2⟩, q3⟩ := q
      obtain ⟨a1, a2, a3⟩ := tgt_of h.c q1
      have hND : X.N.Nodup := by rw [h.c.hN]; exact h.c.nd
      by_cases hsw : lcSw sc x px e' = true
      · rw [if_pos hsw] at q2
        split at q2
        · have := snd_lc (spos := pos) h tk true q1 hsw q3
          refine this.imp fun D σ H ⟨F, κ, c, σa, P, R, hh, p⟩ => ⟨F, κ, c, σa, P, R, ?_, p⟩
          simp only [wS, wE, lc_eq] at hh
          exact hh
        · cases q2
      · rw [if_neg hsw] at q2
        exact ss_setC hND a1 a2 a3 (snd_E e X n N sc cf W h.g h.c tk _ q3) (asg_sw h (by simpa using hsw) q2)
    · cases q
  | .par is es, X, n, W, h, tk, hp, st, q => by
    unfold chkS at q; split at q
    · rename_i x px y py pt pt2 a b k2 pt3 pos
      simp only [Bool.and_eq_true] at q
      obtain ⟨⟨q1, q2⟩, q3⟩ := q
      split at q1
      · rename_i i j
        simp only [Bool.and_eq_true, decide_eq_true_eq] at q1
        obtain ⟨⟨u1, u2⟩, u3⟩ := q1
        have hND : X.N.Nodup := by rw [h.c.hN]; exact h.c.nd
        have l1 : X.env.scope.names.lookup x = some .local := by rw [h.c.hsc]; have := q2; simp only [sw2, Bool.and_eq_true, decide_eq_true_eq] at this; exact this.1.1.1.1.1.1
        have l2 : X.env.scope.names.lookup y = some .local := by rw [h.c.hsc]; have := q2; simp only [sw2, Bool.and_eq_true, decide_eq_true_eq] at this; exact this.1.1.1.1.1.2
        exact ss_par2 h.c.calm hND (tgt_of h.c u1).1 (tgt_of h.c u2).1 u3 l1 l2 (snd_L es X n N sc cf W h.g h.c tk _ q3) (sw2_is h.c.hsc h.c.kd q2)
      · cases q1
    · rename_i x px y py z pz pt pt2 a b d k2 pt3 pos
      simp only [Bool.and_eq_true] at q
      obtain ⟨⟨q1, q2⟩, q3⟩ := q
      split at q1
      · rename_i i j l
        simp only [Bool.and_eq_true, decide_eq_true_eq] at q1
        obtain ⟨⟨⟨⟨⟨u1, u2⟩, u2'⟩, u3⟩, u4⟩, u5⟩ := q1
        have hND : X.N.Nodup := by rw [h.c.hN]; exact h.c.nd
        have hl := q2
        simp only [sw3, Bool.and_eq_true, decide_eq_true_eq] at hl
        obtain ⟨⟨⟨⟨⟨⟨⟨⟨⟨⟨m1, m2⟩, m3⟩, _⟩, _⟩, _⟩, _⟩, _⟩, _⟩, _⟩, _⟩ := hl
        exact ss_par3 h.c.calm hND (tgt_of h.c u1).1 (tgt_of h.c u2).1 (tgt_of h.c u2').1 u3 u4 u5 (by rw [h.c.hsc]; exact m1) (by rw [h.c.hsc]; exact m2) (by rw [h.c.hsc]; exact m3) (snd_L es X n N sc cf W h.g h.c tk _ q3) (sw3_is h.c.hsc h.c.kd q2)
      · cases q1
    · cases q
  | .frz _, X, n, W, h, tk, hp, st, q => by unfold chkS at q; cases q
  | .frd _, X, n, W, h, tk, hp, st, q => by unfold chkS at q; cases q
  | .dnw i t, X, n, W, h, tk, hp, st, q => by
    unfold chkS at q; split at q
    · obtain ⟨a1, a2, a3⟩ := tgt_of h.c q
      exact ss_dnw t (by rw [h.c.hN]; exact h.c.nd) a1 a2 a3
    · cases q
  | .dst o i e, X, n, W, h, tk, hp, st, q => by
    unfold chkS at q; split at q
    · simp only [Bool.and_eq_true] at q
      obtain ⟨⟨⟨q1, q2⟩, q3⟩, q4⟩ := q
      exact ss_dst h.g.has.units (snd_E e X n N sc cf W h.g h.c tk _ q2) (snd_E o X n N sc cf W h.g h.c tk _ q3) (snd_E i X n N sc cf W h.g h.c tk _ q4) q1
    · cases q
  | .dau o i op e, X, n, W, h, tk, hp, st, q => by
    unfold chkS at q; split at q
    · simp only [Bool.and_eq_true, decide_eq_true_eq] at q
      obtain ⟨⟨⟨⟨⟨q1, rfl⟩, rfl⟩, q2⟩, q3⟩, q4⟩ := q
      exact ss_dau h.g.has.units (snd_E o X n N sc cf W h.g h.c tk _ q2) (snd_E i X n N sc cf W h.g h.c tk _ q3) (snd_E e X n N sc cf W h.g h.c tk _ q4) q1
    · cases q
  | .aug i op e, X, n, W, h, tk, hp, st, q => by
    unfold chkS at q; split at q
    · simp only [Bool.and_eq_true, decide_eq_true_eq] at q
      obtain ⟨⟨q1, rfl⟩, q3⟩ := q
      obtain ⟨a1, a2, a3⟩ := tgt_of h.c q1
      exact ss_aug (by rw [h.c.hN]; exact h.c.nd) a1 a2 a3 (snd_E e X n N sc cf W h.g h.c tk _ q3)
    · cases q
  | .setI o i e, X, n, W, h, tk, hp, st, q => by
    unfold chkS at q; split at q
    · simp only [Bool.and_eq_true] at q
      obtain ⟨⟨⟨q1, q2⟩, q3⟩, q4⟩ := q
      exact ss_setI (snd_E e X n N sc cf W h.g h.c tk _ q2) (snd_E o X n N sc cf W h.g h.c tk _ q3) (snd_E i X n N sc cf W h.g h.c tk _ q4) q1 swaps_sub
    · cases q
  | .augI o i op e, X, n, W, h, tk, hp, st, q => by
    unfold chkS at q; split at q
    · simp only [Bool.and_eq_true, decide_eq_true_eq] at q
      obtain ⟨⟨⟨⟨⟨q1, rfl⟩, rfl⟩, q2⟩, q3⟩, q4⟩ := q
      exact ss_augI (snd_E o X n N sc cf W h.g h.c tk _ q2) (snd_E i X n N sc cf W h.g h.c tk _ q3) (snd_E e X n N sc cf W h.g h.c tk _ q4) q1
    · cases q
  | .ifS t a b, X, n, W, h, tk, hp, st, q => by
    unfold chkS at q; split at q
    · simp only [Bool.and_eq_true] at q
      exact ss_if (snd_T t X n N sc cf W h.g h.c tk _ q.1.1) (snd_Ss a X n W h tk hp _ q.1.2) (snd_Ss b X n W h tk hp _ q.2)
    · cases q
  | .forS tg it b, X, n, W, h, tk, hp, st, q => by
    unfold chkS at q; split at q
    · simp only [Bool.and_eq_true] at q
      obtain ⟨⟨⟨q1, q2⟩, q3⟩, q4⟩ := q
      exact ss_for (w := fun m => wSs (gam T) sub kind m W b) hp h.c.calm (snd_I it X n N sc cf W h.g h.c tk _ _ q3) (fun n1 _ => snd_Tg h.c q2) (fun n1 b1 => snd_Ss b X n1 W h (tk.imp b1.wX) hp _ q4) (fold_of q1)
    · cases q
  | .whl t b, X, n, W, h, tk, hp, st, q => by
    unfold chkS at q; split at q
    · simp only [Bool.and_eq_true] at q
      exact ss_whl (w := fun m => wSs (gam T) sub kind m W b) hp (fun n1 b1 => snd_T t X n1 N sc cf W h.g h.c (tk.imp b1.wX) _ q.1) (fun n1 b1 => snd_Ss b X n1 W h (tk.imp b1.wX) hp _ q.2)
    · cases q
  | .ret e, X, n, W, h, tk, hp, st, q => by
    unfold chkS at q; split at q
    · exact ss_ret (snd_E e X n N sc cf W h.g h.c tk _ q)
    · cases q
  | .retN, X, n, W, h, tk, hp, st, q => by
    unfold chkS at q; split at q
    · exact ss_retN
    · cases q
  | .raise x m, X, n, W, h, tk, hp, st, q => by
    unfold chkS at q; split at q
    · simp only [Bool.and_eq_true, decide_eq_true_eq] at q
      obtain ⟨⟨rfl, q1⟩, q2⟩ := q
      obtain ⟨a, b⟩ := gl_of h.c q1
      exact ss_raise h.c.calm tk (h.g.xs _ q2) a b
    · cases q
  | .expr e, X, n, W, h, tk, hp, st, q => by
    unfold chkS at q; split at q
    · simp only [Bool.and_eq_true] at q
      exact ss_expr (snd_E e X n N sc cf W h.g h.c tk _ q.2) (swaps_no q.1)
    · cases q
  | .brk, X, n, W, h, tk, hp, st, q => by
    unfold chkS at q; split at q
    · exact ss_brk
    · cases q
  | .cnt, X, n, W, h, tk, hp, st, q => by
    unfold chkS at q; split at q
    · exact ss_cnt
    · cases q
  | .pas, X, n, W, h, tk, hp, st, q => by
    unfold chkS at q; split at q
    · exact ss_pas
    · cases q
  | .tryK b x i kf, X, n, W, h, tk, hp, st, q => by
    unfold chkS at q; split at q
    · simp only [Bool.and_eq_true, decide_eq_true_eq] at q
      obtain ⟨⟨⟨⟨⟨⟨⟨⟨⟨rfl, rfl⟩, rfl⟩, q1⟩, q2⟩, q3⟩, q4⟩, q5⟩, q6⟩, q7⟩ := q
      obtain ⟨a, _, d1, d2⟩ := var_of h.c q4
      exact ss_tryK (w := fun W' => wSs (gam T) sub kind n.κ.length W' b) h q6 q1 q3 q2 a (by rw [h.c.hsc]; exact q5) d1 d2 tk (fun W' pn xe tk' hp' => snd_Ss b (X.tr pn xe) n W' (h.tr pn xe) tk' hp' _ q7)
    · cases q
  | .tryC b x d, X, n, W, h, tk, hp, st, q => by
    unfold chkS at q; split at q
    · simp only [Bool.and_eq_true, decide_eq_true_eq] at q
      obtain ⟨⟨⟨⟨rfl, q1⟩, q2⟩, q3⟩, q4⟩ := q
      exact ss_tryC (w := fun W' => wSs (gam T) sub kind n.κ.length W' b) h q2 q1 tk q3 (fun W' pn xe tk' hp' => snd_Ss b (X.tr pn xe) n W' (h.tr pn xe) tk' hp' _ q4)
    · cases q
theorem snd_Ss : ∀ (ir : Ss) (X : Cx) (n : En) (W : XW), SX X k T G N sc cf sub kind → Takes X (wX X n W) → PassesOwn (model X.prog X.w) X.A X.env X.xe → ∀ sts, chkSs G N sc cf ir sts = true → SSs X n sts (wSs (gam T) sub kind n.κ.length W ir)
  | .nil, X, n, W, h, tk, hp, sts, q => by
    unfold chkSs at q; split at q
    · exact ss_nil
    · cases q
  | .cons s r, X, n, W, h, tk, hp, sts, q => by
    rcases chkSs_cons q with ⟨i, rfl, q⟩ | ⟨i, rfl, q⟩ | ⟨st, rest, rfl, q1, q2⟩
    · exact ss_frz (snd_Ss r X n W h tk hp _ q)
    · exact ss_frd (snd_Ss r X n W h tk hp _ q)
    · exact ss_cons (w1 := wS (gam T) sub kind n.κ.length W s) (w2 := wSs (gam T) sub kind n.κ.length W r) (snd_S s X n W h tk hp _ q1) (snd_Ss r X n W h tk hp _ q2)
end
end
end Ev

/-! # Ev14: a def whose text is checked keeps its promise -/
namespace Ev
open PySem PySem.Spec PyProof.Rows L2
section
variable {P : Program} {w : World} {K : PySem.W.Frag} {mg : Str → Option Value} {base : Heap} {k : Nat} {f : Addr}
/-- a def by its body, where no repr is under way -/
theorem fng_of {name qual : Str} {params : Arguments} {body : List Stmt} {scope : Scope} {dV kV doc pm cdv ct oc : Value} {an od : Option Addr} {osl : Array (Option Value)} {N ps : List Str} {sp : Sp}
    (inK : K.lookup f = some ⟨oc, od, .func (PySem.W.fnOf name qual params body scope dV kV doc pm an cdv ct), osl⟩) (cdK : PySem.W.codeIn K cdv qual = true) (scOk : FnScope N ps scope)
    (ln : ∀ vs H Q E, sp vs H Q E → vs.length = ps.length)
    (hb : ∀ (A : Around) (outer : List Env) (s : Shared) (H : Hp) (vs : List V) (Q : VK) (E : XK), A.guards = some [] → Room k (A.deeper (envOfC qual scope s.heap.objs.size f cdv)) → sp vs H Q E →
      ∃ t, PSs (cxOf (L2.CX P w) P w K mg base N qual scope f cdv A outer s H E) body t ∧ t { nx := fun _ H' => Q .non H', rt := Q } (L2.start N vs) H) :
    FnG P w K mg base (k + 1) f (PySem.W.fnOf name qual params body scope dV kV doc pm an cdv ct) ps sp := by
  refine ⟨ln, fun A hg room outer s H env0 args us vs Q E bindsTo rv hsp => ?_⟩
  have inS : K.In s.heap := env0.mod.kin.keeps fun b o z => (env0.bs b o z).1
  have noLim : s.heap.NoLimit := env0.mod.nolimit.keeps fun b o z => (env0.bs b o z).1
  have kinds : ∀ q ∈ ps.zip us, scope.names.lookup q.1 = some .local ∨ (scope.names.lookup q.1 = some .cell ∧ ((cellsFrom (s.heap.objs.size + 1) scope.names []).lookup q.1).isSome = true) := by
    rintro ⟨m, u⟩ hq
    rcases scOk.par m (List.of_mem_zip hq).1 with z | z
    · exact .inl z
    · exact .inr ⟨z, PySem.W.cellsFrom_some _ _ _ (.inl z)⟩
  refine codeAny_call_function room.depth (inS _ _ inK) rfl scOk.co scOk.gen rfl (PySem.W.codeRec_of inS cdK) (bindsTo _ _ _ _ (wpAny_newFunctionEnv_cells scOk.kind kinds ?_))
  intro env henv s1 inCall
  subst henv
  obtain ⟨t, run, ht⟩ := hb A outer s H vs Q E hg (room.deeper _) hsp
  refine ⟨noLim.keeps inCall.toInCall.keep, codeAny_func ?_⟩
  refine wpAny_mono (run.run [] s1 (L2.start N vs) H _ (inv_start scOk room.hd env0 (ln _ _ _ _ hsp) rv inCall) ht) ?_ fun _ _ z => z
  intro fl s2 z
  cases fl with
  | ret u =>
    obtain ⟨x, σ2, H2, I2, r2, q2⟩ := z
    exact ⟨x, H2, I2.os, I2.bare, I2.base, I2.hok, r2, q2⟩
  | next =>
    obtain ⟨σ2, H2, I2, q2⟩ := z
    exact ⟨V.non, H2, I2.os, I2.bare, I2.base, I2.hok, rfl, q2⟩
  | brk => exact z.elim fun _ z => z.elim fun _ z => z.2.elim
  | cont => exact z.elim fun _ z => z.elim fun _ z => z.2.elim
end
section
variable {K : PySem.W.Frag} {mg : Str → Option Value} {F F' H0 H H' : Hp} {κ κ' : List Addr} {c c' : Cells} {d : D} {v : V} {σa : Sl} {σ : L2.St} {n : En}
/-- at the end of a call the cells that it made are forgotten -/
theorem exit_ok (R : Rel K mg n F κ c H σa σ) : GOk K mg F n.κ (c.take n.κ.length) H := by
  refine ⟨R.g.sub, ?_, ?_, fun i a ob h1 h2 => ?_⟩
  · rw [← R.pre]; exact List.Nodup.sublist (List.take_sublist _ _) R.g.nd
  · have := congrArg List.length R.pre
    rw [List.length_take] at this
    rw [List.length_take, ← R.g.len]; omega
  · have hi : i < n.κ.length := (List.getElem?_eq_some_iff.mp h1).1
    rw [← R.pre, List.getElem?_take_of_lt hi] at h1
    rw [List.getElem?_take_of_lt hi] at h2
    exact R.g.cell i a ob h1 h2
theorem exit_rep (R : Rel K mg n F κ c H σa σ) (r : RepX K mg F κ n.H H d v) (hd : d.isCell = false) : RepX K mg F n.κ n.H H d v := by
  cases d with
  | own xs =>
    obtain ⟨a, vs, h0, h1, h2, h3, h4, h5⟩ := r
    exact ⟨a, vs, h0, h1, h2, fun z => h3 (by rw [← R.pre] at z; exact List.mem_of_mem_take z), h4, h5⟩
  | cell m => cases hd
  | _ => exact r
/-- a cell that the call made is handed out as a list of its own -/
theorem exit_cell {m : Nat} {xs : List D} (R : Rel K mg n F κ c H σa σ) (r : RepX K mg F κ n.H H (.cell m) v) (hm : n.κ.length ≤ m) (hc : c[m]? = some (.lst xs)) : RepX K mg F n.κ n.H H (.own xs) v := by
  obtain ⟨a, h0, hk⟩ := r
  obtain ⟨hF, vs, hH, rv⟩ := R.g.cell m a _ hk hc
  have hd : a ∈ κ.drop n.κ.length := by
    rw [List.mem_iff_getElem?]
    exact ⟨m - n.κ.length, by rw [List.getElem?_drop, show n.κ.length + (m - n.κ.length) = m by omega]; exact hk⟩
  refine ⟨a, vs, h0, hH, hF, fun z => ?_, R.new a hd, rv⟩
  have nd := R.g.nd
  rw [← List.take_append_drop n.κ.length κ, R.pre, List.nodup_append] at nd
  exact nd.2.2 a z a hd rfl
theorem start_rep : ∀ {N : List Str} {ds : List D} {vs : List V}, Rep1s K mg F κ ds vs → SRep K mg F κ (ds.map some ++ List.replicate (N.length - ds.length) none) (L2.start N vs) := by
  intro N ds vs r
  have hl := r.length
  refine ⟨by unfold L2.start; simp [hl], fun i d h => ?_⟩
  by_cases z : i < ds.length
  · rw [List.getElem?_append_left (by simpa using z), List.getElem?_map] at h
    unfold L2.start
    rw [List.getElem?_append_left (by simpa using hl ▸ z), List.getElem?_map]
    have : ds[i]? = some d := by simpa using h
    clear h z hl
    induction ds generalizing vs i with
    | nil => simp at this
    | cons d0 ds ih =>
      obtain ⟨u, us, rfl, r1, r2⟩ := r
      cases i with
      | zero => simp at this; subst this; exact ⟨u, rfl, r1⟩
      | succ i => simpa using ih (i := i) r2 (by simpa using this)
  · rw [List.getElem?_append_right (by simpa using z)] at h
    rw [List.getElem?_replicate] at h
    split at h <;> cases h
end
/-- what the text's names say, whatever def runs -/
structure Prg (P : Program) (w : World) (K : PySem.W.Frag) (mg : Str → Option Value) (G : Glob) (sub : Str → Str → Option Bool) (kind : Str → Str → D) : Prop where
  cs : ∀ p ∈ G.cs, ∃ t, mg p.1 = some (.int p.2 t)
  xs : ∀ x ∈ G.xs, ∃ C, mg x = some (.ref C) ∧ PySem.W.excIn K C [.type "ValueError", .type "Exception", .type "BaseException", .type "object"] "ValueError.__new__" = true ∧ PySem.W.keepIn K (.ref C) = true ∧
    PySem.W.subIn K (.ref C) (.type "BaseException") = some true ∧ PySem.W.typeIn K (.ref C) = some (.type "type")
  blt : ∀ b, mg (bName b) = none
  more : ∀ x ∈ moreB, mg x = none
  sb : ∀ y x b C D, sub y x = some b → mg y = some (.ref C) → mg x = some (.ref D) → PySem.W.exmOne K (.ref C) (.ref D) = some b
  ks : ∀ kf ∈ G.ks, ∀ x y, sub y x = some true → ∃ z, kind kf y = .str z
/-- the defs that may be called, to the depth k -/
def TabOk (P : Program) (w : World) (K : PySem.W.Frag) (mg : Str → Option Value) (base : Heap) (k : Nat) (T : List Tab) : Prop :=
  ∀ t ∈ T, ∃ f fd, FnG P w K mg base k f fd t.ps (spD K mg t.ps.length t.sp) ∧ mg t.name = some (.ref f) ∧ PySem.W.keepIn K (.ref f) = true ∧ Binds K fd t.ps []
/-- the function of kinds, to the depth k -/
def KndOk (P : Program) (w : World) (K : PySem.W.Frag) (mg : Str → Option Value) (base : Heap) (k : Nat) (ks : List Str) (kind : Str → Str → D) : Prop :=
  ∀ X : Cx, X.prog = P → X.w = w → X.K = K → X.mg = mg → X.base = base → X.calm = true → X.stack = X.env :: X.outer → Room k X.A → X.A.guards = some [] → KindOk X ks kind
section
variable {P : Program} {w : World} {K : PySem.W.Frag} {mg : Str → Option Value} {base : Heap} {k : Nat} {f : Addr} {G : Glob} {T : List Tab} {sub : Str → Str → Option Bool} {kind : Str → Str → D}
theorem fng_chk {name qual : Str} {params : Arguments} {body : List Stmt} {scope : Scope} {dV kV doc pm cdv ct oc : Value} {an od : Option Addr} {osl : Array (Option Value)} {N ps : List Str} {sp : DSp}
    (inK : K.lookup f = some ⟨oc, od, .func (PySem.W.fnOf name qual params body scope dV kV doc pm an cdv ct), osl⟩) (cdK : PySem.W.codeIn K cdv qual = true) (scOk : FnScope N ps scope)
    (g : Prg P w K mg G sub kind) (hfs : ∀ f ∈ G.fs, ∃ t ∈ T, t.name = f) (tb : TabOk P w K mg base k T) (kd : KndOk P w K mg base k G.ks kind) (ir : Fn) (har : ir.ar = ps.length) (hsz : ir.sz = N.length)
    (hchk : chkSs G N scope (fun _ => true) ir.body body = true) (hsp : ∀ ds c Q E, sp ds c Q E → wFn (gam T) sub kind ir ds c Q E) :
    FnG P w K mg base (k + 1) f (PySem.W.fnOf name qual params body scope dV kV doc pm an cdv ct) ps (spD K mg ps.length sp) := by
  refine fng_of inK cdK scOk (fun vs H Q E ⟨F, κ, ds, c, Pd, W, _, r, hl, _⟩ => by rw [← r.length]; exact hl) fun A outer s H vs Q E hg room ⟨F, κ, ds, c, Pd, W, hG, r, hl, hs, hQ, hE⟩ => ?_
  have hc : κ.length = c.length := hG.len
  obtain ⟨_, run⟩ := hsp _ _ _ _ hs
  let X : Cx := cxOf (L2.CX P w) P w K mg base N qual scope f cdv A outer s H E
  let n : En := ⟨F, κ, H⟩
  let W0 : XW := fun x _ c1 => W x (c1.take c.length)
  have hstk : X.stack = X.env :: X.outer := rfl
  have hfr : X.env.frame = some X.env.locals := rfl
  have glob : GlobOk G X k T := ⟨⟨room, hg, tb⟩, hfs, g.cs, fun x hx => let ⟨C, a, b, c, d, e⟩ := g.xs x hx; ⟨C, a, b, c, raises_own d e⟩, g.blt, g.more⟩
  have sx : SX X k T G N scope (fun _ => true) sub kind := ⟨glob, ⟨rfl, scOk.nd, rfl, scOk.kind, rfl, fun _ => rfl⟩, hstk, hfr, g.sb, kd X rfl rfl rfl rfl rfl rfl hstk room hg, g.ks⟩
  have tk : Takes X (wX X n W0) := (takes_of (X := X) (E := E) hstk hfr rfl rfl).imp fun cls d σ H' ⟨F', κ', c', σa, x, C, R, hw, hm, hcls, hd⟩ => by
    subst hcls; subst hd
    have hlk : n.κ.length = c.length := hc
    have := exit_ok R
    rw [hlk] at this
    exact hE x _ H' F' C hw R.ext this hm
  have hown : PassesOwn (model X.prog X.w) X.A X.env X.xe := passes_of (X := X) rfl
  refine ⟨_, snd_Ss ir.body X n W0 sx tk hown body hchk, F, κ, c, ds.map some ++ List.replicate (N.length - ds.length) none, ⟨fun _ c1 => Pd .non (c1.take c.length), retK c.length Pd, fun _ _ => False, fun _ _ => False⟩,
    ⟨hG, start_rep r, .refl, by simp [n], fun a ha => by simp [n] at ha⟩, ?_, ?_⟩
  · rw [har, hsz, ← hl] at run
    show wSs (gam T) sub kind κ.length W0 ir.body _ _ c
    rw [hc]
    exact run
  · have hlk : n.κ.length = c.length := hc
    refine ⟨fun F' κ' c' H' σa σ R p => ?_, fun _ _ _ _ _ _ _ p => p.elim, fun _ _ _ _ _ _ _ p => p.elim, fun F' κ' c' H' σa σ d v R rr p => ?_⟩
    · have := exit_ok R
      rw [hlk] at this
      exact hQ .non _ .non H' F' p R.ext this rep_non
    · have := exit_ok R
      rw [hlk] at this
      have p : retK c.length Pd d c' := p
      unfold retK at p
      split at p
      · obtain ⟨xs, hm, hc', p⟩ := p
        exact hQ _ _ v H' F' p R.ext this (exit_cell R rr (by rw [hlk]; exact hm) hc')
      · rename_i hno
        exact hQ d _ v H' F' p R.ext this (exit_rep R rr (by cases d <;> first | rfl | exact (hno _ rfl).elim))
end
end Ev

/-! # Ev15: the function of kinds: called with the error that an except suite holds -/
namespace Ev
open PySem PySem.Spec PyProof.Rows L2
/-- a def that is called with the handled error -/
structure FnK (P : Program) (w : World) (K : PySem.W.Frag) (mg : Str → Option Value) (base : Heap) (k : Nat) (f : Addr) (fd : FuncData) (x : Str) (kind : Str → Option Str) : Prop where
  go : ∀ (A : Around), A.guards = some [] → L2H.RoomH k A → ∀ (outer : List Env) (s : Shared) (H : Hp) (a : Addr) (oe : Obj) (y : Str) (C : Addr) (z : Str), A.handled = some (.ref a) → L2H.PinOk outer H s (a, oe) → Env0 P w K mg base A outer s H →
    Zc (.ref C) none oe → (∃ vs, oe.data = .fields vs) → mg y = some (.ref C) → kind y = some z → ∀ (args : Args) (u : Value) (Q : VK) (E : XK), BindsTo s fd args ([x].zip [u]) → RelV (.ref a) u → (∀ H', Grow H H' → Q (.str z) H') →
      codeAny (model P w) A (.call (.ref f) args) (CR (L2.CX P w) outer P w H s Q E) s
/-- the context of its body -/
def cxK (P : Program) (w : World) (K : PySem.W.Frag) (mg : Str → Option Value) (base : Heap) (N : List Str) (qual : Str) (scope : Scope) (f : Addr) (cd : Value) (A : Around) (outer : List Env) (s : Shared) (H : Hp) (E : XK) (a : Addr) (oe : Obj) : Cx :=
  (cxOf (L2.CX P w) P w K mg base N qual scope f cd A outer s H E).suite a [(a, oe)]
theorem mark_same {A : Around} {a : Addr} {env : Env} (h : A.handled = some (.ref a)) : (A.deeper env).mark (some (.ref a)) = A.deeper env := by
  cases A
  cases h
  rfl
section
variable {P : Program} {w : World} {K : PySem.W.Frag} {mg : Str → Option Value} {base : Heap} {k : Nat} {f : Addr} {kind : Str → Option Str}
theorem fnk_of {name qual : Str} {params : Arguments} {body : List Stmt} {scope : Scope} {dV kV doc pm cdv ct oc : Value} {an od : Option Addr} {osl : Array (Option Value)} {N : List Str} {x : Str}
    (inK : K.lookup f = some ⟨oc, od, .func (PySem.W.fnOf name qual params body scope dV kV doc pm an cdv ct), osl⟩) (cdK : PySem.W.codeIn K cdv qual = true) (scOk : FnScope N [x] scope)
    (hb : ∀ (A : Around) (outer : List Env) (s : Shared) (H : Hp) (Q : VK) (E : XK) (a : Addr) (oe : Obj) (y : Str) (C : Addr) (z : Str), A.guards = some [] → L2H.RoomH k (A.deeper (envOfC qual scope s.heap.objs.size f cdv)) →
      Zc (.ref C) none oe → (∃ vs, oe.data = .fields vs) → mg y = some (.ref C) → kind y = some z → (∀ H', Grow H H' → Q (.str z) H') →
      ∃ t, PSs (cxK P w K mg base N qual scope f cdv A outer s H E a oe) body t ∧ t { nx := fun _ H' => Q .non H', rt := Q } (L2.start N [.ref a]) H) :
    FnK P w K mg base (k + 1) f (PySem.W.fnOf name qual params body scope dV kV doc pm an cdv ct) x kind := by
  refine ⟨fun A hg room outer s H a oe y C z hot pin env0 hz hf hy hk args u Q E bindsTo rv fin => ?_⟩
  have inS : K.In s.heap := env0.mod.kin.keeps fun b o z => (env0.bs b o z).1
  have noLim : s.heap.NoLimit := env0.mod.nolimit.keeps fun b o z => (env0.bs b o z).1
  have kinds : ∀ q ∈ [x].zip [u], scope.names.lookup q.1 = some .local ∨ (scope.names.lookup q.1 = some .cell ∧ ((cellsFrom (s.heap.objs.size + 1) scope.names []).lookup q.1).isSome = true) := by
    rintro ⟨m, u'⟩ hq
    rcases scOk.par m (List.of_mem_zip hq).1 with q | q
    · exact .inl q
    · exact .inr ⟨q, PySem.W.cellsFrom_some _ _ _ (.inl q)⟩
  refine codeAny_call_function room.depth (inS _ _ inK) rfl scOk.co scOk.gen rfl (PySem.W.codeRec_of inS cdK) (bindsTo _ _ _ _ (wpAny_newFunctionEnv_cells scOk.kind kinds ?_))
  intro env henv s1 inCall
  subst henv
  obtain ⟨t, run, ht⟩ := hb A outer s H Q E a oe y C z hg (room.deeper _) hz hf hy hk fin
  refine ⟨noLim.keeps inCall.toInCall.keep, codeAny_func ?_⟩
  have I0 := L2H.inv_startH (CX := L2.CX P w) (E := E) (mg := mg) (us := [u]) (vs := [.ref a]) scOk pin env0 rfl (.cons rv .nil) inCall
  have I1 := I0.toTry fun _ _ => False
  have hA := mark_same (env := envOfC qual scope s.heap.objs.size f cdv) hot
  have I2 : Inv (cxK P w K mg base N qual scope f cdv A outer s H E a oe) [] (L2.start N [.ref a]) H s1 := by
    refine ⟨⟨I1.ok.mod, I1.ok.kind, I1.ok.glob, I1.ok.blt, I1.ok.above, I1.ok.inj, I1.ok.has, I1.ok.cab, fun q => (nomatch q), ?_, I1.ok.stk, I1.ok.exf, I1.ok.bs, I1.ok.bsz, I1.ok.noex, I1.ok.exfs, I1.ok.funs, I1.ok.frf⟩, I1.os, I1.bare, I1.base, I1.loc, I1.cell, I1.free, I1.freeC, I1.pin, I1.hok, I1.len⟩
    have q := I1.ok.frames
    show ((A.deeper (envOfC qual scope s.heap.objs.size f cdv)).mark (some (.ref a))).frames = _
    rw [hA]
    exact q
  have run' := run.run [] s1 (L2.start N [.ref a]) H _ I2 ht
  have eA : (cxK P w K mg base N qual scope f cdv A outer s H E a oe).A = A.deeper (envOfC qual scope s.heap.objs.size f cdv) := hA
  rw [eA] at run'
  refine wpAny_mono run' ?_ fun _ _ z => z.elim
  intro fl s2 z
  cases fl with
  | ret u =>
    obtain ⟨x, σ2, H2, I2, r2, q2⟩ := z
    exact ⟨x, H2, I2.os, I2.bare, I2.base, I2.hok, r2, q2⟩
  | next =>
    obtain ⟨σ2, H2, I2, q2⟩ := z
    exact ⟨V.non, H2, I2.os, I2.bare, I2.base, I2.hok, rfl, q2⟩
  | brk => exact z.elim fun _ z => z.elim fun _ z => z.2.elim
  | cont => exact z.elim fun _ z => z.elim fun _ z => z.2.elim
def kdD (kind : Str → Option Str) : Str → Str → D := fun _ y => match kind y with
  | some z => .str z
  | none => .non
theorem FnK.mono {j k : Nat} {fd : FuncData} {x : Str} (F : FnK P w K mg base j f fd x kind) (h : j ≤ k) : FnK P w K mg base k f fd x kind :=
  ⟨fun A hg hr => F.go A hg (hr.mono h)⟩
/-- the call in the except suite -/
theorem knd_of {fd : FuncData} {x kf : Str} (F : FnK P w K mg base k f fd x kind) (hm : mg kf = some (.ref f)) (hk : PySem.W.keepIn K (.ref f) = true) (hb : Binds K fd [x] []) :
    KndOk P w K mg base k [kf] (kdD kind) := by
  rintro X rfl rfl rfl rfl rfl hcalm hstk hroom hgd kf' hkf i nm p1 p2 p3 p4 hi hl hglk hdk hd1 hd2 a oe cls d pn hz hf
  obtain rfl : kf' = kf := by simpa using hkf
  refine (pss_one (ps_ret (te := fun σ H Q => (i < σ.length → σ[i]? = some (some (.ref a))) ∧ H a = none ∧ ∃ y C z, X.mg y = some (.ref C) ∧ cls = .ref C ∧ d = none ∧ kdD kind kf' y = .str z ∧ ∀ H', Grow H H' → Q (.str z) H') ⟨fun pins s σ H Q I h => ?_⟩)).imp fun D σ H q => q
  obtain ⟨hs, hH, y, C, z, hy, rfl, rfl, hkd, fin⟩ := h
  have hlt : i < σ.length := by rw [I.len]; exact (List.getElem?_eq_some_iff.mp hi).1
  have hkz : kind y = some z := by
    unfold kdD at hkd
    cases e : kind y with
    | none => rw [e] at hkd; cases hkd
    | some z' => rw [e] at hkd; cases hkd; rfl
  refine wpAny_Call_Name_kw (ld_glob I hglk hm ?_ hdk)
  have ha : PA (X.suite a ((a, oe) :: pn)) [.Name nm p2] (tCons (tVar i) tNil) := pa_cons (pe_var hi (.inl hl) hd1 hd2) pa_nil
  have hr := ha.run p3 pins s σ H (fun vs H' => vs = [.ref a] ∧ H' = H) I ⟨_, hs hlt, rfl, rfl⟩
  refine PySem.W.callWith_K (h₀ := X.base) I.ok.mod.kin hk (thn hr fun us s1 hh => ?_) (star_of (by rfl)) (any_of (by rfl))
  obtain ⟨vs, H1, I1, rv, hvs, hH1⟩ := hh
  refine ⟨I1.kIn, ?_⟩
  subst hvs
  subst hH1
  cases rv with
  | cons r0 rr =>
    cases rr
    rename_i u
    have pin0 := I1.pin (a, oe) (List.mem_append_left _ List.mem_cons_self)
    have room' : L2H.RoomH k (X.suite a ((a, oe) :: pn)).A := ⟨hroom.dp, hroom.un⟩
    have hpin : L2H.PinOk (X.suite a ((a, oe) :: pn)).stack H1 s1 (a, oe) := ⟨pin0.1, pin0.2.1, fun hmem => (List.mem_cons.mp (I1.stkSub a hmem)).elim pin0.2.2.1 pin0.2.2.2.1, pin0.2.2.2.2⟩
    have b := hb s1 [u] I1.kIn rfl
    rw [List.append_nil] at b
    have gg := F.go (X.suite a ((a, oe) :: pn)).A hgd room' X.stack s1 H1 a oe y C z rfl hpin I1.env0 hz hf hy hkz ⟨[u], []⟩ u Q (fun _ _ _ => False) b r0 fin
    refine wpAny_call (codeAny_mono gg fun res s2 hq => ?_)
    cases res with
    | error er =>
      obtain ⟨_, _, _, _, _, _, _, _, _, _, _, _, hq⟩ := hq
      exact hq.elim
    | ok fl =>
      cases fl with
      | ret v => exact I1.after hq
      | next => exact False.elim hq
      | brk => exact False.elim hq
      | cont => exact False.elim hq
end
end Ev

/-! # Ev16: the end of a law; the table of defs -/
namespace Ev
open PySem PySem.Spec PyProof.Rows L2
/-- the promise of a law's own function -/
def spLaw : DSp := fun ds c Q _ => ∃ ns : List Int, ds = [.scr (ns.map .int)] ∧ c = [] ∧ ns.length ≤ 63 ∧ (∀ z ∈ ns, Builtin.Int.intBits z ≤ 1048576) ∧ ∀ c', Q (.bl true) c'
theorem reps_ints {K : PySem.W.Frag} {mg : Str → Option Value} {F : Hp} : ∀ ns : List Int, RepDs K mg F (ns.map D.int) (ns.map V.int)
  | [] => .nil
  | n :: ns => .cons (by simp only [RepD]) (reps_ints ns)
/-- the script as data -/
theorem law_start {K : PySem.W.Frag} {mg : Str → Option Value} {H : Hp} {a : Addr} {ns : List Int} {E : XK} (hS : SqL K H a (ns.map V.int)) (hl : ns.length ≤ 63) (hb : ∀ z ∈ ns, Builtin.Int.intBits z ≤ 1048576) :
    spD K mg 1 spLaw [.ref a] H (fun v _ => v = .bl true) E := by
  refine ⟨H, [], [.scr (ns.map .int)], [], fun d _ => d = .bl true, fun _ _ => False, ⟨fun _ _ e => e, List.nodup_nil, rfl, fun i a ob h => by simp at h⟩, ⟨.ref a, [], rfl, ?_, rfl⟩, rfl, ⟨ns, rfl, rfl, hl, hb, fun _ => rfl⟩, fun d c' v H' F' hd _ _ r => ?_, fun _ _ _ _ _ h => h.elim⟩
  · simp only [Rep1, RepD]
    exact ⟨a, _, rfl, hS, reps_ints ns⟩
  · subst hd
    exact inv_bl r
section
variable {P : Program} {w : World} {K : PySem.W.Frag} {mg mb : Str → Option Value} {k : Nat} {fa a : Addr} {fd : FuncData} {x : Str} {s₁ : Shared} {vs : List Value} {ns : List Int}
/-- the law is called: nothing but the script is tracked -/
theorem law_callG (inK : K.In s₁.heap) (nsG : s₁.heap.Ns mainGlobals mg) (nsB : s₁.heap.Ns builtinsNs mb) (blt : ∀ x : Str, x ≠ "__name__" → mb x = bootBuiltins x) (noLim : s₁.heap.NoLimit) (noGen : s₁.gens = #[])
    (obj : s₁.heap.get? a = some { cls := .type "list", data := .seq vs.toArray }) (are : IntsAre vs ns) (len63 : ns.length ≤ 63) (bits : ∀ z ∈ ns, Builtin.Int.intBits z ≤ 1048576) (room : Room k callerA)
    (F : ∀ base : Heap, K.In base → base.Ns mainGlobals mg → FnG P w K mg base k fa fd [x] (spD K mg 1 spLaw)) (bind : ∀ (s : Shared) (u : Value), BindsTo s fd ⟨[u], []⟩ [(x, u)]) :
    codeAny (model P w) callerA (.call (.ref fa) ⟨[.ref a], []⟩) (fun r s' => r = .ok (.ret (.bool true)) ∧ OldK s₁.heap s'.heap ∧ s'.os = s₁.os ∧ AllBare s'.gens) s₁ := by
  have hvals := vals_ints are
  have hlen := are.length
  have small : ns.length ≤ sizeLine := Nat.le_trans len63 (by decide)
  -- whatever is tracked, it is the script alone
  suffices core : ∀ H : Hp, Only H → SqL K H a (ns.map V.int) → HOk P w H s₁.heap → (∀ b u, H b = some u → b = a) → (∀ u, H a = some u → K.lookup a = none) →
      codeAny (model P w) callerA (.call (.ref fa) ⟨[.ref a], []⟩) (fun r s' => r = .ok (.ret (.bool true)) ∧ OldK s₁.heap s'.heap ∧ s'.os = s₁.os ∧ AllBare s'.gens) s₁ by
    cases hk : K.lookup a with
    | some o =>
      have same := inK a o hk
      rw [obj] at same
      cases same
      refine core (fun _ => none) (fun _ => .inl rfl) (.inr ⟨_, vs.toArray, _, hk, rfl, rfl, rfl, by simpa [hlen] using small, by simpa using hvals⟩) ?_ ?_ ?_
      · intro b u z; cases z
      · intro b u z; cases z
      · intro u z; cases z
    | none =>
      let ob : Obj := { cls := .type "list", data := .seq vs.toArray }
      refine core (fun b => if b = a then some (.frz ob (.lst (ns.map V.int))) else none) (fun b => ?_) (.inl (.inr ⟨ob, if_pos rfl⟩)) (fun b u z => ?_) (fun b u z => ?_) fun _ _ => hk
      · by_cases e : b = a
        · exact .inr ⟨_, _, if_pos e⟩
        · exact .inl (if_neg e)
      · by_cases e : b = a
        · subst e
          have z2 := (if_pos rfl).symm.trans z
          cases z2
          exact ⟨obj, by rw [List.length_map]; exact small, vs, _, hvals, obj⟩
        · have z2 := (if_neg e).symm.trans z
          cases z2
      · by_cases e : b = a
        · exact e
        · have z2 := (if_neg e).symm.trans z
          cases z2
  intro H only hS hok alone notK
  have kept : ∀ {b : Addr} {o : Obj}, s₁.heap.get? b = some o → H b = none → (hidT s₁.heap H).get? b = some o := fun e n => hidT_get e n
  have dictFree : ∀ {b : Addr} {o : Obj} {es : Array DictEntry} {ep : Nat}, s₁.heap.get? b = some o → o.data = .dict es ep → H b = none := by
    intro b o es ep e d
    cases q : H b with
    | none => rfl
    | some u =>
      have := alone b u q
      subst this
      rw [obj] at e
      cases e
      exact absurd d (by nofun)
  have nsH : ∀ {b : Addr} {m : Str → Option Value}, s₁.heap.Ns b m → (hidT s₁.heap H).Ns b m := by
    rintro b m ⟨o, es, ep, e, d, r⟩
    exact ⟨o, es, ep, kept e (dictFree e d), d, r⟩
  have inH : K.In (hidT s₁.heap H) := by
    intro b o e
    refine kept (inK b o e) ?_
    cases q : H b with
    | none => rfl
    | some u =>
      have := alone b u q
      subst this
      rw [notK u q] at e
      cases e
  obtain ⟨mc, lim1, lim2⟩ := noLim
  have env0 : Env0 P w K mg (hidT s₁.heap H) callerA [] s₁ H :=
    ⟨rfl, ⟨inH, nsH nsG, ⟨mb, nsH nsB, blt⟩, ⟨mc, nsH lim1, lim2⟩⟩, fun _ _ e => of_hidT e, Nat.le_of_eq (hidT_size _ _), trivial, fun b hb => (nomatch hb), hok, .of_eq noGen⟩
  have run := (F _ inH (nsH nsG)).go callerA rfl room [] s₁ H env0 ⟨[.ref a], []⟩ [.ref a] [.ref a] (fun v _ => v = .bl true) (fun _ _ _ => False) (bind s₁ (.ref a)) (.cons rfl .nil) (law_start hS len63 bits)
  refine codeAny_mono run fun r s2 z => ?_
  cases r with
  | error e =>
    obtain ⟨_, _, _, _, _, _, _, _, _, _, _, _, z⟩ := z
    exact z.elim
  | ok fl =>
    cases fl with
    | next => exact False.elim z
    | brk => exact False.elim z
    | cont => exact False.elim z
    | ret u =>
      obtain ⟨v, H2, os2, bare2, un, hok2, rv, hv⟩ := z
      obtain rfl : v = .bl true := hv
      obtain rfl : u = Value.bool true := rv
      refine ⟨rfl, OldK.of_keep fun b o e => ?_, os2, bare2⟩
      cases q : H b with
      | none => exact un.keep b o e q (by simp [frs]) (by simp)
      | some t =>
        rcases only b with q2 | ⟨ob, xs, q2⟩
        · rw [q] at q2; cases q2
        · have was := (hok b _ q2).1
          have now := (hok2 b _ (un.frzs b ob _ q2)).1
          rw [e] at was
          cases was
          exact now
end
/-- the goal that the head leaves -/
theorem walkG {l : PySem.W.OpenLaw} {k : Nat} {q : Program} {loose : List Str} {XP : (Str → Option Value) → Heap → Prop} {YP : World → Heap → Prop} {d : DefRec} {K : Params → PySem.W.Frag} {x : Str}
    (most : l.most = some 63) (dfl : d.params.defaults = []) (room : Room k callerA) (hY : ∀ (w : World) (h : Heap), YP w h → (K w.params).In h)
    (F : ∀ (w : World) (mg : Str → Option Value) (fa : Addr) (h : Heap), (K w.params).In h → h.Ns mainGlobals mg → mg d.name = some (.ref fa) →
      ∃ fd : FuncData, (∀ (s : Shared) (u : Value), BindsTo s fd ⟨[u], []⟩ [(x, u)]) ∧ ∀ base : Heap, (K w.params).In base → base.Ns mainGlobals mg → FnG l.prog w (K w.params) mg base k fa fd [x] (spD (K w.params) mg 1 spLaw)) :
    PySem.W.WalkO q loose XP YP l.row.toRowW d [] (fun f vs => PySem.call f vs) := by
  refine Att.attach_callB most dfl fun w s₀ s₁ mg mb fa o pm cd doc a vs ns G Y ho hd hcd hmg hobj hints hlen hbits hg => ?_
  obtain ⟨fd, hb, hF⟩ := F w mg fa _ (hY w _ Y) G.T.g hmg
  exact law_callG (hY w _ Y) G.T.g G.T.b G.T.builtins G.T.nolimit hg hobj hints hlen hbits room hF hb

/-! ### the table of defs -/
/-- a def of the text at its place -/
def DefAt (K : PySem.W.Frag) (mg : Str → Option Value) (x : Str) (st : Stmt) : Prop := ∃ f fd, L2.Fun K x x st f fd ∧ mg x = some (.ref f)
/-- its arguments are bound by place -/
def ArgsOk (x : Str) (ps : List Str) (st : Stmt) : Prop := ∀ (kV doc pm : Value) (an : Option Addr) (cdv ct : Value) (us : List Value), us.length = ps.length → bindArgs (PySem.W.fnOf x x (defArgs st) (defBody st) (defScope st) .none kV doc pm an cdv ct) ⟨us, []⟩ = pure (ps.zip us)
section
variable {P : Program} {w : World} {K : PySem.W.Frag} {mg : Str → Option Value} {base : Heap} {k : Nat} {T : List Tab} {sub : Str → Str → Option Bool} {kind : Str → Str → D} {cs : List (Str × Int)} {xs ks : List Str}
theorem TabOk.mono {j : Nat} (t : TabOk P w K mg base j T) (h : j ≤ k) : TabOk P w K mg base k T := fun e he => let ⟨f, fd, a, b⟩ := t e he; ⟨f, fd, a.mono h, b⟩
theorem KndOk.mono {j : Nat} (t : KndOk P w K mg base j ks kind) (h : j ≤ k) : KndOk P w K mg base k ks kind := fun X a b c d e f g hr hg => t X a b c d e f g (hr.mono h) hg
/-- what a law's text gives: names, errors, the function of kinds at the depth 1 -/
structure Gnd (P : Program) (w : World) (K : PySem.W.Frag) (mg : Str → Option Value) (base : Heap) (cs : List (Str × Int)) (xs ks : List Str) (sub : Str → Str → Option Bool) (kind : Str → Str → D) : Prop where
  pr : Prg P w K mg ⟨[], cs, xs, ks⟩ sub kind
  kd : KndOk P w K mg base 1 ks kind
/-- what is to be shown of a def: its text, its promise -/
structure DefOk (T : List Tab) (cs : List (Str × Int)) (xs ks : List Str) (sub : Str → Str → Option Bool) (kind : Str → Str → D) (x : Str) (st : Stmt) (N ps : List Str) (ir : Fn) (sp : DSp) : Prop where
  sc : FnScope N ps (defScope st)
  ar : ArgsOk x ps st
  arity : ir.ar = ps.length
  size : ir.sz = N.length
  chk : chkSs ⟨T.map (·.name), cs, xs, ks⟩ N (defScope st) (fun _ => true) ir.body (defBody st) = true
  run : ∀ ds c Q E, sp ds c Q E → wFn (gam T) sub kind ir ds c Q E
theorem tab_step {x : Str} {st : Stmt} {N ps : List Str} {ir : Fn} {sp : DSp} (g : Gnd P w K mg base cs xs ks sub kind) (d : DefAt K mg x st) (o : DefOk T cs xs ks sub kind x st N ps ir sp) (hk : 1 ≤ k) (tb : TabOk P w K mg base k T) :
    TabOk P w K mg base (k + 1) (⟨x, ps, sp⟩ :: T) := by
  intro t ht
  rcases List.mem_cons.mp ht with rfl | ht
  · obtain ⟨f, fd, hF, hm⟩ := d
    obtain ⟨oc, od, kV, doc, pm, an, cdv, ct, osl, hfd, lk, hcd⟩ := hF.ex
    subst hfd
    refine ⟨f, _, ?_, hm, hF.kp, hF.binds o.ar⟩
    exact fng_chk (G := ⟨T.map (·.name), cs, xs, ks⟩) lk hcd o.sc ⟨g.pr.cs, g.pr.xs, g.pr.blt, g.pr.more, g.pr.sb, g.pr.ks⟩ (fun f hf => by obtain ⟨t, a, b⟩ := List.mem_map.mp hf; exact ⟨t, a, b⟩) tb (g.kd.mono hk) ir o.arity o.size o.chk o.run
  · exact tb.mono (Nat.le_succ k) t ht
theorem tab_nil : TabOk P w K mg base k [] := fun t ht => (nomatch ht)
/-- a def of the table, with the function object that is bound to its name -/
theorem tab_at {x : Str} {ps : List Str} {sp : DSp} {st : Stmt} {f : Addr} {fd : FuncData} (hF : L2.Fun K x x st f fd) (hm : mg x = some (.ref f)) (tb : TabOk P w K mg base k (⟨x, ps, sp⟩ :: T)) : ∃ fd', FnG P w K mg base k f fd' ps (spD K mg ps.length sp) ∧ Binds K fd' ps [] := by
  obtain ⟨f', fd', a, b, c, d⟩ := tb _ List.mem_cons_self
  have : f' = f := by
    have e := b.symm.trans hm
    cases e
    rfl
  subst this
  exact ⟨fd', a, d⟩
end
end Ev

/-! # Ev17: the errors' classes in the function of kinds -/
namespace Ev
open PySem PySem.Spec PyProof.Rows L2
/-- the errors' classes, in the order in which they are asked -/
def kcls : List Str := ["NotRule", "NotWord", "NotSum", "NotRowSet", "NotPaper", "BadNumber", "NoAnswer", "TooLarge"]
def knam (six : Str) : List Str := ["rule", "word", "sum", "rows", "paper", "number", six, "large"]
/-- what the text says of the errors' classes -/
structure KF (K : PySem.W.Frag) (mg : Str → Option Value) (C : Str → Addr) (ys : List Str) : Prop where
  cls : ∀ z ∈ kcls, mg z = some (.ref (C z))
  exc : ∀ y ∈ ys, ExcC K (C y)
  is : ∀ y ∈ ys, ∀ z ∈ kcls, PySem.W.kitOne K (.ref (C y)) (.ref (C z)) = some (decide (y = z))
  ins : mg "isinstance" = none
def kindF (six : Str) (ys : List Str) (y : Str) : Option Str := if y ∈ ys then (match kcls.findIdx? (fun z => decide (z = y)) with | some i => some (("!" : Str) ++ (knam six).getD i "") | none => none) else none
section
variable {X : Cx} {a D : Addr} {oe : Obj} {pn : List (Addr × Obj)}
/-- isinstance(error, z), as a reading -/
theorem pe_isE {x z : Str} {C : Addr} {b : Bool} {p p1 p2 pos : Pos} (E : ExcC X.K D) (hz : Zc (.ref D) none oe) (hf : ∃ vs, oe.data = .fields vs) (hN : X.N[0]? = some x) (hv : Vis X.env.scope x) (hd : (x == ("__debug__" : Str)) = false) (hcd : (x == ("__classdict__" : Str)) = false)
    (hgi : Gl X "isinstance") (hmi : X.mg "isinstance" = none) (hg : Gl X z) (hm : X.mg z = some (.ref C)) (hzd : (z == ("__debug__" : Str)) = false) (hk : PySem.W.kitOne X.K (.ref D) (.ref C) = some b) :
    PE (X.suite a ((a, oe) :: pn)) (.Call (.Name "isinstance" p) [.Name x p1, .Name z p2] [] pos) fun σ H Q => σ[0]? = some (some (.ref a)) ∧ Q (.bl b) H := by
  have hcls : PE (X.suite a ((a, oe) :: pn)) (.Name z p2) (tC (.ref C)) := pe_glob (X := X.suite a ((a, oe) :: pn)) (v := .ref C) hg hm rfl hzd
  have harg : PA (X.suite a ((a, oe) :: pn)) [.Name x p1, .Name z p2] (tCons (tVar 0) (tCons (tC (.ref C)) tNil)) := pa_cons (pe_var hN hv hd hcd) (pa_cons hcls pa_nil)
  refine (pe_callB (call_isE (X := X) E hz hf) hgi hmi PyProof.Rows.boot_isinstance harg).imp fun σ H Q ⟨h0, hQ⟩ => ?_
  exact ⟨.ref a, h0, .ref C, .ref C, b, rfl, fun u r => r, hk, hQ⟩
end
def kbs (y : Str) : List Bool := kcls.map fun z => decide (y = z)
theorem kfacts : ∀ y ∈ kcls, ∃ i, i < 8 ∧ kcls.findIdx? (fun z => decide (z = y)) = some i ∧ ((kbs y).map V.bl).countP (fun z => L2.eqV z (.bl true)) = 1 ∧ (kbs y)[i]? = some true ∧ ∀ m, m < i → (kbs y)[m]? = some false := by
  intro y hy
  simp only [kcls, List.mem_cons, List.not_mem_nil, or_false] at hy
  rcases hy with rfl | rfl | rfl | rfl | rfl | rfl | rfl | rfl
  · exact ⟨0, by decide +kernel, by decide +kernel, by decide +kernel, by decide +kernel, by decide +kernel⟩
  · exact ⟨1, by decide +kernel, by decide +kernel, by decide +kernel, by decide +kernel, by decide +kernel⟩
  · exact ⟨2, by decide +kernel, by decide +kernel, by decide +kernel, by decide +kernel, by decide +kernel⟩
  · exact ⟨3, by decide +kernel, by decide +kernel, by decide +kernel, by decide +kernel, by decide +kernel⟩
  · exact ⟨4, by decide +kernel, by decide +kernel, by decide +kernel, by decide +kernel, by decide +kernel⟩
  · exact ⟨5, by decide +kernel, by decide +kernel, by decide +kernel, by decide +kernel, by decide +kernel⟩
  · exact ⟨6, by decide +kernel, by decide +kernel, by decide +kernel, by decide +kernel, by decide +kernel⟩
  · exact ⟨7, by decide +kernel, by decide +kernel, by decide +kernel, by decide +kernel, by decide +kernel⟩
theorem kind_in {six : Str} {ys : List Str} {y z : Str} (h : kindF six ys y = some z) : y ∈ ys ∧ y ∈ kcls ∧ ∀ i, kcls.findIdx? (fun z => decide (z = y)) = some i → z = ("!" : Str) ++ (knam six).getD i "" := by
  unfold kindF at h
  split at h
  · rename_i hy
    split at h
    · rename_i i hi
      refine ⟨hy, ?_, fun j hj => ?_⟩
      · obtain ⟨hl, hp, _⟩ := List.findIdx?_eq_some_iff_getElem.mp hi
        rw [← of_decide_eq_true hp]
        exact List.getElem_mem hl
      · rw [hi] at hj
        cases hj
        cases h
        rfl
    · cases h
  · cases h
/-! ### what the head tells -/
theorem defAt_mk {K : PySem.W.Frag} {h : Heap} {mg : Str → Option Value} (X : K.In h) (G : h.Ns mainGlobals mg) {x : Str} {st : Stmt} {f : Addr} {oc : Value} {od an : Option Addr} {osl : Array (Option Value)} {kV doc pm cdv ct : Value}
    (a : PySem.W.nsIn K mainGlobals x = some (some (.ref f))) (l : K.lookup f = some ⟨oc, od, .func (PySem.W.fnOf x x (defArgs st) (defBody st) (defScope st) .none kV doc pm an cdv ct), osl⟩)
    (c : PySem.W.codeIn K cdv x = true) (k : PySem.W.keepIn K (.ref f) = true) : DefAt K mg x st := ⟨f, _, fun_mk l c k, PySem.W.mg_of X G a⟩
/-- a class of the text, an error -/
structure ErrAt (K : PySem.W.Frag) (mg : Str → Option Value) (x : Str) (C : Addr) : Prop where
  at_ : mg x = some (.ref C)
  ex : PySem.W.excIn K C [.type "ValueError", .type "Exception", .type "BaseException", .type "object"] "ValueError.__new__" = true
  kp : PySem.W.keepIn K (.ref C) = true
  sb : PySem.W.subIn K (.ref C) (.type "BaseException") = some true
  ty : PySem.W.typeIn K (.ref C) = some (.type "type")
theorem errAt_mk {K : PySem.W.Frag} {h : Heap} {mg : Str → Option Value} (X : K.In h) (G : h.Ns mainGlobals mg) {x : Str} {C : Addr} (a : PySem.W.nsIn K mainGlobals x = some (some (.ref C)))
    (b : PySem.W.excIn K C [.type "ValueError", .type "Exception", .type "BaseException", .type "object"] "ValueError.__new__" = true) (c : PySem.W.keepIn K (.ref C) = true)
    (d : PySem.W.subIn K (.ref C) (.type "BaseException") = some true) (e : PySem.W.typeIn K (.ref C) = some (.type "type")) : ErrAt K mg x C := ⟨PySem.W.mg_of X G a, b, c, d, e⟩
theorem kit_mk {K : PySem.W.Frag} {C E : Addr} {b : Bool} (h1 : PySem.W.isClsIn K C = true) (h2 : PySem.W.typeIn K (.ref C) = some (.type "type")) (h3 : PySem.W.subIn K (.ref E) (.ref C) = some b) (h4 : E = C → b = true) : PySem.W.kitOne K (.ref E) (.ref C) = some b := by
  unfold PySem.W.kitOne
  by_cases e : (Value.ref E == Value.ref C) = true
  · rw [if_pos e, h4 (Value.ref.inj (beq_iff_eq.mp e))]
  · rw [if_neg e]
    have c : (PySem.W.clsIn K C).isSome = true := h1
    show (if ((PySem.W.clsIn K C).isSome && PySem.W.typeIn K (.ref C) == some (.type "type")) = true then PySem.W.subIn K (.ref E) (.ref C) else none) = some b
    rw [if_pos (by rw [c, h2]; rfl)]
    exact h3
end Ev

/-! # Ev18: rows for reading the meaning: what the operations do at known data -/
namespace Ev
open PySem
section
variable {i j : Int} {xs ys : List D} {c : Cells} {x y : D} {s t : Str} {n : Nat} {b : Bool}
variable {K : D → Prop} {B : Bool → Prop} {Q : D → Cells → Prop}
/-! ### operators -/
theorem q_bii {op : Operator} : binK op (.int i) (.int j) c K = intK op i j K := rfl
theorem q_btt {op : Operator} : binK op (.tup xs) (.tup ys) c K = tupK op xs ys K := rfl
theorem q_bti {op : Operator} : binK op (.tup xs) (.int j) c K = repK op xs j K := rfl
theorem q_bss {op : Operator} : binK op (.str s) (.str t) c K = strK op s t K := rfl
theorem q_bl1 {op : Operator} : binK op (.lst xs) y c K = listK op (.lst xs) y c K := rfl
theorem q_bl2 {op : Operator} : binK op (.own xs) y c K = listK op (.own xs) y c K := rfl
theorem q_bl3 {op : Operator} : binK op (.cell n) y c K = listK op (.cell n) y c K := rfl
theorem q_iadd : intK .Add i j K = K (.int (i + j)) := rfl
theorem q_isub : intK .Sub i j K = K (.int (i - j)) := rfl
theorem q_imul : intK .Mult i j K = (L2.CMul i j ∧ K (.int (i * j))) := rfl
theorem q_imod : intK .Mod i j K = (0 < j ∧ K (.int (i % j))) := rfl
theorem q_idiv : intK .FloorDiv i j K = (L2.CDiv i j ∧ K (.int (i / j))) := rfl
theorem q_ipow : intK .Pow i j K = (L2.CPow i j ∧ K (.int (i ^ j.toNat))) := rfl
theorem q_tadd : tupK .Add xs ys K = (xs.length + ys.length ≤ sizeLine ∧ K (.tup (xs ++ ys))) := rfl
theorem q_trep : repK .Mult xs j K = (-(2 ^ 62) ≤ j ∧ j ≤ 100000 ∧ xs.length * j.toNat ≤ 100000 ∧ K (.tup (List.replicate j.toNat xs).flatten)) := rfl
theorem q_sadd : strK .Add s t K = (s.length + t.length ≤ sizeLine ∧ K (.str (s ++ t))) := rfl
theorem q_ladd : listK .Add x y c K = ∃ xs ys, lkL c x = some xs ∧ lkL c y = some ys ∧ xs.length + ys.length ≤ sizeLine ∧ K (.own (xs ++ ys)) := rfl
theorem q_lrep : listK .Mult x y c K = ∃ xs k, lkL c x = some xs ∧ y = .int k ∧ -(2 ^ 63) ≤ k ∧ k < 2 ^ 63 ∧ xs.length * k.toNat ≤ sizeLine ∧ K (.own (List.replicate k.toNat xs).flatten) := rfl
theorem q_lkl : lkL c (.lst xs) = some xs := rfl
theorem q_lko : lkL c (.own xs) = some xs := rfl
theorem q_lrl : lkR c (.lst xs) = some xs := rfl
theorem q_lro : lkR c (.own xs) = some xs := rfl
theorem q_lrs : lkR c (.scr xs) = some xs := rfl
theorem q_lsl : lkS c (.lst xs) = some xs := rfl
theorem q_lso : lkS c (.own xs) = some xs := rfl
theorem q_lss : lkS c (.scr xs) = some xs := rfl
theorem q_lst : lkS c (.tup xs) = some xs := rfl
theorem q_aii {op : Operator} : augK op (.int i) (.int j) K = (match op with | .Add => K (.int (i + j)) | .Sub => K (.int (i - j)) | .Mult => L2.CMul i j ∧ K (.int (i * j)) | .Mod => 0 < j ∧ K (.int (i % j)) | .FloorDiv => L2.CDiv i j ∧ K (.int (i / j)) | _ => False) := by cases op <;> rfl
theorem q_att2 : augK .Add (.tup xs) (.tup ys) K = (xs.length + ys.length ≤ sizeLine ∧ K (.tup (xs ++ ys))) := rfl
theorem lkL_cell (h : c[n]? = some (.lst xs)) : lkL c (.cell n) = some xs := by show (match c[n]? with | some (.lst xs) => some xs | _ => none) = _; rw [h]
theorem lkR_cell (h : c[n]? = some (.lst xs)) : lkR c (.cell n) = some xs := lkL_cell h
theorem lkS_cell (h : c[n]? = some (.lst xs)) : lkS c (.cell n) = some xs := lkL_cell h
/-! ### comparisons -/
theorem q_clt : cmpK .Lt (.int i) (.int j) c B = B (decide (i < j)) := propext ⟨fun ⟨_, _, _, h1, h2, h3, h⟩ => by cases h1; cases h2; cases h3; exact h, fun h => ⟨_, _, _, rfl, rfl, rfl, h⟩⟩
theorem q_cle : cmpK .LtE (.int i) (.int j) c B = B (decide (i ≤ j)) := propext ⟨fun ⟨_, _, _, h1, h2, h3, h⟩ => by cases h1; cases h2; cases h3; exact h, fun h => ⟨_, _, _, rfl, rfl, rfl, h⟩⟩
theorem q_cgt : cmpK .Gt (.int i) (.int j) c B = B (decide (j < i)) := propext ⟨fun ⟨_, _, _, h1, h2, h3, h⟩ => by cases h1; cases h2; cases h3; exact h, fun h => ⟨_, _, _, rfl, rfl, rfl, h⟩⟩
theorem q_cge : cmpK .GtE (.int i) (.int j) c B = B (decide (j ≤ i)) := propext ⟨fun ⟨_, _, _, h1, h2, h3, h⟩ => by cases h1; cases h2; cases h3; exact h, fun h => ⟨_, _, _, rfl, rfl, rfl, h⟩⟩
theorem q_ceq : cmpK .Eq x y c B = eqK x y c B := rfl
theorem q_cne : cmpK .NotEq x y c B = eqK x y c fun b => B (!b) := rfl
theorem q_cin : cmpK .In x y c B = inK x y c B := rfl
theorem q_cni : cmpK .NotIn x y c B = inK x y c fun b => B (!b) := rfl
theorem q_cis : cmpK .Is x y c B = isK x y B := rfl
theorem q_cin' : cmpK .IsNot x y c B = isK x y fun b => B (!b) := rfl
theorem eqK_flat {p q : PyData} (hp : x.py = some p) (hq : y.py = some q) (ex : deref c x = x) (ey : deref c y = y) (sp : SeqAt.shaped p = true) (sq : SeqAt.shaped q = true) (h : B (PyData.eqv p q)) : eqK x y c B := .inr ⟨p, q, by rw [ex]; exact hp, by rw [ey]; exact hq, sp, sq, h⟩
theorem q_eii : eqK (.int i) (.int j) c B = B (decide (i = j)) := propext ⟨fun h => by rcases h with ⟨_, _, h1, _⟩ | ⟨_, _, h1, h2, _, _, h⟩ <;> cases h1; cases h2; exact h, fun h => .inr ⟨_, _, rfl, rfl, rfl, rfl, h⟩⟩
theorem q_ebb {a b : Bool} : eqK (.bl a) (.bl b) c B = B (a == b) := propext ⟨fun h => by rcases h with ⟨_, _, h1, _⟩ | ⟨_, _, h1, h2, _, _, h⟩ <;> cases h1; cases h2; exact h, fun h => .inr ⟨_, _, rfl, rfl, rfl, rfl, h⟩⟩
theorem q_ess : eqK (.str s) (.str t) c B = B (s == t) := propext ⟨fun h => by rcases h with ⟨_, _, h1, h2, h⟩ | ⟨_, _, h1, h2, _, _, h⟩ <;> cases h1 <;> cases h2 <;> exact h, fun h => .inl ⟨_, _, rfl, rfl, h⟩⟩
/-! ### truth -/
theorem q_tb : truK c (.bl b) B = B b := rfl
theorem q_ti : truK c (.int i) B = B (i != 0) := rfl
theorem q_tn : truK c .non B = B false := rfl
theorem q_tt : truK c (.tup xs) B = B (!xs.isEmpty) := rfl
theorem q_tl : truK c (.lst xs) B = B (!xs.isEmpty) := propext ⟨fun ⟨_, h1, h⟩ => by cases h1; exact h, fun h => ⟨_, rfl, h⟩⟩
theorem q_to : truK c (.own xs) B = B (!xs.isEmpty) := propext ⟨fun ⟨_, h1, h⟩ => by cases h1; exact h, fun h => ⟨_, rfl, h⟩⟩
theorem q_tc : truK c (.cell n) B = ∃ xs, lkR c (.cell n) = some xs ∧ B (!xs.isEmpty) := rfl
/-! ### built-in functions -/
theorem q_int : bltK .int [.int i] c K = K (.int i) := rfl
theorem q_inb : bltK .int [.bl b] c K = K (.int (if b then 1 else 0)) := rfl
theorem q_lnt : bltK .len [.tup xs] c K = K (.int xs.length) := propext ⟨fun ⟨_, h1, h⟩ => by cases h1; exact h, fun h => ⟨_, rfl, h⟩⟩
theorem q_lnl : bltK .len [.lst xs] c K = K (.int xs.length) := propext ⟨fun ⟨_, h1, h⟩ => by cases h1; exact h, fun h => ⟨_, rfl, h⟩⟩
theorem q_lnc : bltK .len [.cell n] c K = ∃ xs, lkS c (.cell n) = some xs ∧ K (.int xs.length) := rfl
theorem q_min : bltK .min [.int i, .int j] c K = K (.int (if j < i then j else i)) := rfl
theorem q_max : bltK .max [.int i, .int j] c K = K (.int (if j > i then j else i)) := rfl
theorem q_abs : bltK .abs [.int i] c K = K (.int (if i < 0 then -i else i)) := rfl
theorem q_tpt : bltK .tuple [.tup xs] c K = K (.tup xs) := rfl
theorem q_tpl : bltK .tuple [.lst xs] c K = K (.tup xs) := propext ⟨fun ⟨_, h1, h⟩ => by cases h1; exact h, fun h => ⟨_, rfl, h⟩⟩
theorem q_lil : bltK .list [.lst xs] c K = K (.own xs) := propext ⟨fun ⟨_, h1, h⟩ => by cases h1; exact h, fun h => ⟨_, rfl, h⟩⟩
theorem q_lit : bltK .list [.tup xs] c K = K (.own xs) := propext ⟨fun ⟨_, h1, h⟩ => by cases h1; exact h, fun h => ⟨_, rfl, h⟩⟩
theorem q_sum : bltK .sum [x] c K = ∃ xs ns, lkR c x = some xs ∧ intsOf xs = some ns ∧ K (.int ns.sum) := rfl
theorem q_any : bltK .any [x] c K = ∃ xs ns, lkR c x = some xs ∧ blsOf xs = some ns ∧ K (.bl (ns.any id)) := rfl
theorem q_all : bltK .all [x] c K = ∃ xs ns, lkR c x = some xs ∧ blsOf xs = some ns ∧ K (.bl (ns.all id)) := rfl
theorem q_repr : bltK .repr [x] c K = ∃ p, (deref c x).py = some p ∧ p.showable = true ∧ p.hasDict = false ∧ p.depth ≤ 60 ∧ p.shown.length ≤ sizeLine ∧ K (.str p.shown) := rfl
theorem intsOf_map : ∀ ns : List Int, intsOf (ns.map .int) = some ns
  | [] => rfl
  | n :: r => by simp only [List.map_cons, intsOf, intsOf_map r, Option.map_some]
theorem blsOf_map : ∀ ns : List Bool, blsOf (ns.map .bl) = some ns
  | [] => rfl
  | n :: r => by simp only [List.map_cons, blsOf, blsOf_map r, Option.map_some]
/-! ### stores, arguments, ends -/
theorem q_fzi : D.fz (.int i) = .int i := rfl
theorem q_fzb : D.fz (.bl b) = .bl b := rfl
theorem q_fzs : D.fz (.str s) = .str s := rfl
theorem q_fzn : D.fz .non = .non := rfl
theorem q_fzt : D.fz (.tup xs) = .tup xs := rfl
theorem q_fzl : D.fz (.lst xs) = .lst xs := rfl
theorem q_fzo : D.fz (.own xs) = .lst xs := rfl
theorem q_fzc : D.fz (.cell n) = .cell n := rfl
theorem q_fzr : D.fz (.scr xs) = .scr xs := rfl
theorem q_fzf {f : Str} : D.fz (.fn f) = .fn f := rfl
theorem q_ski : stK (.int i) K = K (.int i) := propext ⟨fun h => h.2, fun h => ⟨rfl, h⟩⟩
theorem q_skb : stK (.bl b) K = K (.bl b) := propext ⟨fun h => h.2, fun h => ⟨rfl, h⟩⟩
theorem q_sks : stK (.str s) K = K (.str s) := propext ⟨fun h => h.2, fun h => ⟨rfl, h⟩⟩
theorem q_skn : stK .non K = K .non := propext ⟨fun h => h.2, fun h => ⟨rfl, h⟩⟩
theorem q_skt : stK (.tup xs) K = K (.tup xs) := propext ⟨fun h => h.2, fun h => ⟨rfl, h⟩⟩
theorem q_skl : stK (.lst xs) K = K (.lst xs) := propext ⟨fun h => h.2, fun h => ⟨rfl, h⟩⟩
theorem q_sko : stK (.own xs) K = K (.lst xs) := propext ⟨fun h => h.2, fun h => ⟨rfl, h⟩⟩
theorem q_skf {f : Str} : stK (.fn f) K = K (.fn f) := propext ⟨fun h => h.2, fun h => ⟨rfl, h⟩⟩
section
variable {σ : Sl} {k : Nat} {P : Sl → Prop}
theorem q_ani : asgT (.nm k) (.int i) σ c P = P (σ.set k (some (.int i))) := rfl
theorem q_anb : asgT (.nm k) (.bl b) σ c P = P (σ.set k (some (.bl b))) := rfl
theorem q_ans : asgT (.nm k) (.str s) σ c P = P (σ.set k (some (.str s))) := rfl
theorem q_ann : asgT (.nm k) .non σ c P = P (σ.set k (some .non)) := rfl
theorem q_ant : asgT (.nm k) (.tup xs) σ c P = P (σ.set k (some (.tup xs))) := rfl
theorem q_anl : asgT (.nm k) (.lst xs) σ c P = P (σ.set k (some (.lst xs))) := rfl
theorem q_ano : asgT (.nm k) (.own xs) σ c P = P (σ.set k (some (.lst xs))) := rfl
theorem q_att {is : List Nat} : asgT (.tp is) (.tup xs) σ c P = (xs.length = is.length ∧ P ((is.zip xs).foldl (fun σ p => σ.set p.1 (some p.2)) σ)) := propext ⟨fun ⟨_, h1, h⟩ => by cases h1; exact h, fun h => ⟨_, rfl, h⟩⟩
theorem q_atl {is : List Nat} : asgT (.tp is) (.lst xs) σ c P = (xs.length = is.length ∧ P ((is.zip xs).foldl (fun σ p => σ.set p.1 (some p.2)) σ)) := propext ⟨fun ⟨_, h1, h⟩ => by cases h1; exact h, fun h => ⟨_, rfl, h⟩⟩
theorem q_ato {is : List Nat} : asgT (.tp is) (.own xs) σ c P = (xs.length = is.length ∧ P ((is.zip xs).foldl (fun σ p => σ.set p.1 (some p.2)) σ)) := propext ⟨fun ⟨_, h1, h⟩ => by cases h1; exact h, fun h => ⟨_, rfl, h⟩⟩
end
theorem q_ri {m : Nat} : retK m Q (.int i) c = Q (.int i) (c.take m) := rfl
theorem q_rb {m : Nat} : retK m Q (.bl b) c = Q (.bl b) (c.take m) := rfl
theorem q_rs {m : Nat} : retK m Q (.str s) c = Q (.str s) (c.take m) := rfl
theorem q_rn {m : Nat} : retK m Q .non c = Q .non (c.take m) := rfl
theorem q_rt {m : Nat} : retK m Q (.tup xs) c = Q (.tup xs) (c.take m) := rfl
theorem q_rl {m : Nat} : retK m Q (.lst xs) c = Q (.lst xs) (c.take m) := rfl
theorem q_ro {m : Nat} : retK m Q (.own xs) c = Q (.own xs) (c.take m) := rfl
theorem q_rc {m : Nat} : retK m Q (.cell n) c = ∃ xs, m ≤ n ∧ c[n]? = some (.lst xs) ∧ Q (.own xs) (c.take m) := rfl
theorem rt1 {m : Nat} (hd : x.isCell = false) (hl : c.length = m) (h : Q x c) : retK m Q x c := by
  have e : c.take m = c := by rw [← hl, List.take_length]
  cases x <;> first | (cases hd; done) | (show Q _ (c.take m); rw [e]; exact h)
/-! ### subscripts -/
theorem q_ixt : idxK (.tup xs) (.int i) c K = ∃ v, L2.atI xs i = some v ∧ K v := propext ⟨fun ⟨_, _, _, h1, h2, h3, h⟩ => by cases h1; cases h2; exact ⟨_, h3, h⟩, fun ⟨_, h3, h⟩ => ⟨_, _, _, rfl, rfl, h3, h⟩⟩
theorem q_ixl : idxK (.lst xs) (.int i) c K = ∃ v, L2.atI xs i = some v ∧ K v := propext ⟨fun ⟨_, _, _, h1, h2, h3, h⟩ => by cases h1; cases h2; exact ⟨_, h3, h⟩, fun ⟨_, h3, h⟩ => ⟨_, _, _, rfl, rfl, h3, h⟩⟩
theorem q_ixo : idxK (.own xs) (.int i) c K = ∃ v, L2.atI xs i = some v ∧ K v := propext ⟨fun ⟨_, _, _, h1, h2, h3, h⟩ => by cases h1; cases h2; exact ⟨_, h3, h⟩, fun ⟨_, h3, h⟩ => ⟨_, _, _, rfl, rfl, h3, h⟩⟩
theorem q_slt {lo hi : Option Int} : slK (.tup xs) lo hi c K = K (.tup (cutD xs lo hi)) := rfl
theorem q_sll {lo hi : Option Int} : slK (.lst xs) lo hi c K = K (.own (cutD xs lo hi)) := propext ⟨fun ⟨_, h1, h⟩ => by cases h1; exact h, fun h => ⟨_, rfl, h⟩⟩
/-! ### walks -/
theorem q_wt {R : List D → (Cells → Prop) → Cells → Prop} : walkK (.tup xs) c R = R xs (fun _ => True) c := rfl
theorem q_r1 {R : List D → (Cells → Prop) → Cells → Prop} : rngK [.int i] c R = (RgI i ∧ R (rngL 0 i) (fun _ => True) c) := rfl
theorem q_r2 {R : List D → (Cells → Prop) → Cells → Prop} : rngK [.int i, .int j] c R = (RgI i ∧ RgI j ∧ R (rngL i j) (fun _ => True) c) := rfl
theorem iteB {A B : Prop} (h1 : b = true → A) (h2 : b = false → B) : if b = true then A else B := by
  cases b with
  | true => exact h1 rfl
  | false => rw [if_neg Bool.false_ne_true]; exact h2 rfl
end
theorem atI_nat {xs : List D} {i : Nat} {x : D} (h : xs[i]? = some x) : L2.atI xs (i : Int) = some x := by
  have hl := (List.getElem?_eq_some_iff.mp h).1
  unfold L2.atI L2.ixN
  rw [if_pos (by omega), if_pos (by omega)]
  simpa using h
theorem atI_int {xs : List D} {i : Int} {x : D} (h0 : 0 ≤ i) (h : xs[i.toNat]? = some x) : L2.atI xs i = some x := by
  have := atI_nat h
  rwa [Int.toNat_of_nonneg h0] at this
theorem atI_mod {xs : List D} (h : xs ≠ []) (i : Int) : ∃ x ∈ xs, L2.atI xs (i % (xs.length : Nat)) = some x := by
  have hl : 0 < xs.length := List.length_pos_iff.mpr h
  have h0 : 0 ≤ i % (xs.length : Nat) := Int.emod_nonneg _ (by omega)
  have h1 : i % (xs.length : Nat) < xs.length := Int.emod_lt_of_pos _ (by omega)
  have hlt : (i % (xs.length : Nat)).toNat < xs.length := by omega
  exact ⟨xs[(i % (xs.length : Nat)).toNat], List.getElem_mem hlt, atI_int h0 (List.getElem?_eq_getElem hlt)⟩
end Ev

/-! # Pu1: plain laws of the draws -/
namespace Ev
open PySem
/-! ### draws -/
def Bd (xs : List Int) : Prop := ∀ x ∈ xs, 0 ≤ x ∧ x < 1000
/-- draws stand in the cell n -/
def Dr (n : Nat) (c : Cells) : Prop := ∃ xs, c[n]? = some (.lst (xs.map .int)) ∧ Bd xs
/-- behind some draws -/
def Dn (n : Nat) (c c' : Cells) : Prop := ∃ ys, Bd ys ∧ c' = c.set n (.lst (ys.map .int)) ∧ ∀ xs, c[n]? = some (.lst xs) → ys.length ≤ xs.length
theorem Dr.lt {n : Nat} {c : Cells} (h : Dr n c) : n < c.length := let ⟨_, h, _⟩ := h; (List.getElem?_eq_some_iff.mp h).1
theorem Dn.len {n : Nat} {c c' : Cells} (h : Dn n c c') : c'.length = c.length := by obtain ⟨xs, _, rfl, _⟩ := h; simp
theorem Dn.ne {n m : Nat} {c c' : Cells} (h : Dn n c c') (e : m ≠ n) : c'[m]? = c[m]? := by obtain ⟨xs, _, rfl, _⟩ := h; rw [List.getElem?_set_ne (Ne.symm e)]
theorem Dr.refl {n : Nat} {c : Cells} (h : Dr n c) : Dn n c c := by
  obtain ⟨xs, h, b⟩ := h
  obtain ⟨hl, e⟩ := List.getElem?_eq_some_iff.mp h
  refine ⟨xs, b, by rw [← e, List.set_getElem_self], fun ys hy => ?_⟩
  rw [h] at hy
  cases hy
  simp
theorem Dn.dr {n : Nat} {c c' : Cells} (d : Dn n c c') (h : n < c.length) : Dr n c' := by
  obtain ⟨xs, b, rfl, _⟩ := d
  exact ⟨xs, by rw [List.getElem?_set_self h], b⟩
theorem Dn.trans {n : Nat} {c c1 c2 : Cells} (d : Dn n c c1) (e : Dn n c1 c2) : Dn n c c2 := by
  obtain ⟨xs, b, rfl, h1⟩ := d
  obtain ⟨ys, b', rfl, h2⟩ := e
  refine ⟨ys, b', by rw [List.set_set], fun zs hz => ?_⟩
  have hl := (List.getElem?_eq_some_iff.mp hz).1
  have q1 := h1 zs hz
  have q2 := h2 (xs.map .int) (by rw [List.getElem?_set_self hl])
  simp at q2
  omega
theorem Bd.nil : Bd [] := fun x h => by cases h
/-! ### loops -/
inductive All2 (R : D → D → Prop) : List D → List D → Prop
  | nil : All2 R [] []
  | cons {x y : D} {xs ys : List D} : R x y → All2 R xs ys → All2 R (x :: xs) (y :: ys)
section
variable {ok : Cells → Prop} {turn : D → Cells → (Option D → Cells → Prop) → Prop}
/-- a loop by its invariant; R: what is left to do -/
theorem forGo_ind {tg : Tg} {body : WS} {P : DE} (I : List D → Sl → Cells → Prop) (hnil : ∀ σ c, I [] σ c → ok c ∧ P.nx σ c)
    (hcons : ∀ x r σ c (R : Sl → Cells → Prop), I (x :: r) σ c → (∀ σ' c', I r σ' c' → R σ' c') → ok c ∧ asgT tg x σ c fun σ1 => body ⟨R, P.rt, P.nx, R⟩ σ1 c) : ∀ xs σ c, I xs σ c → forGo ok tg body P xs σ c
  | [], σ, c, h => hnil σ c h
  | x :: r, σ, c, h => hcons x r σ c _ h (forGo_ind I hnil hcons r)
/-- each turn gives its item; the cells stand -/
theorem lc_map {f : D → D} : ∀ {xs : List D} {c : Cells} {K : List D → Cells → Prop}, ok c → (∀ x ∈ xs, ∀ K, K (some (f x)) c → turn x c K) → K (xs.map f) c → lcGo ok turn xs c K
  | [], c, K, h, _, k => ⟨h, k⟩
  | x :: r, c, K, h, t, k => ⟨h, t x List.mem_cons_self _ (lc_map h (fun y hy => t y (List.mem_cons_of_mem _ hy)) k)⟩
theorem lc_filter {f : D → Option D} : ∀ {xs : List D} {c : Cells} {K : List D → Cells → Prop}, ok c → (∀ x ∈ xs, ∀ K, K (f x) c → turn x c K) → K (xs.filterMap f) c → lcGo ok turn xs c K
  | [], c, K, h, _, k => ⟨h, k⟩
  | x :: r, c, K, h, t, k => by
    refine ⟨h, t x List.mem_cons_self _ (lc_filter h (fun y hy => t y (List.mem_cons_of_mem _ hy)) ?_)⟩
    rw [List.filterMap_cons] at k
    cases e : f x with
    | none => rw [e] at k; exact k
    | some y => rw [e] at k; exact k
/-- each turn draws -/
theorem lc_draw {I : Cells → Prop} {R : D → D → Prop} : ∀ {xs : List D} {c : Cells} {K : List D → Cells → Prop}, I c → (∀ c, I c → ok c) →
    (∀ x ∈ xs, ∀ c K, I c → (∀ y c', R x y → I c' → K (some y) c') → turn x c K) → (∀ ys c', All2 R xs ys → I c' → K ys c') → lcGo ok turn xs c K
  | [], c, K, h, hok, _, k => ⟨hok c h, k [] c .nil h⟩
  | x :: r, c, K, h, hok, t, k => ⟨hok c h, t x List.mem_cons_self c _ h fun y c' hy h' => lc_draw h' hok (fun z hz => t z (List.mem_cons_of_mem _ hz)) fun ys c2 hys h2 => k (y :: ys) c2 (.cons hy hys) h2⟩
end
/-! ### the draws' functions -/
def spNumber : DSp := fun ds c Q _ => ∃ i, ds = [.int i] ∧ Q (.int (if i < 0 then 0 - i else i)) c
def spDraws : DSp := fun ds c Q _ => ∃ ns : List Int, ds = [.scr (ns.map .int)] ∧ ns.length ≤ 63 ∧ ∀ xs, xs.length ≤ 4000 → Bd xs → Q (.own (xs.map .int)) c
def spNext : DSp := fun ds c Q _ => ∃ n, ds = [.cell n] ∧ Dr n c ∧ ∀ i c', 0 ≤ i → i < 1000 → Dn n c c' → Q (.int i) c'
def spMore : DSp := fun ds c Q _ => ∃ n m xs, ds = [.cell n, .int m] ∧ 0 ≤ m ∧ m ≤ 1000 ∧ c[n]? = some (.lst (xs.map .int)) ∧ Bd xs ∧ xs.length ≤ 4000 ∧ ∀ xs c', Bd xs → Dn n c c' → Q (.own (xs.map .int)) c'
def spPick : DSp := fun ds c Q _ => ∃ n d xs, ds = [.cell n, d] ∧ (d = .lst xs ∨ d = .tup xs) ∧ xs ≠ [] ∧ (∀ x ∈ xs, x.isCell = false) ∧ Dr n c ∧ ∀ x ∈ xs, ∀ c', Dn n c c' → Q x c'
def ir_law_number : Fn := ⟨1, 1, (.cons (.ifS (.cmp .Lt (.var 0) (.lit (.int 0))) (.cons (.ret (.bin .Sub (.lit (.int 0)) (.var 0))) .nil) .nil) (.cons (.ret (.var 0)) .nil))⟩
def ir_law_next : Fn := ⟨1, 1, (.cons (.ifS (.val (.var 0)) (.cons (.ret (.meth .pop (.var 0) .nil)) .nil) .nil) (.cons (.ret (.lit (.int 0))) .nil))⟩
def ir_law_pick : Fn := ⟨2, 2, (.cons (.ret (.idx (.var 1) (.bin .Mod (.blt .int (.cons (.call "_law_next" (.cons (.var 0) .nil)) .nil)) (.blt .len (.cons (.var 1) .nil))))) .nil)⟩
def ir_law_draws : Fn := ⟨1, 7, (.cons (.asgC 1 (.lst .nil)) (.cons (.forS (.nm 2) (.seq (.var 0)) (.cons (.asg (.nm 3) (.call "_law_number" (.cons (.var 2) .nil))) (.cons (.ifS (.cmp .GtE (.var 3) (.lit (.int 1000000000000000000))) (.cons (.forS (.nm 4) (.rng (.cons (.lit (.int 60)) .nil)) (.cons (.ifS (.cmp .Eq (.var 3) (.lit (.int 0))) (.cons (.brk) .nil) .nil) (.cons (.expr (.meth .append (.var 1) (.cons (.bin .Mod (.blt .int (.cons (.var 3) .nil)) (.lit (.int 1000))) .nil))) (.cons (.asg (.nm 3) (.bin .FloorDiv (.var 3) (.lit (.int 1000)))) .nil)))) .nil) (.cons (.asg (.nm 5) (.bin .Mod (.blt .int (.cons (.bin .Add (.bin .Mult (.var 3) (.lit (.int 48271))) (.lit (.int 11))) .nil)) (.lit (.int 2147483647)))) (.cons (.asg (.nm 6) (.bin .Mod (.blt .int (.cons (.bin .Add (.bin .Mult (.var 5) (.lit (.int 69621))) (.var 3)) .nil)) (.lit (.int 2147483629)))) (.cons (.expr (.meth .extend (.var 1) (.cons (.lst (.cons (.bin .Mod (.blt .int (.cons (.var 3) .nil)) (.lit (.int 1000))) (.cons (.bin .Mod (.blt .int (.cons (.var 5) .nil)) (.lit (.int 1000))) (.cons (.bin .Mod (.blt .int (.cons (.var 6) .nil)) (.lit (.int 1000))) .nil)))) .nil))) .nil)))) .nil))) (.cons (.expr (.meth .reverse (.var 1) .nil)) (.cons (.ret (.var 1)) .nil))))⟩
def ir_law_more : Fn := ⟨2, 5, (.cons (.asg (.nm 2) (.bin .Add (.bin .Add (.bin .Mult (.lit (.int 1000)) (.call "_law_next" (.cons (.var 0) .nil))) (.call "_law_next" (.cons (.var 0) .nil))) (.lit (.int 1)))) (.cons (.asgC 3 (.lst .nil)) (.cons (.forS (.nm 4) (.rng (.cons (.var 1) .nil)) (.cons (.asg (.nm 2) (.bin .Mod (.blt .int (.cons (.bin .Add (.bin .Mult (.var 2) (.lit (.int 48271))) (.lit (.int 12345))) .nil)) (.lit (.int 2147483647)))) (.cons (.expr (.meth .append (.var 3) (.cons (.bin .Mod (.blt .int (.cons (.bin .FloorDiv (.var 2) (.lit (.int 7))) .nil)) (.lit (.int 1000))) .nil))) .nil))) (.cons (.ret (.bin .Add (.var 3) (.var 0))) .nil))))⟩
section
variable {Γ : Str → DSp} {sub : Str → Str → Option Bool} {kind : Str → Str → D}
theorem pu_number : ∀ ds c Q E, spNumber ds c Q E → wFn Γ sub kind ir_law_number ds c Q E := by
  rintro _ c Q E ⟨i, rfl, h⟩
  simp only [ir_law_number, wFn, wSs, wS, wE, wA, wL, wT, wO, wC, wI, q_bii, q_btt, q_bti, q_bss, q_bl1, q_bl2, q_bl3, q_iadd, q_isub, q_imul, q_imod, q_idiv, q_ipow, q_tadd, q_trep, q_sadd, q_ladd, q_lrep, q_lkl, q_lko, q_lrl, q_lro, q_lrs, q_lsl, q_lso, q_lss, q_lst, q_aii, q_att2, q_clt, q_cle, q_cgt, q_cge, q_ceq, q_cne, q_cin, q_cni, q_cis, q_cin', q_eii, q_ebb, q_ess, q_tb, q_ti, q_tn, q_tt, q_tl, q_to, q_tc, q_int, q_inb, q_lnt, q_lnl, q_lnc, q_min, q_max, q_abs, q_tpt, q_tpl, q_lil, q_lit, q_sum, q_any, q_all, q_repr, q_fzi, q_fzb, q_fzs, q_fzn, q_fzt, q_fzl, q_fzo, q_fzc, q_fzr, q_fzf, q_ski, q_skb, q_sks, q_skn, q_skt, q_skl, q_sko, q_skf, q_ani, q_anb, q_ans, q_ann, q_ant, q_anl, q_ano, q_att, q_atl, q_ato, q_ri, q_rb, q_rs, q_rn, q_rt, q_rl, q_ro, q_rc, q_ixt, q_ixl, q_ixo, q_slt, q_sll, q_wt, q_r1, q_r2, List.map_cons, List.map_nil, List.cons_append, List.nil_append, List.replicate, List.getElem?_cons_zero, List.getElem?_cons_succ, List.set_cons_zero, List.set_cons_succ, Option.some.injEq, exists_eq_left', List.length_cons, List.length_nil, Bool.not_true, Bool.not_false, List.zip_cons_cons, List.zip_nil_right, List.foldl_cons, List.foldl_nil, true_and, and_true, if_true, if_false, Bool.false_eq_true, D.own.injEq, D.int.injEq, D.tup.injEq, D.lst.injEq, D.cell.injEq, D.bl.injEq, D.str.injEq, D.scr.injEq]
  refine iteB (fun hi => ?_) fun hi => ?_
  · rw [List.take_length]
    rwa [if_pos (of_decide_eq_true hi)] at h
  · rw [List.take_length]
    rwa [if_neg (of_decide_eq_false hi)] at h
theorem pu_next : ∀ ds c Q E, spNext ds c Q E → wFn Γ sub kind ir_law_next ds c Q E := by
  rintro _ c Q E ⟨n, rfl, hd, h⟩
  obtain ⟨xs, hc, hb⟩ := id hd
  have hl := lkR_cell hc
  simp only [ir_law_next, wFn, wSs, wS, wE, wA, wL, wT, wO, wC, wI, q_bii, q_btt, q_bti, q_bss, q_bl1, q_bl2, q_bl3, q_iadd, q_isub, q_imul, q_imod, q_idiv, q_ipow, q_tadd, q_trep, q_sadd, q_ladd, q_lrep, q_lkl, q_lko, q_lrl, q_lro, q_lrs, q_lsl, q_lso, q_lss, q_lst, q_aii, q_att2, q_clt, q_cle, q_cgt, q_cge, q_ceq, q_cne, q_cin, q_cni, q_cis, q_cin', q_eii, q_ebb, q_ess, q_tb, q_ti, q_tn, q_tt, q_tl, q_to, q_tc, q_int, q_inb, q_lnt, q_lnl, q_lnc, q_min, q_max, q_abs, q_tpt, q_tpl, q_lil, q_lit, q_sum, q_any, q_all, q_repr, q_fzi, q_fzb, q_fzs, q_fzn, q_fzt, q_fzl, q_fzo, q_fzc, q_fzr, q_fzf, q_ski, q_skb, q_sks, q_skn, q_skt, q_skl, q_sko, q_skf, q_ani, q_anb, q_ans, q_ann, q_ant, q_anl, q_ano, q_att, q_atl, q_ato, q_ri, q_rb, q_rs, q_rn, q_rt, q_rl, q_ro, q_rc, q_ixt, q_ixl, q_ixo, q_slt, q_sll, q_wt, q_r1, q_r2, List.map_cons, List.map_nil, List.cons_append, List.nil_append, List.replicate, List.getElem?_cons_zero, List.getElem?_cons_succ, List.set_cons_zero, List.set_cons_succ, Option.some.injEq, exists_eq_left', List.length_cons, List.length_nil, Bool.not_true, Bool.not_false, List.zip_cons_cons, List.zip_nil_right, List.foldl_cons, List.foldl_nil, true_and, and_true, if_true, if_false, Bool.false_eq_true, D.own.injEq, D.int.injEq, D.tup.injEq, D.lst.injEq, D.cell.injEq, D.bl.injEq, D.str.injEq, D.scr.injEq]
  refine ⟨_, hl, ?_⟩
  rcases List.eq_nil_or_concat xs with rfl | ⟨ys, y, rfl⟩
  · refine iteB (fun hi => by cases hi) fun hi => ?_
    rw [List.take_length]
    exact h 0 c (by decide) (by decide) hd.refl
  · have hy := hb y (by simp)
    refine iteB (fun hi => ?_) fun hi => by simp at hi
    refine ⟨by rw [hl]; rfl, n, _, .int y, rfl, hc, rfl, by simp, ?_⟩
    refine rt1 rfl (by simp) (h y _ hy.1 hy.2 ⟨ys, fun x hx => hb x (by simp [hx]), by simp, fun zs hz => ?_⟩)
    rw [hc] at hz
    cases hz
    simp
theorem pu_pick (hN : ∀ ds c Q E, spNext ds c Q E → Γ "_law_next" ds c Q E) : ∀ ds c Q E, spPick ds c Q E → wFn Γ sub kind ir_law_pick ds c Q E := by
  rintro _ c Q E ⟨n, d, xs, rfl, hx, hne, hcl, hd, h⟩
  have hl : 0 < xs.length := List.length_pos_iff.mpr hne
  rcases hx with rfl | rfl
  all_goals
    simp only [ir_law_pick, wFn, wSs, wS, wE, wA, wL, wT, wO, wC, wI, q_bii, q_btt, q_bti, q_bss, q_bl1, q_bl2, q_bl3, q_iadd, q_isub, q_imul, q_imod, q_idiv, q_ipow, q_tadd, q_trep, q_sadd, q_ladd, q_lrep, q_lkl, q_lko, q_lrl, q_lro, q_lrs, q_lsl, q_lso, q_lss, q_lst, q_aii, q_att2, q_clt, q_cle, q_cgt, q_cge, q_ceq, q_cne, q_cin, q_cni, q_cis, q_cin', q_eii, q_ebb, q_ess, q_tb, q_ti, q_tn, q_tt, q_tl, q_to, q_tc, q_int, q_inb, q_lnt, q_lnl, q_lnc, q_min, q_max, q_abs, q_tpt, q_tpl, q_lil, q_lit, q_sum, q_any, q_all, q_repr, q_fzi, q_fzb, q_fzs, q_fzn, q_fzt, q_fzl, q_fzo, q_fzc, q_fzr, q_fzf, q_ski, q_skb, q_sks, q_skn, q_skt, q_skl, q_sko, q_skf, q_ani, q_anb, q_ans, q_ann, q_ant, q_anl, q_ano, q_att, q_atl, q_ato, q_ri, q_rb, q_rs, q_rn, q_rt, q_rl, q_ro, q_rc, q_ixt, q_ixl, q_ixo, q_slt, q_sll, q_wt, q_r1, q_r2, List.map_cons, List.map_nil, List.cons_append, List.nil_append, List.replicate, List.getElem?_cons_zero, List.getElem?_cons_succ, List.set_cons_zero, List.set_cons_succ, Option.some.injEq, exists_eq_left', List.length_cons, List.length_nil, Bool.not_true, Bool.not_false, List.zip_cons_cons, List.zip_nil_right, List.foldl_cons, List.foldl_nil, true_and, and_true, if_true, if_false, Bool.false_eq_true, D.own.injEq, D.int.injEq, D.tup.injEq, D.lst.injEq, D.cell.injEq, D.bl.injEq, D.str.injEq, D.scr.injEq]
    refine hN _ _ _ _ ⟨n, rfl, hd, fun i c1 h0 h1 hn => ?_⟩
    simp only [wFn, wSs, wS, wE, wA, wL, wT, wO, wC, wI, q_bii, q_btt, q_bti, q_bss, q_bl1, q_bl2, q_bl3, q_iadd, q_isub, q_imul, q_imod, q_idiv, q_ipow, q_tadd, q_trep, q_sadd, q_ladd, q_lrep, q_lkl, q_lko, q_lrl, q_lro, q_lrs, q_lsl, q_lso, q_lss, q_lst, q_aii, q_att2, q_clt, q_cle, q_cgt, q_cge, q_ceq, q_cne, q_cin, q_cni, q_cis, q_cin', q_eii, q_ebb, q_ess, q_tb, q_ti, q_tn, q_tt, q_tl, q_to, q_tc, q_int, q_inb, q_lnt, q_lnl, q_lnc, q_min, q_max, q_abs, q_tpt, q_tpl, q_lil, q_lit, q_sum, q_any, q_all, q_repr, q_fzi, q_fzb, q_fzs, q_fzn, q_fzt, q_fzl, q_fzo, q_fzc, q_fzr, q_fzf, q_ski, q_skb, q_sks, q_skn, q_skt, q_skl, q_sko, q_skf, q_ani, q_anb, q_ans, q_ann, q_ant, q_anl, q_ano, q_att, q_atl, q_ato, q_ri, q_rb, q_rs, q_rn, q_rt, q_rl, q_ro, q_rc, q_ixt, q_ixl, q_ixo, q_slt, q_sll, q_wt, q_r1, q_r2, List.map_cons, List.map_nil, List.cons_append, List.nil_append, List.replicate, List.getElem?_cons_zero, List.getElem?_cons_succ, List.set_cons_zero, List.set_cons_succ, Option.some.injEq, exists_eq_left', List.length_cons, List.length_nil, Bool.not_true, Bool.not_false, List.zip_cons_cons, List.zip_nil_right, List.foldl_cons, List.foldl_nil, true_and, and_true, if_true, if_false, Bool.false_eq_true, D.own.injEq, D.int.injEq, D.tup.injEq, D.lst.injEq, D.cell.injEq, D.bl.injEq, D.str.injEq, D.scr.injEq]
    obtain ⟨x, hm, ha⟩ := atI_mod hne i
    exact ⟨by omega, x, ha, rt1 (hcl x hm) hn.len (h x hm c1 hn)⟩
theorem pu_more (hN : ∀ ds c Q E, spNext ds c Q E → Γ "_law_next" ds c Q E) : ∀ ds c Q E, spMore ds c Q E → wFn Γ sub kind ir_law_more ds c Q E := by
  rintro _ c Q E ⟨n, m, xs, rfl, h0, h1, hx, hb, hlen, h⟩
  have hnl : n < c.length := (List.getElem?_eq_some_iff.mp hx).1
  simp only [ir_law_more, wFn, wSs, wS, wE, wA, wL, wT, wO, wC, wI, q_bii, q_btt, q_bti, q_bss, q_bl1, q_bl2, q_bl3, q_iadd, q_isub, q_imul, q_imod, q_idiv, q_ipow, q_tadd, q_trep, q_sadd, q_ladd, q_lrep, q_lkl, q_lko, q_lrl, q_lro, q_lrs, q_lsl, q_lso, q_lss, q_lst, q_aii, q_att2, q_clt, q_cle, q_cgt, q_cge, q_ceq, q_cne, q_cin, q_cni, q_cis, q_cin', q_eii, q_ebb, q_ess, q_tb, q_ti, q_tn, q_tt, q_tl, q_to, q_tc, q_int, q_inb, q_lnt, q_lnl, q_lnc, q_min, q_max, q_abs, q_tpt, q_tpl, q_lil, q_lit, q_sum, q_any, q_all, q_repr, q_fzi, q_fzb, q_fzs, q_fzn, q_fzt, q_fzl, q_fzo, q_fzc, q_fzr, q_fzf, q_ski, q_skb, q_sks, q_skn, q_skt, q_skl, q_sko, q_skf, q_ani, q_anb, q_ans, q_ann, q_ant, q_anl, q_ano, q_att, q_atl, q_ato, q_ri, q_rb, q_rs, q_rn, q_rt, q_rl, q_ro, q_rc, q_ixt, q_ixl, q_ixo, q_slt, q_sll, q_wt, q_r1, q_r2, List.map_cons, List.map_nil, List.cons_append, List.nil_append, List.replicate, List.getElem?_cons_zero, List.getElem?_cons_succ, List.set_cons_zero, List.set_cons_succ, Option.some.injEq, exists_eq_left', List.length_cons, List.length_nil, Bool.not_true, Bool.not_false, List.zip_cons_cons, List.zip_nil_right, List.foldl_cons, List.foldl_nil, true_and, and_true, if_true, if_false, Bool.false_eq_true, D.own.injEq, D.int.injEq, D.tup.injEq, D.lst.injEq, D.cell.injEq, D.bl.injEq, D.str.injEq, D.scr.injEq]
  refine hN _ _ _ _ ⟨n, rfl, ⟨xs, hx, hb⟩, fun i c1 i0 i1 hn1 => ?_⟩
  simp only [wFn, wSs, wS, wE, wA, wL, wT, wO, wC, wI, q_bii, q_btt, q_bti, q_bss, q_bl1, q_bl2, q_bl3, q_iadd, q_isub, q_imul, q_imod, q_idiv, q_ipow, q_tadd, q_trep, q_sadd, q_ladd, q_lrep, q_lkl, q_lko, q_lrl, q_lro, q_lrs, q_lsl, q_lso, q_lss, q_lst, q_aii, q_att2, q_clt, q_cle, q_cgt, q_cge, q_ceq, q_cne, q_cin, q_cni, q_cis, q_cin', q_eii, q_ebb, q_ess, q_tb, q_ti, q_tn, q_tt, q_tl, q_to, q_tc, q_int, q_inb, q_lnt, q_lnl, q_lnc, q_min, q_max, q_abs, q_tpt, q_tpl, q_lil, q_lit, q_sum, q_any, q_all, q_repr, q_fzi, q_fzb, q_fzs, q_fzn, q_fzt, q_fzl, q_fzo, q_fzc, q_fzr, q_fzf, q_ski, q_skb, q_sks, q_skn, q_skt, q_skl, q_sko, q_skf, q_ani, q_anb, q_ans, q_ann, q_ant, q_anl, q_ano, q_att, q_atl, q_ato, q_ri, q_rb, q_rs, q_rn, q_rt, q_rl, q_ro, q_rc, q_ixt, q_ixl, q_ixo, q_slt, q_sll, q_wt, q_r1, q_r2, List.map_cons, List.map_nil, List.cons_append, List.nil_append, List.replicate, List.getElem?_cons_zero, List.getElem?_cons_succ, List.set_cons_zero, List.set_cons_succ, Option.some.injEq, exists_eq_left', List.length_cons, List.length_nil, Bool.not_true, Bool.not_false, List.zip_cons_cons, List.zip_nil_right, List.foldl_cons, List.foldl_nil, true_and, and_true, if_true, if_false, Bool.false_eq_true, D.own.injEq, D.int.injEq, D.tup.injEq, D.lst.injEq, D.cell.injEq, D.bl.injEq, D.str.injEq, D.scr.injEq]
  refine ⟨by unfold L2.CMul; omega, hN _ _ _ _ ⟨n, rfl, hn1.dr hnl, fun j c2 j0 j1 hn2 => ?_⟩⟩
  simp only [wFn, wSs, wS, wE, wA, wL, wT, wO, wC, wI, q_bii, q_btt, q_bti, q_bss, q_bl1, q_bl2, q_bl3, q_iadd, q_isub, q_imul, q_imod, q_idiv, q_ipow, q_tadd, q_trep, q_sadd, q_ladd, q_lrep, q_lkl, q_lko, q_lrl, q_lro, q_lrs, q_lsl, q_lso, q_lss, q_lst, q_aii, q_att2, q_clt, q_cle, q_cgt, q_cge, q_ceq, q_cne, q_cin, q_cni, q_cis, q_cin', q_eii, q_ebb, q_ess, q_tb, q_ti, q_tn, q_tt, q_tl, q_to, q_tc, q_int, q_inb, q_lnt, q_lnl, q_lnc, q_min, q_max, q_abs, q_tpt, q_tpl, q_lil, q_lit, q_sum, q_any, q_all, q_repr, q_fzi, q_fzb, q_fzs, q_fzn, q_fzt, q_fzl, q_fzo, q_fzc, q_fzr, q_fzf, q_ski, q_skb, q_sks, q_skn, q_skt, q_skl, q_sko, q_skf, q_ani, q_anb, q_ans, q_ann, q_ant, q_anl, q_ano, q_att, q_atl, q_ato, q_ri, q_rb, q_rs, q_rn, q_rt, q_rl, q_ro, q_rc, q_ixt, q_ixl, q_ixo, q_slt, q_sll, q_wt, q_r1, q_r2, List.map_cons, List.map_nil, List.cons_append, List.nil_append, List.replicate, List.getElem?_cons_zero, List.getElem?_cons_succ, List.set_cons_zero, List.set_cons_succ, Option.some.injEq, exists_eq_left', List.length_cons, List.length_nil, Bool.not_true, Bool.not_false, List.zip_cons_cons, List.zip_nil_right, List.foldl_cons, List.foldl_nil, true_and, and_true, if_true, if_false, Bool.false_eq_true, D.own.injEq, D.int.injEq, D.tup.injEq, D.lst.injEq, D.cell.injEq, D.bl.injEq, D.str.injEq, D.scr.injEq]
  have hn := hn1.trans hn2
  have hl2 : c2.length = c.length := hn.len
  refine ⟨Nat.zero_le _, by unfold RgI; omega, ?_⟩
  refine forGo_ind (I := fun r σ c' => ∃ (seed : Int) (t : Option D) (more : List Int), 0 ≤ seed ∧ seed < 2147483647 ∧ more.length + r.length ≤ 1000 ∧ (∀ x ∈ more, 0 ≤ x ∧ x < 1000) ∧
    (∀ x ∈ r, ∃ i, x = .int i) ∧ σ = [some (.cell n), some (.int m), some (.int seed), some (.cell c2.length), t] ∧ c' = c2 ++ [.lst (more.map .int)]) ?_ ?_ _ _ _ ⟨1000 * i + j + 1, none, [], by omega, by omega, ?_, by simp, ?_, rfl, rfl⟩
  · rintro σ c' ⟨seed, t, more, s0, s1, ml, mb, _, rfl, rfl⟩
    have hlast : (c2 ++ [Ob.lst (more.map D.int)])[c2.length]? = some (.lst (more.map .int)) := by simp
    obtain ⟨ys, hby, hys, hyl⟩ := id hn
    have hyl := hyl _ hx
    have hcell : (c2 ++ [Ob.lst (more.map D.int)])[n]? = some (.lst (ys.map .int)) := by
      rw [List.getElem?_append_left (by omega), hys, List.getElem?_set_self hnl]
    simp only [wFn, wSs, wS, wE, wA, wL, wT, wO, wC, wI, q_bii, q_btt, q_bti, q_bss, q_bl1, q_bl2, q_bl3, q_iadd, q_isub, q_imul, q_imod, q_idiv, q_ipow, q_tadd, q_trep, q_sadd, q_ladd, q_lrep, q_lkl, q_lko, q_lrl, q_lro, q_lrs, q_lsl, q_lso, q_lss, q_lst, q_aii, q_att2, q_clt, q_cle, q_cgt, q_cge, q_ceq, q_cne, q_cin, q_cni, q_cis, q_cin', q_eii, q_ebb, q_ess, q_tb, q_ti, q_tn, q_tt, q_tl, q_to, q_tc, q_int, q_inb, q_lnt, q_lnl, q_lnc, q_min, q_max, q_abs, q_tpt, q_tpl, q_lil, q_lit, q_sum, q_any, q_all, q_repr, q_fzi, q_fzb, q_fzs, q_fzn, q_fzt, q_fzl, q_fzo, q_fzc, q_fzr, q_fzf, q_ski, q_skb, q_sks, q_skn, q_skt, q_skl, q_sko, q_skf, q_ani, q_anb, q_ans, q_ann, q_ant, q_anl, q_ano, q_att, q_atl, q_ato, q_ri, q_rb, q_rs, q_rn, q_rt, q_rl, q_ro, q_rc, q_ixt, q_ixl, q_ixo, q_slt, q_sll, q_wt, q_r1, q_r2, List.map_cons, List.map_nil, List.cons_append, List.nil_append, List.replicate, List.getElem?_cons_zero, List.getElem?_cons_succ, List.set_cons_zero, List.set_cons_succ, Option.some.injEq, exists_eq_left', List.length_cons, List.length_nil, Bool.not_true, Bool.not_false, List.zip_cons_cons, List.zip_nil_right, List.foldl_cons, List.foldl_nil, true_and, and_true, if_true, if_false, Bool.false_eq_true, D.own.injEq, D.int.injEq, D.tup.injEq, D.lst.injEq, D.cell.injEq, D.bl.injEq, D.str.injEq, D.scr.injEq]
    refine ⟨_, _, lkL_cell hlast, lkL_cell hcell, ?_, ?_⟩
    · have : (5000 : Nat) ≤ sizeLine := by decide
      simp only [List.length_map, List.length_nil] at hyl ml ⊢
      omega
    · rw [← List.map_append, ← hl2, List.take_left]
      refine h (more ++ ys) c2 (fun x hx => ?_) hn
      rcases List.mem_append.mp hx with q | q
      · exact mb x q
      · exact hby x q
  · rintro x r σ c' R ⟨seed, t, more, s0, s1, ml, mb, hr, rfl, rfl⟩ hR
    obtain ⟨k, rfl⟩ := hr x (by simp)
    have hlast : (c2 ++ [Ob.lst (more.map D.int)])[c2.length]? = some (.lst (more.map .int)) := by simp
    simp only [wFn, wSs, wS, wE, wA, wL, wT, wO, wC, wI, q_bii, q_btt, q_bti, q_bss, q_bl1, q_bl2, q_bl3, q_iadd, q_isub, q_imul, q_imod, q_idiv, q_ipow, q_tadd, q_trep, q_sadd, q_ladd, q_lrep, q_lkl, q_lko, q_lrl, q_lro, q_lrs, q_lsl, q_lso, q_lss, q_lst, q_aii, q_att2, q_clt, q_cle, q_cgt, q_cge, q_ceq, q_cne, q_cin, q_cni, q_cis, q_cin', q_eii, q_ebb, q_ess, q_tb, q_ti, q_tn, q_tt, q_tl, q_to, q_tc, q_int, q_inb, q_lnt, q_lnl, q_lnc, q_min, q_max, q_abs, q_tpt, q_tpl, q_lil, q_lit, q_sum, q_any, q_all, q_repr, q_fzi, q_fzb, q_fzs, q_fzn, q_fzt, q_fzl, q_fzo, q_fzc, q_fzr, q_fzf, q_ski, q_skb, q_sks, q_skn, q_skt, q_skl, q_sko, q_skf, q_ani, q_anb, q_ans, q_ann, q_ant, q_anl, q_ano, q_att, q_atl, q_ato, q_ri, q_rb, q_rs, q_rn, q_rt, q_rl, q_ro, q_rc, q_ixt, q_ixl, q_ixo, q_slt, q_sll, q_wt, q_r1, q_r2, List.map_cons, List.map_nil, List.cons_append, List.nil_append, List.replicate, List.getElem?_cons_zero, List.getElem?_cons_succ, List.set_cons_zero, List.set_cons_succ, Option.some.injEq, exists_eq_left', List.length_cons, List.length_nil, Bool.not_true, Bool.not_false, List.zip_cons_cons, List.zip_nil_right, List.foldl_cons, List.foldl_nil, true_and, and_true, if_true, if_false, Bool.false_eq_true, D.own.injEq, D.int.injEq, D.tup.injEq, D.lst.injEq, D.cell.injEq, D.bl.injEq, D.str.injEq, D.scr.injEq]
    refine ⟨by unfold L2.CMul; omega, by omega, by rw [lkR_cell hlast]; rfl, ?_⟩
    refine ⟨by unfold L2.CDiv; omega, by omega, c2.length, _, _, rfl, hlast, rfl, ?_, rfl, hR _ _ ?_⟩
    · have : (5000 : Nat) ≤ sizeLine := by decide
      simp only [List.length_map, List.length_cons] at ml ⊢
      omega
    · refine ⟨(seed * 48271 + 12345) % 2147483647, some (.int k), more ++ [(seed * 48271 + 12345) % 2147483647 / 7 % 1000], by omega, by omega, by simp at ml ⊢; omega, fun y hy => ?_, fun y hy => hr y (by simp [hy]), rfl, by simp⟩
      rcases List.mem_append.mp hy with q | q
      · exact mb y q
      · simp at q
        omega
  · simp only [rngL, List.length_map, List.length_range]
    simp
    omega
  · intro x hx
    simp only [rngL, List.mem_map] at hx
    obtain ⟨k, _, rfl⟩ := hx
    exact ⟨_, rfl⟩
theorem pu_draws (hN : ∀ ds c Q E, spNumber ds c Q E → Γ "_law_number" ds c Q E) : ∀ ds c Q E, spDraws ds c Q E → wFn Γ sub kind ir_law_draws ds c Q E := by
  rintro _ c Q E ⟨ns, rfl, hlen, h⟩
  simp only [ir_law_draws, wFn, wSs, wS, wE, wA, wL, wT, wO, wC, wI, q_bii, q_btt, q_bti, q_bss, q_bl1, q_bl2, q_bl3, q_iadd, q_isub, q_imul, q_imod, q_idiv, q_ipow, q_tadd, q_trep, q_sadd, q_ladd, q_lrep, q_lkl, q_lko, q_lrl, q_lro, q_lrs, q_lsl, q_lso, q_lss, q_lst, q_aii, q_att2, q_clt, q_cle, q_cgt, q_cge, q_ceq, q_cne, q_cin, q_cni, q_cis, q_cin', q_eii, q_ebb, q_ess, q_tb, q_ti, q_tn, q_tt, q_tl, q_to, q_tc, q_int, q_inb, q_lnt, q_lnl, q_lnc, q_min, q_max, q_abs, q_tpt, q_tpl, q_lil, q_lit, q_sum, q_any, q_all, q_repr, q_fzi, q_fzb, q_fzs, q_fzn, q_fzt, q_fzl, q_fzo, q_fzc, q_fzr, q_fzf, q_ski, q_skb, q_sks, q_skn, q_skt, q_skl, q_sko, q_skf, q_ani, q_anb, q_ans, q_ann, q_ant, q_anl, q_ano, q_att, q_atl, q_ato, q_ri, q_rb, q_rs, q_rn, q_rt, q_rl, q_ro, q_rc, q_ixt, q_ixl, q_ixo, q_slt, q_sll, q_wt, q_r1, q_r2, List.map_cons, List.map_nil, List.cons_append, List.nil_append, List.replicate, List.getElem?_cons_zero, List.getElem?_cons_succ, List.set_cons_zero, List.set_cons_succ, Option.some.injEq, exists_eq_left', List.length_cons, List.length_nil, Bool.not_true, Bool.not_false, List.zip_cons_cons, List.zip_nil_right, List.foldl_cons, List.foldl_nil, true_and, and_true, if_true, if_false, Bool.false_eq_true, D.own.injEq, D.int.injEq, D.tup.injEq, D.lst.injEq, D.cell.injEq, D.bl.injEq, D.str.injEq, D.scr.injEq]
  refine ⟨Nat.zero_le _, _, rfl, ?_⟩
  refine forGo_ind (I := fun r σ c' => ∃ (xs : List Int) (t2 t3 t4 t5 t6 : Option D), Bd xs ∧ xs.length + 60 * r.length ≤ 3780 ∧ (∀ x ∈ r, ∃ i, x = .int i) ∧
    σ = [some (.scr (ns.map .int)), some (.cell c.length), t2, t3, t4, t5, t6] ∧ c' = c ++ [.lst (xs.map .int)]) ?_ ?_ _ _ _ ⟨[], none, none, none, none, none, Bd.nil, by simp; omega, fun x hx => ?_, rfl, rfl⟩
  · rintro σ c' ⟨xs, t2, t3, t4, t5, t6, hb, hl, _, rfl, rfl⟩
    have hlast : (c ++ [Ob.lst (xs.map D.int)])[c.length]? = some (.lst (xs.map .int)) := by simp
    simp only [wFn, wSs, wS, wE, wA, wL, wT, wO, wC, wI, q_bii, q_btt, q_bti, q_bss, q_bl1, q_bl2, q_bl3, q_iadd, q_isub, q_imul, q_imod, q_idiv, q_ipow, q_tadd, q_trep, q_sadd, q_ladd, q_lrep, q_lkl, q_lko, q_lrl, q_lro, q_lrs, q_lsl, q_lso, q_lss, q_lst, q_aii, q_att2, q_clt, q_cle, q_cgt, q_cge, q_ceq, q_cne, q_cin, q_cni, q_cis, q_cin', q_eii, q_ebb, q_ess, q_tb, q_ti, q_tn, q_tt, q_tl, q_to, q_tc, q_int, q_inb, q_lnt, q_lnl, q_lnc, q_min, q_max, q_abs, q_tpt, q_tpl, q_lil, q_lit, q_sum, q_any, q_all, q_repr, q_fzi, q_fzb, q_fzs, q_fzn, q_fzt, q_fzl, q_fzo, q_fzc, q_fzr, q_fzf, q_ski, q_skb, q_sks, q_skn, q_skt, q_skl, q_sko, q_skf, q_ani, q_anb, q_ans, q_ann, q_ant, q_anl, q_ano, q_att, q_atl, q_ato, q_ri, q_rb, q_rs, q_rn, q_rt, q_rl, q_ro, q_rc, q_ixt, q_ixl, q_ixo, q_slt, q_sll, q_wt, q_r1, q_r2, List.map_cons, List.map_nil, List.cons_append, List.nil_append, List.replicate, List.getElem?_cons_zero, List.getElem?_cons_succ, List.set_cons_zero, List.set_cons_succ, Option.some.injEq, exists_eq_left', List.length_cons, List.length_nil, Bool.not_true, Bool.not_false, List.zip_cons_cons, List.zip_nil_right, List.foldl_cons, List.foldl_nil, true_and, and_true, if_true, if_false, Bool.false_eq_true, D.own.injEq, D.int.injEq, D.tup.injEq, D.lst.injEq, D.cell.injEq, D.bl.injEq, D.str.injEq, D.scr.injEq]
    refine ⟨by rw [lkR_cell hlast]; rfl, c.length, _, rfl, hlast, rfl, xs.reverse.map .int, Nat.le_refl _, by simp, ?_⟩
    simp only [List.set_append_right _ _ (Nat.le_refl _), List.take_left]
    exact h _ (by simp at hl ⊢; omega) fun x hx => hb x (by simpa using hx)
  · rintro x r σ c' R ⟨xs, t2, t3, t4, t5, t6, hb, hl, hr, rfl, rfl⟩ hR
    obtain ⟨i, rfl⟩ := hr x (by simp)
    have hr' : ∀ y ∈ r, ∃ i, y = .int i := fun y hy => hr y (by simp [hy])
    simp only [List.length_cons] at hl
    simp only [wFn, wSs, wS, wE, wA, wL, wT, wO, wC, wI, q_bii, q_btt, q_bti, q_bss, q_bl1, q_bl2, q_bl3, q_iadd, q_isub, q_imul, q_imod, q_idiv, q_ipow, q_tadd, q_trep, q_sadd, q_ladd, q_lrep, q_lkl, q_lko, q_lrl, q_lro, q_lrs, q_lsl, q_lso, q_lss, q_lst, q_aii, q_att2, q_clt, q_cle, q_cgt, q_cge, q_ceq, q_cne, q_cin, q_cni, q_cis, q_cin', q_eii, q_ebb, q_ess, q_tb, q_ti, q_tn, q_tt, q_tl, q_to, q_tc, q_int, q_inb, q_lnt, q_lnl, q_lnc, q_min, q_max, q_abs, q_tpt, q_tpl, q_lil, q_lit, q_sum, q_any, q_all, q_repr, q_fzi, q_fzb, q_fzs, q_fzn, q_fzt, q_fzl, q_fzo, q_fzc, q_fzr, q_fzf, q_ski, q_skb, q_sks, q_skn, q_skt, q_skl, q_sko, q_skf, q_ani, q_anb, q_ans, q_ann, q_ant, q_anl, q_ano, q_att, q_atl, q_ato, q_ri, q_rb, q_rs, q_rn, q_rt, q_rl, q_ro, q_rc, q_ixt, q_ixl, q_ixo, q_slt, q_sll, q_wt, q_r1, q_r2, List.map_cons, List.map_nil, List.cons_append, List.nil_append, List.replicate, List.getElem?_cons_zero, List.getElem?_cons_succ, List.set_cons_zero, List.set_cons_succ, Option.some.injEq, exists_eq_left', List.length_cons, List.length_nil, Bool.not_true, Bool.not_false, List.zip_cons_cons, List.zip_nil_right, List.foldl_cons, List.foldl_nil, true_and, and_true, if_true, if_false, Bool.false_eq_true, D.own.injEq, D.int.injEq, D.tup.injEq, D.lst.injEq, D.cell.injEq, D.bl.injEq, D.str.injEq, D.scr.injEq]
    refine hN _ _ _ _ ⟨i, rfl, ?_⟩
    have hi0 : 0 ≤ (if i < 0 then 0 - i else i) := by split <;> omega
    generalize (if i < 0 then 0 - i else i) = rest at hi0
    simp only [wFn, wSs, wS, wE, wA, wL, wT, wO, wC, wI, q_bii, q_btt, q_bti, q_bss, q_bl1, q_bl2, q_bl3, q_iadd, q_isub, q_imul, q_imod, q_idiv, q_ipow, q_tadd, q_trep, q_sadd, q_ladd, q_lrep, q_lkl, q_lko, q_lrl, q_lro, q_lrs, q_lsl, q_lso, q_lss, q_lst, q_aii, q_att2, q_clt, q_cle, q_cgt, q_cge, q_ceq, q_cne, q_cin, q_cni, q_cis, q_cin', q_eii, q_ebb, q_ess, q_tb, q_ti, q_tn, q_tt, q_tl, q_to, q_tc, q_int, q_inb, q_lnt, q_lnl, q_lnc, q_min, q_max, q_abs, q_tpt, q_tpl, q_lil, q_lit, q_sum, q_any, q_all, q_repr, q_fzi, q_fzb, q_fzs, q_fzn, q_fzt, q_fzl, q_fzo, q_fzc, q_fzr, q_fzf, q_ski, q_skb, q_sks, q_skn, q_skt, q_skl, q_sko, q_skf, q_ani, q_anb, q_ans, q_ann, q_ant, q_anl, q_ano, q_att, q_atl, q_ato, q_ri, q_rb, q_rs, q_rn, q_rt, q_rl, q_ro, q_rc, q_ixt, q_ixl, q_ixo, q_slt, q_sll, q_wt, q_r1, q_r2, List.map_cons, List.map_nil, List.cons_append, List.nil_append, List.replicate, List.getElem?_cons_zero, List.getElem?_cons_succ, List.set_cons_zero, List.set_cons_succ, Option.some.injEq, exists_eq_left', List.length_cons, List.length_nil, Bool.not_true, Bool.not_false, List.zip_cons_cons, List.zip_nil_right, List.foldl_cons, List.foldl_nil, true_and, and_true, if_true, if_false, Bool.false_eq_true, D.own.injEq, D.int.injEq, D.tup.injEq, D.lst.injEq, D.cell.injEq, D.bl.injEq, D.str.injEq, D.scr.injEq]
    refine iteB (fun hc => ?_) fun hc => ?_
    · refine ⟨by unfold RgI; omega, ?_⟩
      refine forGo_ind (I := fun q σ c' => ∃ (ys : List Int) (rest : Int) (t4 : Option D), 0 ≤ rest ∧ Bd ys ∧ ys.length + q.length ≤ xs.length + 60 ∧ (∀ x ∈ q, ∃ i, x = .int i) ∧
        σ = [some (.scr (ns.map .int)), some (.cell c.length), some (.int i), some (.int rest), t4, t5, t6] ∧ c' = c ++ [.lst (ys.map .int)]) ?_ ?_ _ _ _ ⟨xs, rest, t4, hi0, hb, by simp [rngL], fun x hx => ?_, rfl, rfl⟩
      · rintro σ c' ⟨ys, rest, t4, _, hby, hly, _, rfl, rfl⟩
        exact ⟨trivial, hR _ _ ⟨ys, _, _, _, _, _, hby, by simp at hly; omega, hr', rfl, rfl⟩⟩
      · rintro x q σ c' R' ⟨ys, rest, t4, h0, hby, hly, hq, rfl, rfl⟩ hR'
        obtain ⟨k, rfl⟩ := hq x (by simp)
        have hlast : (c ++ [Ob.lst (ys.map D.int)])[c.length]? = some (.lst (ys.map .int)) := by simp
        simp only [List.length_cons] at hly
        simp only [wFn, wSs, wS, wE, wA, wL, wT, wO, wC, wI, q_bii, q_btt, q_bti, q_bss, q_bl1, q_bl2, q_bl3, q_iadd, q_isub, q_imul, q_imod, q_idiv, q_ipow, q_tadd, q_trep, q_sadd, q_ladd, q_lrep, q_lkl, q_lko, q_lrl, q_lro, q_lrs, q_lsl, q_lso, q_lss, q_lst, q_aii, q_att2, q_clt, q_cle, q_cgt, q_cge, q_ceq, q_cne, q_cin, q_cni, q_cis, q_cin', q_eii, q_ebb, q_ess, q_tb, q_ti, q_tn, q_tt, q_tl, q_to, q_tc, q_int, q_inb, q_lnt, q_lnl, q_lnc, q_min, q_max, q_abs, q_tpt, q_tpl, q_lil, q_lit, q_sum, q_any, q_all, q_repr, q_fzi, q_fzb, q_fzs, q_fzn, q_fzt, q_fzl, q_fzo, q_fzc, q_fzr, q_fzf, q_ski, q_skb, q_sks, q_skn, q_skt, q_skl, q_sko, q_skf, q_ani, q_anb, q_ans, q_ann, q_ant, q_anl, q_ano, q_att, q_atl, q_ato, q_ri, q_rb, q_rs, q_rn, q_rt, q_rl, q_ro, q_rc, q_ixt, q_ixl, q_ixo, q_slt, q_sll, q_wt, q_r1, q_r2, List.map_cons, List.map_nil, List.cons_append, List.nil_append, List.replicate, List.getElem?_cons_zero, List.getElem?_cons_succ, List.set_cons_zero, List.set_cons_succ, Option.some.injEq, exists_eq_left', List.length_cons, List.length_nil, Bool.not_true, Bool.not_false, List.zip_cons_cons, List.zip_nil_right, List.foldl_cons, List.foldl_nil, true_and, and_true, if_true, if_false, Bool.false_eq_true, D.own.injEq, D.int.injEq, D.tup.injEq, D.lst.injEq, D.cell.injEq, D.bl.injEq, D.str.injEq, D.scr.injEq]
        refine iteB (fun _ => ?_) fun _ => ?_
        · exact hR _ _ ⟨ys, _, _, _, _, _, hby, by omega, hr', rfl, rfl⟩
        · refine ⟨by rw [lkR_cell hlast]; rfl, by omega, c.length, _, _, rfl, hlast, rfl, ?_, rfl, ?_⟩
          · have : (5000 : Nat) ≤ sizeLine := by decide
            simp only [List.length_map]
            omega
          · refine ⟨by unfold L2.CDiv; omega, hR' _ _ ⟨ys ++ [rest % 1000], rest / 1000, _, by omega, fun y hy => ?_, by simp; omega, fun y hy => hq y (by simp [hy]), rfl, by simp⟩⟩
            rcases List.mem_append.mp hy with z | z
            · exact hby y z
            · simp at z
              omega
      · simp only [rngL, List.mem_map] at hx
        obtain ⟨k, _, rfl⟩ := hx
        exact ⟨_, rfl⟩
    · have hlast : (c ++ [Ob.lst (xs.map D.int)])[c.length]? = some (.lst (xs.map .int)) := by simp
      refine ⟨by unfold L2.CMul; omega, by omega, by unfold L2.CMul; omega, by omega, by rw [lkR_cell hlast]; rfl, by omega, by omega, by omega, by decide, c.length, _, _, _, rfl, hlast, rfl, rfl, ?_, ?_⟩
      · have : (5000 : Nat) ≤ sizeLine := by decide
        simp only [List.length_map, List.length_cons, List.length_nil]
        omega
      · refine hR _ _ ⟨xs ++ [rest % 1000, (rest * 48271 + 11) % 2147483647 % 1000, ((rest * 48271 + 11) % 2147483647 * 69621 + rest) % 2147483629 % 1000], _, _, _, _, _, fun y hy => ?_, by simp; omega, hr', rfl, by simp⟩
        rcases List.mem_append.mp hy with z | z
        · exact hb y z
        · simp at z
          omega
  · obtain ⟨k, _, rfl⟩ := List.mem_map.mp hx
    exact ⟨k, rfl⟩
end
end Ev

/-! # Pu2: plain laws of drawn rules, their images -/
namespace Ev
open PySem
abbrev tI (xs : List Int) : D := .tup (xs.map .int)
def idx (k : Int) (w : List Int) : Int := w.foldl (fun (a s : Int) => a * k + s) 0
def wds (k : Nat) : Nat → List (List Int)
  | 0 => [[]]
  | n + 1 => (wds k n).flatMap fun w => (List.range k).map fun (s : Nat) => w ++ [(s : Int)]
/-- states below k -/
def St (k : Nat) (w : List Int) : Prop := ∀ s ∈ w, 0 ≤ s ∧ s < k
def img (k w : Nat) (t : List Int) (word : List Int) : List Int := (List.range (word.length + 1 - w)).map fun (i : Nat) => t.getD (idx k ((word.drop i).take w)).toNat 0
/-- a rule as it should be -/
structure Rl (k w : Nat) (t : List Int) : Prop where
  k2 : 2 ≤ k
  k4 : k ≤ 4
  w1 : 1 ≤ w
  big : k ^ w ≤ 256
  len : t.length = k ^ w
  st : St k t
abbrev ruleD (k w : Nat) (t : List Int) : D := .tup [.int k, .int w, tI t]
theorem rngL0 (k : Nat) : rngL 0 (k : Int) = (List.range k).map fun i => D.int (i : Nat) := by simp [rngL]
theorem wds_len (k : Nat) : ∀ n, (wds k n).length = k ^ n
  | 0 => rfl
  | n + 1 => by
    simp only [wds, List.length_flatMap, List.length_map, List.length_range, List.map_const', List.sum_replicate_nat, wds_len k n]
    rw [Nat.pow_succ]
theorem wds_mem (k : Nat) : ∀ n, ∀ w ∈ wds k n, w.length = n ∧ St k w
  | 0, w, h => by simp [wds] at h; subst h; exact ⟨rfl, fun s hs => by cases hs⟩
  | n + 1, w, h => by
    simp only [wds, List.mem_flatMap, List.mem_map, List.mem_range] at h
    obtain ⟨v, hv, s, hs, rfl⟩ := h
    obtain ⟨h1, h2⟩ := wds_mem k n v hv
    refine ⟨by simp [h1], fun x hx => ?_⟩
    rcases List.mem_append.mp hx with q | q
    · exact h2 x q
    · simp at q
      omega
theorem idx_go {k : Nat} : ∀ (w : List Int) (a B : Int), St k w → 0 ≤ a → a < B → 0 ≤ w.foldl (fun (a s : Int) => a * (k : Int) + s) a ∧ w.foldl (fun (a s : Int) => a * (k : Int) + s) a < B * (k : Int) ^ w.length
  | [], a, B, _, h0, h1 => ⟨h0, by simpa using h1⟩
  | s :: r, a, B, hs, h0, h1 => by
    obtain ⟨s0, s1⟩ := hs s (by simp)
    have hk : (0 : Int) ≤ k := by omega
    have e1 : a * (k : Int) ≤ (B - 1) * k := Int.mul_le_mul_of_nonneg_right (by omega) hk
    have e0 : 0 ≤ a * (k : Int) := Int.mul_nonneg h0 hk
    rw [Int.sub_mul] at e1
    have := idx_go r (a * k + s) (B * k) (fun x hx => hs x (by simp [hx])) (by omega) (by omega)
    refine ⟨this.1, ?_⟩
    rw [List.length_cons, Int.pow_succ]
    have e := this.2
    rw [Int.mul_assoc, Int.mul_comm (k : Int)] at e
    exact e
theorem idx_lt {k : Nat} {w : List Int} (h : St k w) : 0 ≤ idx k w ∧ (idx k w).toNat < k ^ w.length := by
  have := idx_go w 0 1 h (by omega) (by omega)
  rw [Int.one_mul] at this
  change 0 ≤ idx k w ∧ idx k w < (k : Int) ^ w.length at this
  refine ⟨this.1, ?_⟩
  have e := this.2
  have : ((idx k w).toNat : Int) < ((k ^ w.length : Nat) : Int) := by
    rw [Int.toNat_of_nonneg this.1]
    push_cast
    exact e
  omega
theorem St.sub {k : Nat} {w : List Int} (h : St k w) (i n : Nat) : St k ((w.drop i).take n) := fun s hs => h s (List.mem_of_mem_drop (List.mem_of_mem_take hs))
/-- a block's value -/
theorem Rl.at_ {k w : Nat} {t b : List Int} (r : Rl k w t) (hb : St k b) (hl : b.length = w) : ∃ v, (t.map D.int)[(idx k b).toNat]? = some (.int v) ∧ v = t.getD (idx k b).toNat 0 ∧ 0 ≤ v ∧ v < k := by
  have h := (idx_lt hb).2
  rw [hl, ← r.len] at h
  refine ⟨t[(idx k b).toNat], by rw [List.getElem?_map, List.getElem?_eq_getElem h]; rfl, ?_, r.st _ (List.getElem_mem h)⟩
  rw [List.getD_eq_getElem?_getD, List.getElem?_eq_getElem h]
  rfl
/-! ### the functions -/
def spIndex : DSp := fun ds c Q _ => ∃ (k : Nat) (ws : List Int), ds = [.int k, tI ws] ∧ k ≤ 1000 ∧ Q (.int (idx k ws)) c
def spWords : DSp := fun ds c Q _ => ∃ k n : Nat, ds = [.int k, .int n] ∧ 1 ≤ k ∧ k ≤ 1000 ∧ k ^ n ≤ 100000 ∧ n ≤ 1000 ∧ Q (.lst ((wds k n).map tI)) c
def spImage : DSp := fun ds c Q _ => ∃ (k w : Nat) (t ws : List Int), ds = [ruleD k w t, tI ws] ∧ Rl k w t ∧ St k ws ∧ ws.length ≤ 100000 ∧ Q (tI (img k w t ws)) c
def ir_law_flat : Fn := ⟨1, 3, (.cons (.asgC 1 (.lst .nil)) (.cons (.forS (.nm 2) (.seq (.var 0)) (.cons (.expr (.meth .extend (.var 1) (.cons (.var 2) .nil))) .nil)) (.cons (.ret (.var 1)) .nil)))⟩
def ir_law_words : Fn := ⟨2, 7, (.cons (.asg (.nm 2) (.lst (.cons (.tup .nil) .nil))) (.cons (.forS (.nm 3) (.rng (.cons (.var 1) .nil)) (.cons (.asgC 4 (.lst .nil)) (.cons (.forS (.nm 5) (.seq (.var 2)) (.cons (.expr (.meth .extend (.var 4) (.cons (.lc [6] (.nm 6) (.rng (.cons (.var 0) .nil)) .none (.bin .Add (.var 5) (.tup (.cons (.var 6) .nil)))) .nil))) .nil)) (.cons (.frz 4) (.cons (.asg (.nm 2) (.var 4)) .nil))))) (.cons (.ret (.var 2)) .nil)))⟩
def ir_law_index : Fn := ⟨2, 4, (.cons (.asg (.nm 2) (.lit (.int 0))) (.cons (.forS (.nm 3) (.seq (.var 1)) (.cons (.asg (.nm 2) (.bin .Add (.bin .Mult (.var 2) (.var 0)) (.var 3))) .nil)) (.cons (.ret (.var 2)) .nil)))⟩
def ir_law_image : Fn := ⟨2, 6, (.cons (.asg (.tp [2, 3, 4]) (.var 0)) (.cons (.ret (.blt .tuple (.cons (.lc [5] (.nm 5) (.rng (.cons (.bin .Add (.bin .Sub (.blt .len (.cons (.var 1) .nil)) (.var 3)) (.lit (.int 1))) .nil)) .none (.idx (.var 4) (.call "_law_index" (.cons (.var 2) (.cons (.sl (.var 1) (.some (.var 5)) (.some (.bin .Add (.var 5) (.var 3)))) .nil))))) .nil))) .nil))⟩
def ir_law_ring : Fn := ⟨2, 4, (.cons (.asg (.nm 2) (.var 1)) (.cons (.forS (.nm 3) (.rng (.cons (.idx (.var 0) (.lit (.int 1))) .nil)) (.cons (.asg (.nm 2) (.bin .Add (.var 2) (.var 1))) .nil)) (.cons (.ret (.call "_law_image" (.cons (.var 0) (.cons (.sl (.var 2) .none (.some (.bin .Sub (.bin .Add (.blt .len (.cons (.var 1) .nil)) (.idx (.var 0) (.lit (.int 1)))) (.lit (.int 1))))) .nil)))) .nil)))⟩
def ir_law_wide : Fn := ⟨3, 4, (.cons (.ret (.tup (.cons (.var 1) (.cons (.var 2) (.cons (.blt .tuple (.cons (.lc [3] (.nm 3) (.seq (.call "_law_words" (.cons (.var 1) (.cons (.var 2) .nil)))) .none (.bin .Mod (.blt .int (.cons (.call "_law_next" (.cons (.var 0) .nil)) .nil)) (.var 1))) .nil)) .nil))))) .nil)⟩
def ir_law_adding : Fn := ⟨3, 7, (.cons (.asg (.nm 3) (.lc [4] (.nm 4) (.rng (.cons (.var 2) .nil)) .none (.bin .Mod (.blt .int (.cons (.call "_law_next" (.cons (.var 0) .nil)) .nil)) (.var 1)))) (.cons (.asg (.nm 5) (.bin .Mod (.blt .int (.cons (.call "_law_next" (.cons (.var 0) .nil)) .nil)) (.var 1))) (.cons (.ret (.tup (.cons (.var 1) (.cons (.var 2) (.cons (.blt .tuple (.cons (.lc [6] (.nm 6) (.seq (.call "_law_words" (.cons (.var 1) (.cons (.var 2) .nil)))) .none (.bin .Mod (.blt .int (.cons (.bin .Add (.var 5) (.blt .sum (.cons (.lc [4] (.nm 4) (.rng (.cons (.var 2) .nil)) .none (.bin .Mult (.idx (.var 3) (.var 4)) (.idx (.var 6) (.var 4)))) .nil))) .nil)) (.var 1))) .nil)) .nil))))) .nil)))⟩
def ir_law_permuting : Fn := ⟨3, 9, (.cons (.asg (.nm 3) (.bin .Mod (.blt .int (.cons (.call "_law_next" (.cons (.var 0) .nil)) .nil)) (.lit (.int 2)))) (.cons (.asg (.nm 4) (.lc [6] (.nm 6) (.seq (.call "_law_words" (.cons (.var 1) (.cons (.bin .Sub (.var 2) (.lit (.int 1))) .nil)))) .none (.bin .Mod (.blt .int (.cons (.call "_law_next" (.cons (.var 0) .nil)) .nil)) (.var 1)))) (.cons (.asgC 5 (.lst .nil)) (.cons (.forS (.nm 6) (.seq (.call "_law_words" (.cons (.var 1) (.cons (.var 2) .nil)))) (.cons (.asg (.tp [7, 8]) (.ite (.cmp .Eq (.var 3) (.lit (.int 0))) (.tup (.cons (.sl (.var 6) .none (.some (.neg (.lit (.int 1))))) (.cons (.idx (.var 6) (.neg (.lit (.int 1)))) .nil))) (.tup (.cons (.sl (.var 6) (.some (.lit (.int 1))) .none) (.cons (.idx (.var 6) (.lit (.int 0))) .nil))))) (.cons (.expr (.meth .append (.var 5) (.cons (.bin .Mod (.blt .int (.cons (.bin .Add (.var 8) (.idx (.var 4) (.call "_law_index" (.cons (.var 1) (.cons (.var 7) .nil))))) .nil)) (.var 1)) .nil))) .nil))) (.cons (.ret (.tup (.cons (.var 1) (.cons (.var 2) (.cons (.blt .tuple (.cons (.var 5) .nil)) .nil))))) .nil)))))⟩
def ir_law_rule : Fn := ⟨2, 11, (.cons (.asg (.nm 2) (.call "_law_pick" (.cons (.var 0) (.cons (.lst (.cons (.lit (.int 2)) (.cons (.lit (.int 2)) (.cons (.lit (.int 2)) (.cons (.lit (.int 3)) (.cons (.lit (.int 2)) (.cons (.lit (.int 3)) (.cons (.lit (.int 4)) .nil)))))))) .nil)))) (.cons (.asg (.nm 3) (.call "_law_pick" (.cons (.var 0) (.cons (.lst (.cons (.lit (.int 1)) (.cons (.lit (.int 2)) (.cons (.lit (.int 2)) (.cons (.lit (.int 3)) (.cons (.lit (.int 3)) (.cons (.lit (.int 4)) .nil))))))) .nil)))) (.cons (.forS (.nm 4) (.rng (.cons (.lit (.int 3)) .nil)) (.cons (.ifS (.cmp .Gt (.blt .len (.cons (.call "_law_words" (.cons (.var 2) (.cons (.var 3) .nil))) .nil)) (.var 1)) (.cons (.asg (.nm 3) (.bin .Sub (.var 3) (.lit (.int 1)))) .nil) .nil) .nil)) (.cons (.asg (.nm 5) (.bin .Mod (.blt .int (.cons (.call "_law_next" (.cons (.var 0) .nil)) .nil)) (.lit (.int 8)))) (.cons (.ifS (.cmp .Lt (.var 5) (.lit (.int 4))) (.cons (.ret (.call "_law_wide" (.cons (.var 0) (.cons (.var 2) (.cons (.var 3) .nil))))) .nil) .nil) (.cons (.ifS (.cmp .Eq (.var 5) (.lit (.int 4))) (.cons (.ret (.call "_law_adding" (.cons (.var 0) (.cons (.var 2) (.cons (.var 3) .nil))))) .nil) .nil) (.cons (.ifS (.cmp .Eq (.var 5) (.lit (.int 5))) (.cons (.ret (.call "_law_permuting" (.cons (.var 0) (.cons (.var 2) (.cons (.var 3) .nil))))) .nil) .nil) (.cons (.ifS (.cmp .Eq (.var 5) (.lit (.int 6))) (.cons (.asg (.nm 6) (.bin .Mod (.blt .int (.cons (.call "_law_next" (.cons (.var 0) .nil)) .nil)) (.var 3))) (.cons (.asg (.nm 7) (.lc [8] (.nm 8) (.rng (.cons (.var 2) .nil)) .none (.bin .Mod (.blt .int (.cons (.bin .Add (.bin .Add (.var 8) (.lit (.int 1))) (.bin .Mod (.blt .int (.cons (.call "_law_next" (.cons (.var 0) .nil)) .nil)) (.lit (.int 2)))) .nil)) (.var 2)))) (.cons (.ret (.tup (.cons (.var 2) (.cons (.var 3) (.cons (.blt .tuple (.cons (.lc [9] (.nm 9) (.seq (.call "_law_words" (.cons (.var 2) (.cons (.var 3) .nil)))) .none (.idx (.var 7) (.idx (.var 9) (.var 6)))) .nil)) .nil))))) .nil))) .nil) (.cons (.asg (.nm 10) (.lst (.cons (.tup (.cons (.lit (.int 2)) (.cons (.lit (.int 3)) (.cons (.tup (.cons (.lit (.int 0)) (.cons (.lit (.int 0)) (.cons (.lit (.int 0)) (.cons (.lit (.int 1)) (.cons (.lit (.int 1)) (.cons (.lit (.int 1)) (.cons (.lit (.int 0)) (.cons (.lit (.int 1)) .nil))))))))) .nil)))) (.cons (.tup (.cons (.lit (.int 2)) (.cons (.lit (.int 2)) (.cons (.tup (.cons (.lit (.int 0)) (.cons (.lit (.int 1)) (.cons (.lit (.int 1)) (.cons (.lit (.int 0)) .nil))))) .nil)))) (.cons (.tup (.cons (.lit (.int 2)) (.cons (.lit (.int 2)) (.cons (.tup (.cons (.lit (.int 0)) (.cons (.lit (.int 0)) (.cons (.lit (.int 0)) (.cons (.lit (.int 1)) .nil))))) .nil)))) (.cons (.tup (.cons (.lit (.int 2)) (.cons (.lit (.int 3)) (.cons (.tup (.cons (.lit (.int 0)) (.cons (.lit (.int 1)) (.cons (.lit (.int 0)) (.cons (.lit (.int 1)) (.cons (.lit (.int 1)) (.cons (.lit (.int 0)) (.cons (.lit (.int 1)) (.cons (.lit (.int 0)) .nil))))))))) .nil)))) (.cons (.tup (.cons (.lit (.int 2)) (.cons (.lit (.int 3)) (.cons (.tup (.cons (.lit (.int 0)) (.cons (.lit (.int 0)) (.cons (.lit (.int 0)) (.cons (.lit (.int 1)) (.cons (.lit (.int 0)) (.cons (.lit (.int 1)) (.cons (.lit (.int 1)) (.cons (.lit (.int 1)) .nil))))))))) .nil)))) .nil))))))) (.cons (.ret (.call "_law_pick" (.cons (.var 0) (.cons (.var 10) .nil)))) .nil))))))))))⟩
def ir_law_word : Fn := ⟨3, 4, (.cons (.ret (.blt .tuple (.cons (.lc [3] (.nm 3) (.rng (.cons (.var 2) .nil)) .none (.bin .Mod (.blt .int (.cons (.call "_law_next" (.cons (.var 0) .nil)) .nil)) (.var 1))) .nil))) .nil)⟩
section
variable {Γ : Str → DSp} {sub : Str → Str → Option Bool} {kind : Str → Str → D}
theorem pu_index : ∀ ds c Q E, spIndex ds c Q E → wFn Γ sub kind ir_law_index ds c Q E := by
  rintro _ c Q E ⟨k, ws, rfl, hk, h⟩
  simp only [ir_law_index, wFn, wSs, wS, wE, wA, wL, wT, wO, wC, wI, q_bii, q_btt, q_bti, q_bss, q_bl1, q_bl2, q_bl3, q_iadd, q_isub, q_imul, q_imod, q_idiv, q_ipow, q_tadd, q_trep, q_sadd, q_ladd, q_lrep, q_lkl, q_lko, q_lrl, q_lro, q_lrs, q_lsl, q_lso, q_lss, q_lst, q_aii, q_att2, q_clt, q_cle, q_cgt, q_cge, q_ceq, q_cne, q_cin, q_cni, q_cis, q_cin', q_eii, q_ebb, q_ess, q_tb, q_ti, q_tn, q_tt, q_tl, q_to, q_tc, q_int, q_inb, q_lnt, q_lnl, q_lnc, q_min, q_max, q_abs, q_tpt, q_tpl, q_lil, q_lit, q_sum, q_any, q_all, q_repr, q_fzi, q_fzb, q_fzs, q_fzn, q_fzt, q_fzl, q_fzo, q_fzc, q_fzr, q_fzf, q_ski, q_skb, q_sks, q_skn, q_skt, q_skl, q_sko, q_skf, q_ani, q_anb, q_ans, q_ann, q_ant, q_anl, q_ano, q_att, q_atl, q_ato, q_ri, q_rb, q_rs, q_rn, q_rt, q_rl, q_ro, q_rc, q_ixt, q_ixl, q_ixo, q_slt, q_sll, q_wt, q_r1, q_r2, List.map_cons, List.map_nil, List.cons_append, List.nil_append, List.replicate, List.getElem?_cons_zero, List.getElem?_cons_succ, List.set_cons_zero, List.set_cons_succ, Option.some.injEq, exists_eq_left', List.length_cons, List.length_nil, Bool.not_true, Bool.not_false, List.zip_cons_cons, List.zip_nil_right, List.foldl_cons, List.foldl_nil, true_and, and_true, if_true, if_false, Bool.false_eq_true, D.own.injEq, D.int.injEq, D.tup.injEq, D.lst.injEq, D.cell.injEq, D.bl.injEq, D.str.injEq, D.scr.injEq]
  refine forGo_ind (I := fun r σ c' => ∃ (a : Int) (t : Option D) (ys : List Int), r = ys.map .int ∧ ys.foldl (fun (a s : Int) => a * (k : Int) + s) a = idx k ws ∧ σ = [some (.int k), some (.tup (ws.map .int)), some (.int a), t] ∧ c = c') ?_ ?_ _ _ _ ⟨0, none, ws, rfl, rfl, rfl, rfl⟩
  · rintro σ c' ⟨a, t, ys, hy, he, rfl, rfl⟩
    have : ys = [] := by simpa using hy.symm
    subst this
    simp only [wFn, wSs, wS, wE, wA, wL, wT, wO, wC, wI, q_bii, q_btt, q_bti, q_bss, q_bl1, q_bl2, q_bl3, q_iadd, q_isub, q_imul, q_imod, q_idiv, q_ipow, q_tadd, q_trep, q_sadd, q_ladd, q_lrep, q_lkl, q_lko, q_lrl, q_lro, q_lrs, q_lsl, q_lso, q_lss, q_lst, q_aii, q_att2, q_clt, q_cle, q_cgt, q_cge, q_ceq, q_cne, q_cin, q_cni, q_cis, q_cin', q_eii, q_ebb, q_ess, q_tb, q_ti, q_tn, q_tt, q_tl, q_to, q_tc, q_int, q_inb, q_lnt, q_lnl, q_lnc, q_min, q_max, q_abs, q_tpt, q_tpl, q_lil, q_lit, q_sum, q_any, q_all, q_repr, q_fzi, q_fzb, q_fzs, q_fzn, q_fzt, q_fzl, q_fzo, q_fzc, q_fzr, q_fzf, q_ski, q_skb, q_sks, q_skn, q_skt, q_skl, q_sko, q_skf, q_ani, q_anb, q_ans, q_ann, q_ant, q_anl, q_ano, q_att, q_atl, q_ato, q_ri, q_rb, q_rs, q_rn, q_rt, q_rl, q_ro, q_rc, q_ixt, q_ixl, q_ixo, q_slt, q_sll, q_wt, q_r1, q_r2, List.map_cons, List.map_nil, List.cons_append, List.nil_append, List.replicate, List.getElem?_cons_zero, List.getElem?_cons_succ, List.set_cons_zero, List.set_cons_succ, Option.some.injEq, exists_eq_left', List.length_cons, List.length_nil, Bool.not_true, Bool.not_false, List.zip_cons_cons, List.zip_nil_right, List.foldl_cons, List.foldl_nil, true_and, and_true, if_true, if_false, Bool.false_eq_true, D.own.injEq, D.int.injEq, D.tup.injEq, D.lst.injEq, D.cell.injEq, D.bl.injEq, D.str.injEq, D.scr.injEq]
    rw [List.take_length]
    simp only [List.foldl_nil] at he
    rw [he]
    exact h
  · rintro x r σ c' R ⟨a, t, ys, hy, he, rfl, rfl⟩ hR
    cases ys with
    | nil => cases hy
    | cons y ys =>
      simp only [List.map_cons, List.cons.injEq] at hy
      obtain ⟨rfl, rfl⟩ := hy
      simp only [wFn, wSs, wS, wE, wA, wL, wT, wO, wC, wI, q_bii, q_btt, q_bti, q_bss, q_bl1, q_bl2, q_bl3, q_iadd, q_isub, q_imul, q_imod, q_idiv, q_ipow, q_tadd, q_trep, q_sadd, q_ladd, q_lrep, q_lkl, q_lko, q_lrl, q_lro, q_lrs, q_lsl, q_lso, q_lss, q_lst, q_aii, q_att2, q_clt, q_cle, q_cgt, q_cge, q_ceq, q_cne, q_cin, q_cni, q_cis, q_cin', q_eii, q_ebb, q_ess, q_tb, q_ti, q_tn, q_tt, q_tl, q_to, q_tc, q_int, q_inb, q_lnt, q_lnl, q_lnc, q_min, q_max, q_abs, q_tpt, q_tpl, q_lil, q_lit, q_sum, q_any, q_all, q_repr, q_fzi, q_fzb, q_fzs, q_fzn, q_fzt, q_fzl, q_fzo, q_fzc, q_fzr, q_fzf, q_ski, q_skb, q_sks, q_skn, q_skt, q_skl, q_sko, q_skf, q_ani, q_anb, q_ans, q_ann, q_ant, q_anl, q_ano, q_att, q_atl, q_ato, q_ri, q_rb, q_rs, q_rn, q_rt, q_rl, q_ro, q_rc, q_ixt, q_ixl, q_ixo, q_slt, q_sll, q_wt, q_r1, q_r2, List.map_cons, List.map_nil, List.cons_append, List.nil_append, List.replicate, List.getElem?_cons_zero, List.getElem?_cons_succ, List.set_cons_zero, List.set_cons_succ, Option.some.injEq, exists_eq_left', List.length_cons, List.length_nil, Bool.not_true, Bool.not_false, List.zip_cons_cons, List.zip_nil_right, List.foldl_cons, List.foldl_nil, true_and, and_true, if_true, if_false, Bool.false_eq_true, D.own.injEq, D.int.injEq, D.tup.injEq, D.lst.injEq, D.cell.injEq, D.bl.injEq, D.str.injEq, D.scr.injEq]
      exact ⟨by unfold L2.CMul; omega, hR _ _ ⟨_, _, ys, rfl, he, rfl, rfl⟩⟩
theorem mod_st {k : Nat} (i : Int) (h : 1 ≤ k) : 0 ≤ i % (k : Int) ∧ i % (k : Int) < k := ⟨Int.emod_nonneg _ (by omega), Int.emod_lt_of_pos _ (by omega)⟩
theorem pow_le {k n m : Nat} (h : 1 ≤ k) (e : n ≤ m) : k ^ n ≤ k ^ m := Nat.pow_le_pow_right h e
theorem pu_words : ∀ ds c Q E, spWords ds c Q E → wFn Γ sub kind ir_law_words ds c Q E := by
  rintro _ c Q E ⟨k, n, rfl, h1, hk, hn, hn1, h⟩
  simp only [ir_law_words, wFn, wSs, wS, wE, wA, wL, wT, wO, wC, wI, q_bii, q_btt, q_bti, q_bss, q_bl1, q_bl2, q_bl3, q_iadd, q_isub, q_imul, q_imod, q_idiv, q_ipow, q_tadd, q_trep, q_sadd, q_ladd, q_lrep, q_lkl, q_lko, q_lrl, q_lro, q_lrs, q_lsl, q_lso, q_lss, q_lst, q_aii, q_att2, q_clt, q_cle, q_cgt, q_cge, q_ceq, q_cne, q_cin, q_cni, q_cis, q_cin', q_eii, q_ebb, q_ess, q_tb, q_ti, q_tn, q_tt, q_tl, q_to, q_tc, q_int, q_inb, q_lnt, q_lnl, q_lnc, q_min, q_max, q_abs, q_tpt, q_tpl, q_lil, q_lit, q_sum, q_any, q_all, q_repr, q_fzi, q_fzb, q_fzs, q_fzn, q_fzt, q_fzl, q_fzo, q_fzc, q_fzr, q_fzf, q_ski, q_skb, q_sks, q_skn, q_skt, q_skl, q_sko, q_skf, q_ani, q_anb, q_ans, q_ann, q_ant, q_anl, q_ano, q_att, q_atl, q_ato, q_ri, q_rb, q_rs, q_rn, q_rt, q_rl, q_ro, q_rc, q_ixt, q_ixl, q_ixo, q_slt, q_sll, q_wt, q_r1, q_r2, List.map_cons, List.map_nil, List.cons_append, List.nil_append, List.replicate, List.getElem?_cons_zero, List.getElem?_cons_succ, List.set_cons_zero, List.set_cons_succ, Option.some.injEq, exists_eq_left', List.length_cons, List.length_nil, Bool.not_true, Bool.not_false, List.zip_cons_cons, List.zip_nil_right, List.foldl_cons, List.foldl_nil, true_and, and_true, if_true, if_false, Bool.false_eq_true, D.own.injEq, D.int.injEq, D.tup.injEq, D.lst.injEq, D.cell.injEq, D.bl.injEq, D.str.injEq, D.scr.injEq]
  refine ⟨by decide, by decide, by unfold RgI; omega, ?_⟩
  refine forGo_ind (I := fun r σ c' => ∃ (m : Nat) (t3 t4 t5 t6 : Option D), m + r.length = n ∧ σ = [some (.int k), some (.int n), some (.lst ((wds k m).map tI)), t3, t4, t5, t6] ∧ c = c' ∧ (∀ x ∈ r, ∃ i, x = .int i)) ?_ ?_ _ _ _
    ⟨0, none, none, none, none, by simp [rngL], rfl, rfl, fun x hx => by simp only [rngL, List.mem_map] at hx; obtain ⟨k, _, rfl⟩ := hx; exact ⟨_, rfl⟩⟩
  · rintro σ c' ⟨m, t3, t4, t5, t6, hm, rfl, rfl, _⟩
    have : m = n := by simpa using hm
    subst this
    simp only [wFn, wSs, wS, wE, wA, wL, wT, wO, wC, wI, q_bii, q_btt, q_bti, q_bss, q_bl1, q_bl2, q_bl3, q_iadd, q_isub, q_imul, q_imod, q_idiv, q_ipow, q_tadd, q_trep, q_sadd, q_ladd, q_lrep, q_lkl, q_lko, q_lrl, q_lro, q_lrs, q_lsl, q_lso, q_lss, q_lst, q_aii, q_att2, q_clt, q_cle, q_cgt, q_cge, q_ceq, q_cne, q_cin, q_cni, q_cis, q_cin', q_eii, q_ebb, q_ess, q_tb, q_ti, q_tn, q_tt, q_tl, q_to, q_tc, q_int, q_inb, q_lnt, q_lnl, q_lnc, q_min, q_max, q_abs, q_tpt, q_tpl, q_lil, q_lit, q_sum, q_any, q_all, q_repr, q_fzi, q_fzb, q_fzs, q_fzn, q_fzt, q_fzl, q_fzo, q_fzc, q_fzr, q_fzf, q_ski, q_skb, q_sks, q_skn, q_skt, q_skl, q_sko, q_skf, q_ani, q_anb, q_ans, q_ann, q_ant, q_anl, q_ano, q_att, q_atl, q_ato, q_ri, q_rb, q_rs, q_rn, q_rt, q_rl, q_ro, q_rc, q_ixt, q_ixl, q_ixo, q_slt, q_sll, q_wt, q_r1, q_r2, List.map_cons, List.map_nil, List.cons_append, List.nil_append, List.replicate, List.getElem?_cons_zero, List.getElem?_cons_succ, List.set_cons_zero, List.set_cons_succ, Option.some.injEq, exists_eq_left', List.length_cons, List.length_nil, Bool.not_true, Bool.not_false, List.zip_cons_cons, List.zip_nil_right, List.foldl_cons, List.foldl_nil, true_and, and_true, if_true, if_false, Bool.false_eq_true, D.own.injEq, D.int.injEq, D.tup.injEq, D.lst.injEq, D.cell.injEq, D.bl.injEq, D.str.injEq, D.scr.injEq]
    rw [List.take_length]
    exact h
  · rintro x r σ c' R ⟨m, t3, t4, t5, t6, hm, rfl, rfl, hx⟩ hR
    obtain ⟨i, rfl⟩ := hx x (by simp)
    simp only [List.length_cons] at hm
    simp only [wFn, wSs, wS, wE, wA, wL, wT, wO, wC, wI, q_bii, q_btt, q_bti, q_bss, q_bl1, q_bl2, q_bl3, q_iadd, q_isub, q_imul, q_imod, q_idiv, q_ipow, q_tadd, q_trep, q_sadd, q_ladd, q_lrep, q_lkl, q_lko, q_lrl, q_lro, q_lrs, q_lsl, q_lso, q_lss, q_lst, q_aii, q_att2, q_clt, q_cle, q_cgt, q_cge, q_ceq, q_cne, q_cin, q_cni, q_cis, q_cin', q_eii, q_ebb, q_ess, q_tb, q_ti, q_tn, q_tt, q_tl, q_to, q_tc, q_int, q_inb, q_lnt, q_lnl, q_lnc, q_min, q_max, q_abs, q_tpt, q_tpl, q_lil, q_lit, q_sum, q_any, q_all, q_repr, q_fzi, q_fzb, q_fzs, q_fzn, q_fzt, q_fzl, q_fzo, q_fzc, q_fzr, q_fzf, q_ski, q_skb, q_sks, q_skn, q_skt, q_skl, q_sko, q_skf, q_ani, q_anb, q_ans, q_ann, q_ant, q_anl, q_ano, q_att, q_atl, q_ato, q_ri, q_rb, q_rs, q_rn, q_rt, q_rl, q_ro, q_rc, q_ixt, q_ixl, q_ixo, q_slt, q_sll, q_wt, q_r1, q_r2, List.map_cons, List.map_nil, List.cons_append, List.nil_append, List.replicate, List.getElem?_cons_zero, List.getElem?_cons_succ, List.set_cons_zero, List.set_cons_succ, Option.some.injEq, exists_eq_left', List.length_cons, List.length_nil, Bool.not_true, Bool.not_false, List.zip_cons_cons, List.zip_nil_right, List.foldl_cons, List.foldl_nil, true_and, and_true, if_true, if_false, Bool.false_eq_true, D.own.injEq, D.int.injEq, D.tup.injEq, D.lst.injEq, D.cell.injEq, D.bl.injEq, D.str.injEq, D.scr.injEq]
    refine ⟨by decide, _, rfl, ?_⟩
    have hbig : k ^ (m + 1) ≤ 100000 := Nat.le_trans (pow_le h1 (by omega)) hn
    refine forGo_ind (I := fun q σ c' => ∃ (t5 t6 : Option D) (ys zs : List (List Int)), wds k m = ys ++ zs ∧ q = zs.map tI ∧ σ = [some (.int k), some (.int n), some (.lst ((wds k m).map tI)), some (.int i), some (.cell c.length), t5, t6] ∧
      c' = c ++ [.lst ((ys.flatMap fun w => (List.range k).map fun (s : Nat) => w ++ [(s : Int)]).map tI)]) ?_ ?_ _ _ _ ⟨t5, t6, [], wds k m, rfl, rfl, rfl, rfl⟩
    · rintro σ c' ⟨t5, t6, ys, zs, he, hz, rfl, rfl⟩
      have : zs = [] := by simpa using hz.symm
      subst this
      simp only [List.append_nil] at he
      have hlast : (c ++ [Ob.lst ((ys.flatMap fun w => (List.range k).map fun (s : Nat) => w ++ [(s : Int)]).map tI)])[c.length]? = some (.lst ((ys.flatMap fun w => (List.range k).map fun (s : Nat) => w ++ [(s : Int)]).map tI)) := by simp
      simp only [wFn, wSs, wS, wE, wA, wL, wT, wO, wC, wI, q_bii, q_btt, q_bti, q_bss, q_bl1, q_bl2, q_bl3, q_iadd, q_isub, q_imul, q_imod, q_idiv, q_ipow, q_tadd, q_trep, q_sadd, q_ladd, q_lrep, q_lkl, q_lko, q_lrl, q_lro, q_lrs, q_lsl, q_lso, q_lss, q_lst, q_aii, q_att2, q_clt, q_cle, q_cgt, q_cge, q_ceq, q_cne, q_cin, q_cni, q_cis, q_cin', q_eii, q_ebb, q_ess, q_tb, q_ti, q_tn, q_tt, q_tl, q_to, q_tc, q_int, q_inb, q_lnt, q_lnl, q_lnc, q_min, q_max, q_abs, q_tpt, q_tpl, q_lil, q_lit, q_sum, q_any, q_all, q_repr, q_fzi, q_fzb, q_fzs, q_fzn, q_fzt, q_fzl, q_fzo, q_fzc, q_fzr, q_fzf, q_ski, q_skb, q_sks, q_skn, q_skt, q_skl, q_sko, q_skf, q_ani, q_anb, q_ans, q_ann, q_ant, q_anl, q_ano, q_att, q_atl, q_ato, q_ri, q_rb, q_rs, q_rn, q_rt, q_rl, q_ro, q_rc, q_ixt, q_ixl, q_ixo, q_slt, q_sll, q_wt, q_r1, q_r2, List.map_cons, List.map_nil, List.cons_append, List.nil_append, List.replicate, List.getElem?_cons_zero, List.getElem?_cons_succ, List.set_cons_zero, List.set_cons_succ, Option.some.injEq, exists_eq_left', List.length_cons, List.length_nil, Bool.not_true, Bool.not_false, List.zip_cons_cons, List.zip_nil_right, List.foldl_cons, List.foldl_nil, true_and, and_true, if_true, if_false, Bool.false_eq_true, D.own.injEq, D.int.injEq, D.tup.injEq, D.lst.injEq, D.cell.injEq, D.bl.injEq, D.str.injEq, D.scr.injEq]
      refine ⟨c.length, _, rfl, Nat.le_refl _, by simp, hlast, ?_⟩
      simp only [thawS, wFn, wSs, wS, wE, wA, wL, wT, wO, wC, wI, q_bii, q_btt, q_bti, q_bss, q_bl1, q_bl2, q_bl3, q_iadd, q_isub, q_imul, q_imod, q_idiv, q_ipow, q_tadd, q_trep, q_sadd, q_ladd, q_lrep, q_lkl, q_lko, q_lrl, q_lro, q_lrs, q_lsl, q_lso, q_lss, q_lst, q_aii, q_att2, q_clt, q_cle, q_cgt, q_cge, q_ceq, q_cne, q_cin, q_cni, q_cis, q_cin', q_eii, q_ebb, q_ess, q_tb, q_ti, q_tn, q_tt, q_tl, q_to, q_tc, q_int, q_inb, q_lnt, q_lnl, q_lnc, q_min, q_max, q_abs, q_tpt, q_tpl, q_lil, q_lit, q_sum, q_any, q_all, q_repr, q_fzi, q_fzb, q_fzs, q_fzn, q_fzt, q_fzl, q_fzo, q_fzc, q_fzr, q_fzf, q_ski, q_skb, q_sks, q_skn, q_skt, q_skl, q_sko, q_skf, q_ani, q_anb, q_ans, q_ann, q_ant, q_anl, q_ano, q_att, q_atl, q_ato, q_ri, q_rb, q_rs, q_rn, q_rt, q_rl, q_ro, q_rc, q_ixt, q_ixl, q_ixo, q_slt, q_sll, q_wt, q_r1, q_r2, List.map_cons, List.map_nil, List.cons_append, List.nil_append, List.replicate, List.getElem?_cons_zero, List.getElem?_cons_succ, List.set_cons_zero, List.set_cons_succ, Option.some.injEq, exists_eq_left', List.length_cons, List.length_nil, Bool.not_true, Bool.not_false, List.zip_cons_cons, List.zip_nil_right, List.foldl_cons, List.foldl_nil, true_and, and_true, if_true, if_false, Bool.false_eq_true, D.own.injEq, D.int.injEq, D.tup.injEq, D.lst.injEq, D.cell.injEq, D.bl.injEq, D.str.injEq, D.scr.injEq]
      rw [List.take_left]
      exact hR _ _ ⟨m + 1, _, _, _, _, by omega, by rw [← he]; rfl, rfl, fun y hy => hx y (by simp [hy])⟩
    · rintro x q σ c' R' ⟨t5, t6, ys, zs, he, hz, rfl, rfl⟩ hR'
      cases zs with
      | nil => cases hz
      | cons z zs =>
        simp only [List.map_cons, List.cons.injEq] at hz
        obtain ⟨rfl, rfl⟩ := hz
        have hlast : (c ++ [Ob.lst ((ys.flatMap fun w => (List.range k).map fun (s : Nat) => w ++ [(s : Int)]).map tI)])[c.length]? = some (.lst ((ys.flatMap fun w => (List.range k).map fun (s : Nat) => w ++ [(s : Int)]).map tI)) := by simp
        have hz := wds_mem k m z (by rw [he]; simp)
        simp only [wFn, wSs, wS, wE, wA, wL, wT, wO, wC, wI, q_bii, q_btt, q_bti, q_bss, q_bl1, q_bl2, q_bl3, q_iadd, q_isub, q_imul, q_imod, q_idiv, q_ipow, q_tadd, q_trep, q_sadd, q_ladd, q_lrep, q_lkl, q_lko, q_lrl, q_lro, q_lrs, q_lsl, q_lso, q_lss, q_lst, q_aii, q_att2, q_clt, q_cle, q_cgt, q_cge, q_ceq, q_cne, q_cin, q_cni, q_cis, q_cin', q_eii, q_ebb, q_ess, q_tb, q_ti, q_tn, q_tt, q_tl, q_to, q_tc, q_int, q_inb, q_lnt, q_lnl, q_lnc, q_min, q_max, q_abs, q_tpt, q_tpl, q_lil, q_lit, q_sum, q_any, q_all, q_repr, q_fzi, q_fzb, q_fzs, q_fzn, q_fzt, q_fzl, q_fzo, q_fzc, q_fzr, q_fzf, q_ski, q_skb, q_sks, q_skn, q_skt, q_skl, q_sko, q_skf, q_ani, q_anb, q_ans, q_ann, q_ant, q_anl, q_ano, q_att, q_atl, q_ato, q_ri, q_rb, q_rs, q_rn, q_rt, q_rl, q_ro, q_rc, q_ixt, q_ixl, q_ixo, q_slt, q_sll, q_wt, q_r1, q_r2, List.map_cons, List.map_nil, List.cons_append, List.nil_append, List.replicate, List.getElem?_cons_zero, List.getElem?_cons_succ, List.set_cons_zero, List.set_cons_succ, Option.some.injEq, exists_eq_left', List.length_cons, List.length_nil, Bool.not_true, Bool.not_false, List.zip_cons_cons, List.zip_nil_right, List.foldl_cons, List.foldl_nil, true_and, and_true, if_true, if_false, Bool.false_eq_true, D.own.injEq, D.int.injEq, D.tup.injEq, D.lst.injEq, D.cell.injEq, D.bl.injEq, D.str.injEq, D.scr.injEq]
        refine ⟨by rw [lkR_cell hlast]; rfl, by unfold RgI; omega, ?_, ?_⟩
        · simp only [rngL, List.length_map, List.length_range]
          have : (1000 : Nat) ≤ sizeLine := by decide
          omega
        · refine lc_map (f := fun d => match d with | .int s => tI (z ++ [s]) | d => d) trivial (fun x hx K hK => ?_) ?_
          · simp only [rngL, List.mem_map, List.mem_range] at hx
            obtain ⟨s, hs, rfl⟩ := hx
            unfold lcTurn
            simp only [wipeD, wFn, wSs, wS, wE, wA, wL, wT, wO, wC, wI, q_bii, q_btt, q_bti, q_bss, q_bl1, q_bl2, q_bl3, q_iadd, q_isub, q_imul, q_imod, q_idiv, q_ipow, q_tadd, q_trep, q_sadd, q_ladd, q_lrep, q_lkl, q_lko, q_lrl, q_lro, q_lrs, q_lsl, q_lso, q_lss, q_lst, q_aii, q_att2, q_clt, q_cle, q_cgt, q_cge, q_ceq, q_cne, q_cin, q_cni, q_cis, q_cin', q_eii, q_ebb, q_ess, q_tb, q_ti, q_tn, q_tt, q_tl, q_to, q_tc, q_int, q_inb, q_lnt, q_lnl, q_lnc, q_min, q_max, q_abs, q_tpt, q_tpl, q_lil, q_lit, q_sum, q_any, q_all, q_repr, q_fzi, q_fzb, q_fzs, q_fzn, q_fzt, q_fzl, q_fzo, q_fzc, q_fzr, q_fzf, q_ski, q_skb, q_sks, q_skn, q_skt, q_skl, q_sko, q_skf, q_ani, q_anb, q_ans, q_ann, q_ant, q_anl, q_ano, q_att, q_atl, q_ato, q_ri, q_rb, q_rs, q_rn, q_rt, q_rl, q_ro, q_rc, q_ixt, q_ixl, q_ixo, q_slt, q_sll, q_wt, q_r1, q_r2, List.map_cons, List.map_nil, List.cons_append, List.nil_append, List.replicate, List.getElem?_cons_zero, List.getElem?_cons_succ, List.set_cons_zero, List.set_cons_succ, Option.some.injEq, exists_eq_left', List.length_cons, List.length_nil, Bool.not_true, Bool.not_false, List.zip_cons_cons, List.zip_nil_right, List.foldl_cons, List.foldl_nil, true_and, and_true, if_true, if_false, Bool.false_eq_true, D.own.injEq, D.int.injEq, D.tup.injEq, D.lst.injEq, D.cell.injEq, D.bl.injEq, D.str.injEq, D.scr.injEq]
            have h3 : (2000 : Nat) ≤ sizeLine := by decide
            refine ⟨by omega, by rw [List.length_map, hz.1]; omega, ?_⟩
            rw [show (D.tup (z.map D.int ++ [D.int (0 + (s : Int))])) = tI (z ++ [0 + (s : Int)]) by simp]
            exact hK
          · have eB : (rngL 0 (k : Int)).map (fun d => match d with | .int s => tI (z ++ [s]) | d => d) = ((List.range k).map fun (s : Nat) => z ++ [(s : Int)]).map tI := by
              simp [rngL, Function.comp_def]
            refine ⟨c.length, _, _, _, rfl, hlast, rfl, rfl, ?_, hR' _ _ ⟨_, _, ys ++ [z], zs, by rw [he]; simp, rfl, rfl, ?_⟩⟩
            · have h4 : (200000 : Nat) ≤ sizeLine := by decide
              have h5 : (ys.flatMap fun w => (List.range k).map fun (s : Nat) => w ++ [(s : Int)]).length ≤ k ^ (m + 1) := by
                rw [← wds_len k (m + 1)]
                simp only [wds, he, List.flatMap_append, List.length_append]
                omega
              simp only [List.length_map, rngL, List.length_range]
              omega
            · rw [eB]
              simp [List.flatMap_append]
theorem cut_nat (xs : List D) (i j : Nat) : cutD xs (some (i : Int)) (some (j : Int)) = (xs.drop i).take (j - i) := by
  unfold cutD
  rw [HT.sIx_nat, HT.sIx_nat]
  apply List.ext_getElem?
  intro n
  simp only [List.getElem?_take, List.getElem?_drop]
  by_cases h1 : i ≤ xs.length
  · rw [Nat.min_eq_left h1]
    by_cases h2 : j ≤ xs.length
    · rw [Nat.min_eq_left h2]
    · have e : ∀ m, i + n < m ↔ n < m - i := fun m => by omega
      by_cases h3 : i + n < xs.length
      · rw [if_pos (by omega), if_pos (by omega)]
      · rw [List.getElem?_eq_none (by omega)]
        split <;> split <;> rfl
  · rw [List.getElem?_eq_none (by omega), List.getElem?_eq_none (by omega)]
    split <;> split <;> rfl
theorem cut_to (xs : List D) (j : Nat) : cutD xs none (some (j : Int)) = xs.take j := by
  have := cut_nat xs 0 j
  simp only [List.drop_zero, Nat.sub_zero] at this
  exact this
theorem cut_from (xs : List D) (i : Nat) : cutD xs (some (i : Int)) none = xs.drop i := by
  unfold cutD
  rw [HT.sIx_nat, HT.sIx_none]
  by_cases h1 : i ≤ xs.length
  · rw [Nat.min_eq_left h1, List.take_of_length_le (by rw [List.length_drop]; omega)]
  · rw [Nat.min_eq_right (by omega), List.drop_length, List.drop_eq_nil_of_le (by omega), List.take_nil]
theorem cut_last (xs : List D) : cutD xs none (some (-1)) = xs.dropLast := by
  unfold cutD HT.sIx
  simp only [List.drop_zero, Nat.sub_zero]
  rw [if_pos (by decide), List.dropLast_eq_take]
  congr 1
  omega
theorem Rl.w256 {k w : Nat} {t : List Int} (hr : Rl k w t) : w ≤ 256 := by
  have := Nat.lt_pow_self (n := w) (by have := hr.k2; omega : 1 < k)
  have := hr.big
  omega
theorem int_map (f : Nat → Int) (n : Nat) (g : D → D) (h : ∀ i : Nat, i < n → g (.int (0 + (i : Int))) = .int (f i)) (m : Int) (hm : m.toNat = n) : (rngL 0 m).map g = ((List.range n).map f).map D.int := by
  unfold rngL
  rw [Int.sub_zero, hm, List.map_map, List.map_map]
  apply List.map_congr_left
  intro i hi
  exact h i (List.mem_range.mp hi)
theorem pu_image (hI : ∀ ds c Q E, spIndex ds c Q E → Γ "_law_index" ds c Q E) : ∀ ds c Q E, spImage ds c Q E → wFn Γ sub kind ir_law_image ds c Q E := by
  rintro _ c Q E ⟨k, w, t, ws, rfl, hr, hs, hl, h⟩
  simp only [ir_law_image, wFn, wSs, wS, wE, wA, wL, wT, wO, wC, wI, q_bii, q_btt, q_bti, q_bss, q_bl1, q_bl2, q_bl3, q_iadd, q_isub, q_imul, q_imod, q_idiv, q_ipow, q_tadd, q_trep, q_sadd, q_ladd, q_lrep, q_lkl, q_lko, q_lrl, q_lro, q_lrs, q_lsl, q_lso, q_lss, q_lst, q_aii, q_att2, q_clt, q_cle, q_cgt, q_cge, q_ceq, q_cne, q_cin, q_cni, q_cis, q_cin', q_eii, q_ebb, q_ess, q_tb, q_ti, q_tn, q_tt, q_tl, q_to, q_tc, q_int, q_inb, q_lnt, q_lnl, q_lnc, q_min, q_max, q_abs, q_tpt, q_tpl, q_lil, q_lit, q_sum, q_any, q_all, q_repr, q_fzi, q_fzb, q_fzs, q_fzn, q_fzt, q_fzl, q_fzo, q_fzc, q_fzr, q_fzf, q_ski, q_skb, q_sks, q_skn, q_skt, q_skl, q_sko, q_skf, q_ani, q_anb, q_ans, q_ann, q_ant, q_anl, q_ano, q_att, q_atl, q_ato, q_ri, q_rb, q_rs, q_rn, q_rt, q_rl, q_ro, q_rc, q_ixt, q_ixl, q_ixo, q_slt, q_sll, q_wt, q_r1, q_r2, List.map_cons, List.map_nil, List.cons_append, List.nil_append, List.replicate, List.getElem?_cons_zero, List.getElem?_cons_succ, List.set_cons_zero, List.set_cons_succ, Option.some.injEq, exists_eq_left', List.length_cons, List.length_nil, Bool.not_true, Bool.not_false, List.zip_cons_cons, List.zip_nil_right, List.foldl_cons, List.foldl_nil, true_and, and_true, if_true, if_false, Bool.false_eq_true, D.own.injEq, D.int.injEq, D.tup.injEq, D.lst.injEq, D.cell.injEq, D.bl.injEq, D.str.injEq, D.scr.injEq]
  have hw : w ≤ 256 := by
    have := Nat.lt_pow_self (n := w) (by have := hr.k2; omega : 1 < k)
    have := hr.big
    omega
  refine ⟨by unfold RgI; simp only [List.length_map]; omega, ?_, ?_⟩
  · have : (200000 : Nat) ≤ sizeLine := by decide
    simp only [rngL, List.length_map, List.length_range]
    omega
  · refine lc_map (f := fun d => match d with | .int i => .int (t.getD (idx k ((ws.drop i.toNat).take w)).toNat 0) | d => d) trivial (fun x hx K hK => ?_) ?_
    · simp only [rngL, List.mem_map, List.mem_range, List.length_map] at hx
      obtain ⟨i, hi, rfl⟩ := hx
      unfold lcTurn
      simp only [wipeD, wFn, wSs, wS, wE, wA, wL, wT, wO, wC, wI, q_bii, q_btt, q_bti, q_bss, q_bl1, q_bl2, q_bl3, q_iadd, q_isub, q_imul, q_imod, q_idiv, q_ipow, q_tadd, q_trep, q_sadd, q_ladd, q_lrep, q_lkl, q_lko, q_lrl, q_lro, q_lrs, q_lsl, q_lso, q_lss, q_lst, q_aii, q_att2, q_clt, q_cle, q_cgt, q_cge, q_ceq, q_cne, q_cin, q_cni, q_cis, q_cin', q_eii, q_ebb, q_ess, q_tb, q_ti, q_tn, q_tt, q_tl, q_to, q_tc, q_int, q_inb, q_lnt, q_lnl, q_lnc, q_min, q_max, q_abs, q_tpt, q_tpl, q_lil, q_lit, q_sum, q_any, q_all, q_repr, q_fzi, q_fzb, q_fzs, q_fzn, q_fzt, q_fzl, q_fzo, q_fzc, q_fzr, q_fzf, q_ski, q_skb, q_sks, q_skn, q_skt, q_skl, q_sko, q_skf, q_ani, q_anb, q_ans, q_ann, q_ant, q_anl, q_ano, q_att, q_atl, q_ato, q_ri, q_rb, q_rs, q_rn, q_rt, q_rl, q_ro, q_rc, q_ixt, q_ixl, q_ixo, q_slt, q_sll, q_wt, q_r1, q_r2, List.map_cons, List.map_nil, List.cons_append, List.nil_append, List.replicate, List.getElem?_cons_zero, List.getElem?_cons_succ, List.set_cons_zero, List.set_cons_succ, Option.some.injEq, exists_eq_left', List.length_cons, List.length_nil, Bool.not_true, Bool.not_false, List.zip_cons_cons, List.zip_nil_right, List.foldl_cons, List.foldl_nil, true_and, and_true, if_true, if_false, Bool.false_eq_true, D.own.injEq, D.int.injEq, D.tup.injEq, D.lst.injEq, D.cell.injEq, D.bl.injEq, D.str.injEq, D.scr.injEq]
      have hb : ((ws.drop i).take w).length = w := by rw [List.length_take, List.length_drop]; omega
      obtain ⟨v, hv1, hv2, _, _⟩ := hr.at_ (hs.sub i w) hb
      have hidx := (idx_lt (hs.sub i w)).1
      refine hI _ _ _ _ ⟨k, (ws.drop i).take w, ?_, by have := hr.k4; omega, ?_⟩
      · rw [Int.zero_add, ← Int.natCast_add, cut_nat, Nat.add_sub_cancel_left, ← List.map_drop, ← List.map_take]
      · refine ⟨_, _, .int v, rfl, rfl, atI_int hidx hv1, rfl, ?_⟩
        rw [hv2]
        simpa [D.fz] using hK
    · rw [int_map (fun i => t.getD (idx k ((ws.drop i).take w)).toNat 0) (ws.length + 1 - w) _ (fun i hi => by simp) _ (by simp only [List.length_map]; omega), List.take_length]
      exact h
/-! ### rings -/
/-- the word of a ring that tells all images -/
def lng (n : Nat) (ring : List Int) : List Int := ((List.replicate n ring).flatten).take n
theorem rep_prefix (ring : List Int) : ∀ a b : Nat, a ≤ b → ∃ r, (List.replicate b ring).flatten = (List.replicate a ring).flatten ++ r := by
  intro a b h
  refine ⟨(List.replicate (b - a) ring).flatten, ?_⟩
  rw [← List.flatten_append, List.replicate_append_replicate, Nat.add_sub_cancel' h]
theorem rep_take (ring : List Int) (m a b : Nat) (ha : m ≤ a * ring.length) (hb : m ≤ b * ring.length) : ((List.replicate a ring).flatten).take m = ((List.replicate b ring).flatten).take m := by
  have key : ∀ a b : Nat, a ≤ b → m ≤ a * ring.length → ((List.replicate a ring).flatten).take m = ((List.replicate b ring).flatten).take m := by
    intro a b h ha
    obtain ⟨r, e⟩ := rep_prefix ring a b h
    rw [e, List.take_append_of_le_length]
    simpa [List.length_flatten] using ha
  rcases Nat.le_total a b with h | h
  · exact key a b h ha
  · exact (key b a h hb).symm
theorem rep_st {k : Nat} {ring : List Int} (h : St k ring) (a m : Nat) : St k (((List.replicate a ring).flatten).take m) := by
  intro s hs
  have := List.mem_of_mem_take hs
  simp only [List.mem_flatten, List.mem_replicate] at this
  obtain ⟨l, ⟨_, rfl⟩, hl⟩ := this
  exact h s hl
/-- the ring's image -/
def rimg (k w : Nat) (t ring : List Int) : List Int := img k w t (lng (ring.length + w - 1) ring)
def spRing : DSp := fun ds c Q _ => ∃ (k w : Nat) (t ring : List Int), ds = [ruleD k w t, tI ring] ∧ Rl k w t ∧ St k ring ∧ ring ≠ [] ∧ ring.length ≤ 300 ∧ Q (tI (rimg k w t ring)) c
theorem pu_ring (hI : ∀ ds c Q E, spImage ds c Q E → Γ "_law_image" ds c Q E) : ∀ ds c Q E, spRing ds c Q E → wFn Γ sub kind ir_law_ring ds c Q E := by
  rintro _ c Q E ⟨k, w, t, ring, rfl, hr, hs, hne, hl, h⟩
  have hw := hr.w256
  have hw1 := hr.w1
  have hn : 1 ≤ ring.length := List.length_pos_iff.mpr hne
  simp only [ir_law_ring, wFn, wSs, wS, wE, wA, wL, wT, wO, wC, wI, q_bii, q_btt, q_bti, q_bss, q_bl1, q_bl2, q_bl3, q_iadd, q_isub, q_imul, q_imod, q_idiv, q_ipow, q_tadd, q_trep, q_sadd, q_ladd, q_lrep, q_lkl, q_lko, q_lrl, q_lro, q_lrs, q_lsl, q_lso, q_lss, q_lst, q_aii, q_att2, q_clt, q_cle, q_cgt, q_cge, q_ceq, q_cne, q_cin, q_cni, q_cis, q_cin', q_eii, q_ebb, q_ess, q_tb, q_ti, q_tn, q_tt, q_tl, q_to, q_tc, q_int, q_inb, q_lnt, q_lnl, q_lnc, q_min, q_max, q_abs, q_tpt, q_tpl, q_lil, q_lit, q_sum, q_any, q_all, q_repr, q_fzi, q_fzb, q_fzs, q_fzn, q_fzt, q_fzl, q_fzo, q_fzc, q_fzr, q_fzf, q_ski, q_skb, q_sks, q_skn, q_skt, q_skl, q_sko, q_skf, q_ani, q_anb, q_ans, q_ann, q_ant, q_anl, q_ano, q_att, q_atl, q_ato, q_ri, q_rb, q_rs, q_rn, q_rt, q_rl, q_ro, q_rc, q_ixt, q_ixl, q_ixo, q_slt, q_sll, q_wt, q_r1, q_r2, List.map_cons, List.map_nil, List.cons_append, List.nil_append, List.replicate, List.getElem?_cons_zero, List.getElem?_cons_succ, List.set_cons_zero, List.set_cons_succ, Option.some.injEq, exists_eq_left', List.length_cons, List.length_nil, Bool.not_true, Bool.not_false, List.zip_cons_cons, List.zip_nil_right, List.foldl_cons, List.foldl_nil, true_and, and_true, if_true, if_false, Bool.false_eq_true, D.own.injEq, D.int.injEq, D.tup.injEq, D.lst.injEq, D.cell.injEq, D.bl.injEq, D.str.injEq, D.scr.injEq]
  refine ⟨.int w, rfl, ?_⟩
  simp only [wFn, wSs, wS, wE, wA, wL, wT, wO, wC, wI, q_bii, q_btt, q_bti, q_bss, q_bl1, q_bl2, q_bl3, q_iadd, q_isub, q_imul, q_imod, q_idiv, q_ipow, q_tadd, q_trep, q_sadd, q_ladd, q_lrep, q_lkl, q_lko, q_lrl, q_lro, q_lrs, q_lsl, q_lso, q_lss, q_lst, q_aii, q_att2, q_clt, q_cle, q_cgt, q_cge, q_ceq, q_cne, q_cin, q_cni, q_cis, q_cin', q_eii, q_ebb, q_ess, q_tb, q_ti, q_tn, q_tt, q_tl, q_to, q_tc, q_int, q_inb, q_lnt, q_lnl, q_lnc, q_min, q_max, q_abs, q_tpt, q_tpl, q_lil, q_lit, q_sum, q_any, q_all, q_repr, q_fzi, q_fzb, q_fzs, q_fzn, q_fzt, q_fzl, q_fzo, q_fzc, q_fzr, q_fzf, q_ski, q_skb, q_sks, q_skn, q_skt, q_skl, q_sko, q_skf, q_ani, q_anb, q_ans, q_ann, q_ant, q_anl, q_ano, q_att, q_atl, q_ato, q_ri, q_rb, q_rs, q_rn, q_rt, q_rl, q_ro, q_rc, q_ixt, q_ixl, q_ixo, q_slt, q_sll, q_wt, q_r1, q_r2, List.map_cons, List.map_nil, List.cons_append, List.nil_append, List.replicate, List.getElem?_cons_zero, List.getElem?_cons_succ, List.set_cons_zero, List.set_cons_succ, Option.some.injEq, exists_eq_left', List.length_cons, List.length_nil, Bool.not_true, Bool.not_false, List.zip_cons_cons, List.zip_nil_right, List.foldl_cons, List.foldl_nil, true_and, and_true, if_true, if_false, Bool.false_eq_true, D.own.injEq, D.int.injEq, D.tup.injEq, D.lst.injEq, D.cell.injEq, D.bl.injEq, D.str.injEq, D.scr.injEq]
  refine ⟨by unfold RgI; omega, ?_⟩
  refine forGo_ind (I := fun r σ c' => ∃ (m : Nat) (t3 : Option D), m + r.length = w + 1 ∧ σ = [some (ruleD k w t), some (tI ring), some (tI (List.replicate m ring).flatten), t3] ∧ c = c' ∧ (∀ x ∈ r, ∃ i, x = .int i)) ?_ ?_ _ _ _
    ⟨1, none, by simp [rngL]; omega, by simp, rfl, fun x hx => by simp only [rngL, List.mem_map] at hx; obtain ⟨k, _, rfl⟩ := hx; exact ⟨_, rfl⟩⟩
  · rintro σ c' ⟨m, t3, hm, rfl, rfl, _⟩
    have : m = w + 1 := by simpa using hm
    subst this
    simp only [wFn, wSs, wS, wE, wA, wL, wT, wO, wC, wI, q_bii, q_btt, q_bti, q_bss, q_bl1, q_bl2, q_bl3, q_iadd, q_isub, q_imul, q_imod, q_idiv, q_ipow, q_tadd, q_trep, q_sadd, q_ladd, q_lrep, q_lkl, q_lko, q_lrl, q_lro, q_lrs, q_lsl, q_lso, q_lss, q_lst, q_aii, q_att2, q_clt, q_cle, q_cgt, q_cge, q_ceq, q_cne, q_cin, q_cni, q_cis, q_cin', q_eii, q_ebb, q_ess, q_tb, q_ti, q_tn, q_tt, q_tl, q_to, q_tc, q_int, q_inb, q_lnt, q_lnl, q_lnc, q_min, q_max, q_abs, q_tpt, q_tpl, q_lil, q_lit, q_sum, q_any, q_all, q_repr, q_fzi, q_fzb, q_fzs, q_fzn, q_fzt, q_fzl, q_fzo, q_fzc, q_fzr, q_fzf, q_ski, q_skb, q_sks, q_skn, q_skt, q_skl, q_sko, q_skf, q_ani, q_anb, q_ans, q_ann, q_ant, q_anl, q_ano, q_att, q_atl, q_ato, q_ri, q_rb, q_rs, q_rn, q_rt, q_rl, q_ro, q_rc, q_ixt, q_ixl, q_ixo, q_slt, q_sll, q_wt, q_r1, q_r2, List.map_cons, List.map_nil, List.cons_append, List.nil_append, List.replicate, List.getElem?_cons_zero, List.getElem?_cons_succ, List.set_cons_zero, List.set_cons_succ, Option.some.injEq, exists_eq_left', List.length_cons, List.length_nil, Bool.not_true, Bool.not_false, List.zip_cons_cons, List.zip_nil_right, List.foldl_cons, List.foldl_nil, true_and, and_true, if_true, if_false, Bool.false_eq_true, D.own.injEq, D.int.injEq, D.tup.injEq, D.lst.injEq, D.cell.injEq, D.bl.injEq, D.str.injEq, D.scr.injEq]
    refine ⟨.int w, rfl, ?_⟩
    simp only [wFn, wSs, wS, wE, wA, wL, wT, wO, wC, wI, q_bii, q_btt, q_bti, q_bss, q_bl1, q_bl2, q_bl3, q_iadd, q_isub, q_imul, q_imod, q_idiv, q_ipow, q_tadd, q_trep, q_sadd, q_ladd, q_lrep, q_lkl, q_lko, q_lrl, q_lro, q_lrs, q_lsl, q_lso, q_lss, q_lst, q_aii, q_att2, q_clt, q_cle, q_cgt, q_cge, q_ceq, q_cne, q_cin, q_cni, q_cis, q_cin', q_eii, q_ebb, q_ess, q_tb, q_ti, q_tn, q_tt, q_tl, q_to, q_tc, q_int, q_inb, q_lnt, q_lnl, q_lnc, q_min, q_max, q_abs, q_tpt, q_tpl, q_lil, q_lit, q_sum, q_any, q_all, q_repr, q_fzi, q_fzb, q_fzs, q_fzn, q_fzt, q_fzl, q_fzo, q_fzc, q_fzr, q_fzf, q_ski, q_skb, q_sks, q_skn, q_skt, q_skl, q_sko, q_skf, q_ani, q_anb, q_ans, q_ann, q_ant, q_anl, q_ano, q_att, q_atl, q_ato, q_ri, q_rb, q_rs, q_rn, q_rt, q_rl, q_ro, q_rc, q_ixt, q_ixl, q_ixo, q_slt, q_sll, q_wt, q_r1, q_r2, List.map_cons, List.map_nil, List.cons_append, List.nil_append, List.replicate, List.getElem?_cons_zero, List.getElem?_cons_succ, List.set_cons_zero, List.set_cons_succ, Option.some.injEq, exists_eq_left', List.length_cons, List.length_nil, Bool.not_true, Bool.not_false, List.zip_cons_cons, List.zip_nil_right, List.foldl_cons, List.foldl_nil, true_and, and_true, if_true, if_false, Bool.false_eq_true, D.own.injEq, D.int.injEq, D.tup.injEq, D.lst.injEq, D.cell.injEq, D.bl.injEq, D.str.injEq, D.scr.injEq]
    refine hI _ _ _ _ ⟨k, w, t, lng (ring.length + w - 1) ring, ?_, hr, rep_st hs _ _, by unfold lng; rw [List.length_take]; omega, ?_⟩
    · have e1 : ((ring.map D.int).length : Int) + (w : Int) - 1 = ((ring.length + w - 1 : Nat) : Int) := by rw [List.length_map]; omega
      have h7 : w ≤ w * ring.length := Nat.le_mul_of_pos_right w hn
      have h8 : ring.length + w - 1 ≤ (ring.length + w - 1) * ring.length := Nat.le_mul_of_pos_right _ hn
      rw [← List.replicate_succ, e1, cut_to, ← List.map_take]
      unfold lng
      rw [rep_take ring (ring.length + w - 1) (w + 1) (ring.length + w - 1) (by rw [Nat.add_mul]; omega) h8]
    · exact rt1 rfl rfl h
  · rintro x r σ c' R ⟨m, t3, hm, rfl, rfl, hx⟩ hR
    obtain ⟨i, rfl⟩ := hx x (by simp)
    simp only [List.length_cons] at hm
    simp only [wFn, wSs, wS, wE, wA, wL, wT, wO, wC, wI, q_bii, q_btt, q_bti, q_bss, q_bl1, q_bl2, q_bl3, q_iadd, q_isub, q_imul, q_imod, q_idiv, q_ipow, q_tadd, q_trep, q_sadd, q_ladd, q_lrep, q_lkl, q_lko, q_lrl, q_lro, q_lrs, q_lsl, q_lso, q_lss, q_lst, q_aii, q_att2, q_clt, q_cle, q_cgt, q_cge, q_ceq, q_cne, q_cin, q_cni, q_cis, q_cin', q_eii, q_ebb, q_ess, q_tb, q_ti, q_tn, q_tt, q_tl, q_to, q_tc, q_int, q_inb, q_lnt, q_lnl, q_lnc, q_min, q_max, q_abs, q_tpt, q_tpl, q_lil, q_lit, q_sum, q_any, q_all, q_repr, q_fzi, q_fzb, q_fzs, q_fzn, q_fzt, q_fzl, q_fzo, q_fzc, q_fzr, q_fzf, q_ski, q_skb, q_sks, q_skn, q_skt, q_skl, q_sko, q_skf, q_ani, q_anb, q_ans, q_ann, q_ant, q_anl, q_ano, q_att, q_atl, q_ato, q_ri, q_rb, q_rs, q_rn, q_rt, q_rl, q_ro, q_rc, q_ixt, q_ixl, q_ixo, q_slt, q_sll, q_wt, q_r1, q_r2, List.map_cons, List.map_nil, List.cons_append, List.nil_append, List.replicate, List.getElem?_cons_zero, List.getElem?_cons_succ, List.set_cons_zero, List.set_cons_succ, Option.some.injEq, exists_eq_left', List.length_cons, List.length_nil, Bool.not_true, Bool.not_false, List.zip_cons_cons, List.zip_nil_right, List.foldl_cons, List.foldl_nil, true_and, and_true, if_true, if_false, Bool.false_eq_true, D.own.injEq, D.int.injEq, D.tup.injEq, D.lst.injEq, D.cell.injEq, D.bl.injEq, D.str.injEq, D.scr.injEq]
    refine ⟨?_, hR _ _ ⟨m + 1, some (.int i), by omega, ?_, rfl, fun y hy => hx y (by simp [hy])⟩⟩
    · have h5 : (200000 : Nat) ≤ sizeLine := by decide
      have h6 : m * ring.length ≤ 256 * 300 := Nat.mul_le_mul (by omega) hl
      simp only [List.length_map, List.length_flatten, List.map_replicate, List.sum_replicate_nat]
      omega
    · rw [← List.map_append, List.replicate_succ', List.flatten_append]
      simp
end
end Ev

/-! # Pu3: drawn rules -/
namespace Ev
open PySem
theorem all2_st {k : Nat} : ∀ {xs ys : List D}, All2 (fun _ y => ∃ v : Int, y = .int v ∧ 0 ≤ v ∧ v < k) xs ys → ∃ vs : List Int, ys = vs.map .int ∧ St k vs ∧ vs.length = xs.length
  | [], _, .nil => ⟨[], rfl, (fun _ h => by cases h), rfl⟩
  | _ :: _, _, .cons ⟨v, hv, h0, h1⟩ r => by
    obtain ⟨vs, rfl, h2, h3⟩ := all2_st r
    refine ⟨v :: vs, by rw [hv]; rfl, fun s hs => ?_, by simp [h3]⟩
    rcases List.mem_cons.mp hs with rfl | q
    · exact ⟨h0, h1⟩
    · exact h2 s q
def spWord : DSp := fun ds c Q _ => ∃ (n k m : Nat), ds = [.cell n, .int k, .int m] ∧ 1 ≤ k ∧ m ≤ 10000 ∧ Dr n c ∧ ∀ (ws : List Int) c', ws.length = m → St k ws → Dn n c c' → Q (tI ws) c'
def spWide : DSp := fun ds c Q _ => ∃ (n k w : Nat), ds = [.cell n, .int k, .int w] ∧ 2 ≤ k ∧ k ≤ 4 ∧ 1 ≤ w ∧ k ^ w ≤ 256 ∧ Dr n c ∧ ∀ (t : List Int) c', Rl k w t → Dn n c c' → Q (ruleD k w t) c'
section
variable {Γ : Str → DSp} {sub : Str → Str → Option Bool} {kind : Str → Str → D}
theorem pu_word (hN : ∀ ds c Q E, spNext ds c Q E → Γ "_law_next" ds c Q E) : ∀ ds c Q E, spWord ds c Q E → wFn Γ sub kind ir_law_word ds c Q E := by
  rintro _ c Q E ⟨n, k, m, rfl, hk, hm, hd, h⟩
  simp only [ir_law_word, wFn, wSs, wS, wE, wA, wL, wT, wO, wC, wI, q_bii, q_btt, q_bti, q_bss, q_bl1, q_bl2, q_bl3, q_iadd, q_isub, q_imul, q_imod, q_idiv, q_ipow, q_tadd, q_trep, q_sadd, q_ladd, q_lrep, q_lkl, q_lko, q_lrl, q_lro, q_lrs, q_lsl, q_lso, q_lss, q_lst, q_aii, q_att2, q_clt, q_cle, q_cgt, q_cge, q_ceq, q_cne, q_cin, q_cni, q_cis, q_cin', q_eii, q_ebb, q_ess, q_tb, q_ti, q_tn, q_tt, q_tl, q_to, q_tc, q_int, q_inb, q_lnt, q_lnl, q_lnc, q_min, q_max, q_abs, q_tpt, q_tpl, q_lil, q_lit, q_sum, q_any, q_all, q_repr, q_fzi, q_fzb, q_fzs, q_fzn, q_fzt, q_fzl, q_fzo, q_fzc, q_fzr, q_fzf, q_ski, q_skb, q_sks, q_skn, q_skt, q_skl, q_sko, q_skf, q_ani, q_anb, q_ans, q_ann, q_ant, q_anl, q_ano, q_att, q_atl, q_ato, q_ri, q_rb, q_rs, q_rn, q_rt, q_rl, q_ro, q_rc, q_ixt, q_ixl, q_ixo, q_slt, q_sll, q_wt, q_r1, q_r2, List.map_cons, List.map_nil, List.cons_append, List.nil_append, List.replicate, List.getElem?_cons_zero, List.getElem?_cons_succ, List.set_cons_zero, List.set_cons_succ, Option.some.injEq, exists_eq_left', List.length_cons, List.length_nil, Bool.not_true, Bool.not_false, List.zip_cons_cons, List.zip_nil_right, List.foldl_cons, List.foldl_nil, true_and, and_true, if_true, if_false, Bool.false_eq_true, D.own.injEq, D.int.injEq, D.tup.injEq, D.lst.injEq, D.cell.injEq, D.bl.injEq, D.str.injEq, D.scr.injEq]
  refine ⟨by unfold RgI; omega, ?_, ?_⟩
  · have : (200000 : Nat) ≤ sizeLine := by decide
    simp only [rngL, List.length_map, List.length_range]
    omega
  · refine lc_draw (I := fun c' => Dn n c c') (R := fun _ y => ∃ v : Int, y = .int v ∧ 0 ≤ v ∧ v < k) hd.refl (fun _ _ => trivial) (fun x hx c' K hI hK => ?_) fun ys c' hys hI => ?_
    · simp only [rngL, List.mem_map] at hx
      obtain ⟨i, _, rfl⟩ := hx
      unfold lcTurn
      simp only [wipeD, wFn, wSs, wS, wE, wA, wL, wT, wO, wC, wI, q_bii, q_btt, q_bti, q_bss, q_bl1, q_bl2, q_bl3, q_iadd, q_isub, q_imul, q_imod, q_idiv, q_ipow, q_tadd, q_trep, q_sadd, q_ladd, q_lrep, q_lkl, q_lko, q_lrl, q_lro, q_lrs, q_lsl, q_lso, q_lss, q_lst, q_aii, q_att2, q_clt, q_cle, q_cgt, q_cge, q_ceq, q_cne, q_cin, q_cni, q_cis, q_cin', q_eii, q_ebb, q_ess, q_tb, q_ti, q_tn, q_tt, q_tl, q_to, q_tc, q_int, q_inb, q_lnt, q_lnl, q_lnc, q_min, q_max, q_abs, q_tpt, q_tpl, q_lil, q_lit, q_sum, q_any, q_all, q_repr, q_fzi, q_fzb, q_fzs, q_fzn, q_fzt, q_fzl, q_fzo, q_fzc, q_fzr, q_fzf, q_ski, q_skb, q_sks, q_skn, q_skt, q_skl, q_sko, q_skf, q_ani, q_anb, q_ans, q_ann, q_ant, q_anl, q_ano, q_att, q_atl, q_ato, q_ri, q_rb, q_rs, q_rn, q_rt, q_rl, q_ro, q_rc, q_ixt, q_ixl, q_ixo, q_slt, q_sll, q_wt, q_r1, q_r2, List.map_cons, List.map_nil, List.cons_append, List.nil_append, List.replicate, List.getElem?_cons_zero, List.getElem?_cons_succ, List.set_cons_zero, List.set_cons_succ, Option.some.injEq, exists_eq_left', List.length_cons, List.length_nil, Bool.not_true, Bool.not_false, List.zip_cons_cons, List.zip_nil_right, List.foldl_cons, List.foldl_nil, true_and, and_true, if_true, if_false, Bool.false_eq_true, D.own.injEq, D.int.injEq, D.tup.injEq, D.lst.injEq, D.cell.injEq, D.bl.injEq, D.str.injEq, D.scr.injEq]
      refine hN _ _ _ _ ⟨n, rfl, hI.dr hd.lt, fun i c2 h0 h1 h2 => ?_⟩
      simp only [wFn, wSs, wS, wE, wA, wL, wT, wO, wC, wI, q_bii, q_btt, q_bti, q_bss, q_bl1, q_bl2, q_bl3, q_iadd, q_isub, q_imul, q_imod, q_idiv, q_ipow, q_tadd, q_trep, q_sadd, q_ladd, q_lrep, q_lkl, q_lko, q_lrl, q_lro, q_lrs, q_lsl, q_lso, q_lss, q_lst, q_aii, q_att2, q_clt, q_cle, q_cgt, q_cge, q_ceq, q_cne, q_cin, q_cni, q_cis, q_cin', q_eii, q_ebb, q_ess, q_tb, q_ti, q_tn, q_tt, q_tl, q_to, q_tc, q_int, q_inb, q_lnt, q_lnl, q_lnc, q_min, q_max, q_abs, q_tpt, q_tpl, q_lil, q_lit, q_sum, q_any, q_all, q_repr, q_fzi, q_fzb, q_fzs, q_fzn, q_fzt, q_fzl, q_fzo, q_fzc, q_fzr, q_fzf, q_ski, q_skb, q_sks, q_skn, q_skt, q_skl, q_sko, q_skf, q_ani, q_anb, q_ans, q_ann, q_ant, q_anl, q_ano, q_att, q_atl, q_ato, q_ri, q_rb, q_rs, q_rn, q_rt, q_rl, q_ro, q_rc, q_ixt, q_ixl, q_ixo, q_slt, q_sll, q_wt, q_r1, q_r2, List.map_cons, List.map_nil, List.cons_append, List.nil_append, List.replicate, List.getElem?_cons_zero, List.getElem?_cons_succ, List.set_cons_zero, List.set_cons_succ, Option.some.injEq, exists_eq_left', List.length_cons, List.length_nil, Bool.not_true, Bool.not_false, List.zip_cons_cons, List.zip_nil_right, List.foldl_cons, List.foldl_nil, true_and, and_true, if_true, if_false, Bool.false_eq_true, D.own.injEq, D.int.injEq, D.tup.injEq, D.lst.injEq, D.cell.injEq, D.bl.injEq, D.str.injEq, D.scr.injEq]
      exact ⟨by omega, hK _ _ ⟨_, rfl, mod_st i hk⟩ (hI.trans h2)⟩
    · obtain ⟨vs, rfl, h2, h3⟩ := all2_st hys
      exact rt1 rfl hI.len (h vs c' (by rw [h3]; simp [rngL]) h2 hI)
theorem pu_wide (hN : ∀ ds c Q E, spNext ds c Q E → Γ "_law_next" ds c Q E) (hW : ∀ ds c Q E, spWords ds c Q E → Γ "_law_words" ds c Q E) : ∀ ds c Q E, spWide ds c Q E → wFn Γ sub kind ir_law_wide ds c Q E := by
  rintro _ c Q E ⟨n, k, w, rfl, hk, hk4, hw, hb, hd, h⟩
  have hw2 : w ≤ 256 := by
    have := Nat.lt_pow_self (n := w) (by omega : 1 < k)
    omega
  simp only [ir_law_wide, wFn, wSs, wS, wE, wA, wL, wT, wO, wC, wI, q_bii, q_btt, q_bti, q_bss, q_bl1, q_bl2, q_bl3, q_iadd, q_isub, q_imul, q_imod, q_idiv, q_ipow, q_tadd, q_trep, q_sadd, q_ladd, q_lrep, q_lkl, q_lko, q_lrl, q_lro, q_lrs, q_lsl, q_lso, q_lss, q_lst, q_aii, q_att2, q_clt, q_cle, q_cgt, q_cge, q_ceq, q_cne, q_cin, q_cni, q_cis, q_cin', q_eii, q_ebb, q_ess, q_tb, q_ti, q_tn, q_tt, q_tl, q_to, q_tc, q_int, q_inb, q_lnt, q_lnl, q_lnc, q_min, q_max, q_abs, q_tpt, q_tpl, q_lil, q_lit, q_sum, q_any, q_all, q_repr, q_fzi, q_fzb, q_fzs, q_fzn, q_fzt, q_fzl, q_fzo, q_fzc, q_fzr, q_fzf, q_ski, q_skb, q_sks, q_skn, q_skt, q_skl, q_sko, q_skf, q_ani, q_anb, q_ans, q_ann, q_ant, q_anl, q_ano, q_att, q_atl, q_ato, q_ri, q_rb, q_rs, q_rn, q_rt, q_rl, q_ro, q_rc, q_ixt, q_ixl, q_ixo, q_slt, q_sll, q_wt, q_r1, q_r2, List.map_cons, List.map_nil, List.cons_append, List.nil_append, List.replicate, List.getElem?_cons_zero, List.getElem?_cons_succ, List.set_cons_zero, List.set_cons_succ, Option.some.injEq, exists_eq_left', List.length_cons, List.length_nil, Bool.not_true, Bool.not_false, List.zip_cons_cons, List.zip_nil_right, List.foldl_cons, List.foldl_nil, true_and, and_true, if_true, if_false, Bool.false_eq_true, D.own.injEq, D.int.injEq, D.tup.injEq, D.lst.injEq, D.cell.injEq, D.bl.injEq, D.str.injEq, D.scr.injEq]
  refine hW _ _ _ _ ⟨k, w, rfl, by omega, by omega, by omega, by omega, ?_⟩
  have hsz : (200000 : Nat) ≤ sizeLine := by decide
  have hwl := wds_len k w
  refine ⟨_, rfl, by rw [List.length_map, hwl]; omega, ?_⟩
  refine lc_draw (I := fun c' => Dn n c c') (R := fun _ y => ∃ v : Int, y = .int v ∧ 0 ≤ v ∧ v < k) hd.refl (fun _ _ => rfl) (fun x hx c' K hI hK => ?_) fun ys c' hys hI => ?_
  · obtain ⟨z, hz, rfl⟩ := List.mem_map.mp hx
    unfold lcTurn
    simp only [wipeD, wFn, wSs, wS, wE, wA, wL, wT, wO, wC, wI, q_bii, q_btt, q_bti, q_bss, q_bl1, q_bl2, q_bl3, q_iadd, q_isub, q_imul, q_imod, q_idiv, q_ipow, q_tadd, q_trep, q_sadd, q_ladd, q_lrep, q_lkl, q_lko, q_lrl, q_lro, q_lrs, q_lsl, q_lso, q_lss, q_lst, q_aii, q_att2, q_clt, q_cle, q_cgt, q_cge, q_ceq, q_cne, q_cin, q_cni, q_cis, q_cin', q_eii, q_ebb, q_ess, q_tb, q_ti, q_tn, q_tt, q_tl, q_to, q_tc, q_int, q_inb, q_lnt, q_lnl, q_lnc, q_min, q_max, q_abs, q_tpt, q_tpl, q_lil, q_lit, q_sum, q_any, q_all, q_repr, q_fzi, q_fzb, q_fzs, q_fzn, q_fzt, q_fzl, q_fzo, q_fzc, q_fzr, q_fzf, q_ski, q_skb, q_sks, q_skn, q_skt, q_skl, q_sko, q_skf, q_ani, q_anb, q_ans, q_ann, q_ant, q_anl, q_ano, q_att, q_atl, q_ato, q_ri, q_rb, q_rs, q_rn, q_rt, q_rl, q_ro, q_rc, q_ixt, q_ixl, q_ixo, q_slt, q_sll, q_wt, q_r1, q_r2, List.map_cons, List.map_nil, List.cons_append, List.nil_append, List.replicate, List.getElem?_cons_zero, List.getElem?_cons_succ, List.set_cons_zero, List.set_cons_succ, Option.some.injEq, exists_eq_left', List.length_cons, List.length_nil, Bool.not_true, Bool.not_false, List.zip_cons_cons, List.zip_nil_right, List.foldl_cons, List.foldl_nil, true_and, and_true, if_true, if_false, Bool.false_eq_true, D.own.injEq, D.int.injEq, D.tup.injEq, D.lst.injEq, D.cell.injEq, D.bl.injEq, D.str.injEq, D.scr.injEq]
    refine hN _ _ _ _ ⟨n, rfl, hI.dr hd.lt, fun i c2 h0 h1 h2 => ?_⟩
    simp only [wFn, wSs, wS, wE, wA, wL, wT, wO, wC, wI, q_bii, q_btt, q_bti, q_bss, q_bl1, q_bl2, q_bl3, q_iadd, q_isub, q_imul, q_imod, q_idiv, q_ipow, q_tadd, q_trep, q_sadd, q_ladd, q_lrep, q_lkl, q_lko, q_lrl, q_lro, q_lrs, q_lsl, q_lso, q_lss, q_lst, q_aii, q_att2, q_clt, q_cle, q_cgt, q_cge, q_ceq, q_cne, q_cin, q_cni, q_cis, q_cin', q_eii, q_ebb, q_ess, q_tb, q_ti, q_tn, q_tt, q_tl, q_to, q_tc, q_int, q_inb, q_lnt, q_lnl, q_lnc, q_min, q_max, q_abs, q_tpt, q_tpl, q_lil, q_lit, q_sum, q_any, q_all, q_repr, q_fzi, q_fzb, q_fzs, q_fzn, q_fzt, q_fzl, q_fzo, q_fzc, q_fzr, q_fzf, q_ski, q_skb, q_sks, q_skn, q_skt, q_skl, q_sko, q_skf, q_ani, q_anb, q_ans, q_ann, q_ant, q_anl, q_ano, q_att, q_atl, q_ato, q_ri, q_rb, q_rs, q_rn, q_rt, q_rl, q_ro, q_rc, q_ixt, q_ixl, q_ixo, q_slt, q_sll, q_wt, q_r1, q_r2, List.map_cons, List.map_nil, List.cons_append, List.nil_append, List.replicate, List.getElem?_cons_zero, List.getElem?_cons_succ, List.set_cons_zero, List.set_cons_succ, Option.some.injEq, exists_eq_left', List.length_cons, List.length_nil, Bool.not_true, Bool.not_false, List.zip_cons_cons, List.zip_nil_right, List.foldl_cons, List.foldl_nil, true_and, and_true, if_true, if_false, Bool.false_eq_true, D.own.injEq, D.int.injEq, D.tup.injEq, D.lst.injEq, D.cell.injEq, D.bl.injEq, D.str.injEq, D.scr.injEq]
    exact ⟨by omega, hK _ _ ⟨_, rfl, mod_st i (by omega)⟩ (hI.trans h2)⟩
  · obtain ⟨vs, rfl, h2, h3⟩ := all2_st hys
    refine ⟨by omega, rt1 rfl hI.len (h vs c' ⟨hk, hk4, hw, hb, by rw [h3]; simp [hwl], h2⟩ hI)⟩
theorem rng_mem {x : D} {m : Nat} (h : x ∈ rngL 0 (m : Int)) : ∃ i : Nat, i < m ∧ x = .int i := by
  simp only [rngL, List.mem_map, List.mem_range] at h
  obtain ⟨i, hi, rfl⟩ := h
  exact ⟨i, by omega, by rw [Int.zero_add]⟩
theorem St.get {k : Nat} {w : List Int} (h : St k w) {i : Nat} (hi : i < w.length) : ∃ v : Int, (w.map D.int)[i]? = some (.int v) ∧ 0 ≤ v ∧ v < k := by
  refine ⟨w[i], by rw [List.getElem?_map, List.getElem?_eq_getElem hi]; rfl, h _ (List.getElem_mem hi)⟩
theorem pu_adding (hN : ∀ ds c Q E, spNext ds c Q E → Γ "_law_next" ds c Q E) (hW : ∀ ds c Q E, spWords ds c Q E → Γ "_law_words" ds c Q E) : ∀ ds c Q E, spWide ds c Q E → wFn Γ sub kind ir_law_adding ds c Q E := by
  rintro _ c Q E ⟨n, k, w, rfl, hk, hk4, hw, hb, hd, h⟩
  have hw2 : w ≤ 256 := by
    have := Nat.lt_pow_self (n := w) (by omega : 1 < k)
    omega
  have hsz : (200000 : Nat) ≤ sizeLine := by decide
  have hwl := wds_len k w
  simp only [ir_law_adding, wFn, wSs, wS, wE, wA, wL, wT, wO, wC, wI, q_bii, q_btt, q_bti, q_bss, q_bl1, q_bl2, q_bl3, q_iadd, q_isub, q_imul, q_imod, q_idiv, q_ipow, q_tadd, q_trep, q_sadd, q_ladd, q_lrep, q_lkl, q_lko, q_lrl, q_lro, q_lrs, q_lsl, q_lso, q_lss, q_lst, q_aii, q_att2, q_clt, q_cle, q_cgt, q_cge, q_ceq, q_cne, q_cin, q_cni, q_cis, q_cin', q_eii, q_ebb, q_ess, q_tb, q_ti, q_tn, q_tt, q_tl, q_to, q_tc, q_int, q_inb, q_lnt, q_lnl, q_lnc, q_min, q_max, q_abs, q_tpt, q_tpl, q_lil, q_lit, q_sum, q_any, q_all, q_repr, q_fzi, q_fzb, q_fzs, q_fzn, q_fzt, q_fzl, q_fzo, q_fzc, q_fzr, q_fzf, q_ski, q_skb, q_sks, q_skn, q_skt, q_skl, q_sko, q_skf, q_ani, q_anb, q_ans, q_ann, q_ant, q_anl, q_ano, q_att, q_atl, q_ato, q_ri, q_rb, q_rs, q_rn, q_rt, q_rl, q_ro, q_rc, q_ixt, q_ixl, q_ixo, q_slt, q_sll, q_wt, q_r1, q_r2, List.map_cons, List.map_nil, List.cons_append, List.nil_append, List.replicate, List.getElem?_cons_zero, List.getElem?_cons_succ, List.set_cons_zero, List.set_cons_succ, Option.some.injEq, exists_eq_left', List.length_cons, List.length_nil, Bool.not_true, Bool.not_false, List.zip_cons_cons, List.zip_nil_right, List.foldl_cons, List.foldl_nil, true_and, and_true, if_true, if_false, Bool.false_eq_true, D.own.injEq, D.int.injEq, D.tup.injEq, D.lst.injEq, D.cell.injEq, D.bl.injEq, D.str.injEq, D.scr.injEq]
  refine ⟨by unfold RgI; omega, by simp only [rngL, List.length_map, List.length_range]; omega, ?_⟩
  refine lc_draw (I := fun c' => Dn n c c') (R := fun _ y => ∃ v : Int, y = .int v ∧ 0 ≤ v ∧ v < k) hd.refl (fun _ _ => trivial) (fun x hx c' K hI hK => ?_) fun ys c' hys hI => ?_
  · obtain ⟨i, _, rfl⟩ := rng_mem hx
    unfold lcTurn
    simp only [wipeD, wFn, wSs, wS, wE, wA, wL, wT, wO, wC, wI, q_bii, q_btt, q_bti, q_bss, q_bl1, q_bl2, q_bl3, q_iadd, q_isub, q_imul, q_imod, q_idiv, q_ipow, q_tadd, q_trep, q_sadd, q_ladd, q_lrep, q_lkl, q_lko, q_lrl, q_lro, q_lrs, q_lsl, q_lso, q_lss, q_lst, q_aii, q_att2, q_clt, q_cle, q_cgt, q_cge, q_ceq, q_cne, q_cin, q_cni, q_cis, q_cin', q_eii, q_ebb, q_ess, q_tb, q_ti, q_tn, q_tt, q_tl, q_to, q_tc, q_int, q_inb, q_lnt, q_lnl, q_lnc, q_min, q_max, q_abs, q_tpt, q_tpl, q_lil, q_lit, q_sum, q_any, q_all, q_repr, q_fzi, q_fzb, q_fzs, q_fzn, q_fzt, q_fzl, q_fzo, q_fzc, q_fzr, q_fzf, q_ski, q_skb, q_sks, q_skn, q_skt, q_skl, q_sko, q_skf, q_ani, q_anb, q_ans, q_ann, q_ant, q_anl, q_ano, q_att, q_atl, q_ato, q_ri, q_rb, q_rs, q_rn, q_rt, q_rl, q_ro, q_rc, q_ixt, q_ixl, q_ixo, q_slt, q_sll, q_wt, q_r1, q_r2, List.map_cons, List.map_nil, List.cons_append, List.nil_append, List.replicate, List.getElem?_cons_zero, List.getElem?_cons_succ, List.set_cons_zero, List.set_cons_succ, Option.some.injEq, exists_eq_left', List.length_cons, List.length_nil, Bool.not_true, Bool.not_false, List.zip_cons_cons, List.zip_nil_right, List.foldl_cons, List.foldl_nil, true_and, and_true, if_true, if_false, Bool.false_eq_true, D.own.injEq, D.int.injEq, D.tup.injEq, D.lst.injEq, D.cell.injEq, D.bl.injEq, D.str.injEq, D.scr.injEq]
    refine hN _ _ _ _ ⟨n, rfl, hI.dr hd.lt, fun i c2 h0 h1 h2 => ?_⟩
    simp only [wFn, wSs, wS, wE, wA, wL, wT, wO, wC, wI, q_bii, q_btt, q_bti, q_bss, q_bl1, q_bl2, q_bl3, q_iadd, q_isub, q_imul, q_imod, q_idiv, q_ipow, q_tadd, q_trep, q_sadd, q_ladd, q_lrep, q_lkl, q_lko, q_lrl, q_lro, q_lrs, q_lsl, q_lso, q_lss, q_lst, q_aii, q_att2, q_clt, q_cle, q_cgt, q_cge, q_ceq, q_cne, q_cin, q_cni, q_cis, q_cin', q_eii, q_ebb, q_ess, q_tb, q_ti, q_tn, q_tt, q_tl, q_to, q_tc, q_int, q_inb, q_lnt, q_lnl, q_lnc, q_min, q_max, q_abs, q_tpt, q_tpl, q_lil, q_lit, q_sum, q_any, q_all, q_repr, q_fzi, q_fzb, q_fzs, q_fzn, q_fzt, q_fzl, q_fzo, q_fzc, q_fzr, q_fzf, q_ski, q_skb, q_sks, q_skn, q_skt, q_skl, q_sko, q_skf, q_ani, q_anb, q_ans, q_ann, q_ant, q_anl, q_ano, q_att, q_atl, q_ato, q_ri, q_rb, q_rs, q_rn, q_rt, q_rl, q_ro, q_rc, q_ixt, q_ixl, q_ixo, q_slt, q_sll, q_wt, q_r1, q_r2, List.map_cons, List.map_nil, List.cons_append, List.nil_append, List.replicate, List.getElem?_cons_zero, List.getElem?_cons_succ, List.set_cons_zero, List.set_cons_succ, Option.some.injEq, exists_eq_left', List.length_cons, List.length_nil, Bool.not_true, Bool.not_false, List.zip_cons_cons, List.zip_nil_right, List.foldl_cons, List.foldl_nil, true_and, and_true, if_true, if_false, Bool.false_eq_true, D.own.injEq, D.int.injEq, D.tup.injEq, D.lst.injEq, D.cell.injEq, D.bl.injEq, D.str.injEq, D.scr.injEq]
    exact ⟨by omega, hK _ _ ⟨_, rfl, mod_st i (by omega)⟩ (hI.trans h2)⟩
  · obtain ⟨fs, rfl, hfs, hfl⟩ := all2_st hys
    have hfl' : fs.length = w := by rw [hfl]; simp [rngL]
    refine hN _ _ _ _ ⟨n, rfl, hI.dr hd.lt, fun i c2 h0 h1 h2 => ?_⟩
    simp only [wFn, wSs, wS, wE, wA, wL, wT, wO, wC, wI, q_bii, q_btt, q_bti, q_bss, q_bl1, q_bl2, q_bl3, q_iadd, q_isub, q_imul, q_imod, q_idiv, q_ipow, q_tadd, q_trep, q_sadd, q_ladd, q_lrep, q_lkl, q_lko, q_lrl, q_lro, q_lrs, q_lsl, q_lso, q_lss, q_lst, q_aii, q_att2, q_clt, q_cle, q_cgt, q_cge, q_ceq, q_cne, q_cin, q_cni, q_cis, q_cin', q_eii, q_ebb, q_ess, q_tb, q_ti, q_tn, q_tt, q_tl, q_to, q_tc, q_int, q_inb, q_lnt, q_lnl, q_lnc, q_min, q_max, q_abs, q_tpt, q_tpl, q_lil, q_lit, q_sum, q_any, q_all, q_repr, q_fzi, q_fzb, q_fzs, q_fzn, q_fzt, q_fzl, q_fzo, q_fzc, q_fzr, q_fzf, q_ski, q_skb, q_sks, q_skn, q_skt, q_skl, q_sko, q_skf, q_ani, q_anb, q_ans, q_ann, q_ant, q_anl, q_ano, q_att, q_atl, q_ato, q_ri, q_rb, q_rs, q_rn, q_rt, q_rl, q_ro, q_rc, q_ixt, q_ixl, q_ixo, q_slt, q_sll, q_wt, q_r1, q_r2, List.map_cons, List.map_nil, List.cons_append, List.nil_append, List.replicate, List.getElem?_cons_zero, List.getElem?_cons_succ, List.set_cons_zero, List.set_cons_succ, Option.some.injEq, exists_eq_left', List.length_cons, List.length_nil, Bool.not_true, Bool.not_false, List.zip_cons_cons, List.zip_nil_right, List.foldl_cons, List.foldl_nil, true_and, and_true, if_true, if_false, Bool.false_eq_true, D.own.injEq, D.int.injEq, D.tup.injEq, D.lst.injEq, D.cell.injEq, D.bl.injEq, D.str.injEq, D.scr.injEq]
    refine ⟨by omega, ?_⟩
    have hD := hI.trans h2
    refine hW _ _ _ _ ⟨k, w, rfl, by omega, by omega, by omega, by omega, ?_⟩
    refine ⟨_, rfl, by rw [List.length_map, hwl]; omega, ?_⟩
    have key : ∀ z ∈ wds k w, ∃ v : Int, 0 ≤ v ∧ v < k ∧ True := fun z _ => ⟨0, by omega, by omega, trivial⟩
    refine lc_draw (I := fun c' => c2 = c') (R := fun _ y => ∃ v : Int, y = .int v ∧ 0 ≤ v ∧ v < k) rfl (fun _ _ => rfl) (fun x hx c' K hI2 hK => ?_) fun ys c' hys hI2 => ?_
    · subst hI2
      obtain ⟨z, hz, rfl⟩ := List.mem_map.mp hx
      obtain ⟨hz1, hz2⟩ := wds_mem k w z hz
      unfold lcTurn
      simp only [wipeD, wFn, wSs, wS, wE, wA, wL, wT, wO, wC, wI, q_bii, q_btt, q_bti, q_bss, q_bl1, q_bl2, q_bl3, q_iadd, q_isub, q_imul, q_imod, q_idiv, q_ipow, q_tadd, q_trep, q_sadd, q_ladd, q_lrep, q_lkl, q_lko, q_lrl, q_lro, q_lrs, q_lsl, q_lso, q_lss, q_lst, q_aii, q_att2, q_clt, q_cle, q_cgt, q_cge, q_ceq, q_cne, q_cin, q_cni, q_cis, q_cin', q_eii, q_ebb, q_ess, q_tb, q_ti, q_tn, q_tt, q_tl, q_to, q_tc, q_int, q_inb, q_lnt, q_lnl, q_lnc, q_min, q_max, q_abs, q_tpt, q_tpl, q_lil, q_lit, q_sum, q_any, q_all, q_repr, q_fzi, q_fzb, q_fzs, q_fzn, q_fzt, q_fzl, q_fzo, q_fzc, q_fzr, q_fzf, q_ski, q_skb, q_sks, q_skn, q_skt, q_skl, q_sko, q_skf, q_ani, q_anb, q_ans, q_ann, q_ant, q_anl, q_ano, q_att, q_atl, q_ato, q_ri, q_rb, q_rs, q_rn, q_rt, q_rl, q_ro, q_rc, q_ixt, q_ixl, q_ixo, q_slt, q_sll, q_wt, q_r1, q_r2, List.map_cons, List.map_nil, List.cons_append, List.nil_append, List.replicate, List.getElem?_cons_zero, List.getElem?_cons_succ, List.set_cons_zero, List.set_cons_succ, Option.some.injEq, exists_eq_left', List.length_cons, List.length_nil, Bool.not_true, Bool.not_false, List.zip_cons_cons, List.zip_nil_right, List.foldl_cons, List.foldl_nil, true_and, and_true, if_true, if_false, Bool.false_eq_true, D.own.injEq, D.int.injEq, D.tup.injEq, D.lst.injEq, D.cell.injEq, D.bl.injEq, D.str.injEq, D.scr.injEq]
      refine ⟨by unfold RgI; omega, by simp only [rngL, List.length_map, List.length_range]; omega, ?_⟩
      refine lc_map (f := fun d => match d with | .int i => .int (fs.getD i.toNat 0 * z.getD i.toNat 0) | d => d) trivial (fun x hx K2 hK2 => ?_) ?_
      · obtain ⟨j, hj, rfl⟩ := rng_mem hx
        obtain ⟨v1, e1, a1, b1⟩ := hfs.get (i := j) (by omega)
        obtain ⟨v2, e2, a2, b2⟩ := hz2.get (i := j) (by omega)
        simp only [wFn, wSs, wS, wE, wA, wL, wT, wO, wC, wI, q_bii, q_btt, q_bti, q_bss, q_bl1, q_bl2, q_bl3, q_iadd, q_isub, q_imul, q_imod, q_idiv, q_ipow, q_tadd, q_trep, q_sadd, q_ladd, q_lrep, q_lkl, q_lko, q_lrl, q_lro, q_lrs, q_lsl, q_lso, q_lss, q_lst, q_aii, q_att2, q_clt, q_cle, q_cgt, q_cge, q_ceq, q_cne, q_cin, q_cni, q_cis, q_cin', q_eii, q_ebb, q_ess, q_tb, q_ti, q_tn, q_tt, q_tl, q_to, q_tc, q_int, q_inb, q_lnt, q_lnl, q_lnc, q_min, q_max, q_abs, q_tpt, q_tpl, q_lil, q_lit, q_sum, q_any, q_all, q_repr, q_fzi, q_fzb, q_fzs, q_fzn, q_fzt, q_fzl, q_fzo, q_fzc, q_fzr, q_fzf, q_ski, q_skb, q_sks, q_skn, q_skt, q_skl, q_sko, q_skf, q_ani, q_anb, q_ans, q_ann, q_ant, q_anl, q_ano, q_att, q_atl, q_ato, q_ri, q_rb, q_rs, q_rn, q_rt, q_rl, q_ro, q_rc, q_ixt, q_ixl, q_ixo, q_slt, q_sll, q_wt, q_r1, q_r2, List.map_cons, List.map_nil, List.cons_append, List.nil_append, List.replicate, List.getElem?_cons_zero, List.getElem?_cons_succ, List.set_cons_zero, List.set_cons_succ, Option.some.injEq, exists_eq_left', List.length_cons, List.length_nil, Bool.not_true, Bool.not_false, List.zip_cons_cons, List.zip_nil_right, List.foldl_cons, List.foldl_nil, true_and, and_true, if_true, if_false, Bool.false_eq_true, D.own.injEq, D.int.injEq, D.tup.injEq, D.lst.injEq, D.cell.injEq, D.bl.injEq, D.str.injEq, D.scr.injEq]
        refine ⟨.int v1, atI_nat e1, .int v2, atI_nat e2, ?_⟩
        simp only [wFn, wSs, wS, wE, wA, wL, wT, wO, wC, wI, q_bii, q_btt, q_bti, q_bss, q_bl1, q_bl2, q_bl3, q_iadd, q_isub, q_imul, q_imod, q_idiv, q_ipow, q_tadd, q_trep, q_sadd, q_ladd, q_lrep, q_lkl, q_lko, q_lrl, q_lro, q_lrs, q_lsl, q_lso, q_lss, q_lst, q_aii, q_att2, q_clt, q_cle, q_cgt, q_cge, q_ceq, q_cne, q_cin, q_cni, q_cis, q_cin', q_eii, q_ebb, q_ess, q_tb, q_ti, q_tn, q_tt, q_tl, q_to, q_tc, q_int, q_inb, q_lnt, q_lnl, q_lnc, q_min, q_max, q_abs, q_tpt, q_tpl, q_lil, q_lit, q_sum, q_any, q_all, q_repr, q_fzi, q_fzb, q_fzs, q_fzn, q_fzt, q_fzl, q_fzo, q_fzc, q_fzr, q_fzf, q_ski, q_skb, q_sks, q_skn, q_skt, q_skl, q_sko, q_skf, q_ani, q_anb, q_ans, q_ann, q_ant, q_anl, q_ano, q_att, q_atl, q_ato, q_ri, q_rb, q_rs, q_rn, q_rt, q_rl, q_ro, q_rc, q_ixt, q_ixl, q_ixo, q_slt, q_sll, q_wt, q_r1, q_r2, List.map_cons, List.map_nil, List.cons_append, List.nil_append, List.replicate, List.getElem?_cons_zero, List.getElem?_cons_succ, List.set_cons_zero, List.set_cons_succ, Option.some.injEq, exists_eq_left', List.length_cons, List.length_nil, Bool.not_true, Bool.not_false, List.zip_cons_cons, List.zip_nil_right, List.foldl_cons, List.foldl_nil, true_and, and_true, if_true, if_false, Bool.false_eq_true, D.own.injEq, D.int.injEq, D.tup.injEq, D.lst.injEq, D.cell.injEq, D.bl.injEq, D.str.injEq, D.scr.injEq]
        refine ⟨by unfold L2.CMul; omega, ?_⟩
        have g1 : fs.getD j 0 = v1 := by
          rw [List.getElem?_map] at e1
          rw [List.getD_eq_getElem?_getD]
          cases q : fs[j]? with
          | none => rw [q] at e1; cases e1
          | some u => rw [q] at e1; cases e1; rfl
        have g2 : z.getD j 0 = v2 := by
          rw [List.getElem?_map] at e2
          rw [List.getD_eq_getElem?_getD]
          cases q : z[j]? with
          | none => rw [q] at e2; cases e2
          | some u => rw [q] at e2; cases e2; rfl
        simp only [Int.toNat_natCast] at hK2
        rw [g1, g2] at hK2
        exact hK2
      · have e := int_map (fun i => fs.getD i 0 * z.getD i 0) w (fun d => match d with | .int i => .int (fs.getD i.toNat 0 * z.getD i.toNat 0) | d => d) (fun i hi => by simp) (w : Int) (by simp)
        exact ⟨_, (List.range w).map (fun i => fs.getD i 0 * z.getD i 0), rfl, by rw [e]; exact intsOf_map _, by omega, hK _ _ ⟨_, rfl, mod_st _ (by omega)⟩ rfl⟩
    · subst hI2
      obtain ⟨vs, rfl, h2, h3⟩ := all2_st hys
      refine ⟨by omega, rt1 rfl hD.len (h vs c2 ⟨hk, hk4, hw, hb, by rw [h3]; simp [hwl], h2⟩ hD)⟩
theorem cut_tail (xs : List D) : cutD xs (some 1) none = xs.drop 1 := cut_from xs 1
theorem atI_last {xs : List D} (h : xs ≠ []) : L2.atI xs (-1) = some (xs.getLast h) := by
  have hl : 0 < xs.length := List.length_pos_iff.mpr h
  unfold L2.atI L2.ixN
  rw [if_neg (by decide), if_pos (by omega)]
  show xs[((-1 : Int) + (xs.length : Nat)).toNat]? = _
  rw [show ((-1 : Int) + (xs.length : Nat)).toNat = xs.length - 1 by omega, List.getLast_eq_getElem, List.getElem?_eq_getElem (by omega)]
theorem atI_zero {xs : List D} (h : xs ≠ []) : L2.atI xs 0 = some (xs.head h) := by
  cases xs with
  | nil => exact absurd rfl h
  | cons x r => exact atI_nat (xs := x :: r) (i := 0) rfl
theorem atI_lastI {z : List Int} (h : z ≠ []) : L2.atI (z.map D.int) (-1) = some (.int (z.getLast h)) := by
  rw [atI_last (by simpa using h), List.getLast_map]
theorem atI_zeroI {z : List Int} (h : z ≠ []) : L2.atI (z.map D.int) 0 = some (.int (z.head h)) := by
  rw [atI_zero (by simpa using h), List.head_map]
theorem St.dropLast {k : Nat} {w : List Int} (h : St k w) : St k w.dropLast := fun s hs => h s (List.dropLast_subset _ hs)
theorem St.drop {k : Nat} {w : List Int} (h : St k w) (n : Nat) : St k (w.drop n) := fun s hs => h s (List.mem_of_mem_drop hs)
theorem pu_permuting (hN : ∀ ds c Q E, spNext ds c Q E → Γ "_law_next" ds c Q E) (hW : ∀ ds c Q E, spWords ds c Q E → Γ "_law_words" ds c Q E) (hI : ∀ ds c Q E, spIndex ds c Q E → Γ "_law_index" ds c Q E) :
    ∀ ds c Q E, spWide ds c Q E → wFn Γ sub kind ir_law_permuting ds c Q E := by
  rintro _ c Q E ⟨n, k, w, rfl, hk, hk4, hw, hb, hd, h⟩
  have hw2 : w ≤ 256 := by
    have := Nat.lt_pow_self (n := w) (by omega : 1 < k)
    omega
  have hsz : (200000 : Nat) ≤ sizeLine := by decide
  have hwl := wds_len k w
  have hwl1 := wds_len k (w - 1)
  have hb1 : k ^ (w - 1) ≤ k ^ w := pow_le (by omega) (by omega)
  simp only [ir_law_permuting, wFn, wSs, wS, wE, wA, wL, wT, wO, wC, wI, q_bii, q_btt, q_bti, q_bss, q_bl1, q_bl2, q_bl3, q_iadd, q_isub, q_imul, q_imod, q_idiv, q_ipow, q_tadd, q_trep, q_sadd, q_ladd, q_lrep, q_lkl, q_lko, q_lrl, q_lro, q_lrs, q_lsl, q_lso, q_lss, q_lst, q_aii, q_att2, q_clt, q_cle, q_cgt, q_cge, q_ceq, q_cne, q_cin, q_cni, q_cis, q_cin', q_eii, q_ebb, q_ess, q_tb, q_ti, q_tn, q_tt, q_tl, q_to, q_tc, q_int, q_inb, q_lnt, q_lnl, q_lnc, q_min, q_max, q_abs, q_tpt, q_tpl, q_lil, q_lit, q_sum, q_any, q_all, q_repr, q_fzi, q_fzb, q_fzs, q_fzn, q_fzt, q_fzl, q_fzo, q_fzc, q_fzr, q_fzf, q_ski, q_skb, q_sks, q_skn, q_skt, q_skl, q_sko, q_skf, q_ani, q_anb, q_ans, q_ann, q_ant, q_anl, q_ano, q_att, q_atl, q_ato, q_ri, q_rb, q_rs, q_rn, q_rt, q_rl, q_ro, q_rc, q_ixt, q_ixl, q_ixo, q_slt, q_sll, q_wt, q_r1, q_r2, List.map_cons, List.map_nil, List.cons_append, List.nil_append, List.replicate, List.getElem?_cons_zero, List.getElem?_cons_succ, List.set_cons_zero, List.set_cons_succ, Option.some.injEq, exists_eq_left', List.length_cons, List.length_nil, Bool.not_true, Bool.not_false, List.zip_cons_cons, List.zip_nil_right, List.foldl_cons, List.foldl_nil, true_and, and_true, if_true, if_false, Bool.false_eq_true, D.own.injEq, D.int.injEq, D.tup.injEq, D.lst.injEq, D.cell.injEq, D.bl.injEq, D.str.injEq, D.scr.injEq]
  refine hN _ _ _ _ ⟨n, rfl, hd, fun i c1 h0 h1 hd1 => ?_⟩
  simp only [wFn, wSs, wS, wE, wA, wL, wT, wO, wC, wI, q_bii, q_btt, q_bti, q_bss, q_bl1, q_bl2, q_bl3, q_iadd, q_isub, q_imul, q_imod, q_idiv, q_ipow, q_tadd, q_trep, q_sadd, q_ladd, q_lrep, q_lkl, q_lko, q_lrl, q_lro, q_lrs, q_lsl, q_lso, q_lss, q_lst, q_aii, q_att2, q_clt, q_cle, q_cgt, q_cge, q_ceq, q_cne, q_cin, q_cni, q_cis, q_cin', q_eii, q_ebb, q_ess, q_tb, q_ti, q_tn, q_tt, q_tl, q_to, q_tc, q_int, q_inb, q_lnt, q_lnl, q_lnc, q_min, q_max, q_abs, q_tpt, q_tpl, q_lil, q_lit, q_sum, q_any, q_all, q_repr, q_fzi, q_fzb, q_fzs, q_fzn, q_fzt, q_fzl, q_fzo, q_fzc, q_fzr, q_fzf, q_ski, q_skb, q_sks, q_skn, q_skt, q_skl, q_sko, q_skf, q_ani, q_anb, q_ans, q_ann, q_ant, q_anl, q_ano, q_att, q_atl, q_ato, q_ri, q_rb, q_rs, q_rn, q_rt, q_rl, q_ro, q_rc, q_ixt, q_ixl, q_ixo, q_slt, q_sll, q_wt, q_r1, q_r2, List.map_cons, List.map_nil, List.cons_append, List.nil_append, List.replicate, List.getElem?_cons_zero, List.getElem?_cons_succ, List.set_cons_zero, List.set_cons_succ, Option.some.injEq, exists_eq_left', List.length_cons, List.length_nil, Bool.not_true, Bool.not_false, List.zip_cons_cons, List.zip_nil_right, List.foldl_cons, List.foldl_nil, true_and, and_true, if_true, if_false, Bool.false_eq_true, D.own.injEq, D.int.injEq, D.tup.injEq, D.lst.injEq, D.cell.injEq, D.bl.injEq, D.str.injEq, D.scr.injEq]
  refine ⟨by omega, ?_⟩
  generalize i % 2 = last
  refine hW _ _ _ _ ⟨k, w - 1, by rw [Int.natCast_sub hw]; rfl, by omega, by omega, by omega, by omega, ?_⟩
  refine ⟨_, rfl, by rw [List.length_map, hwl1]; omega, ?_⟩
  refine lc_draw (I := fun c' => Dn n c c') (R := fun _ y => ∃ v : Int, y = .int v ∧ 0 ≤ v ∧ v < k) hd1 (fun _ _ => rfl) (fun x hx c' K hI hK => ?_) fun ys c2 hys hd2 => ?_
  · obtain ⟨z, hz, rfl⟩ := List.mem_map.mp hx
    unfold lcTurn
    simp only [wipeD, wFn, wSs, wS, wE, wA, wL, wT, wO, wC, wI, q_bii, q_btt, q_bti, q_bss, q_bl1, q_bl2, q_bl3, q_iadd, q_isub, q_imul, q_imod, q_idiv, q_ipow, q_tadd, q_trep, q_sadd, q_ladd, q_lrep, q_lkl, q_lko, q_lrl, q_lro, q_lrs, q_lsl, q_lso, q_lss, q_lst, q_aii, q_att2, q_clt, q_cle, q_cgt, q_cge, q_ceq, q_cne, q_cin, q_cni, q_cis, q_cin', q_eii, q_ebb, q_ess, q_tb, q_ti, q_tn, q_tt, q_tl, q_to, q_tc, q_int, q_inb, q_lnt, q_lnl, q_lnc, q_min, q_max, q_abs, q_tpt, q_tpl, q_lil, q_lit, q_sum, q_any, q_all, q_repr, q_fzi, q_fzb, q_fzs, q_fzn, q_fzt, q_fzl, q_fzo, q_fzc, q_fzr, q_fzf, q_ski, q_skb, q_sks, q_skn, q_skt, q_skl, q_sko, q_skf, q_ani, q_anb, q_ans, q_ann, q_ant, q_anl, q_ano, q_att, q_atl, q_ato, q_ri, q_rb, q_rs, q_rn, q_rt, q_rl, q_ro, q_rc, q_ixt, q_ixl, q_ixo, q_slt, q_sll, q_wt, q_r1, q_r2, List.map_cons, List.map_nil, List.cons_append, List.nil_append, List.replicate, List.getElem?_cons_zero, List.getElem?_cons_succ, List.set_cons_zero, List.set_cons_succ, Option.some.injEq, exists_eq_left', List.length_cons, List.length_nil, Bool.not_true, Bool.not_false, List.zip_cons_cons, List.zip_nil_right, List.foldl_cons, List.foldl_nil, true_and, and_true, if_true, if_false, Bool.false_eq_true, D.own.injEq, D.int.injEq, D.tup.injEq, D.lst.injEq, D.cell.injEq, D.bl.injEq, D.str.injEq, D.scr.injEq]
    refine hN _ _ _ _ ⟨n, rfl, hI.dr hd.lt, fun i c2 h0 h1 h2 => ?_⟩
    simp only [wFn, wSs, wS, wE, wA, wL, wT, wO, wC, wI, q_bii, q_btt, q_bti, q_bss, q_bl1, q_bl2, q_bl3, q_iadd, q_isub, q_imul, q_imod, q_idiv, q_ipow, q_tadd, q_trep, q_sadd, q_ladd, q_lrep, q_lkl, q_lko, q_lrl, q_lro, q_lrs, q_lsl, q_lso, q_lss, q_lst, q_aii, q_att2, q_clt, q_cle, q_cgt, q_cge, q_ceq, q_cne, q_cin, q_cni, q_cis, q_cin', q_eii, q_ebb, q_ess, q_tb, q_ti, q_tn, q_tt, q_tl, q_to, q_tc, q_int, q_inb, q_lnt, q_lnl, q_lnc, q_min, q_max, q_abs, q_tpt, q_tpl, q_lil, q_lit, q_sum, q_any, q_all, q_repr, q_fzi, q_fzb, q_fzs, q_fzn, q_fzt, q_fzl, q_fzo, q_fzc, q_fzr, q_fzf, q_ski, q_skb, q_sks, q_skn, q_skt, q_skl, q_sko, q_skf, q_ani, q_anb, q_ans, q_ann, q_ant, q_anl, q_ano, q_att, q_atl, q_ato, q_ri, q_rb, q_rs, q_rn, q_rt, q_rl, q_ro, q_rc, q_ixt, q_ixl, q_ixo, q_slt, q_sll, q_wt, q_r1, q_r2, List.map_cons, List.map_nil, List.cons_append, List.nil_append, List.replicate, List.getElem?_cons_zero, List.getElem?_cons_succ, List.set_cons_zero, List.set_cons_succ, Option.some.injEq, exists_eq_left', List.length_cons, List.length_nil, Bool.not_true, Bool.not_false, List.zip_cons_cons, List.zip_nil_right, List.foldl_cons, List.foldl_nil, true_and, and_true, if_true, if_false, Bool.false_eq_true, D.own.injEq, D.int.injEq, D.tup.injEq, D.lst.injEq, D.cell.injEq, D.bl.injEq, D.str.injEq, D.scr.injEq]
    exact ⟨by omega, hK _ _ ⟨_, rfl, mod_st i (by omega)⟩ (hI.trans h2)⟩
  · obtain ⟨ts, rfl, ht, htl⟩ := all2_st hys
    have htl' : ts.length = k ^ (w - 1) := by rw [htl, List.length_map, hwl1]
    refine ⟨Nat.zero_le _, ?_⟩
    refine hW _ _ _ _ ⟨k, w, rfl, by omega, by omega, by omega, by omega, ?_⟩
    refine ⟨_, rfl, ?_⟩
    have hnl : n < c2.length := by rw [hd2.len]; exact hd.lt
    refine forGo_ind (I := fun r σ c' => ∃ (tb : List Int) (zs : List (List Int)) (t6 t7 t8 : Option D), St k tb ∧ tb.length + r.length = k ^ w ∧ r = zs.map tI ∧ (∀ z ∈ zs, z.length = w ∧ St k z) ∧
      σ = [some (.cell n), some (.int k), some (.int w), some (.int last), some (.lst (ts.map .int)), some (.cell c2.length), t6, t7, t8] ∧ c' = c2 ++ [.lst (tb.map .int)]) ?_ ?_ _ _ _
      ⟨[], wds k w, none, none, none, (fun _ h => by cases h), by simp [hwl], rfl, wds_mem k w, rfl, rfl⟩
    · rintro σ c' ⟨tb, zs, t6, t7, t8, hst, hl, _, _, rfl, rfl⟩
      have hlast : (c2 ++ [Ob.lst (tb.map D.int)])[c2.length]? = some (.lst (tb.map .int)) := by simp
      simp only [wFn, wSs, wS, wE, wA, wL, wT, wO, wC, wI, q_bii, q_btt, q_bti, q_bss, q_bl1, q_bl2, q_bl3, q_iadd, q_isub, q_imul, q_imod, q_idiv, q_ipow, q_tadd, q_trep, q_sadd, q_ladd, q_lrep, q_lkl, q_lko, q_lrl, q_lro, q_lrs, q_lsl, q_lso, q_lss, q_lst, q_aii, q_att2, q_clt, q_cle, q_cgt, q_cge, q_ceq, q_cne, q_cin, q_cni, q_cis, q_cin', q_eii, q_ebb, q_ess, q_tb, q_ti, q_tn, q_tt, q_tl, q_to, q_tc, q_int, q_inb, q_lnt, q_lnl, q_lnc, q_min, q_max, q_abs, q_tpt, q_tpl, q_lil, q_lit, q_sum, q_any, q_all, q_repr, q_fzi, q_fzb, q_fzs, q_fzn, q_fzt, q_fzl, q_fzo, q_fzc, q_fzr, q_fzf, q_ski, q_skb, q_sks, q_skn, q_skt, q_skl, q_sko, q_skf, q_ani, q_anb, q_ans, q_ann, q_ant, q_anl, q_ano, q_att, q_atl, q_ato, q_ri, q_rb, q_rs, q_rn, q_rt, q_rl, q_ro, q_rc, q_ixt, q_ixl, q_ixo, q_slt, q_sll, q_wt, q_r1, q_r2, List.map_cons, List.map_nil, List.cons_append, List.nil_append, List.replicate, List.getElem?_cons_zero, List.getElem?_cons_succ, List.set_cons_zero, List.set_cons_succ, Option.some.injEq, exists_eq_left', List.length_cons, List.length_nil, Bool.not_true, Bool.not_false, List.zip_cons_cons, List.zip_nil_right, List.foldl_cons, List.foldl_nil, true_and, and_true, if_true, if_false, Bool.false_eq_true, D.own.injEq, D.int.injEq, D.tup.injEq, D.lst.injEq, D.cell.injEq, D.bl.injEq, D.str.injEq, D.scr.injEq]
      refine ⟨tb.map .int, lkR_cell hlast, rfl, by show 3 ≤ sizeLine; omega, ?_⟩
      rw [← hd2.len, List.take_left]
      exact h tb c2 ⟨hk, hk4, hw, hb, by simpa using hl, hst⟩ hd2
    · rintro x r σ c' R ⟨tb, zs, t6, t7, t8, hst, hl, hz, hzs, rfl, rfl⟩ hR
      cases zs with
      | nil => cases hz
      | cons z zs =>
        simp only [List.map_cons, List.cons.injEq] at hz
        obtain ⟨rfl, rfl⟩ := hz
        obtain ⟨hz1, hz2⟩ := hzs z (by simp)
        have hzn : z ≠ [] := by rintro rfl; simp at hz1; omega
        have hzn' : z.map D.int ≠ [] := by simpa using hzn
        have hlast : (c2 ++ [Ob.lst (tb.map D.int)])[c2.length]? = some (.lst (tb.map .int)) := by simp
        simp only [List.length_cons] at hl
        -- what is behind the choice of the side
        have rest : ∀ (inner : List Int), inner.length = w - 1 → St k inner → ∃ v : Int, (ts.map D.int)[(idx k inner).toNat]? = some (.int v) := fun inner h1 h2 => by
          have := (idx_lt h2).2
          rw [h1, ← htl'] at this
          exact ⟨_, by rw [List.getElem?_map, List.getElem?_eq_getElem this]; rfl⟩
        simp only [wFn, wSs, wS, wE, wA, wL, wT, wO, wC, wI, q_bii, q_btt, q_bti, q_bss, q_bl1, q_bl2, q_bl3, q_iadd, q_isub, q_imul, q_imod, q_idiv, q_ipow, q_tadd, q_trep, q_sadd, q_ladd, q_lrep, q_lkl, q_lko, q_lrl, q_lro, q_lrs, q_lsl, q_lso, q_lss, q_lst, q_aii, q_att2, q_clt, q_cle, q_cgt, q_cge, q_ceq, q_cne, q_cin, q_cni, q_cis, q_cin', q_eii, q_ebb, q_ess, q_tb, q_ti, q_tn, q_tt, q_tl, q_to, q_tc, q_int, q_inb, q_lnt, q_lnl, q_lnc, q_min, q_max, q_abs, q_tpt, q_tpl, q_lil, q_lit, q_sum, q_any, q_all, q_repr, q_fzi, q_fzb, q_fzs, q_fzn, q_fzt, q_fzl, q_fzo, q_fzc, q_fzr, q_fzf, q_ski, q_skb, q_sks, q_skn, q_skt, q_skl, q_sko, q_skf, q_ani, q_anb, q_ans, q_ann, q_ant, q_anl, q_ano, q_att, q_atl, q_ato, q_ri, q_rb, q_rs, q_rn, q_rt, q_rl, q_ro, q_rc, q_ixt, q_ixl, q_ixo, q_slt, q_sll, q_wt, q_r1, q_r2, List.map_cons, List.map_nil, List.cons_append, List.nil_append, List.replicate, List.getElem?_cons_zero, List.getElem?_cons_succ, List.set_cons_zero, List.set_cons_succ, Option.some.injEq, exists_eq_left', List.length_cons, List.length_nil, Bool.not_true, Bool.not_false, List.zip_cons_cons, List.zip_nil_right, List.foldl_cons, List.foldl_nil, true_and, and_true, if_true, if_false, Bool.false_eq_true, D.own.injEq, D.int.injEq, D.tup.injEq, D.lst.injEq, D.cell.injEq, D.bl.injEq, D.str.injEq, D.scr.injEq]
        refine iteB (fun _ => ?_) fun _ => ?_
        · refine ⟨_, atI_lastI hzn, ?_⟩
          have hin : z.dropLast.length = w - 1 := by simp [hz1]
          have hst2 : St k z.dropLast := hz2.dropLast
          obtain ⟨v, hv⟩ := rest _ hin hst2
          simp only [wFn, wSs, wS, wE, wA, wL, wT, wO, wC, wI, q_bii, q_btt, q_bti, q_bss, q_bl1, q_bl2, q_bl3, q_iadd, q_isub, q_imul, q_imod, q_idiv, q_ipow, q_tadd, q_trep, q_sadd, q_ladd, q_lrep, q_lkl, q_lko, q_lrl, q_lro, q_lrs, q_lsl, q_lso, q_lss, q_lst, q_aii, q_att2, q_clt, q_cle, q_cgt, q_cge, q_ceq, q_cne, q_cin, q_cni, q_cis, q_cin', q_eii, q_ebb, q_ess, q_tb, q_ti, q_tn, q_tt, q_tl, q_to, q_tc, q_int, q_inb, q_lnt, q_lnl, q_lnc, q_min, q_max, q_abs, q_tpt, q_tpl, q_lil, q_lit, q_sum, q_any, q_all, q_repr, q_fzi, q_fzb, q_fzs, q_fzn, q_fzt, q_fzl, q_fzo, q_fzc, q_fzr, q_fzf, q_ski, q_skb, q_sks, q_skn, q_skt, q_skl, q_sko, q_skf, q_ani, q_anb, q_ans, q_ann, q_ant, q_anl, q_ano, q_att, q_atl, q_ato, q_ri, q_rb, q_rs, q_rn, q_rt, q_rl, q_ro, q_rc, q_ixt, q_ixl, q_ixo, q_slt, q_sll, q_wt, q_r1, q_r2, List.map_cons, List.map_nil, List.cons_append, List.nil_append, List.replicate, List.getElem?_cons_zero, List.getElem?_cons_succ, List.set_cons_zero, List.set_cons_succ, Option.some.injEq, exists_eq_left', List.length_cons, List.length_nil, Bool.not_true, Bool.not_false, List.zip_cons_cons, List.zip_nil_right, List.foldl_cons, List.foldl_nil, true_and, and_true, if_true, if_false, Bool.false_eq_true, D.own.injEq, D.int.injEq, D.tup.injEq, D.lst.injEq, D.cell.injEq, D.bl.injEq, D.str.injEq, D.scr.injEq]
          refine ⟨by omega, by rw [lkR_cell hlast]; rfl, hI _ _ _ _ ⟨k, z.dropLast, by rw [cut_last]; simp, by omega, ?_⟩⟩
          simp only [wFn, wSs, wS, wE, wA, wL, wT, wO, wC, wI, q_bii, q_btt, q_bti, q_bss, q_bl1, q_bl2, q_bl3, q_iadd, q_isub, q_imul, q_imod, q_idiv, q_ipow, q_tadd, q_trep, q_sadd, q_ladd, q_lrep, q_lkl, q_lko, q_lrl, q_lro, q_lrs, q_lsl, q_lso, q_lss, q_lst, q_aii, q_att2, q_clt, q_cle, q_cgt, q_cge, q_ceq, q_cne, q_cin, q_cni, q_cis, q_cin', q_eii, q_ebb, q_ess, q_tb, q_ti, q_tn, q_tt, q_tl, q_to, q_tc, q_int, q_inb, q_lnt, q_lnl, q_lnc, q_min, q_max, q_abs, q_tpt, q_tpl, q_lil, q_lit, q_sum, q_any, q_all, q_repr, q_fzi, q_fzb, q_fzs, q_fzn, q_fzt, q_fzl, q_fzo, q_fzc, q_fzr, q_fzf, q_ski, q_skb, q_sks, q_skn, q_skt, q_skl, q_sko, q_skf, q_ani, q_anb, q_ans, q_ann, q_ant, q_anl, q_ano, q_att, q_atl, q_ato, q_ri, q_rb, q_rs, q_rn, q_rt, q_rl, q_ro, q_rc, q_ixt, q_ixl, q_ixo, q_slt, q_sll, q_wt, q_r1, q_r2, List.map_cons, List.map_nil, List.cons_append, List.nil_append, List.replicate, List.getElem?_cons_zero, List.getElem?_cons_succ, List.set_cons_zero, List.set_cons_succ, Option.some.injEq, exists_eq_left', List.length_cons, List.length_nil, Bool.not_true, Bool.not_false, List.zip_cons_cons, List.zip_nil_right, List.foldl_cons, List.foldl_nil, true_and, and_true, if_true, if_false, Bool.false_eq_true, D.own.injEq, D.int.injEq, D.tup.injEq, D.lst.injEq, D.cell.injEq, D.bl.injEq, D.str.injEq, D.scr.injEq]
          refine ⟨_, atI_int (idx_lt hst2).1 hv, ?_⟩
          simp only [wFn, wSs, wS, wE, wA, wL, wT, wO, wC, wI, q_bii, q_btt, q_bti, q_bss, q_bl1, q_bl2, q_bl3, q_iadd, q_isub, q_imul, q_imod, q_idiv, q_ipow, q_tadd, q_trep, q_sadd, q_ladd, q_lrep, q_lkl, q_lko, q_lrl, q_lro, q_lrs, q_lsl, q_lso, q_lss, q_lst, q_aii, q_att2, q_clt, q_cle, q_cgt, q_cge, q_ceq, q_cne, q_cin, q_cni, q_cis, q_cin', q_eii, q_ebb, q_ess, q_tb, q_ti, q_tn, q_tt, q_tl, q_to, q_tc, q_int, q_inb, q_lnt, q_lnl, q_lnc, q_min, q_max, q_abs, q_tpt, q_tpl, q_lil, q_lit, q_sum, q_any, q_all, q_repr, q_fzi, q_fzb, q_fzs, q_fzn, q_fzt, q_fzl, q_fzo, q_fzc, q_fzr, q_fzf, q_ski, q_skb, q_sks, q_skn, q_skt, q_skl, q_sko, q_skf, q_ani, q_anb, q_ans, q_ann, q_ant, q_anl, q_ano, q_att, q_atl, q_ato, q_ri, q_rb, q_rs, q_rn, q_rt, q_rl, q_ro, q_rc, q_ixt, q_ixl, q_ixo, q_slt, q_sll, q_wt, q_r1, q_r2, List.map_cons, List.map_nil, List.cons_append, List.nil_append, List.replicate, List.getElem?_cons_zero, List.getElem?_cons_succ, List.set_cons_zero, List.set_cons_succ, Option.some.injEq, exists_eq_left', List.length_cons, List.length_nil, Bool.not_true, Bool.not_false, List.zip_cons_cons, List.zip_nil_right, List.foldl_cons, List.foldl_nil, true_and, and_true, if_true, if_false, Bool.false_eq_true, D.own.injEq, D.int.injEq, D.tup.injEq, D.lst.injEq, D.cell.injEq, D.bl.injEq, D.str.injEq, D.scr.injEq]
          refine ⟨by omega, c2.length, _, _, rfl, hlast, rfl, ?_, rfl, hR _ _ ⟨tb ++ [((z.getLast hzn) + v) % (k : Int)], zs, some (tI z), some (.tup (cutD (z.map D.int) none (some (-1)))), some (.int (z.getLast hzn)), fun s hs => ?_, by simp only [List.length_map, List.length_append, List.length_singleton] at hl ⊢; omega, rfl, fun y hy => hzs y (by simp [hy]), rfl, by simp⟩⟩
          · simp only [List.length_map]
            omega
          · rcases List.mem_append.mp hs with q | q
            · exact hst s q
            · simp only [List.mem_singleton] at q
              rw [q]
              exact mod_st _ (by omega)
        · refine ⟨_, atI_zeroI hzn, ?_⟩
          have hin : (z.drop 1).length = w - 1 := by simp [hz1]
          have hst2 : St k (z.drop 1) := (hz2.drop 1)
          obtain ⟨v, hv⟩ := rest _ hin hst2
          simp only [wFn, wSs, wS, wE, wA, wL, wT, wO, wC, wI, q_bii, q_btt, q_bti, q_bss, q_bl1, q_bl2, q_bl3, q_iadd, q_isub, q_imul, q_imod, q_idiv, q_ipow, q_tadd, q_trep, q_sadd, q_ladd, q_lrep, q_lkl, q_lko, q_lrl, q_lro, q_lrs, q_lsl, q_lso, q_lss, q_lst, q_aii, q_att2, q_clt, q_cle, q_cgt, q_cge, q_ceq, q_cne, q_cin, q_cni, q_cis, q_cin', q_eii, q_ebb, q_ess, q_tb, q_ti, q_tn, q_tt, q_tl, q_to, q_tc, q_int, q_inb, q_lnt, q_lnl, q_lnc, q_min, q_max, q_abs, q_tpt, q_tpl, q_lil, q_lit, q_sum, q_any, q_all, q_repr, q_fzi, q_fzb, q_fzs, q_fzn, q_fzt, q_fzl, q_fzo, q_fzc, q_fzr, q_fzf, q_ski, q_skb, q_sks, q_skn, q_skt, q_skl, q_sko, q_skf, q_ani, q_anb, q_ans, q_ann, q_ant, q_anl, q_ano, q_att, q_atl, q_ato, q_ri, q_rb, q_rs, q_rn, q_rt, q_rl, q_ro, q_rc, q_ixt, q_ixl, q_ixo, q_slt, q_sll, q_wt, q_r1, q_r2, List.map_cons, List.map_nil, List.cons_append, List.nil_append, List.replicate, List.getElem?_cons_zero, List.getElem?_cons_succ, List.set_cons_zero, List.set_cons_succ, Option.some.injEq, exists_eq_left', List.length_cons, List.length_nil, Bool.not_true, Bool.not_false, List.zip_cons_cons, List.zip_nil_right, List.foldl_cons, List.foldl_nil, true_and, and_true, if_true, if_false, Bool.false_eq_true, D.own.injEq, D.int.injEq, D.tup.injEq, D.lst.injEq, D.cell.injEq, D.bl.injEq, D.str.injEq, D.scr.injEq]
          refine ⟨by omega, by rw [lkR_cell hlast]; rfl, hI _ _ _ _ ⟨k, (z.drop 1), by rw [cut_tail]; simp, by omega, ?_⟩⟩
          simp only [wFn, wSs, wS, wE, wA, wL, wT, wO, wC, wI, q_bii, q_btt, q_bti, q_bss, q_bl1, q_bl2, q_bl3, q_iadd, q_isub, q_imul, q_imod, q_idiv, q_ipow, q_tadd, q_trep, q_sadd, q_ladd, q_lrep, q_lkl, q_lko, q_lrl, q_lro, q_lrs, q_lsl, q_lso, q_lss, q_lst, q_aii, q_att2, q_clt, q_cle, q_cgt, q_cge, q_ceq, q_cne, q_cin, q_cni, q_cis, q_cin', q_eii, q_ebb, q_ess, q_tb, q_ti, q_tn, q_tt, q_tl, q_to, q_tc, q_int, q_inb, q_lnt, q_lnl, q_lnc, q_min, q_max, q_abs, q_tpt, q_tpl, q_lil, q_lit, q_sum, q_any, q_all, q_repr, q_fzi, q_fzb, q_fzs, q_fzn, q_fzt, q_fzl, q_fzo, q_fzc, q_fzr, q_fzf, q_ski, q_skb, q_sks, q_skn, q_skt, q_skl, q_sko, q_skf, q_ani, q_anb, q_ans, q_ann, q_ant, q_anl, q_ano, q_att, q_atl, q_ato, q_ri, q_rb, q_rs, q_rn, q_rt, q_rl, q_ro, q_rc, q_ixt, q_ixl, q_ixo, q_slt, q_sll, q_wt, q_r1, q_r2, List.map_cons, List.map_nil, List.cons_append, List.nil_append, List.replicate, List.getElem?_cons_zero, List.getElem?_cons_succ, List.set_cons_zero, List.set_cons_succ, Option.some.injEq, exists_eq_left', List.length_cons, List.length_nil, Bool.not_true, Bool.not_false, List.zip_cons_cons, List.zip_nil_right, List.foldl_cons, List.foldl_nil, true_and, and_true, if_true, if_false, Bool.false_eq_true, D.own.injEq, D.int.injEq, D.tup.injEq, D.lst.injEq, D.cell.injEq, D.bl.injEq, D.str.injEq, D.scr.injEq]
          refine ⟨_, atI_int (idx_lt hst2).1 hv, ?_⟩
          simp only [wFn, wSs, wS, wE, wA, wL, wT, wO, wC, wI, q_bii, q_btt, q_bti, q_bss, q_bl1, q_bl2, q_bl3, q_iadd, q_isub, q_imul, q_imod, q_idiv, q_ipow, q_tadd, q_trep, q_sadd, q_ladd, q_lrep, q_lkl, q_lko, q_lrl, q_lro, q_lrs, q_lsl, q_lso, q_lss, q_lst, q_aii, q_att2, q_clt, q_cle, q_cgt, q_cge, q_ceq, q_cne, q_cin, q_cni, q_cis, q_cin', q_eii, q_ebb, q_ess, q_tb, q_ti, q_tn, q_tt, q_tl, q_to, q_tc, q_int, q_inb, q_lnt, q_lnl, q_lnc, q_min, q_max, q_abs, q_tpt, q_tpl, q_lil, q_lit, q_sum, q_any, q_all, q_repr, q_fzi, q_fzb, q_fzs, q_fzn, q_fzt, q_fzl, q_fzo, q_fzc, q_fzr, q_fzf, q_ski, q_skb, q_sks, q_skn, q_skt, q_skl, q_sko, q_skf, q_ani, q_anb, q_ans, q_ann, q_ant, q_anl, q_ano, q_att, q_atl, q_ato, q_ri, q_rb, q_rs, q_rn, q_rt, q_rl, q_ro, q_rc, q_ixt, q_ixl, q_ixo, q_slt, q_sll, q_wt, q_r1, q_r2, List.map_cons, List.map_nil, List.cons_append, List.nil_append, List.replicate, List.getElem?_cons_zero, List.getElem?_cons_succ, List.set_cons_zero, List.set_cons_succ, Option.some.injEq, exists_eq_left', List.length_cons, List.length_nil, Bool.not_true, Bool.not_false, List.zip_cons_cons, List.zip_nil_right, List.foldl_cons, List.foldl_nil, true_and, and_true, if_true, if_false, Bool.false_eq_true, D.own.injEq, D.int.injEq, D.tup.injEq, D.lst.injEq, D.cell.injEq, D.bl.injEq, D.str.injEq, D.scr.injEq]
          refine ⟨by omega, c2.length, _, _, rfl, hlast, rfl, ?_, rfl, hR _ _ ⟨tb ++ [((z.head hzn) + v) % (k : Int)], zs, some (tI z), some (.tup (cutD (z.map D.int) (some 1) none)), some (.int (z.head hzn)), fun s hs => ?_, by simp only [List.length_map, List.length_append, List.length_singleton] at hl ⊢; omega, rfl, fun y hy => hzs y (by simp [hy]), rfl, by simp⟩⟩
          · simp only [List.length_map]
            omega
          · rcases List.mem_append.mp hs with q | q
            · exact hst s q
            · simp only [List.mem_singleton] at q
              rw [q]
              exact mod_st _ (by omega)
def spRule : DSp := fun ds c Q _ => ∃ (n most : Nat), ds = [.cell n, .int most] ∧ 8 ≤ most ∧ most ≤ 256 ∧ Dr n c ∧ ∀ (k w : Nat) (t : List Int) c', Rl k w t → k ^ w ≤ most → w ≤ 4 → Dn n c c' → Q (ruleD k w t) c'
theorem pu_rule (hN : ∀ ds c Q E, spNext ds c Q E → Γ "_law_next" ds c Q E) (hP : ∀ ds c Q E, spPick ds c Q E → Γ "_law_pick" ds c Q E) (hW : ∀ ds c Q E, spWords ds c Q E → Γ "_law_words" ds c Q E)
    (h1 : ∀ ds c Q E, spWide ds c Q E → Γ "_law_wide" ds c Q E) (h2 : ∀ ds c Q E, spWide ds c Q E → Γ "_law_adding" ds c Q E) (h3 : ∀ ds c Q E, spWide ds c Q E → Γ "_law_permuting" ds c Q E) :
    ∀ ds c Q E, spRule ds c Q E → wFn Γ sub kind ir_law_rule ds c Q E := by
  rintro _ c Q E ⟨n, most, rfl, hm8, hm, hd, h⟩
  have hsz : (200000 : Nat) ≤ sizeLine := by decide
  simp only [ir_law_rule, wFn, wSs, wS, wE, wA, wL, wT, wO, wC, wI, q_bii, q_btt, q_bti, q_bss, q_bl1, q_bl2, q_bl3, q_iadd, q_isub, q_imul, q_imod, q_idiv, q_ipow, q_tadd, q_trep, q_sadd, q_ladd, q_lrep, q_lkl, q_lko, q_lrl, q_lro, q_lrs, q_lsl, q_lso, q_lss, q_lst, q_aii, q_att2, q_clt, q_cle, q_cgt, q_cge, q_ceq, q_cne, q_cin, q_cni, q_cis, q_cin', q_eii, q_ebb, q_ess, q_tb, q_ti, q_tn, q_tt, q_tl, q_to, q_tc, q_int, q_inb, q_lnt, q_lnl, q_lnc, q_min, q_max, q_abs, q_tpt, q_tpl, q_lil, q_lit, q_sum, q_any, q_all, q_repr, q_fzi, q_fzb, q_fzs, q_fzn, q_fzt, q_fzl, q_fzo, q_fzc, q_fzr, q_fzf, q_ski, q_skb, q_sks, q_skn, q_skt, q_skl, q_sko, q_skf, q_ani, q_anb, q_ans, q_ann, q_ant, q_anl, q_ano, q_att, q_atl, q_ato, q_ri, q_rb, q_rs, q_rn, q_rt, q_rl, q_ro, q_rc, q_ixt, q_ixl, q_ixo, q_slt, q_sll, q_wt, q_r1, q_r2, List.map_cons, List.map_nil, List.cons_append, List.nil_append, List.replicate, List.getElem?_cons_zero, List.getElem?_cons_succ, List.set_cons_zero, List.set_cons_succ, Option.some.injEq, exists_eq_left', List.length_cons, List.length_nil, Bool.not_true, Bool.not_false, List.zip_cons_cons, List.zip_nil_right, List.foldl_cons, List.foldl_nil, true_and, and_true, if_true, if_false, Bool.false_eq_true, D.own.injEq, D.int.injEq, D.tup.injEq, D.lst.injEq, D.cell.injEq, D.bl.injEq, D.str.injEq, D.scr.injEq]
  refine ⟨by omega, hP _ _ _ _ ⟨n, _, _, rfl, .inl rfl, by simp, by simp [D.isCell], hd, fun x hx c1 hd1 => ?_⟩⟩
  obtain ⟨k, rfl, hk2, hk4⟩ : ∃ k : Nat, x = .int k ∧ 2 ≤ k ∧ k ≤ 4 := by
    simp only [List.mem_cons, List.not_mem_nil, or_false] at hx
    rcases hx with rfl | rfl | rfl | rfl | rfl | rfl | rfl
    · exact ⟨2, rfl, by omega, by omega⟩
    · exact ⟨2, rfl, by omega, by omega⟩
    · exact ⟨2, rfl, by omega, by omega⟩
    · exact ⟨3, rfl, by omega, by omega⟩
    · exact ⟨2, rfl, by omega, by omega⟩
    · exact ⟨3, rfl, by omega, by omega⟩
    · exact ⟨4, rfl, by omega, by omega⟩
  simp only [wFn, wSs, wS, wE, wA, wL, wT, wO, wC, wI, q_bii, q_btt, q_bti, q_bss, q_bl1, q_bl2, q_bl3, q_iadd, q_isub, q_imul, q_imod, q_idiv, q_ipow, q_tadd, q_trep, q_sadd, q_ladd, q_lrep, q_lkl, q_lko, q_lrl, q_lro, q_lrs, q_lsl, q_lso, q_lss, q_lst, q_aii, q_att2, q_clt, q_cle, q_cgt, q_cge, q_ceq, q_cne, q_cin, q_cni, q_cis, q_cin', q_eii, q_ebb, q_ess, q_tb, q_ti, q_tn, q_tt, q_tl, q_to, q_tc, q_int, q_inb, q_lnt, q_lnl, q_lnc, q_min, q_max, q_abs, q_tpt, q_tpl, q_lil, q_lit, q_sum, q_any, q_all, q_repr, q_fzi, q_fzb, q_fzs, q_fzn, q_fzt, q_fzl, q_fzo, q_fzc, q_fzr, q_fzf, q_ski, q_skb, q_sks, q_skn, q_skt, q_skl, q_sko, q_skf, q_ani, q_anb, q_ans, q_ann, q_ant, q_anl, q_ano, q_att, q_atl, q_ato, q_ri, q_rb, q_rs, q_rn, q_rt, q_rl, q_ro, q_rc, q_ixt, q_ixl, q_ixo, q_slt, q_sll, q_wt, q_r1, q_r2, List.map_cons, List.map_nil, List.cons_append, List.nil_append, List.replicate, List.getElem?_cons_zero, List.getElem?_cons_succ, List.set_cons_zero, List.set_cons_succ, Option.some.injEq, exists_eq_left', List.length_cons, List.length_nil, Bool.not_true, Bool.not_false, List.zip_cons_cons, List.zip_nil_right, List.foldl_cons, List.foldl_nil, true_and, and_true, if_true, if_false, Bool.false_eq_true, D.own.injEq, D.int.injEq, D.tup.injEq, D.lst.injEq, D.cell.injEq, D.bl.injEq, D.str.injEq, D.scr.injEq]
  refine ⟨by omega, hP _ _ _ _ ⟨n, _, _, rfl, .inl rfl, by simp, by simp [D.isCell], hd1.dr hd.lt, fun x hx c2 hd2 => ?_⟩⟩
  obtain ⟨w, rfl, hw1, hw4⟩ : ∃ w : Nat, x = .int w ∧ 1 ≤ w ∧ w ≤ 4 := by
    simp only [List.mem_cons, List.not_mem_nil, or_false] at hx
    rcases hx with rfl | rfl | rfl | rfl | rfl | rfl
    · exact ⟨1, rfl, by omega, by omega⟩
    · exact ⟨2, rfl, by omega, by omega⟩
    · exact ⟨2, rfl, by omega, by omega⟩
    · exact ⟨3, rfl, by omega, by omega⟩
    · exact ⟨3, rfl, by omega, by omega⟩
    · exact ⟨4, rfl, by omega, by omega⟩
  simp only [wFn, wSs, wS, wE, wA, wL, wT, wO, wC, wI, q_bii, q_btt, q_bti, q_bss, q_bl1, q_bl2, q_bl3, q_iadd, q_isub, q_imul, q_imod, q_idiv, q_ipow, q_tadd, q_trep, q_sadd, q_ladd, q_lrep, q_lkl, q_lko, q_lrl, q_lro, q_lrs, q_lsl, q_lso, q_lss, q_lst, q_aii, q_att2, q_clt, q_cle, q_cgt, q_cge, q_ceq, q_cne, q_cin, q_cni, q_cis, q_cin', q_eii, q_ebb, q_ess, q_tb, q_ti, q_tn, q_tt, q_tl, q_to, q_tc, q_int, q_inb, q_lnt, q_lnl, q_lnc, q_min, q_max, q_abs, q_tpt, q_tpl, q_lil, q_lit, q_sum, q_any, q_all, q_repr, q_fzi, q_fzb, q_fzs, q_fzn, q_fzt, q_fzl, q_fzo, q_fzc, q_fzr, q_fzf, q_ski, q_skb, q_sks, q_skn, q_skt, q_skl, q_sko, q_skf, q_ani, q_anb, q_ans, q_ann, q_ant, q_anl, q_ano, q_att, q_atl, q_ato, q_ri, q_rb, q_rs, q_rn, q_rt, q_rl, q_ro, q_rc, q_ixt, q_ixl, q_ixo, q_slt, q_sll, q_wt, q_r1, q_r2, List.map_cons, List.map_nil, List.cons_append, List.nil_append, List.replicate, List.getElem?_cons_zero, List.getElem?_cons_succ, List.set_cons_zero, List.set_cons_succ, Option.some.injEq, exists_eq_left', List.length_cons, List.length_nil, Bool.not_true, Bool.not_false, List.zip_cons_cons, List.zip_nil_right, List.foldl_cons, List.foldl_nil, true_and, and_true, if_true, if_false, Bool.false_eq_true, D.own.injEq, D.int.injEq, D.tup.injEq, D.lst.injEq, D.cell.injEq, D.bl.injEq, D.str.injEq, D.scr.injEq]
  have hd2' := hd1.trans hd2
  have hpow : ∀ w : Nat, w ≤ 4 → k ^ w ≤ 256 := fun w hw => Nat.le_trans (Nat.pow_le_pow_right (by omega) hw) (Nat.le_trans (Nat.pow_le_pow_left hk4 4) (by decide))
  refine ⟨by unfold RgI; omega, ?_⟩
  refine forGo_ind (I := fun r σ c' => ∃ (w : Nat) (t4 : Option D), 1 ≤ w ∧ w ≤ 4 ∧ (w ≤ 1 + r.length ∨ k ^ w ≤ most) ∧ c2 = c' ∧ (∀ x ∈ r, ∃ i, x = .int i) ∧
    σ = [some (.cell n), some (.int most), some (.int k), some (.int w), t4, none, none, none, none, none, none]) ?_ ?_ _ _ _ ⟨w, none, hw1, hw4, .inl (by simp [rngL]; omega), rfl, fun x hx => by simp only [rngL, List.mem_map] at hx; obtain ⟨k, _, rfl⟩ := hx; exact ⟨_, rfl⟩, rfl⟩
  · rintro σ c' ⟨w, t4, hw1, hw4, hw, rfl, _, rfl⟩
    have hle : k ^ w ≤ most := by
      rcases hw with q | q
      · have : w = 1 := by simp at q; omega
        rw [this, Nat.pow_one]
        omega
      · exact q
    have hb := hpow w hw4
    have hwl := wds_len k w
    simp only [wFn, wSs, wS, wE, wA, wL, wT, wO, wC, wI, q_bii, q_btt, q_bti, q_bss, q_bl1, q_bl2, q_bl3, q_iadd, q_isub, q_imul, q_imod, q_idiv, q_ipow, q_tadd, q_trep, q_sadd, q_ladd, q_lrep, q_lkl, q_lko, q_lrl, q_lro, q_lrs, q_lsl, q_lso, q_lss, q_lst, q_aii, q_att2, q_clt, q_cle, q_cgt, q_cge, q_ceq, q_cne, q_cin, q_cni, q_cis, q_cin', q_eii, q_ebb, q_ess, q_tb, q_ti, q_tn, q_tt, q_tl, q_to, q_tc, q_int, q_inb, q_lnt, q_lnl, q_lnc, q_min, q_max, q_abs, q_tpt, q_tpl, q_lil, q_lit, q_sum, q_any, q_all, q_repr, q_fzi, q_fzb, q_fzs, q_fzn, q_fzt, q_fzl, q_fzo, q_fzc, q_fzr, q_fzf, q_ski, q_skb, q_sks, q_skn, q_skt, q_skl, q_sko, q_skf, q_ani, q_anb, q_ans, q_ann, q_ant, q_anl, q_ano, q_att, q_atl, q_ato, q_ri, q_rb, q_rs, q_rn, q_rt, q_rl, q_ro, q_rc, q_ixt, q_ixl, q_ixo, q_slt, q_sll, q_wt, q_r1, q_r2, List.map_cons, List.map_nil, List.cons_append, List.nil_append, List.replicate, List.getElem?_cons_zero, List.getElem?_cons_succ, List.set_cons_zero, List.set_cons_succ, Option.some.injEq, exists_eq_left', List.length_cons, List.length_nil, Bool.not_true, Bool.not_false, List.zip_cons_cons, List.zip_nil_right, List.foldl_cons, List.foldl_nil, true_and, and_true, if_true, if_false, Bool.false_eq_true, D.own.injEq, D.int.injEq, D.tup.injEq, D.lst.injEq, D.cell.injEq, D.bl.injEq, D.str.injEq, D.scr.injEq]
    refine hN _ _ _ _ ⟨n, rfl, hd2'.dr hd.lt, fun i c3 _ _ hd3 => ?_⟩
    have hd3' := hd2'.trans hd3
    simp only [wFn, wSs, wS, wE, wA, wL, wT, wO, wC, wI, q_bii, q_btt, q_bti, q_bss, q_bl1, q_bl2, q_bl3, q_iadd, q_isub, q_imul, q_imod, q_idiv, q_ipow, q_tadd, q_trep, q_sadd, q_ladd, q_lrep, q_lkl, q_lko, q_lrl, q_lro, q_lrs, q_lsl, q_lso, q_lss, q_lst, q_aii, q_att2, q_clt, q_cle, q_cgt, q_cge, q_ceq, q_cne, q_cin, q_cni, q_cis, q_cin', q_eii, q_ebb, q_ess, q_tb, q_ti, q_tn, q_tt, q_tl, q_to, q_tc, q_int, q_inb, q_lnt, q_lnl, q_lnc, q_min, q_max, q_abs, q_tpt, q_tpl, q_lil, q_lit, q_sum, q_any, q_all, q_repr, q_fzi, q_fzb, q_fzs, q_fzn, q_fzt, q_fzl, q_fzo, q_fzc, q_fzr, q_fzf, q_ski, q_skb, q_sks, q_skn, q_skt, q_skl, q_sko, q_skf, q_ani, q_anb, q_ans, q_ann, q_ant, q_anl, q_ano, q_att, q_atl, q_ato, q_ri, q_rb, q_rs, q_rn, q_rt, q_rl, q_ro, q_rc, q_ixt, q_ixl, q_ixo, q_slt, q_sll, q_wt, q_r1, q_r2, List.map_cons, List.map_nil, List.cons_append, List.nil_append, List.replicate, List.getElem?_cons_zero, List.getElem?_cons_succ, List.set_cons_zero, List.set_cons_succ, Option.some.injEq, exists_eq_left', List.length_cons, List.length_nil, Bool.not_true, Bool.not_false, List.zip_cons_cons, List.zip_nil_right, List.foldl_cons, List.foldl_nil, true_and, and_true, if_true, if_false, Bool.false_eq_true, D.own.injEq, D.int.injEq, D.tup.injEq, D.lst.injEq, D.cell.injEq, D.bl.injEq, D.str.injEq, D.scr.injEq]
    refine ⟨by omega, ?_⟩
    generalize i % 8 = kd
    refine iteB (fun _ => ?_) fun _ => ?_
    · refine h1 _ _ _ _ ⟨n, k, w, rfl, hk2, hk4, hw1, hb, hd3'.dr hd.lt, fun t c4 hr hd4 => rt1 rfl (hd3'.trans hd4).len (h k w t c4 hr hle hw4 (hd3'.trans hd4))⟩
    refine iteB (fun _ => ?_) fun _ => ?_
    · refine h2 _ _ _ _ ⟨n, k, w, rfl, hk2, hk4, hw1, hb, hd3'.dr hd.lt, fun t c4 hr hd4 => rt1 rfl (hd3'.trans hd4).len (h k w t c4 hr hle hw4 (hd3'.trans hd4))⟩
    refine iteB (fun _ => ?_) fun _ => ?_
    · refine h3 _ _ _ _ ⟨n, k, w, rfl, hk2, hk4, hw1, hb, hd3'.dr hd.lt, fun t c4 hr hd4 => rt1 rfl (hd3'.trans hd4).len (h k w t c4 hr hle hw4 (hd3'.trans hd4))⟩
    refine iteB (fun _ => ?_) fun _ => ?_
    · refine hN _ _ _ _ ⟨n, rfl, hd3'.dr hd.lt, fun i c4 _ _ hd4 => ?_⟩
      have hd4' := hd3'.trans hd4
      simp only [wFn, wSs, wS, wE, wA, wL, wT, wO, wC, wI, q_bii, q_btt, q_bti, q_bss, q_bl1, q_bl2, q_bl3, q_iadd, q_isub, q_imul, q_imod, q_idiv, q_ipow, q_tadd, q_trep, q_sadd, q_ladd, q_lrep, q_lkl, q_lko, q_lrl, q_lro, q_lrs, q_lsl, q_lso, q_lss, q_lst, q_aii, q_att2, q_clt, q_cle, q_cgt, q_cge, q_ceq, q_cne, q_cin, q_cni, q_cis, q_cin', q_eii, q_ebb, q_ess, q_tb, q_ti, q_tn, q_tt, q_tl, q_to, q_tc, q_int, q_inb, q_lnt, q_lnl, q_lnc, q_min, q_max, q_abs, q_tpt, q_tpl, q_lil, q_lit, q_sum, q_any, q_all, q_repr, q_fzi, q_fzb, q_fzs, q_fzn, q_fzt, q_fzl, q_fzo, q_fzc, q_fzr, q_fzf, q_ski, q_skb, q_sks, q_skn, q_skt, q_skl, q_sko, q_skf, q_ani, q_anb, q_ans, q_ann, q_ant, q_anl, q_ano, q_att, q_atl, q_ato, q_ri, q_rb, q_rs, q_rn, q_rt, q_rl, q_ro, q_rc, q_ixt, q_ixl, q_ixo, q_slt, q_sll, q_wt, q_r1, q_r2, List.map_cons, List.map_nil, List.cons_append, List.nil_append, List.replicate, List.getElem?_cons_zero, List.getElem?_cons_succ, List.set_cons_zero, List.set_cons_succ, Option.some.injEq, exists_eq_left', List.length_cons, List.length_nil, Bool.not_true, Bool.not_false, List.zip_cons_cons, List.zip_nil_right, List.foldl_cons, List.foldl_nil, true_and, and_true, if_true, if_false, Bool.false_eq_true, D.own.injEq, D.int.injEq, D.tup.injEq, D.lst.injEq, D.cell.injEq, D.bl.injEq, D.str.injEq, D.scr.injEq]
      obtain ⟨at0, at1⟩ := mod_st i hw1
      generalize i % (w : Int) = at_ at at0 at1
      refine ⟨by omega, by unfold RgI; omega, by simp only [rngL, List.length_map, List.length_range]; omega, ?_⟩
      refine lc_draw (I := fun c' => Dn n c c') (R := fun _ y => ∃ v : Int, y = .int v ∧ 0 ≤ v ∧ v < k) hd4' (fun _ _ => trivial) (fun x hx c' K hI hK => ?_) fun ys c' hys hI => ?_
      · obtain ⟨j, _, rfl⟩ := rng_mem hx
        unfold lcTurn
        simp only [wipeD, wFn, wSs, wS, wE, wA, wL, wT, wO, wC, wI, q_bii, q_btt, q_bti, q_bss, q_bl1, q_bl2, q_bl3, q_iadd, q_isub, q_imul, q_imod, q_idiv, q_ipow, q_tadd, q_trep, q_sadd, q_ladd, q_lrep, q_lkl, q_lko, q_lrl, q_lro, q_lrs, q_lsl, q_lso, q_lss, q_lst, q_aii, q_att2, q_clt, q_cle, q_cgt, q_cge, q_ceq, q_cne, q_cin, q_cni, q_cis, q_cin', q_eii, q_ebb, q_ess, q_tb, q_ti, q_tn, q_tt, q_tl, q_to, q_tc, q_int, q_inb, q_lnt, q_lnl, q_lnc, q_min, q_max, q_abs, q_tpt, q_tpl, q_lil, q_lit, q_sum, q_any, q_all, q_repr, q_fzi, q_fzb, q_fzs, q_fzn, q_fzt, q_fzl, q_fzo, q_fzc, q_fzr, q_fzf, q_ski, q_skb, q_sks, q_skn, q_skt, q_skl, q_sko, q_skf, q_ani, q_anb, q_ans, q_ann, q_ant, q_anl, q_ano, q_att, q_atl, q_ato, q_ri, q_rb, q_rs, q_rn, q_rt, q_rl, q_ro, q_rc, q_ixt, q_ixl, q_ixo, q_slt, q_sll, q_wt, q_r1, q_r2, List.map_cons, List.map_nil, List.cons_append, List.nil_append, List.replicate, List.getElem?_cons_zero, List.getElem?_cons_succ, List.set_cons_zero, List.set_cons_succ, Option.some.injEq, exists_eq_left', List.length_cons, List.length_nil, Bool.not_true, Bool.not_false, List.zip_cons_cons, List.zip_nil_right, List.foldl_cons, List.foldl_nil, true_and, and_true, if_true, if_false, Bool.false_eq_true, D.own.injEq, D.int.injEq, D.tup.injEq, D.lst.injEq, D.cell.injEq, D.bl.injEq, D.str.injEq, D.scr.injEq]
        refine hN _ _ _ _ ⟨n, rfl, hI.dr hd.lt, fun i c2 h0 h1 h2 => ?_⟩
        simp only [wFn, wSs, wS, wE, wA, wL, wT, wO, wC, wI, q_bii, q_btt, q_bti, q_bss, q_bl1, q_bl2, q_bl3, q_iadd, q_isub, q_imul, q_imod, q_idiv, q_ipow, q_tadd, q_trep, q_sadd, q_ladd, q_lrep, q_lkl, q_lko, q_lrl, q_lro, q_lrs, q_lsl, q_lso, q_lss, q_lst, q_aii, q_att2, q_clt, q_cle, q_cgt, q_cge, q_ceq, q_cne, q_cin, q_cni, q_cis, q_cin', q_eii, q_ebb, q_ess, q_tb, q_ti, q_tn, q_tt, q_tl, q_to, q_tc, q_int, q_inb, q_lnt, q_lnl, q_lnc, q_min, q_max, q_abs, q_tpt, q_tpl, q_lil, q_lit, q_sum, q_any, q_all, q_repr, q_fzi, q_fzb, q_fzs, q_fzn, q_fzt, q_fzl, q_fzo, q_fzc, q_fzr, q_fzf, q_ski, q_skb, q_sks, q_skn, q_skt, q_skl, q_sko, q_skf, q_ani, q_anb, q_ans, q_ann, q_ant, q_anl, q_ano, q_att, q_atl, q_ato, q_ri, q_rb, q_rs, q_rn, q_rt, q_rl, q_ro, q_rc, q_ixt, q_ixl, q_ixo, q_slt, q_sll, q_wt, q_r1, q_r2, List.map_cons, List.map_nil, List.cons_append, List.nil_append, List.replicate, List.getElem?_cons_zero, List.getElem?_cons_succ, List.set_cons_zero, List.set_cons_succ, Option.some.injEq, exists_eq_left', List.length_cons, List.length_nil, Bool.not_true, Bool.not_false, List.zip_cons_cons, List.zip_nil_right, List.foldl_cons, List.foldl_nil, true_and, and_true, if_true, if_false, Bool.false_eq_true, D.own.injEq, D.int.injEq, D.tup.injEq, D.lst.injEq, D.cell.injEq, D.bl.injEq, D.str.injEq, D.scr.injEq]
        exact ⟨by omega, by omega, hK _ _ ⟨_, rfl, mod_st _ (by omega)⟩ (hI.trans h2)⟩
      · obtain ⟨vs, rfl, hv1, hv2⟩ := all2_st hys
        have hv2' : vs.length = k := by rw [hv2]; simp [rngL]
        refine hW _ _ _ _ ⟨k, w, rfl, by omega, by omega, by omega, by omega, ?_⟩
        refine ⟨_, rfl, by rw [List.length_map, hwl]; omega, ?_⟩
        refine lc_draw (I := fun c2 => c' = c2) (R := fun _ y => ∃ v : Int, y = .int v ∧ 0 ≤ v ∧ v < k) rfl (fun _ _ => rfl) (fun x hx c2 K hI2 hK => ?_) fun ys c2 hys hI2 => ?_
        · subst hI2
          obtain ⟨z, hz, rfl⟩ := List.mem_map.mp hx
          obtain ⟨hz1, hz2⟩ := wds_mem k w z hz
          obtain ⟨v, hv, hva, hvb⟩ := hz2.get (i := at_.toNat) (by omega)
          obtain ⟨u, hu, hua, hub⟩ := hv1.get (i := v.toNat) (by omega)
          unfold lcTurn
          simp only [wipeD, wFn, wSs, wS, wE, wA, wL, wT, wO, wC, wI, q_bii, q_btt, q_bti, q_bss, q_bl1, q_bl2, q_bl3, q_iadd, q_isub, q_imul, q_imod, q_idiv, q_ipow, q_tadd, q_trep, q_sadd, q_ladd, q_lrep, q_lkl, q_lko, q_lrl, q_lro, q_lrs, q_lsl, q_lso, q_lss, q_lst, q_aii, q_att2, q_clt, q_cle, q_cgt, q_cge, q_ceq, q_cne, q_cin, q_cni, q_cis, q_cin', q_eii, q_ebb, q_ess, q_tb, q_ti, q_tn, q_tt, q_tl, q_to, q_tc, q_int, q_inb, q_lnt, q_lnl, q_lnc, q_min, q_max, q_abs, q_tpt, q_tpl, q_lil, q_lit, q_sum, q_any, q_all, q_repr, q_fzi, q_fzb, q_fzs, q_fzn, q_fzt, q_fzl, q_fzo, q_fzc, q_fzr, q_fzf, q_ski, q_skb, q_sks, q_skn, q_skt, q_skl, q_sko, q_skf, q_ani, q_anb, q_ans, q_ann, q_ant, q_anl, q_ano, q_att, q_atl, q_ato, q_ri, q_rb, q_rs, q_rn, q_rt, q_rl, q_ro, q_rc, q_ixt, q_ixl, q_ixo, q_slt, q_sll, q_wt, q_r1, q_r2, List.map_cons, List.map_nil, List.cons_append, List.nil_append, List.replicate, List.getElem?_cons_zero, List.getElem?_cons_succ, List.set_cons_zero, List.set_cons_succ, Option.some.injEq, exists_eq_left', List.length_cons, List.length_nil, Bool.not_true, Bool.not_false, List.zip_cons_cons, List.zip_nil_right, List.foldl_cons, List.foldl_nil, true_and, and_true, if_true, if_false, Bool.false_eq_true, D.own.injEq, D.int.injEq, D.tup.injEq, D.lst.injEq, D.cell.injEq, D.bl.injEq, D.str.injEq, D.scr.injEq]
          refine ⟨_, atI_int at0 hv, ?_⟩
          simp only [wFn, wSs, wS, wE, wA, wL, wT, wO, wC, wI, q_bii, q_btt, q_bti, q_bss, q_bl1, q_bl2, q_bl3, q_iadd, q_isub, q_imul, q_imod, q_idiv, q_ipow, q_tadd, q_trep, q_sadd, q_ladd, q_lrep, q_lkl, q_lko, q_lrl, q_lro, q_lrs, q_lsl, q_lso, q_lss, q_lst, q_aii, q_att2, q_clt, q_cle, q_cgt, q_cge, q_ceq, q_cne, q_cin, q_cni, q_cis, q_cin', q_eii, q_ebb, q_ess, q_tb, q_ti, q_tn, q_tt, q_tl, q_to, q_tc, q_int, q_inb, q_lnt, q_lnl, q_lnc, q_min, q_max, q_abs, q_tpt, q_tpl, q_lil, q_lit, q_sum, q_any, q_all, q_repr, q_fzi, q_fzb, q_fzs, q_fzn, q_fzt, q_fzl, q_fzo, q_fzc, q_fzr, q_fzf, q_ski, q_skb, q_sks, q_skn, q_skt, q_skl, q_sko, q_skf, q_ani, q_anb, q_ans, q_ann, q_ant, q_anl, q_ano, q_att, q_atl, q_ato, q_ri, q_rb, q_rs, q_rn, q_rt, q_rl, q_ro, q_rc, q_ixt, q_ixl, q_ixo, q_slt, q_sll, q_wt, q_r1, q_r2, List.map_cons, List.map_nil, List.cons_append, List.nil_append, List.replicate, List.getElem?_cons_zero, List.getElem?_cons_succ, List.set_cons_zero, List.set_cons_succ, Option.some.injEq, exists_eq_left', List.length_cons, List.length_nil, Bool.not_true, Bool.not_false, List.zip_cons_cons, List.zip_nil_right, List.foldl_cons, List.foldl_nil, true_and, and_true, if_true, if_false, Bool.false_eq_true, D.own.injEq, D.int.injEq, D.tup.injEq, D.lst.injEq, D.cell.injEq, D.bl.injEq, D.str.injEq, D.scr.injEq]
          refine ⟨_, atI_int hva hu, ?_⟩
          simp only [wFn, wSs, wS, wE, wA, wL, wT, wO, wC, wI, q_bii, q_btt, q_bti, q_bss, q_bl1, q_bl2, q_bl3, q_iadd, q_isub, q_imul, q_imod, q_idiv, q_ipow, q_tadd, q_trep, q_sadd, q_ladd, q_lrep, q_lkl, q_lko, q_lrl, q_lro, q_lrs, q_lsl, q_lso, q_lss, q_lst, q_aii, q_att2, q_clt, q_cle, q_cgt, q_cge, q_ceq, q_cne, q_cin, q_cni, q_cis, q_cin', q_eii, q_ebb, q_ess, q_tb, q_ti, q_tn, q_tt, q_tl, q_to, q_tc, q_int, q_inb, q_lnt, q_lnl, q_lnc, q_min, q_max, q_abs, q_tpt, q_tpl, q_lil, q_lit, q_sum, q_any, q_all, q_repr, q_fzi, q_fzb, q_fzs, q_fzn, q_fzt, q_fzl, q_fzo, q_fzc, q_fzr, q_fzf, q_ski, q_skb, q_sks, q_skn, q_skt, q_skl, q_sko, q_skf, q_ani, q_anb, q_ans, q_ann, q_ant, q_anl, q_ano, q_att, q_atl, q_ato, q_ri, q_rb, q_rs, q_rn, q_rt, q_rl, q_ro, q_rc, q_ixt, q_ixl, q_ixo, q_slt, q_sll, q_wt, q_r1, q_r2, List.map_cons, List.map_nil, List.cons_append, List.nil_append, List.replicate, List.getElem?_cons_zero, List.getElem?_cons_succ, List.set_cons_zero, List.set_cons_succ, Option.some.injEq, exists_eq_left', List.length_cons, List.length_nil, Bool.not_true, Bool.not_false, List.zip_cons_cons, List.zip_nil_right, List.foldl_cons, List.foldl_nil, true_and, and_true, if_true, if_false, Bool.false_eq_true, D.own.injEq, D.int.injEq, D.tup.injEq, D.lst.injEq, D.cell.injEq, D.bl.injEq, D.str.injEq, D.scr.injEq]
          exact hK _ _ ⟨_, rfl, hua, hub⟩ rfl
        · subst hI2
          obtain ⟨ts, rfl, ht, htl⟩ := all2_st hys
          exact ⟨by omega, rt1 rfl hI.len (h k w ts c' ⟨hk2, hk4, hw1, hb, by rw [htl]; simp [hwl], ht⟩ hle hw4 hI)⟩
    · have len8 : 8 ≤ sizeLine := by omega
      refine ⟨by omega, by omega, by omega, by omega, by omega, by omega, by omega, by omega, by omega, by omega, by omega, hP _ _ _ _ ⟨n, _, _, rfl, .inl rfl, by simp, by simp [D.isCell], hd3'.dr hd.lt, fun x hx c4 hd4 => ?_⟩⟩
      have fin : ∀ (k w : Nat) (t : List Int), Rl k w t → k ^ w ≤ 8 → w ≤ 4 → x = ruleD k w t → retK c.length Q x c4 := fun k w t hr h1 h2 e => by
        subst e
        exact rt1 rfl (hd3'.trans hd4).len (h k w t c4 hr (by omega) h2 (hd3'.trans hd4))
      simp only [List.mem_cons, List.not_mem_nil, or_false] at hx
      rcases hx with rfl | rfl | rfl | rfl | rfl
      · exact fin 2 3 [0, 0, 0, 1, 1, 1, 0, 1] ⟨by omega, by omega, by omega, by decide, rfl, by unfold St; decide⟩ (by decide) (by omega) rfl
      · exact fin 2 2 [0, 1, 1, 0] ⟨by omega, by omega, by omega, by decide, rfl, by unfold St; decide⟩ (by decide) (by omega) rfl
      · exact fin 2 2 [0, 0, 0, 1] ⟨by omega, by omega, by omega, by decide, rfl, by unfold St; decide⟩ (by decide) (by omega) rfl
      · exact fin 2 3 [0, 1, 0, 1, 1, 0, 1, 0] ⟨by omega, by omega, by omega, by decide, rfl, by unfold St; decide⟩ (by decide) (by omega) rfl
      · exact fin 2 3 [0, 0, 0, 1, 0, 1, 1, 1] ⟨by omega, by omega, by omega, by decide, rfl, by unfold St; decide⟩ (by decide) (by omega) rfl
  · rintro x r σ c' R ⟨w, t4, hw1, hw4, hw, rfl, hx, rfl⟩ hR
    obtain ⟨i, rfl⟩ := hx x (by simp)
    have hb := hpow w hw4
    have hwl := wds_len k w
    simp only [wFn, wSs, wS, wE, wA, wL, wT, wO, wC, wI, q_bii, q_btt, q_bti, q_bss, q_bl1, q_bl2, q_bl3, q_iadd, q_isub, q_imul, q_imod, q_idiv, q_ipow, q_tadd, q_trep, q_sadd, q_ladd, q_lrep, q_lkl, q_lko, q_lrl, q_lro, q_lrs, q_lsl, q_lso, q_lss, q_lst, q_aii, q_att2, q_clt, q_cle, q_cgt, q_cge, q_ceq, q_cne, q_cin, q_cni, q_cis, q_cin', q_eii, q_ebb, q_ess, q_tb, q_ti, q_tn, q_tt, q_tl, q_to, q_tc, q_int, q_inb, q_lnt, q_lnl, q_lnc, q_min, q_max, q_abs, q_tpt, q_tpl, q_lil, q_lit, q_sum, q_any, q_all, q_repr, q_fzi, q_fzb, q_fzs, q_fzn, q_fzt, q_fzl, q_fzo, q_fzc, q_fzr, q_fzf, q_ski, q_skb, q_sks, q_skn, q_skt, q_skl, q_sko, q_skf, q_ani, q_anb, q_ans, q_ann, q_ant, q_anl, q_ano, q_att, q_atl, q_ato, q_ri, q_rb, q_rs, q_rn, q_rt, q_rl, q_ro, q_rc, q_ixt, q_ixl, q_ixo, q_slt, q_sll, q_wt, q_r1, q_r2, List.map_cons, List.map_nil, List.cons_append, List.nil_append, List.replicate, List.getElem?_cons_zero, List.getElem?_cons_succ, List.set_cons_zero, List.set_cons_succ, Option.some.injEq, exists_eq_left', List.length_cons, List.length_nil, Bool.not_true, Bool.not_false, List.zip_cons_cons, List.zip_nil_right, List.foldl_cons, List.foldl_nil, true_and, and_true, if_true, if_false, Bool.false_eq_true, D.own.injEq, D.int.injEq, D.tup.injEq, D.lst.injEq, D.cell.injEq, D.bl.injEq, D.str.injEq, D.scr.injEq]
    refine hW _ _ _ _ ⟨k, w, rfl, by omega, by omega, by omega, by omega, ?_⟩
    simp only [wFn, wSs, wS, wE, wA, wL, wT, wO, wC, wI, q_bii, q_btt, q_bti, q_bss, q_bl1, q_bl2, q_bl3, q_iadd, q_isub, q_imul, q_imod, q_idiv, q_ipow, q_tadd, q_trep, q_sadd, q_ladd, q_lrep, q_lkl, q_lko, q_lrl, q_lro, q_lrs, q_lsl, q_lso, q_lss, q_lst, q_aii, q_att2, q_clt, q_cle, q_cgt, q_cge, q_ceq, q_cne, q_cin, q_cni, q_cis, q_cin', q_eii, q_ebb, q_ess, q_tb, q_ti, q_tn, q_tt, q_tl, q_to, q_tc, q_int, q_inb, q_lnt, q_lnl, q_lnc, q_min, q_max, q_abs, q_tpt, q_tpl, q_lil, q_lit, q_sum, q_any, q_all, q_repr, q_fzi, q_fzb, q_fzs, q_fzn, q_fzt, q_fzl, q_fzo, q_fzc, q_fzr, q_fzf, q_ski, q_skb, q_sks, q_skn, q_skt, q_skl, q_sko, q_skf, q_ani, q_anb, q_ans, q_ann, q_ant, q_anl, q_ano, q_att, q_atl, q_ato, q_ri, q_rb, q_rs, q_rn, q_rt, q_rl, q_ro, q_rc, q_ixt, q_ixl, q_ixo, q_slt, q_sll, q_wt, q_r1, q_r2, List.map_cons, List.map_nil, List.cons_append, List.nil_append, List.replicate, List.getElem?_cons_zero, List.getElem?_cons_succ, List.set_cons_zero, List.set_cons_succ, Option.some.injEq, exists_eq_left', List.length_cons, List.length_nil, Bool.not_true, Bool.not_false, List.zip_cons_cons, List.zip_nil_right, List.foldl_cons, List.foldl_nil, true_and, and_true, if_true, if_false, Bool.false_eq_true, D.own.injEq, D.int.injEq, D.tup.injEq, D.lst.injEq, D.cell.injEq, D.bl.injEq, D.str.injEq, D.scr.injEq]
    simp only [List.length_map, hwl]
    refine iteB (fun hc => hR _ _ ?_) fun hc => hR _ _ ?_
    · have hc' : most < k ^ w := by have := of_decide_eq_true hc; omega
      have hw2 : 2 ≤ w := by
        rcases Nat.lt_or_ge w 2 with q | q
        · have : w = 1 := by omega
          subst this
          rw [Nat.pow_one] at hc'
          omega
        · exact q
      refine ⟨w - 1, some (.int i), by omega, by omega, .inl ?_, rfl, fun y hy => hx y (by simp [hy]), by rw [Int.natCast_sub (by omega)]; rfl⟩
      rcases hw with q | q
      · simp at q
        omega
      · omega
    · have hc' : k ^ w ≤ most := by have := of_decide_eq_false hc; omega
      exact ⟨w, some (.int i), hw1, hw4, .inr hc', rfl, fun y hy => hx y (by simp [hy]), rfl⟩
end
end Ev

/-! # Pu4: plain laws of the functions of rules -/
namespace Ev
open PySem
abbrev ruleI (k w : Int) (t : List Int) : D := .tup [.int k, .int w, tI t]
def inR (k : Int) (xs : List Int) : Bool := xs.all fun s => decide (0 ≤ s) && decide (s < k)
def isR (k w : Int) (t : List Int) : Bool := decide (2 ≤ k ∧ k ≤ 4 ∧ 1 ≤ w ∧ w ≤ 256 ∧ k.toNat ^ w.toNat ≤ 256 ∧ t.length = k.toNat ^ w.toNat) && inR k t
theorem inR_st {k : Nat} {xs : List Int} : inR k xs = true ↔ St k xs := by
  unfold inR St
  simp [List.all_eq_true]
theorem isR_iff {k w : Nat} {t : List Int} : isR k w t = true ↔ Rl k w t := by
  unfold isR
  rw [Bool.and_eq_true, decide_eq_true_eq, inR_st]
  constructor
  · rintro ⟨⟨h1, h2, h3, h4, h5, h6⟩, h7⟩
    simp only [Int.toNat_natCast] at h5 h6
    exact ⟨by omega, by omega, by omega, h5, h6, h7⟩
  · intro h
    have := h.w256
    have h1 := h.k2
    have h2 := h.k4
    have h3 := h.w1
    exact ⟨⟨by omega, by omega, by omega, by omega, by simpa using h.big, by simpa using h.len⟩, h.st⟩
theorem isR_nat {k w : Int} {t : List Int} (h : isR k w t = true) : ∃ k' w' : Nat, k = k' ∧ w = w' ∧ Rl k' w' t := by
  have h' := h
  unfold isR at h
  rw [Bool.and_eq_true, decide_eq_true_eq] at h
  obtain ⟨⟨h1, h2, h3, h4, h5, h6⟩, h7⟩ := h
  refine ⟨k.toNat, w.toNat, by omega, by omega, isR_iff.mp ?_⟩
  rw [Int.toNat_of_nonneg (by omega), Int.toNat_of_nonneg (by omega)]
  exact h'
def spEntries : DSp := fun ds c Q _ => ∃ k w : Nat, ds = [.int k, .int w] ∧ 1 ≤ k ∧ k ≤ 1000 ∧ Q (.int ((min (k ^ w) 257 : Nat) : Int)) c
def spIsRule : DSp := fun ds c Q _ => ∃ (k w : Int) (t : List Int), ds = [ruleI k w t] ∧ t.length ≤ 100000 ∧ Q (.bl (isR k w t)) c
def spCheckRule : DSp := fun ds c Q E => ∃ (k w : Int) (t : List Int), ds = [ruleI k w t] ∧ t.length ≤ 100000 ∧ (isR k w t = true → Q .non c) ∧ (isR k w t = false → E "NotRule" c)
def spIsOf : DSp := fun ds c Q _ => ∃ (k : Int) (xs : List Int), ds = [.int k, tI xs] ∧ xs.length ≤ 100000 ∧ Q (.bl (inR k xs)) c
def spIsWord : DSp := fun ds c Q E => ∃ (k w : Int) (t xs : List Int), ds = [ruleI k w t, tI xs] ∧ t.length ≤ 100000 ∧ xs.length ≤ 100000 ∧ (isR k w t = true → Q (.bl (inR k xs)) c) ∧ (isR k w t = false → E "NotRule" c)
def spCheckWord : DSp := fun ds c Q E => ∃ (k w : Int) (t xs : List Int), ds = [ruleI k w t, tI xs] ∧ t.length ≤ 100000 ∧ xs.length ≤ 100000 ∧ (isR k w t = true → inR k xs = true → Q .non c) ∧ (isR k w t = true → inR k xs = false → E "NotWord" c) ∧ (isR k w t = false → E "NotRule" c)
def spCheckRing : DSp := fun ds c Q E => ∃ (k w : Int) (t xs : List Int), ds = [ruleI k w t, tI xs] ∧ t.length ≤ 100000 ∧ xs.length ≤ 100000 ∧ (isR k w t = true → inR k xs = true → xs ≠ [] → Q .non c) ∧ (isR k w t = true → (inR k xs = false ∨ xs = []) → E "NotWord" c) ∧ (isR k w t = false → E "NotRule" c)
def spValueOf : DSp := fun ds c Q _ => ∃ (k w : Nat) (t b : List Int), ds = [ruleD k w t, tI b] ∧ Rl k w t ∧ St k b ∧ b.length = w ∧ Q (.int (t.getD (idx k b).toNat 0)) c
def spValue : DSp := fun ds c Q E => ∃ (k w : Int) (t xs : List Int), ds = [ruleI k w t, tI xs] ∧ t.length ≤ 100000 ∧ xs.length ≤ 100000 ∧ (isR k w t = true → inR k xs = true → (xs.length : Int) = w → Q (.int (t.getD (idx k xs).toNat 0)) c) ∧
  (isR k w t = true → inR k xs = true → (xs.length : Int) ≠ w → E "BadNumber" c) ∧ (isR k w t = true → inR k xs = false → E "NotWord" c) ∧ (isR k w t = false → E "NotRule" c)
def spImageE : DSp := fun ds c Q E => ∃ (k w : Int) (t xs : List Int), ds = [ruleI k w t, tI xs] ∧ t.length ≤ 100000 ∧ xs.length ≤ 10000 ∧ (isR k w t = true → inR k xs = true → Q (tI (img k.toNat w.toNat t xs)) c) ∧
  (isR k w t = true → inR k xs = false → E "NotWord" c) ∧ (isR k w t = false → E "NotRule" c)
def spRingE : DSp := fun ds c Q E => ∃ (k w : Int) (t xs : List Int), ds = [ruleI k w t, tI xs] ∧ t.length ≤ 100000 ∧ xs.length ≤ 300 ∧ (isR k w t = true → inR k xs = true → xs ≠ [] → Q (tI (rimg k.toNat w.toNat t xs)) c) ∧
  (isR k w t = true → (inR k xs = false ∨ xs = []) → E "NotWord" c) ∧ (isR k w t = false → E "NotRule" c)
def ir_entries_for : Fn := ⟨2, 4, (.cons (.asg (.nm 2) (.lit (.int 1))) (.cons (.forS (.nm 3) (.rng (.cons (.blt .min (.cons (.var 1) (.cons (.gint "MOST_ENTRIES" 256) .nil))) .nil)) (.cons (.asg (.nm 2) (.blt .min (.cons (.bin .Mult (.var 2) (.var 0)) (.cons (.bin .Add (.gint "MOST_ENTRIES" 256) (.lit (.int 1))) .nil)))) .nil)) (.cons (.ret (.var 2)) .nil)))⟩
def ir_is_rule : Fn := ⟨1, 5, (.cons (.asg (.tp [1, 2, 3]) (.var 0)) (.cons (.ifS (.or (.not (.chain .LtE .LtE (.gint "FEWEST" 2) (.var 1) (.gint "MOST" 4))) (.or (.not (.chain .LtE .LtE (.lit (.int 1)) (.var 2) (.gint "MOST_ENTRIES" 256))) (.cmp .Gt (.call "entries_for" (.cons (.var 1) (.cons (.var 2) .nil))) (.gint "MOST_ENTRIES" 256)))) (.cons (.ret (.lit (.bl false))) .nil) .nil) (.cons (.ret (.and (.cmp .Eq (.blt .len (.cons (.var 3) .nil)) (.call "entries_for" (.cons (.var 1) (.cons (.var 2) .nil)))) (.blt .all (.cons (.lc [4] (.nm 4) (.seq (.var 3)) .none (.chain .LtE .Lt (.lit (.int 0)) (.var 4) (.var 1))) .nil)))) .nil)))⟩
def ir_check_rule : Fn := ⟨1, 1, (.cons (.ifS (.not (.val (.call "is_rule" (.cons (.var 0) .nil)))) (.cons (.raise "NotRule" "this is no rule") .nil) .nil) .nil)⟩
def ir_is_of : Fn := ⟨2, 3, (.cons (.ret (.blt .all (.cons (.lc [2] (.nm 2) (.seq (.var 1)) .none (.chain .LtE .Lt (.lit (.int 0)) (.var 2) (.var 0))) .nil))) .nil)⟩
def ir_is_word : Fn := ⟨2, 2, (.cons (.expr (.call "check_rule" (.cons (.var 0) .nil))) (.cons (.ret (.call "is_of" (.cons (.idx (.var 0) (.lit (.int 0))) (.cons (.var 1) .nil)))) .nil))⟩
def ir_check_word : Fn := ⟨2, 2, (.cons (.ifS (.not (.val (.call "is_word" (.cons (.var 0) (.cons (.var 1) .nil))))) (.cons (.raise "NotWord" "this is no word") .nil) .nil) .nil)⟩
def ir_check_ring : Fn := ⟨2, 2, (.cons (.expr (.call "check_word" (.cons (.var 0) (.cons (.var 1) .nil)))) (.cons (.ifS (.not (.val (.var 1))) (.cons (.raise "NotWord" "this is no ring") .nil) .nil) .nil))⟩
def ir_value_of : Fn := ⟨2, 2, (.cons (.ret (.idx (.idx (.var 0) (.lit (.int 2))) (.call "number_of" (.cons (.idx (.var 0) (.lit (.int 0))) (.cons (.var 1) .nil))))) .nil)⟩
def ir_value : Fn := ⟨2, 2, (.cons (.expr (.call "check_word" (.cons (.var 0) (.cons (.var 1) .nil)))) (.cons (.ifS (.cmp .NotEq (.blt .len (.cons (.var 1) .nil)) (.idx (.var 0) (.lit (.int 1)))) (.cons (.raise "BadNumber" "the word has another number of states") .nil) .nil) (.cons (.ret (.call "value_of" (.cons (.var 0) (.cons (.var 1) .nil)))) .nil)))⟩
def ir_image_of : Fn := ⟨2, 4, (.cons (.asg (.nm 2) (.idx (.var 0) (.lit (.int 1)))) (.cons (.ret (.blt .tuple (.cons (.lc [3] (.nm 3) (.rng (.cons (.bin .Add (.bin .Sub (.blt .len (.cons (.var 1) .nil)) (.var 2)) (.lit (.int 1))) .nil)) .none (.call "value_of" (.cons (.var 0) (.cons (.sl (.var 1) (.some (.var 3)) (.some (.bin .Add (.var 3) (.var 2)))) .nil)))) .nil))) .nil))⟩
def ir_image : Fn := ⟨2, 2, (.cons (.expr (.call "check_word" (.cons (.var 0) (.cons (.var 1) .nil)))) (.cons (.ret (.call "image_of" (.cons (.var 0) (.cons (.var 1) .nil)))) .nil))⟩
def ir_ring_image_of : Fn := ⟨2, 3, (.cons (.asg (.nm 2) (.var 1)) (.cons (.whl (.cmp .Lt (.blt .len (.cons (.var 2) .nil)) (.bin .Sub (.bin .Add (.blt .len (.cons (.var 1) .nil)) (.idx (.var 0) (.lit (.int 1)))) (.lit (.int 1)))) (.cons (.aug 2 .Add (.var 1)) .nil)) (.cons (.ret (.call "image_of" (.cons (.var 0) (.cons (.sl (.var 2) .none (.some (.bin .Sub (.bin .Add (.blt .len (.cons (.var 1) .nil)) (.idx (.var 0) (.lit (.int 1)))) (.lit (.int 1))))) .nil)))) .nil)))⟩
def ir_ring_image : Fn := ⟨2, 2, (.cons (.expr (.call "check_ring" (.cons (.var 0) (.cons (.var 1) .nil)))) (.cons (.ret (.call "ring_image_of" (.cons (.var 0) (.cons (.var 1) .nil)))) .nil))⟩
/-- a while loop by its measure -/
theorem whl_ind {t : WT} {body : WS} {P : DE} (I : Nat → Sl → Cells → Prop)
    (h : ∀ m σ c (R : Sl → Cells → Prop), I m σ c → (∀ σ' c', 0 < m → I (m - 1) σ' c' → R σ' c') → t σ c fun k c1 => if k = true then body ⟨R, P.rt, P.nx, R⟩ σ c1 else P.nx σ c1) : ∀ m σ c, I m σ c → whlGo t body P (m + 1) σ c
  | 0, σ, c, i => h 0 σ c _ i fun _ _ q => absurd q (Nat.lt_irrefl 0)
  | m + 1, σ, c, i => h (m + 1) σ c _ i fun σ' c' _ j => whl_ind I h m σ' c' j
section
variable {Γ : Str → DSp} {sub : Str → Str → Option Bool} {kind : Str → Str → D}
theorem tkE {E : Str → Cells → Prop} {x : Str} {c : Cells} (h : E x c) : E x (c.take c.length) := by
  rw [List.take_length]
  exact h
theorem tkQ {Q : D → Cells → Prop} {x : D} {c : Cells} (h : Q x c) : Q x (c.take c.length) := by
  rw [List.take_length]
  exact h
theorem min_step {k m : Nat} (h : 1 ≤ k) : min (min (k ^ m) 257 * k) 257 = min (k ^ (m + 1)) 257 := by
  rw [Nat.pow_succ]
  by_cases h1 : k ^ m ≤ 257
  · rw [Nat.min_eq_left h1]
  · have h2 : 257 ≤ k ^ m * k := Nat.le_trans (by omega) (Nat.le_mul_of_pos_right _ h)
    have h3 : 257 ≤ 257 * k := Nat.le_mul_of_pos_right _ h
    rw [Nat.min_eq_right (by omega : 257 ≤ k ^ m), Nat.min_eq_right h3, Nat.min_eq_right h2]
theorem min_big {k w : Nat} (h : 1 ≤ k) : min (k ^ min w 256) 257 = min (k ^ w) 257 := by
  by_cases h1 : w ≤ 256
  · rw [Nat.min_eq_left h1]
  · rw [Nat.min_eq_right (by omega : 256 ≤ w)]
    by_cases h2 : k = 1
    · subst h2
      simp
    · have h3 : 2 ^ 256 ≤ k ^ 256 := Nat.pow_le_pow_left (by omega) 256
      have h4 : k ^ 256 ≤ k ^ w := Nat.pow_le_pow_right h (by omega)
      have h5 : 257 ≤ 2 ^ 256 := by decide
      rw [Nat.min_eq_right (by omega), Nat.min_eq_right (by omega)]
theorem pu_entries : ∀ ds c Q E, spEntries ds c Q E → wFn Γ sub kind ir_entries_for ds c Q E := by
  rintro _ c Q E ⟨k, w, rfl, h1, h2, h⟩
  simp only [ir_entries_for, wFn, wSs, wS, wE, wA, wL, wT, wO, wC, wI, q_bii, q_btt, q_bti, q_bss, q_bl1, q_bl2, q_bl3, q_iadd, q_isub, q_imul, q_imod, q_idiv, q_ipow, q_tadd, q_trep, q_sadd, q_ladd, q_lrep, q_lkl, q_lko, q_lrl, q_lro, q_lrs, q_lsl, q_lso, q_lss, q_lst, q_aii, q_att2, q_clt, q_cle, q_cgt, q_cge, q_ceq, q_cne, q_cin, q_cni, q_cis, q_cin', q_eii, q_ebb, q_ess, q_tb, q_ti, q_tn, q_tt, q_tl, q_to, q_tc, q_int, q_inb, q_lnt, q_lnl, q_lnc, q_min, q_max, q_abs, q_tpt, q_tpl, q_lil, q_lit, q_sum, q_any, q_all, q_repr, q_fzi, q_fzb, q_fzs, q_fzn, q_fzt, q_fzl, q_fzo, q_fzc, q_fzr, q_fzf, q_ski, q_skb, q_sks, q_skn, q_skt, q_skl, q_sko, q_skf, q_ani, q_anb, q_ans, q_ann, q_ant, q_anl, q_ano, q_att, q_atl, q_ato, q_ri, q_rb, q_rs, q_rn, q_rt, q_rl, q_ro, q_rc, q_ixt, q_ixl, q_ixo, q_slt, q_sll, q_wt, q_r1, q_r2, List.map_cons, List.map_nil, List.cons_append, List.nil_append, List.replicate, List.getElem?_cons_zero, List.getElem?_cons_succ, List.set_cons_zero, List.set_cons_succ, Option.some.injEq, exists_eq_left', List.length_cons, List.length_nil, Bool.not_true, Bool.not_false, List.zip_cons_cons, List.zip_nil_right, List.foldl_cons, List.foldl_nil, true_and, and_true, if_true, if_false, Bool.false_eq_true, D.own.injEq, D.int.injEq, D.tup.injEq, D.lst.injEq, D.cell.injEq, D.bl.injEq, D.str.injEq, D.scr.injEq]
  refine ⟨by unfold RgI; split <;> omega, ?_⟩
  have e0 : (if (256 : Int) < (w : Int) then 256 else (w : Int)) = ((min w 256 : Nat) : Int) := by split <;> omega
  rw [e0]
  refine forGo_ind (I := fun r σ c' => ∃ (m : Nat) (t : Option D), m + r.length = min w 256 ∧ σ = [some (.int k), some (.int w), some (.int ((min (k ^ m) 257 : Nat) : Int)), t] ∧ c = c' ∧ (∀ x ∈ r, ∃ i, x = .int i)) ?_ ?_ _ _ _
    ⟨0, none, by simp [rngL], by simp, rfl, fun x hx => by obtain ⟨i, _, rfl⟩ := rng_mem hx; exact ⟨_, rfl⟩⟩
  · rintro σ c' ⟨m, t, hm, rfl, rfl, _⟩
    have : m = min w 256 := by simpa using hm
    subst this
    simp only [wFn, wSs, wS, wE, wA, wL, wT, wO, wC, wI, q_bii, q_btt, q_bti, q_bss, q_bl1, q_bl2, q_bl3, q_iadd, q_isub, q_imul, q_imod, q_idiv, q_ipow, q_tadd, q_trep, q_sadd, q_ladd, q_lrep, q_lkl, q_lko, q_lrl, q_lro, q_lrs, q_lsl, q_lso, q_lss, q_lst, q_aii, q_att2, q_clt, q_cle, q_cgt, q_cge, q_ceq, q_cne, q_cin, q_cni, q_cis, q_cin', q_eii, q_ebb, q_ess, q_tb, q_ti, q_tn, q_tt, q_tl, q_to, q_tc, q_int, q_inb, q_lnt, q_lnl, q_lnc, q_min, q_max, q_abs, q_tpt, q_tpl, q_lil, q_lit, q_sum, q_any, q_all, q_repr, q_fzi, q_fzb, q_fzs, q_fzn, q_fzt, q_fzl, q_fzo, q_fzc, q_fzr, q_fzf, q_ski, q_skb, q_sks, q_skn, q_skt, q_skl, q_sko, q_skf, q_ani, q_anb, q_ans, q_ann, q_ant, q_anl, q_ano, q_att, q_atl, q_ato, q_ri, q_rb, q_rs, q_rn, q_rt, q_rl, q_ro, q_rc, q_ixt, q_ixl, q_ixo, q_slt, q_sll, q_wt, q_r1, q_r2, List.map_cons, List.map_nil, List.cons_append, List.nil_append, List.replicate, List.getElem?_cons_zero, List.getElem?_cons_succ, List.set_cons_zero, List.set_cons_succ, Option.some.injEq, exists_eq_left', List.length_cons, List.length_nil, Bool.not_true, Bool.not_false, List.zip_cons_cons, List.zip_nil_right, List.foldl_cons, List.foldl_nil, true_and, and_true, if_true, if_false, Bool.false_eq_true, D.own.injEq, D.int.injEq, D.tup.injEq, D.lst.injEq, D.cell.injEq, D.bl.injEq, D.str.injEq, D.scr.injEq]
    rw [List.take_length, min_big h1]
    exact h
  · rintro x r σ c' R ⟨m, t, hm, rfl, rfl, hx⟩ hR
    obtain ⟨i, rfl⟩ := hx x (by simp)
    simp only [List.length_cons] at hm
    simp only [wFn, wSs, wS, wE, wA, wL, wT, wO, wC, wI, q_bii, q_btt, q_bti, q_bss, q_bl1, q_bl2, q_bl3, q_iadd, q_isub, q_imul, q_imod, q_idiv, q_ipow, q_tadd, q_trep, q_sadd, q_ladd, q_lrep, q_lkl, q_lko, q_lrl, q_lro, q_lrs, q_lsl, q_lso, q_lss, q_lst, q_aii, q_att2, q_clt, q_cle, q_cgt, q_cge, q_ceq, q_cne, q_cin, q_cni, q_cis, q_cin', q_eii, q_ebb, q_ess, q_tb, q_ti, q_tn, q_tt, q_tl, q_to, q_tc, q_int, q_inb, q_lnt, q_lnl, q_lnc, q_min, q_max, q_abs, q_tpt, q_tpl, q_lil, q_lit, q_sum, q_any, q_all, q_repr, q_fzi, q_fzb, q_fzs, q_fzn, q_fzt, q_fzl, q_fzo, q_fzc, q_fzr, q_fzf, q_ski, q_skb, q_sks, q_skn, q_skt, q_skl, q_sko, q_skf, q_ani, q_anb, q_ans, q_ann, q_ant, q_anl, q_ano, q_att, q_atl, q_ato, q_ri, q_rb, q_rs, q_rn, q_rt, q_rl, q_ro, q_rc, q_ixt, q_ixl, q_ixo, q_slt, q_sll, q_wt, q_r1, q_r2, List.map_cons, List.map_nil, List.cons_append, List.nil_append, List.replicate, List.getElem?_cons_zero, List.getElem?_cons_succ, List.set_cons_zero, List.set_cons_succ, Option.some.injEq, exists_eq_left', List.length_cons, List.length_nil, Bool.not_true, Bool.not_false, List.zip_cons_cons, List.zip_nil_right, List.foldl_cons, List.foldl_nil, true_and, and_true, if_true, if_false, Bool.false_eq_true, D.own.injEq, D.int.injEq, D.tup.injEq, D.lst.injEq, D.cell.injEq, D.bl.injEq, D.str.injEq, D.scr.injEq]
    refine ⟨by unfold L2.CMul; omega, hR _ _ ⟨m + 1, some (.int i), by omega, ?_, rfl, fun y hy => hx y (by simp [hy])⟩⟩
    have e1 : (if (256 + 1 : Int) < ((min (k ^ m) 257 : Nat) : Int) * (k : Int) then (256 + 1 : Int) else ((min (k ^ m) 257 : Nat) : Int) * (k : Int)) = ((min (k ^ (m + 1)) 257 : Nat) : Int) := by
      rw [← min_step h1, ← Int.natCast_mul]
      generalize min (k ^ m) 257 * k = z
      split <;> omega
    rw [e1]
theorem bls_inR (k : Int) (xs : List Int) : blsOf ((xs.map D.int).map fun d => match d with | .int s => .bl (decide (0 ≤ s) && decide (s < k)) | d => d) = some (xs.map fun s => decide (0 ≤ s) && decide (s < k)) := by
  have := blsOf_map (xs.map fun s => decide (0 ≤ s) && decide (s < k))
  rw [List.map_map] at this ⊢
  exact this
theorem pu_is_of : ∀ ds c Q E, spIsOf ds c Q E → wFn Γ sub kind ir_is_of ds c Q E := by
  rintro _ c Q E ⟨k, xs, rfl, hl, h⟩
  simp only [ir_is_of, wFn, wSs, wS, wE, wA, wL, wT, wO, wC, wI, q_bii, q_btt, q_bti, q_bss, q_bl1, q_bl2, q_bl3, q_iadd, q_isub, q_imul, q_imod, q_idiv, q_ipow, q_tadd, q_trep, q_sadd, q_ladd, q_lrep, q_lkl, q_lko, q_lrl, q_lro, q_lrs, q_lsl, q_lso, q_lss, q_lst, q_aii, q_att2, q_clt, q_cle, q_cgt, q_cge, q_ceq, q_cne, q_cin, q_cni, q_cis, q_cin', q_eii, q_ebb, q_ess, q_tb, q_ti, q_tn, q_tt, q_tl, q_to, q_tc, q_int, q_inb, q_lnt, q_lnl, q_lnc, q_min, q_max, q_abs, q_tpt, q_tpl, q_lil, q_lit, q_sum, q_any, q_all, q_repr, q_fzi, q_fzb, q_fzs, q_fzn, q_fzt, q_fzl, q_fzo, q_fzc, q_fzr, q_fzf, q_ski, q_skb, q_sks, q_skn, q_skt, q_skl, q_sko, q_skf, q_ani, q_anb, q_ans, q_ann, q_ant, q_anl, q_ano, q_att, q_atl, q_ato, q_ri, q_rb, q_rs, q_rn, q_rt, q_rl, q_ro, q_rc, q_ixt, q_ixl, q_ixo, q_slt, q_sll, q_wt, q_r1, q_r2, List.map_cons, List.map_nil, List.cons_append, List.nil_append, List.replicate, List.getElem?_cons_zero, List.getElem?_cons_succ, List.set_cons_zero, List.set_cons_succ, Option.some.injEq, exists_eq_left', List.length_cons, List.length_nil, Bool.not_true, Bool.not_false, List.zip_cons_cons, List.zip_nil_right, List.foldl_cons, List.foldl_nil, true_and, and_true, if_true, if_false, Bool.false_eq_true, D.own.injEq, D.int.injEq, D.tup.injEq, D.lst.injEq, D.cell.injEq, D.bl.injEq, D.str.injEq, D.scr.injEq]
  have hsz : (200000 : Nat) ≤ sizeLine := by decide
  refine ⟨by simp only [List.length_map]; omega, lc_map (f := fun d => match d with | .int s => .bl (decide (0 ≤ s) && decide (s < k)) | d => d) trivial (fun x hx K hK => ?_) ?_⟩
  · obtain ⟨s, _, rfl⟩ := List.mem_map.mp hx
    unfold lcTurn
    simp only [wipeD, wFn, wSs, wS, wE, wA, wL, wT, wO, wC, wI, q_bii, q_btt, q_bti, q_bss, q_bl1, q_bl2, q_bl3, q_iadd, q_isub, q_imul, q_imod, q_idiv, q_ipow, q_tadd, q_trep, q_sadd, q_ladd, q_lrep, q_lkl, q_lko, q_lrl, q_lro, q_lrs, q_lsl, q_lso, q_lss, q_lst, q_aii, q_att2, q_clt, q_cle, q_cgt, q_cge, q_ceq, q_cne, q_cin, q_cni, q_cis, q_cin', q_eii, q_ebb, q_ess, q_tb, q_ti, q_tn, q_tt, q_tl, q_to, q_tc, q_int, q_inb, q_lnt, q_lnl, q_lnc, q_min, q_max, q_abs, q_tpt, q_tpl, q_lil, q_lit, q_sum, q_any, q_all, q_repr, q_fzi, q_fzb, q_fzs, q_fzn, q_fzt, q_fzl, q_fzo, q_fzc, q_fzr, q_fzf, q_ski, q_skb, q_sks, q_skn, q_skt, q_skl, q_sko, q_skf, q_ani, q_anb, q_ans, q_ann, q_ant, q_anl, q_ano, q_att, q_atl, q_ato, q_ri, q_rb, q_rs, q_rn, q_rt, q_rl, q_ro, q_rc, q_ixt, q_ixl, q_ixo, q_slt, q_sll, q_wt, q_r1, q_r2, List.map_cons, List.map_nil, List.cons_append, List.nil_append, List.replicate, List.getElem?_cons_zero, List.getElem?_cons_succ, List.set_cons_zero, List.set_cons_succ, Option.some.injEq, exists_eq_left', List.length_cons, List.length_nil, Bool.not_true, Bool.not_false, List.zip_cons_cons, List.zip_nil_right, List.foldl_cons, List.foldl_nil, true_and, and_true, if_true, if_false, Bool.false_eq_true, D.own.injEq, D.int.injEq, D.tup.injEq, D.lst.injEq, D.cell.injEq, D.bl.injEq, D.str.injEq, D.scr.injEq]
    refine iteB (fun hc => ?_) fun hc => ?_
    · simp only [hc, Bool.true_and] at hK
      exact hK
    · simp only [hc, Bool.false_and] at hK
      exact hK
  · refine ⟨_, _, rfl, bls_inR k xs, ?_⟩
    have e : (xs.map fun s => decide (0 ≤ s) && decide (s < k)).all id = inR k xs := by simp [inR, List.all_map, Function.comp_def]
    rw [e, List.take_length]
    exact h
theorem pu_is_rule (hE : ∀ ds c Q E, spEntries ds c Q E → Γ "entries_for" ds c Q E) : ∀ ds c Q E, spIsRule ds c Q E → wFn Γ sub kind ir_is_rule ds c Q E := by
  rintro _ c Q E ⟨k, w, t, rfl, hl, h⟩
  simp only [ir_is_rule, wFn, wSs, wS, wE, wA, wL, wT, wO, wC, wI, q_bii, q_btt, q_bti, q_bss, q_bl1, q_bl2, q_bl3, q_iadd, q_isub, q_imul, q_imod, q_idiv, q_ipow, q_tadd, q_trep, q_sadd, q_ladd, q_lrep, q_lkl, q_lko, q_lrl, q_lro, q_lrs, q_lsl, q_lso, q_lss, q_lst, q_aii, q_att2, q_clt, q_cle, q_cgt, q_cge, q_ceq, q_cne, q_cin, q_cni, q_cis, q_cin', q_eii, q_ebb, q_ess, q_tb, q_ti, q_tn, q_tt, q_tl, q_to, q_tc, q_int, q_inb, q_lnt, q_lnl, q_lnc, q_min, q_max, q_abs, q_tpt, q_tpl, q_lil, q_lit, q_sum, q_any, q_all, q_repr, q_fzi, q_fzb, q_fzs, q_fzn, q_fzt, q_fzl, q_fzo, q_fzc, q_fzr, q_fzf, q_ski, q_skb, q_sks, q_skn, q_skt, q_skl, q_sko, q_skf, q_ani, q_anb, q_ans, q_ann, q_ant, q_anl, q_ano, q_att, q_atl, q_ato, q_ri, q_rb, q_rs, q_rn, q_rt, q_rl, q_ro, q_rc, q_ixt, q_ixl, q_ixo, q_slt, q_sll, q_wt, q_r1, q_r2, List.map_cons, List.map_nil, List.cons_append, List.nil_append, List.replicate, List.getElem?_cons_zero, List.getElem?_cons_succ, List.set_cons_zero, List.set_cons_succ, Option.some.injEq, exists_eq_left', List.length_cons, List.length_nil, Bool.not_true, Bool.not_false, List.zip_cons_cons, List.zip_nil_right, List.foldl_cons, List.foldl_nil, true_and, and_true, if_true, if_false, Bool.false_eq_true, D.own.injEq, D.int.injEq, D.tup.injEq, D.lst.injEq, D.cell.injEq, D.bl.injEq, D.str.injEq, D.scr.injEq]
  have hsz : (200000 : Nat) ≤ sizeLine := by decide
  have no : isR k w t = false → Q (.bl false) (c.take c.length) := fun e => tkQ (by rw [← e]; exact h)
  have bad : ¬ (2 ≤ k ∧ k ≤ 4 ∧ 1 ≤ w ∧ w ≤ 256) → isR k w t = false := fun e => by
    unfold isR
    rw [Bool.and_eq_false_iff]
    exact .inl (decide_eq_false fun ⟨a, b, d, e', _⟩ => e ⟨a, b, d, e'⟩)
  refine iteB (fun a1 => iteB (fun a2 => ?_) fun a2 => iteB (fun a3 => iteB (fun a4 => ?_) fun a4 => ?_) fun a3 => ?_) fun a1 => ?_
  · exact no (bad (by simp at a2; omega))
  · exact no (bad (by simp at a4; omega))
  · simp at a1 a2 a3 a4
    obtain ⟨k, rfl⟩ : ∃ n : Nat, k = n := ⟨k.toNat, by omega⟩
    obtain ⟨w, rfl⟩ : ∃ n : Nat, w = n := ⟨w.toNat, by omega⟩
    have hP : isR (k : Int) (w : Int) t = (decide (k ^ w ≤ 256 ∧ t.length = k ^ w) && inR k t) := by
      unfold isR
      congr 1
      simp only [Int.toNat_natCast]
      rw [decide_eq_decide]
      exact ⟨fun ⟨_, _, _, _, x, y⟩ => ⟨x, y⟩, fun ⟨x, y⟩ => ⟨by omega, by omega, by omega, by omega, x, y⟩⟩
    rw [hP] at h no
    refine hE _ _ _ _ ⟨k, w, rfl, by omega, by omega, ?_⟩
    simp only [wFn, wSs, wS, wE, wA, wL, wT, wO, wC, wI, q_bii, q_btt, q_bti, q_bss, q_bl1, q_bl2, q_bl3, q_iadd, q_isub, q_imul, q_imod, q_idiv, q_ipow, q_tadd, q_trep, q_sadd, q_ladd, q_lrep, q_lkl, q_lko, q_lrl, q_lro, q_lrs, q_lsl, q_lso, q_lss, q_lst, q_aii, q_att2, q_clt, q_cle, q_cgt, q_cge, q_ceq, q_cne, q_cin, q_cni, q_cis, q_cin', q_eii, q_ebb, q_ess, q_tb, q_ti, q_tn, q_tt, q_tl, q_to, q_tc, q_int, q_inb, q_lnt, q_lnl, q_lnc, q_min, q_max, q_abs, q_tpt, q_tpl, q_lil, q_lit, q_sum, q_any, q_all, q_repr, q_fzi, q_fzb, q_fzs, q_fzn, q_fzt, q_fzl, q_fzo, q_fzc, q_fzr, q_fzf, q_ski, q_skb, q_sks, q_skn, q_skt, q_skl, q_sko, q_skf, q_ani, q_anb, q_ans, q_ann, q_ant, q_anl, q_ano, q_att, q_atl, q_ato, q_ri, q_rb, q_rs, q_rn, q_rt, q_rl, q_ro, q_rc, q_ixt, q_ixl, q_ixo, q_slt, q_sll, q_wt, q_r1, q_r2, List.map_cons, List.map_nil, List.cons_append, List.nil_append, List.replicate, List.getElem?_cons_zero, List.getElem?_cons_succ, List.set_cons_zero, List.set_cons_succ, Option.some.injEq, exists_eq_left', List.length_cons, List.length_nil, Bool.not_true, Bool.not_false, List.zip_cons_cons, List.zip_nil_right, List.foldl_cons, List.foldl_nil, true_and, and_true, if_true, if_false, Bool.false_eq_true, D.own.injEq, D.int.injEq, D.tup.injEq, D.lst.injEq, D.cell.injEq, D.bl.injEq, D.str.injEq, D.scr.injEq]
    refine iteB (fun a5 => no ?_) fun a5 => ?_
    · have := of_decide_eq_true a5
      rw [Bool.and_eq_false_iff]
      exact .inl (decide_eq_false fun ⟨x, _⟩ => by omega)
    · have a5 := of_decide_eq_false a5
      have hle : k ^ w ≤ 256 := by omega
      refine hE _ _ _ _ ⟨k, w, rfl, by omega, by omega, ?_⟩
      simp only [wFn, wSs, wS, wE, wA, wL, wT, wO, wC, wI, q_bii, q_btt, q_bti, q_bss, q_bl1, q_bl2, q_bl3, q_iadd, q_isub, q_imul, q_imod, q_idiv, q_ipow, q_tadd, q_trep, q_sadd, q_ladd, q_lrep, q_lkl, q_lko, q_lrl, q_lro, q_lrs, q_lsl, q_lso, q_lss, q_lst, q_aii, q_att2, q_clt, q_cle, q_cgt, q_cge, q_ceq, q_cne, q_cin, q_cni, q_cis, q_cin', q_eii, q_ebb, q_ess, q_tb, q_ti, q_tn, q_tt, q_tl, q_to, q_tc, q_int, q_inb, q_lnt, q_lnl, q_lnc, q_min, q_max, q_abs, q_tpt, q_tpl, q_lil, q_lit, q_sum, q_any, q_all, q_repr, q_fzi, q_fzb, q_fzs, q_fzn, q_fzt, q_fzl, q_fzo, q_fzc, q_fzr, q_fzf, q_ski, q_skb, q_sks, q_skn, q_skt, q_skl, q_sko, q_skf, q_ani, q_anb, q_ans, q_ann, q_ant, q_anl, q_ano, q_att, q_atl, q_ato, q_ri, q_rb, q_rs, q_rn, q_rt, q_rl, q_ro, q_rc, q_ixt, q_ixl, q_ixo, q_slt, q_sll, q_wt, q_r1, q_r2, List.map_cons, List.map_nil, List.cons_append, List.nil_append, List.replicate, List.getElem?_cons_zero, List.getElem?_cons_succ, List.set_cons_zero, List.set_cons_succ, Option.some.injEq, exists_eq_left', List.length_cons, List.length_nil, Bool.not_true, Bool.not_false, List.zip_cons_cons, List.zip_nil_right, List.foldl_cons, List.foldl_nil, true_and, and_true, if_true, if_false, Bool.false_eq_true, D.own.injEq, D.int.injEq, D.tup.injEq, D.lst.injEq, D.cell.injEq, D.bl.injEq, D.str.injEq, D.scr.injEq]
      simp only [List.length_map]
      refine iteB (fun a6 => ?_) fun a6 => ?_
      · have a6 := of_decide_eq_true a6
        refine ⟨by omega, lc_map (f := fun d => match d with | .int s => .bl (decide (0 ≤ s) && decide (s < (k : Int))) | d => d) trivial (fun x hx K hK => ?_) ?_⟩
        · obtain ⟨s, _, rfl⟩ := List.mem_map.mp hx
          unfold lcTurn
          simp only [wipeD, wFn, wSs, wS, wE, wA, wL, wT, wO, wC, wI, q_bii, q_btt, q_bti, q_bss, q_bl1, q_bl2, q_bl3, q_iadd, q_isub, q_imul, q_imod, q_idiv, q_ipow, q_tadd, q_trep, q_sadd, q_ladd, q_lrep, q_lkl, q_lko, q_lrl, q_lro, q_lrs, q_lsl, q_lso, q_lss, q_lst, q_aii, q_att2, q_clt, q_cle, q_cgt, q_cge, q_ceq, q_cne, q_cin, q_cni, q_cis, q_cin', q_eii, q_ebb, q_ess, q_tb, q_ti, q_tn, q_tt, q_tl, q_to, q_tc, q_int, q_inb, q_lnt, q_lnl, q_lnc, q_min, q_max, q_abs, q_tpt, q_tpl, q_lil, q_lit, q_sum, q_any, q_all, q_repr, q_fzi, q_fzb, q_fzs, q_fzn, q_fzt, q_fzl, q_fzo, q_fzc, q_fzr, q_fzf, q_ski, q_skb, q_sks, q_skn, q_skt, q_skl, q_sko, q_skf, q_ani, q_anb, q_ans, q_ann, q_ant, q_anl, q_ano, q_att, q_atl, q_ato, q_ri, q_rb, q_rs, q_rn, q_rt, q_rl, q_ro, q_rc, q_ixt, q_ixl, q_ixo, q_slt, q_sll, q_wt, q_r1, q_r2, List.map_cons, List.map_nil, List.cons_append, List.nil_append, List.replicate, List.getElem?_cons_zero, List.getElem?_cons_succ, List.set_cons_zero, List.set_cons_succ, Option.some.injEq, exists_eq_left', List.length_cons, List.length_nil, Bool.not_true, Bool.not_false, List.zip_cons_cons, List.zip_nil_right, List.foldl_cons, List.foldl_nil, true_and, and_true, if_true, if_false, Bool.false_eq_true, D.own.injEq, D.int.injEq, D.tup.injEq, D.lst.injEq, D.cell.injEq, D.bl.injEq, D.str.injEq, D.scr.injEq]
          refine iteB (fun hc => ?_) fun hc => ?_
          · simp only [hc, Bool.true_and] at hK
            exact hK
          · simp only [hc, Bool.false_and] at hK
            exact hK
        · refine ⟨_, _, rfl, bls_inR k t, ?_⟩
          have e : (t.map fun s => decide (0 ≤ s) && decide (s < (k : Int))).all id = inR k t := by simp [inR, List.all_map, Function.comp_def]
          rw [e]
          have e2 : decide (k ^ w ≤ 256 ∧ t.length = k ^ w) = true := decide_eq_true ⟨hle, by omega⟩
          rw [e2, Bool.true_and] at h
          exact tkQ h
      · rw [a6]
        have a6 := of_decide_eq_false a6
        refine no ?_
        rw [Bool.and_eq_false_iff]
        exact .inl (decide_eq_false fun ⟨_, y⟩ => by omega)
  · exact no (bad (by simp at a3; omega))
  · exact no (bad (by simp at a1; omega))
theorem pu_check_rule (hR : ∀ ds c Q E, spIsRule ds c Q E → Γ "is_rule" ds c Q E) : ∀ ds c Q E, spCheckRule ds c Q E → wFn Γ sub kind ir_check_rule ds c Q E := by
  rintro _ c Q E ⟨k, w, t, rfl, hl, h1, h2⟩
  simp only [ir_check_rule, wFn, wSs, wS, wE, wA, wL, wT, wO, wC, wI, q_bii, q_btt, q_bti, q_bss, q_bl1, q_bl2, q_bl3, q_iadd, q_isub, q_imul, q_imod, q_idiv, q_ipow, q_tadd, q_trep, q_sadd, q_ladd, q_lrep, q_lkl, q_lko, q_lrl, q_lro, q_lrs, q_lsl, q_lso, q_lss, q_lst, q_aii, q_att2, q_clt, q_cle, q_cgt, q_cge, q_ceq, q_cne, q_cin, q_cni, q_cis, q_cin', q_eii, q_ebb, q_ess, q_tb, q_ti, q_tn, q_tt, q_tl, q_to, q_tc, q_int, q_inb, q_lnt, q_lnl, q_lnc, q_min, q_max, q_abs, q_tpt, q_tpl, q_lil, q_lit, q_sum, q_any, q_all, q_repr, q_fzi, q_fzb, q_fzs, q_fzn, q_fzt, q_fzl, q_fzo, q_fzc, q_fzr, q_fzf, q_ski, q_skb, q_sks, q_skn, q_skt, q_skl, q_sko, q_skf, q_ani, q_anb, q_ans, q_ann, q_ant, q_anl, q_ano, q_att, q_atl, q_ato, q_ri, q_rb, q_rs, q_rn, q_rt, q_rl, q_ro, q_rc, q_ixt, q_ixl, q_ixo, q_slt, q_sll, q_wt, q_r1, q_r2, List.map_cons, List.map_nil, List.cons_append, List.nil_append, List.replicate, List.getElem?_cons_zero, List.getElem?_cons_succ, List.set_cons_zero, List.set_cons_succ, Option.some.injEq, exists_eq_left', List.length_cons, List.length_nil, Bool.not_true, Bool.not_false, List.zip_cons_cons, List.zip_nil_right, List.foldl_cons, List.foldl_nil, true_and, and_true, if_true, if_false, Bool.false_eq_true, D.own.injEq, D.int.injEq, D.tup.injEq, D.lst.injEq, D.cell.injEq, D.bl.injEq, D.str.injEq, D.scr.injEq]
  refine hR _ _ _ _ ⟨k, w, t, rfl, hl, ?_⟩
  simp only [wFn, wSs, wS, wE, wA, wL, wT, wO, wC, wI, q_bii, q_btt, q_bti, q_bss, q_bl1, q_bl2, q_bl3, q_iadd, q_isub, q_imul, q_imod, q_idiv, q_ipow, q_tadd, q_trep, q_sadd, q_ladd, q_lrep, q_lkl, q_lko, q_lrl, q_lro, q_lrs, q_lsl, q_lso, q_lss, q_lst, q_aii, q_att2, q_clt, q_cle, q_cgt, q_cge, q_ceq, q_cne, q_cin, q_cni, q_cis, q_cin', q_eii, q_ebb, q_ess, q_tb, q_ti, q_tn, q_tt, q_tl, q_to, q_tc, q_int, q_inb, q_lnt, q_lnl, q_lnc, q_min, q_max, q_abs, q_tpt, q_tpl, q_lil, q_lit, q_sum, q_any, q_all, q_repr, q_fzi, q_fzb, q_fzs, q_fzn, q_fzt, q_fzl, q_fzo, q_fzc, q_fzr, q_fzf, q_ski, q_skb, q_sks, q_skn, q_skt, q_skl, q_sko, q_skf, q_ani, q_anb, q_ans, q_ann, q_ant, q_anl, q_ano, q_att, q_atl, q_ato, q_ri, q_rb, q_rs, q_rn, q_rt, q_rl, q_ro, q_rc, q_ixt, q_ixl, q_ixo, q_slt, q_sll, q_wt, q_r1, q_r2, List.map_cons, List.map_nil, List.cons_append, List.nil_append, List.replicate, List.getElem?_cons_zero, List.getElem?_cons_succ, List.set_cons_zero, List.set_cons_succ, Option.some.injEq, exists_eq_left', List.length_cons, List.length_nil, Bool.not_true, Bool.not_false, List.zip_cons_cons, List.zip_nil_right, List.foldl_cons, List.foldl_nil, true_and, and_true, if_true, if_false, Bool.false_eq_true, D.own.injEq, D.int.injEq, D.tup.injEq, D.lst.injEq, D.cell.injEq, D.bl.injEq, D.str.injEq, D.scr.injEq]
  rw [List.take_length]
  cases e : isR k w t with
  | true => exact iteB (fun h => by cases h) fun _ => h1 e
  | false => exact iteB (fun _ => h2 e) fun h => by cases h
theorem pu_is_word (hR : ∀ ds c Q E, spCheckRule ds c Q E → Γ "check_rule" ds c Q E) (hO : ∀ ds c Q E, spIsOf ds c Q E → Γ "is_of" ds c Q E) : ∀ ds c Q E, spIsWord ds c Q E → wFn Γ sub kind ir_is_word ds c Q E := by
  rintro _ c Q E ⟨k, w, t, xs, rfl, hl, hx, h1, h2⟩
  simp only [ir_is_word, wFn, wSs, wS, wE, wA, wL, wT, wO, wC, wI, q_bii, q_btt, q_bti, q_bss, q_bl1, q_bl2, q_bl3, q_iadd, q_isub, q_imul, q_imod, q_idiv, q_ipow, q_tadd, q_trep, q_sadd, q_ladd, q_lrep, q_lkl, q_lko, q_lrl, q_lro, q_lrs, q_lsl, q_lso, q_lss, q_lst, q_aii, q_att2, q_clt, q_cle, q_cgt, q_cge, q_ceq, q_cne, q_cin, q_cni, q_cis, q_cin', q_eii, q_ebb, q_ess, q_tb, q_ti, q_tn, q_tt, q_tl, q_to, q_tc, q_int, q_inb, q_lnt, q_lnl, q_lnc, q_min, q_max, q_abs, q_tpt, q_tpl, q_lil, q_lit, q_sum, q_any, q_all, q_repr, q_fzi, q_fzb, q_fzs, q_fzn, q_fzt, q_fzl, q_fzo, q_fzc, q_fzr, q_fzf, q_ski, q_skb, q_sks, q_skn, q_skt, q_skl, q_sko, q_skf, q_ani, q_anb, q_ans, q_ann, q_ant, q_anl, q_ano, q_att, q_atl, q_ato, q_ri, q_rb, q_rs, q_rn, q_rt, q_rl, q_ro, q_rc, q_ixt, q_ixl, q_ixo, q_slt, q_sll, q_wt, q_r1, q_r2, List.map_cons, List.map_nil, List.cons_append, List.nil_append, List.replicate, List.getElem?_cons_zero, List.getElem?_cons_succ, List.set_cons_zero, List.set_cons_succ, Option.some.injEq, exists_eq_left', List.length_cons, List.length_nil, Bool.not_true, Bool.not_false, List.zip_cons_cons, List.zip_nil_right, List.foldl_cons, List.foldl_nil, true_and, and_true, if_true, if_false, Bool.false_eq_true, D.own.injEq, D.int.injEq, D.tup.injEq, D.lst.injEq, D.cell.injEq, D.bl.injEq, D.str.injEq, D.scr.injEq]
  refine hR _ _ _ _ ⟨k, w, t, rfl, hl, fun e => ?_, fun e => ?_⟩
  · refine ⟨.int k, rfl, ?_⟩
    simp only [wFn, wSs, wS, wE, wA, wL, wT, wO, wC, wI, q_bii, q_btt, q_bti, q_bss, q_bl1, q_bl2, q_bl3, q_iadd, q_isub, q_imul, q_imod, q_idiv, q_ipow, q_tadd, q_trep, q_sadd, q_ladd, q_lrep, q_lkl, q_lko, q_lrl, q_lro, q_lrs, q_lsl, q_lso, q_lss, q_lst, q_aii, q_att2, q_clt, q_cle, q_cgt, q_cge, q_ceq, q_cne, q_cin, q_cni, q_cis, q_cin', q_eii, q_ebb, q_ess, q_tb, q_ti, q_tn, q_tt, q_tl, q_to, q_tc, q_int, q_inb, q_lnt, q_lnl, q_lnc, q_min, q_max, q_abs, q_tpt, q_tpl, q_lil, q_lit, q_sum, q_any, q_all, q_repr, q_fzi, q_fzb, q_fzs, q_fzn, q_fzt, q_fzl, q_fzo, q_fzc, q_fzr, q_fzf, q_ski, q_skb, q_sks, q_skn, q_skt, q_skl, q_sko, q_skf, q_ani, q_anb, q_ans, q_ann, q_ant, q_anl, q_ano, q_att, q_atl, q_ato, q_ri, q_rb, q_rs, q_rn, q_rt, q_rl, q_ro, q_rc, q_ixt, q_ixl, q_ixo, q_slt, q_sll, q_wt, q_r1, q_r2, List.map_cons, List.map_nil, List.cons_append, List.nil_append, List.replicate, List.getElem?_cons_zero, List.getElem?_cons_succ, List.set_cons_zero, List.set_cons_succ, Option.some.injEq, exists_eq_left', List.length_cons, List.length_nil, Bool.not_true, Bool.not_false, List.zip_cons_cons, List.zip_nil_right, List.foldl_cons, List.foldl_nil, true_and, and_true, if_true, if_false, Bool.false_eq_true, D.own.injEq, D.int.injEq, D.tup.injEq, D.lst.injEq, D.cell.injEq, D.bl.injEq, D.str.injEq, D.scr.injEq]
    refine hO _ _ _ _ ⟨k, xs, rfl, hx, rt1 rfl rfl (h1 e)⟩
  · exact tkE (h2 e)
theorem pu_check_word (hR : ∀ ds c Q E, spIsWord ds c Q E → Γ "is_word" ds c Q E) : ∀ ds c Q E, spCheckWord ds c Q E → wFn Γ sub kind ir_check_word ds c Q E := by
  rintro _ c Q E ⟨k, w, t, xs, rfl, hl, hx, h1, h2, h3⟩
  simp only [ir_check_word, wFn, wSs, wS, wE, wA, wL, wT, wO, wC, wI, q_bii, q_btt, q_bti, q_bss, q_bl1, q_bl2, q_bl3, q_iadd, q_isub, q_imul, q_imod, q_idiv, q_ipow, q_tadd, q_trep, q_sadd, q_ladd, q_lrep, q_lkl, q_lko, q_lrl, q_lro, q_lrs, q_lsl, q_lso, q_lss, q_lst, q_aii, q_att2, q_clt, q_cle, q_cgt, q_cge, q_ceq, q_cne, q_cin, q_cni, q_cis, q_cin', q_eii, q_ebb, q_ess, q_tb, q_ti, q_tn, q_tt, q_tl, q_to, q_tc, q_int, q_inb, q_lnt, q_lnl, q_lnc, q_min, q_max, q_abs, q_tpt, q_tpl, q_lil, q_lit, q_sum, q_any, q_all, q_repr, q_fzi, q_fzb, q_fzs, q_fzn, q_fzt, q_fzl, q_fzo, q_fzc, q_fzr, q_fzf, q_ski, q_skb, q_sks, q_skn, q_skt, q_skl, q_sko, q_skf, q_ani, q_anb, q_ans, q_ann, q_ant, q_anl, q_ano, q_att, q_atl, q_ato, q_ri, q_rb, q_rs, q_rn, q_rt, q_rl, q_ro, q_rc, q_ixt, q_ixl, q_ixo, q_slt, q_sll, q_wt, q_r1, q_r2, List.map_cons, List.map_nil, List.cons_append, List.nil_append, List.replicate, List.getElem?_cons_zero, List.getElem?_cons_succ, List.set_cons_zero, List.set_cons_succ, Option.some.injEq, exists_eq_left', List.length_cons, List.length_nil, Bool.not_true, Bool.not_false, List.zip_cons_cons, List.zip_nil_right, List.foldl_cons, List.foldl_nil, true_and, and_true, if_true, if_false, Bool.false_eq_true, D.own.injEq, D.int.injEq, D.tup.injEq, D.lst.injEq, D.cell.injEq, D.bl.injEq, D.str.injEq, D.scr.injEq]
  refine hR _ _ _ _ ⟨k, w, t, xs, rfl, hl, hx, fun e => ?_, fun e => ?_⟩
  · simp only [wFn, wSs, wS, wE, wA, wL, wT, wO, wC, wI, q_bii, q_btt, q_bti, q_bss, q_bl1, q_bl2, q_bl3, q_iadd, q_isub, q_imul, q_imod, q_idiv, q_ipow, q_tadd, q_trep, q_sadd, q_ladd, q_lrep, q_lkl, q_lko, q_lrl, q_lro, q_lrs, q_lsl, q_lso, q_lss, q_lst, q_aii, q_att2, q_clt, q_cle, q_cgt, q_cge, q_ceq, q_cne, q_cin, q_cni, q_cis, q_cin', q_eii, q_ebb, q_ess, q_tb, q_ti, q_tn, q_tt, q_tl, q_to, q_tc, q_int, q_inb, q_lnt, q_lnl, q_lnc, q_min, q_max, q_abs, q_tpt, q_tpl, q_lil, q_lit, q_sum, q_any, q_all, q_repr, q_fzi, q_fzb, q_fzs, q_fzn, q_fzt, q_fzl, q_fzo, q_fzc, q_fzr, q_fzf, q_ski, q_skb, q_sks, q_skn, q_skt, q_skl, q_sko, q_skf, q_ani, q_anb, q_ans, q_ann, q_ant, q_anl, q_ano, q_att, q_atl, q_ato, q_ri, q_rb, q_rs, q_rn, q_rt, q_rl, q_ro, q_rc, q_ixt, q_ixl, q_ixo, q_slt, q_sll, q_wt, q_r1, q_r2, List.map_cons, List.map_nil, List.cons_append, List.nil_append, List.replicate, List.getElem?_cons_zero, List.getElem?_cons_succ, List.set_cons_zero, List.set_cons_succ, Option.some.injEq, exists_eq_left', List.length_cons, List.length_nil, Bool.not_true, Bool.not_false, List.zip_cons_cons, List.zip_nil_right, List.foldl_cons, List.foldl_nil, true_and, and_true, if_true, if_false, Bool.false_eq_true, D.own.injEq, D.int.injEq, D.tup.injEq, D.lst.injEq, D.cell.injEq, D.bl.injEq, D.str.injEq, D.scr.injEq]
    rw [List.take_length]
    cases e2 : inR k xs with
    | true => exact iteB (fun h => by cases h) fun _ => h1 e e2
    | false => exact iteB (fun _ => h2 e e2) fun h => by cases h
  · exact tkE (h3 e)
theorem pu_check_ring (hR : ∀ ds c Q E, spCheckWord ds c Q E → Γ "check_word" ds c Q E) : ∀ ds c Q E, spCheckRing ds c Q E → wFn Γ sub kind ir_check_ring ds c Q E := by
  rintro _ c Q E ⟨k, w, t, xs, rfl, hl, hx, h1, h2, h3⟩
  simp only [ir_check_ring, wFn, wSs, wS, wE, wA, wL, wT, wO, wC, wI, q_bii, q_btt, q_bti, q_bss, q_bl1, q_bl2, q_bl3, q_iadd, q_isub, q_imul, q_imod, q_idiv, q_ipow, q_tadd, q_trep, q_sadd, q_ladd, q_lrep, q_lkl, q_lko, q_lrl, q_lro, q_lrs, q_lsl, q_lso, q_lss, q_lst, q_aii, q_att2, q_clt, q_cle, q_cgt, q_cge, q_ceq, q_cne, q_cin, q_cni, q_cis, q_cin', q_eii, q_ebb, q_ess, q_tb, q_ti, q_tn, q_tt, q_tl, q_to, q_tc, q_int, q_inb, q_lnt, q_lnl, q_lnc, q_min, q_max, q_abs, q_tpt, q_tpl, q_lil, q_lit, q_sum, q_any, q_all, q_repr, q_fzi, q_fzb, q_fzs, q_fzn, q_fzt, q_fzl, q_fzo, q_fzc, q_fzr, q_fzf, q_ski, q_skb, q_sks, q_skn, q_skt, q_skl, q_sko, q_skf, q_ani, q_anb, q_ans, q_ann, q_ant, q_anl, q_ano, q_att, q_atl, q_ato, q_ri, q_rb, q_rs, q_rn, q_rt, q_rl, q_ro, q_rc, q_ixt, q_ixl, q_ixo, q_slt, q_sll, q_wt, q_r1, q_r2, List.map_cons, List.map_nil, List.cons_append, List.nil_append, List.replicate, List.getElem?_cons_zero, List.getElem?_cons_succ, List.set_cons_zero, List.set_cons_succ, Option.some.injEq, exists_eq_left', List.length_cons, List.length_nil, Bool.not_true, Bool.not_false, List.zip_cons_cons, List.zip_nil_right, List.foldl_cons, List.foldl_nil, true_and, and_true, if_true, if_false, Bool.false_eq_true, D.own.injEq, D.int.injEq, D.tup.injEq, D.lst.injEq, D.cell.injEq, D.bl.injEq, D.str.injEq, D.scr.injEq]
  refine hR _ _ _ _ ⟨k, w, t, xs, rfl, hl, hx, fun e e2 => ?_, fun e e2 => tkE (h2 e (.inl e2)), fun e => tkE (h3 e)⟩
  cases xs with
  | nil => exact iteB (fun _ => tkE (h2 e (.inr rfl))) fun h => by simp at h
  | cons x r => exact iteB (fun h => by simp at h) fun _ => tkQ (h1 e e2 (by simp))
theorem pu_value_of (hI : ∀ ds c Q E, spIndex ds c Q E → Γ "number_of" ds c Q E) : ∀ ds c Q E, spValueOf ds c Q E → wFn Γ sub kind ir_value_of ds c Q E := by
  rintro _ c Q E ⟨k, w, t, b, rfl, hr, hs, hb, h⟩
  simp only [ir_value_of, wFn, wSs, wS, wE, wA, wL, wT, wO, wC, wI, q_bii, q_btt, q_bti, q_bss, q_bl1, q_bl2, q_bl3, q_iadd, q_isub, q_imul, q_imod, q_idiv, q_ipow, q_tadd, q_trep, q_sadd, q_ladd, q_lrep, q_lkl, q_lko, q_lrl, q_lro, q_lrs, q_lsl, q_lso, q_lss, q_lst, q_aii, q_att2, q_clt, q_cle, q_cgt, q_cge, q_ceq, q_cne, q_cin, q_cni, q_cis, q_cin', q_eii, q_ebb, q_ess, q_tb, q_ti, q_tn, q_tt, q_tl, q_to, q_tc, q_int, q_inb, q_lnt, q_lnl, q_lnc, q_min, q_max, q_abs, q_tpt, q_tpl, q_lil, q_lit, q_sum, q_any, q_all, q_repr, q_fzi, q_fzb, q_fzs, q_fzn, q_fzt, q_fzl, q_fzo, q_fzc, q_fzr, q_fzf, q_ski, q_skb, q_sks, q_skn, q_skt, q_skl, q_sko, q_skf, q_ani, q_anb, q_ans, q_ann, q_ant, q_anl, q_ano, q_att, q_atl, q_ato, q_ri, q_rb, q_rs, q_rn, q_rt, q_rl, q_ro, q_rc, q_ixt, q_ixl, q_ixo, q_slt, q_sll, q_wt, q_r1, q_r2, List.map_cons, List.map_nil, List.cons_append, List.nil_append, List.replicate, List.getElem?_cons_zero, List.getElem?_cons_succ, List.set_cons_zero, List.set_cons_succ, Option.some.injEq, exists_eq_left', List.length_cons, List.length_nil, Bool.not_true, Bool.not_false, List.zip_cons_cons, List.zip_nil_right, List.foldl_cons, List.foldl_nil, true_and, and_true, if_true, if_false, Bool.false_eq_true, D.own.injEq, D.int.injEq, D.tup.injEq, D.lst.injEq, D.cell.injEq, D.bl.injEq, D.str.injEq, D.scr.injEq]
  refine ⟨tI t, rfl, .int k, rfl, ?_⟩
  simp only [wFn, wSs, wS, wE, wA, wL, wT, wO, wC, wI, q_bii, q_btt, q_bti, q_bss, q_bl1, q_bl2, q_bl3, q_iadd, q_isub, q_imul, q_imod, q_idiv, q_ipow, q_tadd, q_trep, q_sadd, q_ladd, q_lrep, q_lkl, q_lko, q_lrl, q_lro, q_lrs, q_lsl, q_lso, q_lss, q_lst, q_aii, q_att2, q_clt, q_cle, q_cgt, q_cge, q_ceq, q_cne, q_cin, q_cni, q_cis, q_cin', q_eii, q_ebb, q_ess, q_tb, q_ti, q_tn, q_tt, q_tl, q_to, q_tc, q_int, q_inb, q_lnt, q_lnl, q_lnc, q_min, q_max, q_abs, q_tpt, q_tpl, q_lil, q_lit, q_sum, q_any, q_all, q_repr, q_fzi, q_fzb, q_fzs, q_fzn, q_fzt, q_fzl, q_fzo, q_fzc, q_fzr, q_fzf, q_ski, q_skb, q_sks, q_skn, q_skt, q_skl, q_sko, q_skf, q_ani, q_anb, q_ans, q_ann, q_ant, q_anl, q_ano, q_att, q_atl, q_ato, q_ri, q_rb, q_rs, q_rn, q_rt, q_rl, q_ro, q_rc, q_ixt, q_ixl, q_ixo, q_slt, q_sll, q_wt, q_r1, q_r2, List.map_cons, List.map_nil, List.cons_append, List.nil_append, List.replicate, List.getElem?_cons_zero, List.getElem?_cons_succ, List.set_cons_zero, List.set_cons_succ, Option.some.injEq, exists_eq_left', List.length_cons, List.length_nil, Bool.not_true, Bool.not_false, List.zip_cons_cons, List.zip_nil_right, List.foldl_cons, List.foldl_nil, true_and, and_true, if_true, if_false, Bool.false_eq_true, D.own.injEq, D.int.injEq, D.tup.injEq, D.lst.injEq, D.cell.injEq, D.bl.injEq, D.str.injEq, D.scr.injEq]
  refine hI _ _ _ _ ⟨k, b, rfl, by have := hr.k4; omega, ?_⟩
  simp only [wFn, wSs, wS, wE, wA, wL, wT, wO, wC, wI, q_bii, q_btt, q_bti, q_bss, q_bl1, q_bl2, q_bl3, q_iadd, q_isub, q_imul, q_imod, q_idiv, q_ipow, q_tadd, q_trep, q_sadd, q_ladd, q_lrep, q_lkl, q_lko, q_lrl, q_lro, q_lrs, q_lsl, q_lso, q_lss, q_lst, q_aii, q_att2, q_clt, q_cle, q_cgt, q_cge, q_ceq, q_cne, q_cin, q_cni, q_cis, q_cin', q_eii, q_ebb, q_ess, q_tb, q_ti, q_tn, q_tt, q_tl, q_to, q_tc, q_int, q_inb, q_lnt, q_lnl, q_lnc, q_min, q_max, q_abs, q_tpt, q_tpl, q_lil, q_lit, q_sum, q_any, q_all, q_repr, q_fzi, q_fzb, q_fzs, q_fzn, q_fzt, q_fzl, q_fzo, q_fzc, q_fzr, q_fzf, q_ski, q_skb, q_sks, q_skn, q_skt, q_skl, q_sko, q_skf, q_ani, q_anb, q_ans, q_ann, q_ant, q_anl, q_ano, q_att, q_atl, q_ato, q_ri, q_rb, q_rs, q_rn, q_rt, q_rl, q_ro, q_rc, q_ixt, q_ixl, q_ixo, q_slt, q_sll, q_wt, q_r1, q_r2, List.map_cons, List.map_nil, List.cons_append, List.nil_append, List.replicate, List.getElem?_cons_zero, List.getElem?_cons_succ, List.set_cons_zero, List.set_cons_succ, Option.some.injEq, exists_eq_left', List.length_cons, List.length_nil, Bool.not_true, Bool.not_false, List.zip_cons_cons, List.zip_nil_right, List.foldl_cons, List.foldl_nil, true_and, and_true, if_true, if_false, Bool.false_eq_true, D.own.injEq, D.int.injEq, D.tup.injEq, D.lst.injEq, D.cell.injEq, D.bl.injEq, D.str.injEq, D.scr.injEq]
  obtain ⟨v, hv, e, _, _⟩ := hr.at_ hs hb
  refine ⟨_, atI_int (idx_lt hs).1 hv, rt1 rfl rfl ?_⟩
  rw [e]
  exact h
theorem pu_value (hW : ∀ ds c Q E, spCheckWord ds c Q E → Γ "check_word" ds c Q E) (hV : ∀ ds c Q E, spValueOf ds c Q E → Γ "value_of" ds c Q E) : ∀ ds c Q E, spValue ds c Q E → wFn Γ sub kind ir_value ds c Q E := by
  rintro _ c Q E ⟨k, w, t, xs, rfl, hl, hx, h1, h2, h3, h4⟩
  simp only [ir_value, wFn, wSs, wS, wE, wA, wL, wT, wO, wC, wI, q_bii, q_btt, q_bti, q_bss, q_bl1, q_bl2, q_bl3, q_iadd, q_isub, q_imul, q_imod, q_idiv, q_ipow, q_tadd, q_trep, q_sadd, q_ladd, q_lrep, q_lkl, q_lko, q_lrl, q_lro, q_lrs, q_lsl, q_lso, q_lss, q_lst, q_aii, q_att2, q_clt, q_cle, q_cgt, q_cge, q_ceq, q_cne, q_cin, q_cni, q_cis, q_cin', q_eii, q_ebb, q_ess, q_tb, q_ti, q_tn, q_tt, q_tl, q_to, q_tc, q_int, q_inb, q_lnt, q_lnl, q_lnc, q_min, q_max, q_abs, q_tpt, q_tpl, q_lil, q_lit, q_sum, q_any, q_all, q_repr, q_fzi, q_fzb, q_fzs, q_fzn, q_fzt, q_fzl, q_fzo, q_fzc, q_fzr, q_fzf, q_ski, q_skb, q_sks, q_skn, q_skt, q_skl, q_sko, q_skf, q_ani, q_anb, q_ans, q_ann, q_ant, q_anl, q_ano, q_att, q_atl, q_ato, q_ri, q_rb, q_rs, q_rn, q_rt, q_rl, q_ro, q_rc, q_ixt, q_ixl, q_ixo, q_slt, q_sll, q_wt, q_r1, q_r2, List.map_cons, List.map_nil, List.cons_append, List.nil_append, List.replicate, List.getElem?_cons_zero, List.getElem?_cons_succ, List.set_cons_zero, List.set_cons_succ, Option.some.injEq, exists_eq_left', List.length_cons, List.length_nil, Bool.not_true, Bool.not_false, List.zip_cons_cons, List.zip_nil_right, List.foldl_cons, List.foldl_nil, true_and, and_true, if_true, if_false, Bool.false_eq_true, D.own.injEq, D.int.injEq, D.tup.injEq, D.lst.injEq, D.cell.injEq, D.bl.injEq, D.str.injEq, D.scr.injEq]
  refine hW _ _ _ _ ⟨k, w, t, xs, rfl, hl, hx, fun e e2 => ?_, fun a b => tkE (h3 a b), fun a => tkE (h4 a)⟩
  refine ⟨.int w, rfl, ?_⟩
  simp only [wFn, wSs, wS, wE, wA, wL, wT, wO, wC, wI, q_bii, q_btt, q_bti, q_bss, q_bl1, q_bl2, q_bl3, q_iadd, q_isub, q_imul, q_imod, q_idiv, q_ipow, q_tadd, q_trep, q_sadd, q_ladd, q_lrep, q_lkl, q_lko, q_lrl, q_lro, q_lrs, q_lsl, q_lso, q_lss, q_lst, q_aii, q_att2, q_clt, q_cle, q_cgt, q_cge, q_ceq, q_cne, q_cin, q_cni, q_cis, q_cin', q_eii, q_ebb, q_ess, q_tb, q_ti, q_tn, q_tt, q_tl, q_to, q_tc, q_int, q_inb, q_lnt, q_lnl, q_lnc, q_min, q_max, q_abs, q_tpt, q_tpl, q_lil, q_lit, q_sum, q_any, q_all, q_repr, q_fzi, q_fzb, q_fzs, q_fzn, q_fzt, q_fzl, q_fzo, q_fzc, q_fzr, q_fzf, q_ski, q_skb, q_sks, q_skn, q_skt, q_skl, q_sko, q_skf, q_ani, q_anb, q_ans, q_ann, q_ant, q_anl, q_ano, q_att, q_atl, q_ato, q_ri, q_rb, q_rs, q_rn, q_rt, q_rl, q_ro, q_rc, q_ixt, q_ixl, q_ixo, q_slt, q_sll, q_wt, q_r1, q_r2, List.map_cons, List.map_nil, List.cons_append, List.nil_append, List.replicate, List.getElem?_cons_zero, List.getElem?_cons_succ, List.set_cons_zero, List.set_cons_succ, Option.some.injEq, exists_eq_left', List.length_cons, List.length_nil, Bool.not_true, Bool.not_false, List.zip_cons_cons, List.zip_nil_right, List.foldl_cons, List.foldl_nil, true_and, and_true, if_true, if_false, Bool.false_eq_true, D.own.injEq, D.int.injEq, D.tup.injEq, D.lst.injEq, D.cell.injEq, D.bl.injEq, D.str.injEq, D.scr.injEq]
  simp only [List.length_map]
  refine iteB (fun hc => ?_) fun hc => ?_
  · exact tkE (h2 e e2 (by simpa using hc))
  · have hc' : (xs.length : Int) = w := by simpa using hc
    obtain ⟨k', w', rfl, rfl, hr⟩ := isR_nat e
    refine hV _ _ _ _ ⟨k', w', t, xs, rfl, hr, inR_st.mp e2, by omega, rt1 rfl rfl (h1 e e2 hc')⟩
theorem pu_image_of (hV : ∀ ds c Q E, spValueOf ds c Q E → Γ "value_of" ds c Q E) : ∀ ds c Q E, spImage ds c Q E → wFn Γ sub kind ir_image_of ds c Q E := by
  rintro _ c Q E ⟨k, w, t, ws, rfl, hr, hs, hl, h⟩
  simp only [ir_image_of, wFn, wSs, wS, wE, wA, wL, wT, wO, wC, wI, q_bii, q_btt, q_bti, q_bss, q_bl1, q_bl2, q_bl3, q_iadd, q_isub, q_imul, q_imod, q_idiv, q_ipow, q_tadd, q_trep, q_sadd, q_ladd, q_lrep, q_lkl, q_lko, q_lrl, q_lro, q_lrs, q_lsl, q_lso, q_lss, q_lst, q_aii, q_att2, q_clt, q_cle, q_cgt, q_cge, q_ceq, q_cne, q_cin, q_cni, q_cis, q_cin', q_eii, q_ebb, q_ess, q_tb, q_ti, q_tn, q_tt, q_tl, q_to, q_tc, q_int, q_inb, q_lnt, q_lnl, q_lnc, q_min, q_max, q_abs, q_tpt, q_tpl, q_lil, q_lit, q_sum, q_any, q_all, q_repr, q_fzi, q_fzb, q_fzs, q_fzn, q_fzt, q_fzl, q_fzo, q_fzc, q_fzr, q_fzf, q_ski, q_skb, q_sks, q_skn, q_skt, q_skl, q_sko, q_skf, q_ani, q_anb, q_ans, q_ann, q_ant, q_anl, q_ano, q_att, q_atl, q_ato, q_ri, q_rb, q_rs, q_rn, q_rt, q_rl, q_ro, q_rc, q_ixt, q_ixl, q_ixo, q_slt, q_sll, q_wt, q_r1, q_r2, List.map_cons, List.map_nil, List.cons_append, List.nil_append, List.replicate, List.getElem?_cons_zero, List.getElem?_cons_succ, List.set_cons_zero, List.set_cons_succ, Option.some.injEq, exists_eq_left', List.length_cons, List.length_nil, Bool.not_true, Bool.not_false, List.zip_cons_cons, List.zip_nil_right, List.foldl_cons, List.foldl_nil, true_and, and_true, if_true, if_false, Bool.false_eq_true, D.own.injEq, D.int.injEq, D.tup.injEq, D.lst.injEq, D.cell.injEq, D.bl.injEq, D.str.injEq, D.scr.injEq]
  have hw := hr.w256
  refine ⟨.int w, rfl, ?_⟩
  simp only [wFn, wSs, wS, wE, wA, wL, wT, wO, wC, wI, q_bii, q_btt, q_bti, q_bss, q_bl1, q_bl2, q_bl3, q_iadd, q_isub, q_imul, q_imod, q_idiv, q_ipow, q_tadd, q_trep, q_sadd, q_ladd, q_lrep, q_lkl, q_lko, q_lrl, q_lro, q_lrs, q_lsl, q_lso, q_lss, q_lst, q_aii, q_att2, q_clt, q_cle, q_cgt, q_cge, q_ceq, q_cne, q_cin, q_cni, q_cis, q_cin', q_eii, q_ebb, q_ess, q_tb, q_ti, q_tn, q_tt, q_tl, q_to, q_tc, q_int, q_inb, q_lnt, q_lnl, q_lnc, q_min, q_max, q_abs, q_tpt, q_tpl, q_lil, q_lit, q_sum, q_any, q_all, q_repr, q_fzi, q_fzb, q_fzs, q_fzn, q_fzt, q_fzl, q_fzo, q_fzc, q_fzr, q_fzf, q_ski, q_skb, q_sks, q_skn, q_skt, q_skl, q_sko, q_skf, q_ani, q_anb, q_ans, q_ann, q_ant, q_anl, q_ano, q_att, q_atl, q_ato, q_ri, q_rb, q_rs, q_rn, q_rt, q_rl, q_ro, q_rc, q_ixt, q_ixl, q_ixo, q_slt, q_sll, q_wt, q_r1, q_r2, List.map_cons, List.map_nil, List.cons_append, List.nil_append, List.replicate, List.getElem?_cons_zero, List.getElem?_cons_succ, List.set_cons_zero, List.set_cons_succ, Option.some.injEq, exists_eq_left', List.length_cons, List.length_nil, Bool.not_true, Bool.not_false, List.zip_cons_cons, List.zip_nil_right, List.foldl_cons, List.foldl_nil, true_and, and_true, if_true, if_false, Bool.false_eq_true, D.own.injEq, D.int.injEq, D.tup.injEq, D.lst.injEq, D.cell.injEq, D.bl.injEq, D.str.injEq, D.scr.injEq]
  refine ⟨by unfold RgI; simp only [List.length_map]; omega, ?_, ?_⟩
  · have : (200000 : Nat) ≤ sizeLine := by decide
    simp only [rngL, List.length_map, List.length_range]
    omega
  · refine lc_map (f := fun d => match d with | .int i => .int (t.getD (idx k ((ws.drop i.toNat).take w)).toNat 0) | d => d) trivial (fun x hx K hK => ?_) ?_
    · simp only [rngL, List.mem_map, List.mem_range, List.length_map] at hx
      obtain ⟨i, hi, rfl⟩ := hx
      unfold lcTurn
      simp only [wipeD, wFn, wSs, wS, wE, wA, wL, wT, wO, wC, wI, q_bii, q_btt, q_bti, q_bss, q_bl1, q_bl2, q_bl3, q_iadd, q_isub, q_imul, q_imod, q_idiv, q_ipow, q_tadd, q_trep, q_sadd, q_ladd, q_lrep, q_lkl, q_lko, q_lrl, q_lro, q_lrs, q_lsl, q_lso, q_lss, q_lst, q_aii, q_att2, q_clt, q_cle, q_cgt, q_cge, q_ceq, q_cne, q_cin, q_cni, q_cis, q_cin', q_eii, q_ebb, q_ess, q_tb, q_ti, q_tn, q_tt, q_tl, q_to, q_tc, q_int, q_inb, q_lnt, q_lnl, q_lnc, q_min, q_max, q_abs, q_tpt, q_tpl, q_lil, q_lit, q_sum, q_any, q_all, q_repr, q_fzi, q_fzb, q_fzs, q_fzn, q_fzt, q_fzl, q_fzo, q_fzc, q_fzr, q_fzf, q_ski, q_skb, q_sks, q_skn, q_skt, q_skl, q_sko, q_skf, q_ani, q_anb, q_ans, q_ann, q_ant, q_anl, q_ano, q_att, q_atl, q_ato, q_ri, q_rb, q_rs, q_rn, q_rt, q_rl, q_ro, q_rc, q_ixt, q_ixl, q_ixo, q_slt, q_sll, q_wt, q_r1, q_r2, List.map_cons, List.map_nil, List.cons_append, List.nil_append, List.replicate, List.getElem?_cons_zero, List.getElem?_cons_succ, List.set_cons_zero, List.set_cons_succ, Option.some.injEq, exists_eq_left', List.length_cons, List.length_nil, Bool.not_true, Bool.not_false, List.zip_cons_cons, List.zip_nil_right, List.foldl_cons, List.foldl_nil, true_and, and_true, if_true, if_false, Bool.false_eq_true, D.own.injEq, D.int.injEq, D.tup.injEq, D.lst.injEq, D.cell.injEq, D.bl.injEq, D.str.injEq, D.scr.injEq]
      have hb : ((ws.drop i).take w).length = w := by rw [List.length_take, List.length_drop]; omega
      refine hV _ _ _ _ ⟨k, w, t, (ws.drop i).take w, ?_, hr, hs.sub i w, hb, ?_⟩
      · rw [Int.zero_add, ← Int.natCast_add, cut_nat, Nat.add_sub_cancel_left, ← List.map_drop, ← List.map_take]
      · refine ⟨rfl, ?_⟩
        simpa [D.fz] using hK
    · rw [int_map (fun i => t.getD (idx k ((ws.drop i).take w)).toNat 0) (ws.length + 1 - w) _ (fun i hi => by simp) _ (by simp only [List.length_map]; omega)]
      exact tkQ h
theorem pu_image_e (hW : ∀ ds c Q E, spCheckWord ds c Q E → Γ "check_word" ds c Q E) (hV : ∀ ds c Q E, spImage ds c Q E → Γ "image_of" ds c Q E) : ∀ ds c Q E, spImageE ds c Q E → wFn Γ sub kind ir_image ds c Q E := by
  rintro _ c Q E ⟨k, w, t, xs, rfl, hl, hx, h1, h2, h3⟩
  simp only [ir_image, wFn, wSs, wS, wE, wA, wL, wT, wO, wC, wI, q_bii, q_btt, q_bti, q_bss, q_bl1, q_bl2, q_bl3, q_iadd, q_isub, q_imul, q_imod, q_idiv, q_ipow, q_tadd, q_trep, q_sadd, q_ladd, q_lrep, q_lkl, q_lko, q_lrl, q_lro, q_lrs, q_lsl, q_lso, q_lss, q_lst, q_aii, q_att2, q_clt, q_cle, q_cgt, q_cge, q_ceq, q_cne, q_cin, q_cni, q_cis, q_cin', q_eii, q_ebb, q_ess, q_tb, q_ti, q_tn, q_tt, q_tl, q_to, q_tc, q_int, q_inb, q_lnt, q_lnl, q_lnc, q_min, q_max, q_abs, q_tpt, q_tpl, q_lil, q_lit, q_sum, q_any, q_all, q_repr, q_fzi, q_fzb, q_fzs, q_fzn, q_fzt, q_fzl, q_fzo, q_fzc, q_fzr, q_fzf, q_ski, q_skb, q_sks, q_skn, q_skt, q_skl, q_sko, q_skf, q_ani, q_anb, q_ans, q_ann, q_ant, q_anl, q_ano, q_att, q_atl, q_ato, q_ri, q_rb, q_rs, q_rn, q_rt, q_rl, q_ro, q_rc, q_ixt, q_ixl, q_ixo, q_slt, q_sll, q_wt, q_r1, q_r2, List.map_cons, List.map_nil, List.cons_append, List.nil_append, List.replicate, List.getElem?_cons_zero, List.getElem?_cons_succ, List.set_cons_zero, List.set_cons_succ, Option.some.injEq, exists_eq_left', List.length_cons, List.length_nil, Bool.not_true, Bool.not_false, List.zip_cons_cons, List.zip_nil_right, List.foldl_cons, List.foldl_nil, true_and, and_true, if_true, if_false, Bool.false_eq_true, D.own.injEq, D.int.injEq, D.tup.injEq, D.lst.injEq, D.cell.injEq, D.bl.injEq, D.str.injEq, D.scr.injEq]
  refine hW _ _ _ _ ⟨k, w, t, xs, rfl, hl, by omega, fun e e2 => ?_, fun a b => tkE (h2 a b), fun a => tkE (h3 a)⟩
  obtain ⟨k', w', rfl, rfl, hr⟩ := isR_nat e
  exact hV _ _ _ _ ⟨k', w', t, xs, rfl, hr, inR_st.mp e2, by omega, rt1 rfl rfl (h1 e e2)⟩
theorem pu_ring_e (hW : ∀ ds c Q E, spCheckRing ds c Q E → Γ "check_ring" ds c Q E) (hV : ∀ ds c Q E, spRing ds c Q E → Γ "ring_image_of" ds c Q E) : ∀ ds c Q E, spRingE ds c Q E → wFn Γ sub kind ir_ring_image ds c Q E := by
  rintro _ c Q E ⟨k, w, t, xs, rfl, hl, hx, h1, h2, h3⟩
  simp only [ir_ring_image, wFn, wSs, wS, wE, wA, wL, wT, wO, wC, wI, q_bii, q_btt, q_bti, q_bss, q_bl1, q_bl2, q_bl3, q_iadd, q_isub, q_imul, q_imod, q_idiv, q_ipow, q_tadd, q_trep, q_sadd, q_ladd, q_lrep, q_lkl, q_lko, q_lrl, q_lro, q_lrs, q_lsl, q_lso, q_lss, q_lst, q_aii, q_att2, q_clt, q_cle, q_cgt, q_cge, q_ceq, q_cne, q_cin, q_cni, q_cis, q_cin', q_eii, q_ebb, q_ess, q_tb, q_ti, q_tn, q_tt, q_tl, q_to, q_tc, q_int, q_inb, q_lnt, q_lnl, q_lnc, q_min, q_max, q_abs, q_tpt, q_tpl, q_lil, q_lit, q_sum, q_any, q_all, q_repr, q_fzi, q_fzb, q_fzs, q_fzn, q_fzt, q_fzl, q_fzo, q_fzc, q_fzr, q_fzf, q_ski, q_skb, q_sks, q_skn, q_skt, q_skl, q_sko, q_skf, q_ani, q_anb, q_ans, q_ann, q_ant, q_anl, q_ano, q_att, q_atl, q_ato, q_ri, q_rb, q_rs, q_rn, q_rt, q_rl, q_ro, q_rc, q_ixt, q_ixl, q_ixo, q_slt, q_sll, q_wt, q_r1, q_r2, List.map_cons, List.map_nil, List.cons_append, List.nil_append, List.replicate, List.getElem?_cons_zero, List.getElem?_cons_succ, List.set_cons_zero, List.set_cons_succ, Option.some.injEq, exists_eq_left', List.length_cons, List.length_nil, Bool.not_true, Bool.not_false, List.zip_cons_cons, List.zip_nil_right, List.foldl_cons, List.foldl_nil, true_and, and_true, if_true, if_false, Bool.false_eq_true, D.own.injEq, D.int.injEq, D.tup.injEq, D.lst.injEq, D.cell.injEq, D.bl.injEq, D.str.injEq, D.scr.injEq]
  refine hW _ _ _ _ ⟨k, w, t, xs, rfl, hl, by omega, fun e e2 hne => ?_, fun a b => tkE (h2 a b), fun a => tkE (h3 a)⟩
  obtain ⟨k', w', rfl, rfl, hr⟩ := isR_nat e
  exact hV _ _ _ _ ⟨k', w', t, xs, rfl, hr, inR_st.mp e2, hne, by omega, rt1 rfl rfl (h1 e e2 hne)⟩
theorem pu_ring_of (hI : ∀ ds c Q E, spImage ds c Q E → Γ "image_of" ds c Q E) : ∀ ds c Q E, spRing ds c Q E → wFn Γ sub kind ir_ring_image_of ds c Q E := by
  rintro _ c Q E ⟨k, w, t, ring, rfl, hr, hs, hne, hl, h⟩
  have hw := hr.w256
  have hw1 := hr.w1
  have hn : 1 ≤ ring.length := List.length_pos_iff.mpr hne
  simp only [ir_ring_image_of, wFn, wSs, wS, wE, wA, wL, wT, wO, wC, wI, q_bii, q_btt, q_bti, q_bss, q_bl1, q_bl2, q_bl3, q_iadd, q_isub, q_imul, q_imod, q_idiv, q_ipow, q_tadd, q_trep, q_sadd, q_ladd, q_lrep, q_lkl, q_lko, q_lrl, q_lro, q_lrs, q_lsl, q_lso, q_lss, q_lst, q_aii, q_att2, q_clt, q_cle, q_cgt, q_cge, q_ceq, q_cne, q_cin, q_cni, q_cis, q_cin', q_eii, q_ebb, q_ess, q_tb, q_ti, q_tn, q_tt, q_tl, q_to, q_tc, q_int, q_inb, q_lnt, q_lnl, q_lnc, q_min, q_max, q_abs, q_tpt, q_tpl, q_lil, q_lit, q_sum, q_any, q_all, q_repr, q_fzi, q_fzb, q_fzs, q_fzn, q_fzt, q_fzl, q_fzo, q_fzc, q_fzr, q_fzf, q_ski, q_skb, q_sks, q_skn, q_skt, q_skl, q_sko, q_skf, q_ani, q_anb, q_ans, q_ann, q_ant, q_anl, q_ano, q_att, q_atl, q_ato, q_ri, q_rb, q_rs, q_rn, q_rt, q_rl, q_ro, q_rc, q_ixt, q_ixl, q_ixo, q_slt, q_sll, q_wt, q_r1, q_r2, List.map_cons, List.map_nil, List.cons_append, List.nil_append, List.replicate, List.getElem?_cons_zero, List.getElem?_cons_succ, List.set_cons_zero, List.set_cons_succ, Option.some.injEq, exists_eq_left', List.length_cons, List.length_nil, Bool.not_true, Bool.not_false, List.zip_cons_cons, List.zip_nil_right, List.foldl_cons, List.foldl_nil, true_and, and_true, if_true, if_false, Bool.false_eq_true, D.own.injEq, D.int.injEq, D.tup.injEq, D.lst.injEq, D.cell.injEq, D.bl.injEq, D.str.injEq, D.scr.injEq]
  have hrep : ∀ m, ((List.replicate m ring).flatten).length = m * ring.length := fun m => by simp [List.length_flatten]
  have e1 : ((ring.map D.int).length : Int) + (w : Int) - 1 = ((ring.length + w - 1 : Nat) : Int) := by rw [List.length_map]; omega
  refine ⟨w + 1, whl_ind (I := fun m σ c' => ∃ i, i + m = w + 1 ∧ 1 ≤ i ∧ σ = [some (ruleD k w t), some (tI ring), some (tI (List.replicate i ring).flatten)] ∧ c = c') ?_ w _ _ ⟨1, by omega, by omega, by simp, rfl⟩⟩
  rintro m σ c' R ⟨i, hm, hi, rfl, rfl⟩ hR
  simp only [wFn, wSs, wS, wE, wA, wL, wT, wO, wC, wI, q_bii, q_btt, q_bti, q_bss, q_bl1, q_bl2, q_bl3, q_iadd, q_isub, q_imul, q_imod, q_idiv, q_ipow, q_tadd, q_trep, q_sadd, q_ladd, q_lrep, q_lkl, q_lko, q_lrl, q_lro, q_lrs, q_lsl, q_lso, q_lss, q_lst, q_aii, q_att2, q_clt, q_cle, q_cgt, q_cge, q_ceq, q_cne, q_cin, q_cni, q_cis, q_cin', q_eii, q_ebb, q_ess, q_tb, q_ti, q_tn, q_tt, q_tl, q_to, q_tc, q_int, q_inb, q_lnt, q_lnl, q_lnc, q_min, q_max, q_abs, q_tpt, q_tpl, q_lil, q_lit, q_sum, q_any, q_all, q_repr, q_fzi, q_fzb, q_fzs, q_fzn, q_fzt, q_fzl, q_fzo, q_fzc, q_fzr, q_fzf, q_ski, q_skb, q_sks, q_skn, q_skt, q_skl, q_sko, q_skf, q_ani, q_anb, q_ans, q_ann, q_ant, q_anl, q_ano, q_att, q_atl, q_ato, q_ri, q_rb, q_rs, q_rn, q_rt, q_rl, q_ro, q_rc, q_ixt, q_ixl, q_ixo, q_slt, q_sll, q_wt, q_r1, q_r2, List.map_cons, List.map_nil, List.cons_append, List.nil_append, List.replicate, List.getElem?_cons_zero, List.getElem?_cons_succ, List.set_cons_zero, List.set_cons_succ, Option.some.injEq, exists_eq_left', List.length_cons, List.length_nil, Bool.not_true, Bool.not_false, List.zip_cons_cons, List.zip_nil_right, List.foldl_cons, List.foldl_nil, true_and, and_true, if_true, if_false, Bool.false_eq_true, D.own.injEq, D.int.injEq, D.tup.injEq, D.lst.injEq, D.cell.injEq, D.bl.injEq, D.str.injEq, D.scr.injEq]
  refine ⟨.int w, rfl, ?_⟩
  simp only [wFn, wSs, wS, wE, wA, wL, wT, wO, wC, wI, q_bii, q_btt, q_bti, q_bss, q_bl1, q_bl2, q_bl3, q_iadd, q_isub, q_imul, q_imod, q_idiv, q_ipow, q_tadd, q_trep, q_sadd, q_ladd, q_lrep, q_lkl, q_lko, q_lrl, q_lro, q_lrs, q_lsl, q_lso, q_lss, q_lst, q_aii, q_att2, q_clt, q_cle, q_cgt, q_cge, q_ceq, q_cne, q_cin, q_cni, q_cis, q_cin', q_eii, q_ebb, q_ess, q_tb, q_ti, q_tn, q_tt, q_tl, q_to, q_tc, q_int, q_inb, q_lnt, q_lnl, q_lnc, q_min, q_max, q_abs, q_tpt, q_tpl, q_lil, q_lit, q_sum, q_any, q_all, q_repr, q_fzi, q_fzb, q_fzs, q_fzn, q_fzt, q_fzl, q_fzo, q_fzc, q_fzr, q_fzf, q_ski, q_skb, q_sks, q_skn, q_skt, q_skl, q_sko, q_skf, q_ani, q_anb, q_ans, q_ann, q_ant, q_anl, q_ano, q_att, q_atl, q_ato, q_ri, q_rb, q_rs, q_rn, q_rt, q_rl, q_ro, q_rc, q_ixt, q_ixl, q_ixo, q_slt, q_sll, q_wt, q_r1, q_r2, List.map_cons, List.map_nil, List.cons_append, List.nil_append, List.replicate, List.getElem?_cons_zero, List.getElem?_cons_succ, List.set_cons_zero, List.set_cons_succ, Option.some.injEq, exists_eq_left', List.length_cons, List.length_nil, Bool.not_true, Bool.not_false, List.zip_cons_cons, List.zip_nil_right, List.foldl_cons, List.foldl_nil, true_and, and_true, if_true, if_false, Bool.false_eq_true, D.own.injEq, D.int.injEq, D.tup.injEq, D.lst.injEq, D.cell.injEq, D.bl.injEq, D.str.injEq, D.scr.injEq]
  refine iteB (fun hc => ?_) fun hc => ?_
  · have hc := of_decide_eq_true hc
    rw [e1, List.length_map, hrep] at hc
    have hm0 : 0 < m := by
      rcases Nat.eq_zero_or_pos m with q | q
      · have : i = w + 1 := by omega
        subst this
        have := Nat.le_mul_of_pos_right w hn
        rw [Nat.add_mul] at hc
        omega
      · exact q
    refine ⟨?_, hR _ _ hm0 ⟨i + 1, by omega, by omega, ?_, rfl⟩⟩
    · have h5 : (200000 : Nat) ≤ sizeLine := by decide
      have h6 : i * ring.length ≤ 257 * 300 := Nat.mul_le_mul (by omega) hl
      simp only [List.length_map, hrep]
      omega
    · rw [← List.map_append, List.replicate_succ', List.flatten_append]
      simp
  · have hc := of_decide_eq_false hc
    rw [e1, List.length_map, hrep] at hc
    have h8 : ring.length + w - 1 ≤ (ring.length + w - 1) * ring.length := Nat.le_mul_of_pos_right _ hn
    refine ⟨.int w, rfl, ?_⟩
    simp only [wFn, wSs, wS, wE, wA, wL, wT, wO, wC, wI, q_bii, q_btt, q_bti, q_bss, q_bl1, q_bl2, q_bl3, q_iadd, q_isub, q_imul, q_imod, q_idiv, q_ipow, q_tadd, q_trep, q_sadd, q_ladd, q_lrep, q_lkl, q_lko, q_lrl, q_lro, q_lrs, q_lsl, q_lso, q_lss, q_lst, q_aii, q_att2, q_clt, q_cle, q_cgt, q_cge, q_ceq, q_cne, q_cin, q_cni, q_cis, q_cin', q_eii, q_ebb, q_ess, q_tb, q_ti, q_tn, q_tt, q_tl, q_to, q_tc, q_int, q_inb, q_lnt, q_lnl, q_lnc, q_min, q_max, q_abs, q_tpt, q_tpl, q_lil, q_lit, q_sum, q_any, q_all, q_repr, q_fzi, q_fzb, q_fzs, q_fzn, q_fzt, q_fzl, q_fzo, q_fzc, q_fzr, q_fzf, q_ski, q_skb, q_sks, q_skn, q_skt, q_skl, q_sko, q_skf, q_ani, q_anb, q_ans, q_ann, q_ant, q_anl, q_ano, q_att, q_atl, q_ato, q_ri, q_rb, q_rs, q_rn, q_rt, q_rl, q_ro, q_rc, q_ixt, q_ixl, q_ixo, q_slt, q_sll, q_wt, q_r1, q_r2, List.map_cons, List.map_nil, List.cons_append, List.nil_append, List.replicate, List.getElem?_cons_zero, List.getElem?_cons_succ, List.set_cons_zero, List.set_cons_succ, Option.some.injEq, exists_eq_left', List.length_cons, List.length_nil, Bool.not_true, Bool.not_false, List.zip_cons_cons, List.zip_nil_right, List.foldl_cons, List.foldl_nil, true_and, and_true, if_true, if_false, Bool.false_eq_true, D.own.injEq, D.int.injEq, D.tup.injEq, D.lst.injEq, D.cell.injEq, D.bl.injEq, D.str.injEq, D.scr.injEq]
    refine hI _ _ _ _ ⟨k, w, t, lng (ring.length + w - 1) ring, ?_, hr, rep_st hs _ _, by unfold lng; rw [List.length_take]; omega, rt1 rfl rfl h⟩
    rw [e1, cut_to, ← List.map_take]
    unfold lng
    rw [rep_take ring (ring.length + w - 1) i (ring.length + w - 1) (by omega) h8]
end
end Ev

/-! # Pu5: data that may be shown and compared -/
namespace Ev
open PySem
structure Rp (d : D) (p : PyData) (dep len : Nat) : Prop where
  py : d.py = some p
  sh : p.showable = true
  nd : p.hasDict = false
  dp : p.depth ≤ dep
  ln : p.shown.length ≤ len
  cl : p.canLay0 = true
structure RpL (ds : List D) (ps : List PyData) (dep len : Nat) : Prop where
  py : D.pys ds = some ps
  sh : PyData.showableAll ps = true
  nd : PyData.hasDictAll ps = false
  dp : PyData.depthAll ps ≤ dep
  ln : piled (PyData.shownAll ps) ≤ len
  cl : PyData.canLayAll0 ps = true
theorem Rp.int {i : Int} (h : i.natAbs < 10 ^ 20) : Rp (.int i) (.int i) 0 21 := by
  refine ⟨rfl, ?_, rfl, Nat.le_refl _, ?_, rfl⟩
  · simp only [PyData.showable, decide_eq_true_eq]
    by_cases h0 : i.natAbs = 0
    · rw [h0]; decide
    · exact (Nat.log2_lt h0).mpr (Nat.lt_of_lt_of_le h (by decide))
  · show (Str.ofString (toString i)).length ≤ 21
    rw [ofString_length]
    exact int_text_length_le10 (by decide) h
theorem Rp.bl {b : Bool} : Rp (.bl b) (.bool b) 0 5 := ⟨rfl, rfl, rfl, Nat.le_refl _, by cases b <;> decide, rfl⟩
theorem Rp.non : Rp .non .none 0 4 := ⟨rfl, rfl, rfl, Nat.le_refl _, by decide, rfl⟩
theorem RpL.nil : RpL [] [] 0 0 := ⟨rfl, rfl, rfl, Nat.le_refl _, Nat.le_refl _, rfl⟩
theorem RpL.cons {d : D} {p : PyData} {ds : List D} {ps : List PyData} {a b l m : Nat} (h : Rp d p a l) (r : RpL ds ps b m) : RpL (d :: ds) (p :: ps) (max a b) (l + 2 + m) := by
  refine ⟨?_, ?_, ?_, ?_, ?_, ?_⟩
  · simp only [D.pys, h.py, r.py]
  · simp only [PyData.showableAll, h.sh, r.sh, Bool.and_self]
  · simp only [PyData.hasDictAll, h.nd, r.nd, Bool.or_self]
  · simp only [PyData.depthAll]
    have := h.dp
    have := r.dp
    omega
  · simp only [PyData.shownAll, piled_cons]
    have := h.ln
    have := r.ln
    omega
  · simp only [PyData.canLayAll0, h.cl, r.cl, Bool.and_self]
theorem tup_len (ts : List Str) : (tupleText ts).length ≤ piled ts + 3 := by
  unfold tupleText
  rw [strLen_append, strLen_append]
  have h1 : (("(" : Str)).length = 1 := rfl
  have h2 : ((if ts.length == 1 then ",)" else ")" : String) : Str).length ≤ 2 := by split <;> decide
  by_cases h : ts = []
  · subst h
    have : (Str.join ", " []).length = 0 := rfl
    omega
  · have := join_length_add ts h
    omega
theorem lst_len (ts : List Str) : (listText ts).length ≤ piled ts + 3 := by
  unfold listText
  rw [strLen_append]
  have h1 : (("]" : Str)).length = 1 := rfl
  cases ts with
  | nil => decide
  | cons t r =>
    show (textFrom 1 (("[" : Str) ++ (if (0 : Nat) > 0 then ", " else "" : String) ++ t) r).length + _ ≤ _
    rw [textFrom_length_pos r 1 _ (by decide), strLen_append, strLen_append, piled_cons]
    have h2 : (("[" : Str)).length = 1 := rfl
    have h3 : (((if (0 : Nat) > 0 then ", " else "" : String)) : Str).length = 0 := rfl
    omega
theorem RpL.tup {ds : List D} {ps : List PyData} {a l : Nat} (h : RpL ds ps a l) : Rp (.tup ds) (.tuple ps) (a + 1) (l + 3) := by
  refine ⟨by simp only [D.py, h.py, Option.map_some], h.sh, h.nd, Nat.succ_le_succ h.dp, ?_, h.cl⟩
  have := tup_len (PyData.shownAll ps)
  have := h.ln
  show (tupleText (PyData.shownAll ps)).length ≤ _
  omega
theorem RpL.lst {ds : List D} {ps : List PyData} {a l : Nat} (h : RpL ds ps a l) : Rp (.lst ds) (.list ps) (a + 1) (l + 3) := by
  refine ⟨by simp only [D.py, h.py, Option.map_some], h.sh, h.nd, Nat.succ_le_succ h.dp, ?_, h.cl⟩
  have := lst_len (PyData.shownAll ps)
  have := h.ln
  show (listText (PyData.shownAll ps)).length ≤ _
  omega
theorem RpL.own {ds : List D} {ps : List PyData} {a l : Nat} (h : RpL ds ps a l) : Rp (.own ds) (.list ps) (a + 1) (l + 3) := by
  have := h.lst
  exact ⟨by simp only [D.py, h.py, Option.map_some], this.sh, this.nd, this.dp, this.ln, this.cl⟩
theorem RpL.nums : ∀ {xs : List Int}, (∀ x ∈ xs, x.natAbs < 10 ^ 20) → RpL (xs.map .int) (xs.map .int) 0 (23 * xs.length)
  | [], _ => RpL.nil
  | x :: xs, h => by
    have q := RpL.cons (Rp.int (h x List.mem_cons_self)) (RpL.nums (xs := xs) fun y hy => h y (List.mem_cons_of_mem _ hy))
    refine ⟨q.py, q.sh, q.nd, by simpa using q.dp, ?_, q.cl⟩
    have := q.ln
    simp only [List.length_cons]
    show piled (PyData.shownAll (PyData.int x :: xs.map .int)) ≤ _
    omega
theorem St.nums {k : Nat} {w : List Int} (h : St k w) (hk : k ≤ 1000000) : RpL (w.map .int) (w.map .int) 0 (23 * w.length) := RpL.nums fun x hx => by
  obtain ⟨h1, h2⟩ := h x hx
  have : (1000000 : Nat) ≤ 10 ^ 20 := by decide
  omega
theorem Rp.repr {d : D} {p : PyData} {dep len : Nat} (h : Rp d p dep len) (hd : dep ≤ 60) (hl : len ≤ 1000000) {c : Cells} {K : D → Prop} (hc : deref c d = d) (k : K (.str p.shown)) : bltK .repr [d] c K := by
  have h1 := h.dp
  have h2 := h.ln
  have h3 : (1000000 : Nat) ≤ sizeLine := by decide
  refine ⟨p, by rw [hc]; exact h.py, h.sh, h.nd, by omega, by omega, k⟩
mutual
theorem eqv_self : ∀ {p : PyData}, p.hasDict = false → PyData.eqv p p = true
  | .none, _ => rfl
  | .bool b, _ => by simp [PyData.eqv]
  | .int i, _ => by simp [PyData.eqv]
  | .str s, _ => by simp [PyData.eqv]
  | .list xs, h => by simp only [PyData.eqv]; exact eqv_selfs h
  | .tuple xs, h => by simp only [PyData.eqv]; exact eqv_selfs h
  | .dict _, h => by cases h
theorem eqv_selfs : ∀ {ps : List PyData}, PyData.hasDictAll ps = false → PyData.eqvAll ps ps = true
  | [], _ => rfl
  | p :: ps, h => by
    simp only [PyData.hasDictAll, Bool.or_eq_false_iff] at h
    simp only [PyData.eqvAll, eqv_self h.1, eqv_selfs h.2, Bool.and_self]
end
theorem Rp.shaped {d : D} {p : PyData} {dep len : Nat} (h : Rp d p dep len) (hd : dep ≤ 60) : SeqAt.shaped p = true := by
  unfold SeqAt.shaped
  have := h.dp
  rw [h.cl, Bool.true_and]
  exact decide_eq_true (by omega)
/-- equal data -/
theorem Rp.eq {x y : D} {p : PyData} {a b l m : Nat} (hx : Rp x p a l) (hy : Rp y p b m) (ha : a ≤ 60) (hb : b ≤ 60) {c : Cells} {B : Bool → Prop} (cx : deref c x = x) (cy : deref c y = y) (k : B true) : eqK x y c B := by
  refine .inr ⟨p, p, by rw [cx]; exact hx.py, by rw [cy]; exact hy.py, hx.shaped ha, hy.shaped hb, ?_⟩
  rw [eqv_self hx.nd]
  exact k
end Ev

/-! # Pv1: rows with conditions, for reading the meaning by simp -/
namespace Ev
open PySem
def gI {α : Type} [Inhabited α] (ws : List α) (i : Int) : α := ws.getD i.toNat default
theorem gI_get {α : Type} [Inhabited α] {ws : List α} {i : Int} (h1 : i < ws.length) (h0 : 0 ≤ i) : ws[i.toNat]? = some (gI ws i) := by
  unfold gI
  rw [List.getD_eq_getElem?_getD, List.getElem?_eq_getElem (by omega)]
  rfl
theorem gI_nat {α : Type} [Inhabited α] {ws : List α} {i : Nat} : gI ws (i : Int) = ws.getD i default := rfl
theorem gI_mem {α : Type} [Inhabited α] {ws : List α} {i : Int} (h1 : i < ws.length) (h0 : 0 ≤ i) : gI ws i ∈ ws := List.mem_of_getElem? (gI_get h1 h0)
def nI (i : Nat) : D := .int (i : Nat)
def cutI {α : Type} (xs : List α) (lo hi : Option Int) : List α := (xs.drop (HT.sIx xs.length 0 lo)).take (HT.sIx xs.length xs.length hi - HT.sIx xs.length 0 lo)
section
variable {i j : Int} {n m : Nat} {c c' : Cells} {b : Bool} {x y d : D} {K : D → Prop} {B : Bool → Prop} {Q : D → Cells → Prop} {α : Type} {g : α → D} {ws us : List α} {xs ys : List D}
theorem p_sz (h : n ≤ 1000000) : (n ≤ sizeLine) = True := eq_true (Nat.le_trans h (by decide))
theorem p_szl (h : n < 1000000) : (n < sizeLine) = True := eq_true (Nat.lt_trans h (by decide))
theorem p_cml (h : -(2 ^ 64) < i) (h' : i < 2 ^ 64) : L2.CMul i j = True := eq_true (.inl ⟨h, h'⟩)
theorem p_cmr (h : -(2 ^ 64) < j) (h' : j < 2 ^ 64) : L2.CMul i j = True := eq_true (.inr ⟨h, h'⟩)
theorem p_cdv (h : 0 < j) (h' : j < 1073741824) : L2.CDiv i j = True := eq_true ⟨h, h'⟩
theorem p_rg (h : -(2 ^ 62) ≤ i) (h' : i < 2 ^ 62) : RgI i = True := eq_true ⟨h, h'⟩
theorem p_mod (h : 0 < j) : intK .Mod i j K = K (.int (i % j)) := propext ⟨fun q => q.2, fun q => ⟨h, q⟩⟩
theorem p_rng0 : rngL 0 i = (List.range i.toNat).map nI := by simp [rngL, nI, Function.comp_def]
theorem rng_gen : rngL i j = (List.range (j - i).toNat).map fun t : Nat => D.int (i + (t : Int)) := rfl
/-! subscripts -/
theorem atI_g [Inhabited α] (h1 : i < ws.length) (h0 : 0 ≤ i) : L2.atI (ws.map g) i = some (g (gI ws i)) := atI_int h0 (by rw [List.getElem?_map, gI_get h1 h0]; rfl)
theorem exK {o : Option D} (h : o = some x) : (∃ v, o = some v ∧ K v) = K x := propext ⟨fun ⟨v, e, k⟩ => by rw [h] at e; cases e; exact k, fun k => ⟨x, h, k⟩⟩
theorem p_ixt [Inhabited α] (h1 : i < ws.length) (h0 : 0 ≤ i) : idxK (.tup (ws.map g)) (.int i) c K = K (g (gI ws i)) := q_ixt.trans (exK (atI_g h1 h0))
theorem p_ixl [Inhabited α] (h1 : i < ws.length) (h0 : 0 ≤ i) : idxK (.lst (ws.map g)) (.int i) c K = K (g (gI ws i)) := q_ixl.trans (exK (atI_g h1 h0))
theorem p_ixo [Inhabited α] (h1 : i < ws.length) (h0 : 0 ≤ i) : idxK (.own (ws.map g)) (.int i) c K = K (g (gI ws i)) := q_ixo.trans (exK (atI_g h1 h0))
theorem atI_m1 [Inhabited α] (h : 0 < ws.length) : L2.atI (ws.map g) (-1) = some (g (gI ws ((ws.length : Int) - 1))) := by
  have hw : ws ≠ [] := by rintro rfl; simp at h
  have hne : ws.map g ≠ [] := by simpa using hw
  rw [atI_last hne, List.getLast_map]
  have := gI_get (ws := ws) (i := (ws.length : Int) - 1) (by omega) (by omega)
  rw [show ((ws.length : Int) - 1).toNat = ws.length - 1 by omega, ← List.getLast?_eq_getElem?, List.getLast?_eq_some_getLast hw] at this
  rw [Option.some.inj this]
theorem p_ixtm [Inhabited α] (h : 0 < ws.length) : idxK (.tup (ws.map g)) (.int (-1)) c K = K (g (gI ws ((ws.length : Int) - 1))) := q_ixt.trans (exK (atI_m1 h))
theorem p_ixlm [Inhabited α] (h : 0 < ws.length) : idxK (.lst (ws.map g)) (.int (-1)) c K = K (g (gI ws ((ws.length : Int) - 1))) := q_ixl.trans (exK (atI_m1 h))
section
variable {x0 x1 x2 x3 : D} {r : List D}
theorem at0 : L2.atI (x0 :: r) 0 = some x0 := atI_nat (xs := x0 :: r) (i := 0) rfl
theorem at1 : L2.atI (x0 :: x1 :: r) 1 = some x1 := atI_nat (xs := x0 :: x1 :: r) (i := 1) rfl
theorem at2 : L2.atI (x0 :: x1 :: x2 :: r) 2 = some x2 := atI_nat (xs := x0 :: x1 :: x2 :: r) (i := 2) rfl
theorem at3 : L2.atI (x0 :: x1 :: x2 :: x3 :: r) 3 = some x3 := atI_nat (xs := x0 :: x1 :: x2 :: x3 :: r) (i := 3) rfl
theorem p_t0 : idxK (.tup (x0 :: r)) (.int 0) c K = K x0 := q_ixt.trans (exK at0)
theorem p_t1 : idxK (.tup (x0 :: x1 :: r)) (.int 1) c K = K x1 := q_ixt.trans (exK at1)
theorem p_t2 : idxK (.tup (x0 :: x1 :: x2 :: r)) (.int 2) c K = K x2 := q_ixt.trans (exK at2)
theorem p_t3 : idxK (.tup (x0 :: x1 :: x2 :: x3 :: r)) (.int 3) c K = K x3 := q_ixt.trans (exK at3)
theorem p_l0 : idxK (.lst (x0 :: r)) (.int 0) c K = K x0 := q_ixl.trans (exK at0)
theorem p_l1 : idxK (.lst (x0 :: x1 :: r)) (.int 1) c K = K x1 := q_ixl.trans (exK at1)
theorem p_l2 : idxK (.lst (x0 :: x1 :: x2 :: r)) (.int 2) c K = K x2 := q_ixl.trans (exK at2)
theorem p_l3 : idxK (.lst (x0 :: x1 :: x2 :: x3 :: r)) (.int 3) c K = K x3 := q_ixl.trans (exK at3)
theorem p_o0 : idxK (.own (x0 :: r)) (.int 0) c K = K x0 := q_ixo.trans (exK at0)
theorem p_o1 : idxK (.own (x0 :: x1 :: r)) (.int 1) c K = K x1 := q_ixo.trans (exK at1)
theorem p_o2 : idxK (.own (x0 :: x1 :: x2 :: r)) (.int 2) c K = K x2 := q_ixo.trans (exK at2)
theorem p_o3 : idxK (.own (x0 :: x1 :: x2 :: x3 :: r)) (.int 3) c K = K x3 := q_ixo.trans (exK at3)
end
theorem p_wl {R : List D → (Cells → Prop) → Cells → Prop} : walkK (.lst xs) c R = R xs (fun _ => True) c := propext ⟨fun ⟨_, h, k⟩ => by
    cases h
    have e : (fun c' => lkR c' (.lst xs) = some xs) = fun _ => True := funext fun _ => eq_true rfl
    rwa [e] at k, fun k => ⟨xs, rfl, by
    have e : (fun c' => lkR c' (.lst xs) = some xs) = fun _ => True := funext fun _ => eq_true rfl
    rwa [e]⟩⟩
theorem p_wo {R : List D → (Cells → Prop) → Cells → Prop} : walkK (.own xs) c R = R xs (fun _ => True) c := propext ⟨fun ⟨_, h, k⟩ => by
    cases h
    have e : (fun c' => lkR c' (.own xs) = some xs) = fun _ => True := funext fun _ => eq_true rfl
    rwa [e] at k, fun k => ⟨xs, rfl, by
    have e : (fun c' => lkR c' (.own xs) = some xs) = fun _ => True := funext fun _ => eq_true rfl
    rwa [e]⟩⟩
/-! slices -/
theorem p_cut {lo hi : Option Int} : cutD (ws.map g) lo hi = (cutI ws lo hi).map g := by
  unfold cutD cutI
  rw [List.length_map, ← List.map_drop, ← List.map_take]
theorem cutI_nn (i j : Nat) : cutI ws (some (i : Int)) (some (j : Int)) = (ws.drop i).take (j - i) := by
  unfold cutI
  rw [HT.sIx_nat, HT.sIx_nat]
  apply List.ext_getElem?
  intro n
  simp only [List.getElem?_take, List.getElem?_drop]
  by_cases h1 : i ≤ ws.length
  · rw [Nat.min_eq_left h1]
    by_cases h2 : j ≤ ws.length
    · rw [Nat.min_eq_left h2]
    · by_cases h3 : i + n < ws.length
      · rw [if_pos (by omega), if_pos (by omega)]
      · rw [List.getElem?_eq_none (by omega)]
        split <;> split <;> rfl
  · rw [List.getElem?_eq_none (by omega), List.getElem?_eq_none (by omega)]
    split <;> split <;> rfl
theorem cutI_ij (h0 : 0 ≤ i) (h1 : 0 ≤ j) : cutI ws (some i) (some j) = (ws.drop i.toNat).take (j.toNat - i.toNat) := by
  have := cutI_nn (ws := ws) i.toNat j.toNat
  rwa [Int.toNat_of_nonneg h0, Int.toNat_of_nonneg h1] at this
theorem cutI_w (i w : Nat) : cutI ws (some (i : Int)) (some ((i : Int) + (w : Int))) = (ws.drop i).take w := by
  rw [← Int.natCast_add, cutI_nn, Nat.add_sub_cancel_left]
theorem cutI_to (h1 : 0 ≤ j) : cutI ws none (some j) = ws.take j.toNat := cutI_ij (i := 0) (Int.le_refl 0) h1
theorem cutI_from (h0 : 0 ≤ i) : cutI ws (some i) none = ws.drop i.toNat := by
  have e : cutI ws (some i) none = cutI ws (some i) (some ((ws.length : Nat) : Int)) := by
    unfold cutI
    rw [HT.sIx_nat, HT.sIx_none, Nat.min_self]
  rw [e, cutI_ij h0 (by omega), List.take_of_length_le (by rw [List.length_drop]; omega)]
theorem cutI_last : cutI ws none (some (-1)) = ws.dropLast := by
  unfold cutI HT.sIx
  simp only [List.drop_zero, Nat.sub_zero]
  rw [if_pos (by decide), List.dropLast_eq_take]
  congr 1
  omega
theorem stepT_map {k : Int} : stepT (ws.map g) k = (stepT ws k).map g := by
  unfold stepT
  rw [List.length_map, List.map_filterMap]
  congr 1
  funext i
  rw [List.getElem?_map]
theorem fmap_congr {β γ : Type} {f f' : β → Option γ} : ∀ {l : List β}, (∀ i ∈ l, f i = f' i) → l.filterMap f = l.filterMap f'
  | [], _ => rfl
  | x :: r, h => by rw [List.filterMap_cons, List.filterMap_cons, h x List.mem_cons_self, fmap_congr fun i hi => h i (List.mem_cons_of_mem _ hi)]
theorem all_get {β : Type} : ∀ l : List β, (List.range l.length).filterMap (fun i => l[i]?) = l
  | [] => rfl
  | x :: r => by
    rw [List.length_cons, List.range_succ_eq_map, List.filterMap_cons, List.filterMap_map]
    simp only [List.getElem?_cons_zero]
    congr 1
    exact all_get r
theorem stepT_rev {β : Type} (xs : List β) : stepT xs (-1) = xs.reverse := by
  unfold stepT
  have e : Builtin.Slice.slicePlaces ((xs.length : Int) - 1) (-1) (-1) = xs.length := by
    unfold Builtin.Slice.slicePlaces
    rw [if_neg (by decide)]
    split
    · rw [show -(-1 : Int) = 1 by decide, Int.ediv_one]; omega
    · omega
  simp only [show ((-1 : Int) < 0) = True from eq_true (by decide), if_true, e]
  conv => rhs; rw [← all_get xs.reverse]
  rw [List.length_reverse]
  apply fmap_congr
  intro i hi
  have hi := List.mem_range.mp hi
  rw [List.getElem?_reverse hi, show ((xs.length : Int) - 1 + (i : Int) * -1).toNat = xs.length - 1 - i by omega]
theorem p_sl1 : slsK (.tup (ws.map g)) (.int (-1)) c K = K (.tup (ws.reverse.map g)) := propext ⟨fun ⟨k, e, _, _, h⟩ => by cases e; rw [stepT_map, stepT_rev] at h; exact h, fun h => ⟨-1, rfl, by decide, by decide, by rw [stepT_map, stepT_rev]; exact h⟩⟩
theorem p_sl1' : slsK (.tup xs) (.int (-1)) c K = K (.tup xs.reverse) := propext ⟨fun ⟨k, e, _, _, h⟩ => by cases e; rw [stepT_rev] at h; exact h, fun h => ⟨-1, rfl, by decide, by decide, by rw [stepT_rev]; exact h⟩⟩
theorem p_slk (h2 : 2 ≤ i) : slsK (.tup (ws.map g)) (.int i) c K = K (.tup ((stepT ws i).map g)) := propext ⟨fun ⟨k, e, _, _, h⟩ => by cases e; rw [stepT_map] at h; exact h, fun h => ⟨i, rfl, by omega, by omega, by rw [stepT_map]; exact h⟩⟩
theorem p_sl2 : slsK (.lst xs) (.int (-1)) c K = K (.own xs.reverse) := propext ⟨fun ⟨_, e, _, h⟩ => by cases e; exact h, fun h => ⟨xs, rfl, rfl, h⟩⟩
theorem p_sl3 : slsK (.own xs) (.int (-1)) c K = K (.own xs.reverse) := propext ⟨fun ⟨_, e, _, h⟩ => by cases e; exact h, fun h => ⟨xs, rfl, rfl, h⟩⟩
theorem zipL_map {β : Type} {us : List β} {f : β → D} : zipL (ws.map g) (us.map f) = (ws.zip us).map fun p => D.tup [g p.1, f p.2] := by
  unfold zipL
  induction ws generalizing us with
  | nil => rfl
  | cons w r ih =>
    cases us with
    | nil => rfl
    | cons u s => simp only [List.map_cons, List.zipWith_cons_cons, List.zip_cons_cons, ih]
theorem p_zt {R : List D → (Cells → Prop) → Cells → Prop} : zipK (.tup xs) (.tup ys) c R = R (zipL xs ys) (fun _ => True) c := propext ⟨fun ⟨_, _, h1, h2, _, k⟩ => by
    cases h1; cases h2
    have e : (fun c' => lkS c' (.tup xs) = some xs ∧ lkS c' (.tup ys) = some ys) = fun _ => True := funext fun _ => eq_true ⟨rfl, rfl⟩
    rwa [e] at k, fun k => ⟨xs, ys, rfl, rfl, rfl, by
    have e : (fun c' => lkS c' (.tup xs) = some xs ∧ lkS c' (.tup ys) = some ys) = fun _ => True := funext fun _ => eq_true ⟨rfl, rfl⟩
    rwa [e]⟩⟩
theorem p_zl {R : List D → (Cells → Prop) → Cells → Prop} : zipK (.lst xs) (.lst ys) c R = R (zipL xs ys) (fun _ => True) c := propext ⟨fun ⟨_, _, h1, h2, _, k⟩ => by
    cases h1; cases h2
    have e : (fun c' => lkS c' (.lst xs) = some xs ∧ lkS c' (.lst ys) = some ys) = fun _ => True := funext fun _ => eq_true ⟨rfl, rfl⟩
    rwa [e] at k, fun k => ⟨xs, ys, rfl, rfl, rfl, by
    have e : (fun c' => lkS c' (.lst xs) = some xs ∧ lkS c' (.lst ys) = some ys) = fun _ => True := funext fun _ => eq_true ⟨rfl, rfl⟩
    rwa [e]⟩⟩
/-! tuples and lists put together -/
theorem p_snoc {s : Int} {ws : List Int} : ws.map D.int ++ [D.int s] = (ws ++ [s]).map D.int := by simp
theorem p_app : ws.map g ++ us.map g = (ws ++ us).map g := List.map_append.symm
theorem p_repl {x : Int} (h : -(2 ^ 62) ≤ j) (h' : j ≤ 100000) : repK .Mult [D.int x] j K = K (.tup ((List.replicate j.toNat x).map D.int)) := by
  have e : (List.replicate j.toNat [D.int x]).flatten = (List.replicate j.toNat x).map D.int := by
    induction j.toNat with
    | zero => rfl
    | succ n ih => rw [List.replicate_succ, List.flatten_cons, ih, List.replicate_succ, List.map_cons]; rfl
  rw [q_trep, e]
  refine propext ⟨fun q => q.2.2.2, fun q => ⟨h, h', by simp only [List.length_cons, List.length_nil]; omega, q⟩⟩
theorem p_repg (h : -(2 ^ 62) ≤ j) (h' : j ≤ 100000) (h2 : ws.length * j.toNat ≤ 100000) : repK .Mult (ws.map g) j K = K (.tup ((List.replicate j.toNat ws).flatten.map g)) := by
  have e : (List.replicate j.toNat (ws.map g)).flatten = (List.replicate j.toNat ws).flatten.map g := by simp [List.map_flatten]
  rw [q_trep, e]
  exact propext ⟨fun q => q.2.2.2, fun q => ⟨h, h', by rwa [List.length_map], q⟩⟩
theorem rept (h : -(2 ^ 62) ≤ j) (h' : j ≤ 100000) (h2 : xs.length * j.toNat ≤ 100000) : repK .Mult xs j K = K (.tup (List.replicate j.toNat xs).flatten) := propext ⟨fun q => q.2.2.2, fun q => ⟨h, h', h2, q⟩⟩
/-! built-ins over lists -/
theorem p_sumo {ns : List Int} : bltK .sum [.own (ns.map .int)] c K = K (.int ns.sum) := propext ⟨fun ⟨_, _, h1, h2, h⟩ => by cases h1; rw [intsOf_map] at h2; cases h2; exact h, fun h => ⟨_, _, rfl, intsOf_map ns, h⟩⟩
theorem p_suml {ns : List Int} : bltK .sum [.lst (ns.map .int)] c K = K (.int ns.sum) := propext ⟨fun ⟨_, _, h1, h2, h⟩ => by cases h1; rw [intsOf_map] at h2; cases h2; exact h, fun h => ⟨_, _, rfl, intsOf_map ns, h⟩⟩
theorem p_anyo {bs : List Bool} : bltK .any [.own (bs.map .bl)] c K = K (.bl (bs.any id)) := propext ⟨fun ⟨_, _, h1, h2, h⟩ => by cases h1; rw [blsOf_map] at h2; cases h2; exact h, fun h => ⟨_, _, rfl, blsOf_map bs, h⟩⟩
theorem p_anyl {bs : List Bool} : bltK .any [.lst (bs.map .bl)] c K = K (.bl (bs.any id)) := propext ⟨fun ⟨_, _, h1, h2, h⟩ => by cases h1; rw [blsOf_map] at h2; cases h2; exact h, fun h => ⟨_, _, rfl, blsOf_map bs, h⟩⟩
theorem p_allo {bs : List Bool} : bltK .all [.own (bs.map .bl)] c K = K (.bl (bs.all id)) := propext ⟨fun ⟨_, _, h1, h2, h⟩ => by cases h1; rw [blsOf_map] at h2; cases h2; exact h, fun h => ⟨_, _, rfl, blsOf_map bs, h⟩⟩
theorem p_alll {bs : List Bool} : bltK .all [.lst (bs.map .bl)] c K = K (.bl (bs.all id)) := propext ⟨fun ⟨_, _, h1, h2, h⟩ => by cases h1; rw [blsOf_map] at h2; cases h2; exact h, fun h => ⟨_, _, rfl, blsOf_map bs, h⟩⟩
theorem p_lno : bltK .len [.own xs] c K = K (.int xs.length) := propext ⟨fun ⟨_, h1, h⟩ => by cases h1; exact h, fun h => ⟨_, rfl, h⟩⟩
theorem p_tpo : bltK .tuple [.own xs] c K = K (.tup xs) := propext ⟨fun ⟨_, h1, h⟩ => by cases h1; exact h, fun h => ⟨_, rfl, h⟩⟩
theorem p_enum [Inhabited α] : enumL (ws.map g) = (List.range ws.length).map fun i : Nat => D.tup [.int (i : Int), g (gI ws (i : Int))] := by
  have key : ∀ (us vs : List α) (k : Nat), vs.length = k → enumF k (us.map g) = (List.range us.length).map fun i : Nat => D.tup [.int ((k + i : Nat) : Int), g (gI (vs ++ us) ((k + i : Nat) : Int))] := by
    intro us
    induction us with
    | nil => intro vs k _; rfl
    | cons u r ih =>
      intro vs k hk
      rw [List.map_cons, enumF, ih (vs ++ [u]) (k + 1) (by simp [hk]), List.length_cons, List.range_succ_eq_map, List.map_cons, List.map_map]
      congr 1
      · congr 1
        unfold gI
        simp [← hk]
      · apply List.map_congr_left
        intro i _
        simp only [Function.comp_apply, List.append_assoc, List.singleton_append]
        rw [show k + 1 + i = k + (i + 1) by omega]
  have := key ws [] 0 rfl
  simpa [enumL] using this
/-! the cell on top -/
theorem p_top {o : Ob} : (c ++ [o])[c.length]? = some o := by simp
theorem p_tops {o o' : Ob} : (c ++ [o]).set c.length o' = c ++ [o'] := by simp
theorem p_topt {o : Ob} : (c ++ [o]).take c.length = c := by simp
theorem p_lkl : lkL (c ++ [.lst xs]) (.cell c.length) = some xs := lkL_cell p_top
theorem p_lkr : lkR (c ++ [.lst xs]) (.cell c.length) = some xs := lkR_cell p_top
theorem p_lks : lkS (c ++ [.lst xs]) (.cell c.length) = some xs := lkS_cell p_top
theorem p_wc {R : List D → (Cells → Prop) → Cells → Prop} : walkK (.cell c.length) (c ++ [.lst xs]) R = R xs (fun c' => lkR c' (.cell c.length) = some xs) (c ++ [.lst xs]) := propext ⟨fun ⟨_, h, k⟩ => by
    have h : lkR (c ++ [.lst xs]) (.cell c.length) = _ := h
    rw [p_lkr] at h
    cases h
    exact k, fun k => ⟨xs, p_lkr, k⟩⟩
theorem p_some {β : Type} {v : β} : (some v).isSome = true := rfl
theorem apd (h : xs.length < 1000000) (hd : d.isCell = false) : methK .append (.cell c.length) [d] (c ++ [.lst xs]) Q = Q .non (c ++ [.lst (xs ++ [d])]) := by
  refine propext ⟨?_, fun k => ⟨_, _, _, rfl, p_top, rfl, Nat.lt_trans h (by decide), hd, by rw [p_tops]; exact k⟩⟩
  rintro ⟨n, zs, e, h1, h2, h3, h4, h5, k⟩
  cases h1; cases h3
  rw [p_top] at h2
  cases h2
  rwa [p_tops] at k
theorem p_apI (h : xs.length < 1000000) : methK .append (.cell c.length) [.int i] (c ++ [.lst xs]) Q = Q .non (c ++ [.lst (xs ++ [.int i])]) := apd h rfl
theorem p_apB (h : xs.length < 1000000) : methK .append (.cell c.length) [.bl b] (c ++ [.lst xs]) Q = Q .non (c ++ [.lst (xs ++ [.bl b])]) := apd h rfl
theorem p_apS {z : Str} (h : xs.length < 1000000) : methK .append (.cell c.length) [.str z] (c ++ [.lst xs]) Q = Q .non (c ++ [.lst (xs ++ [.str z])]) := apd h rfl
theorem p_apN (h : xs.length < 1000000) : methK .append (.cell c.length) [.non] (c ++ [.lst xs]) Q = Q .non (c ++ [.lst (xs ++ [.non])]) := apd h rfl
theorem p_apT (h : xs.length < 1000000) : methK .append (.cell c.length) [.tup ys] (c ++ [.lst xs]) Q = Q .non (c ++ [.lst (xs ++ [.tup ys])]) := apd h rfl
theorem p_apL (h : xs.length < 1000000) : methK .append (.cell c.length) [.lst ys] (c ++ [.lst xs]) Q = Q .non (c ++ [.lst (xs ++ [.lst ys])]) := apd h rfl
theorem p_exl (h : xs.length + ys.length ≤ 1000000) : methK .extend (.cell c.length) [.lst ys] (c ++ [.lst xs]) Q = Q .non (c ++ [.lst (xs ++ ys)]) := by
  refine propext ⟨?_, fun k => ⟨_, _, _, _, rfl, p_top, rfl, rfl, Nat.le_trans h (by decide), by rw [p_tops]; exact k⟩⟩
  rintro ⟨n, zs, e, us, h1, h2, h3, h4, h5, k⟩
  cases h1; cases h3; cases h4
  rw [p_top] at h2
  cases h2
  rwa [p_tops] at k
theorem p_rtc : retK c.length Q (.cell c.length) (c ++ [.lst xs]) = Q (.own xs) c := by
  rw [q_rc]
  refine propext ⟨?_, fun k => ⟨xs, Nat.le_refl _, p_top, by rw [p_topt]; exact k⟩⟩
  rintro ⟨ys, _, h, k⟩
  rw [p_top] at h
  cases h
  rwa [p_topt] at k
theorem p_tIc {x : Int} {ws : List Int} : tI (x :: ws) = .tup (.int x :: ws.map .int) := rfl
theorem p_tIn : tI [] = .tup [] := rfl
theorem p_isn1 : isK .non .non B = B true := rfl
theorem p_isn2 : isK (.tup xs) .non B = B false := rfl
theorem p_isn3 : isK (.lst xs) .non B = B false := rfl
theorem p_isn4 : isK (.own xs) .non B = B false := rfl
theorem p_isn5 : isK (.int i) .non B = B false := rfl
theorem p_isn6 {z : Str} : isK (.str z) .non B = B false := rfl
theorem p_isn7 : isK (.bl b) .non B = B false := rfl
theorem p_isbb {a : Bool} : isK (.bl a) (.bl b) B = B (decide (a = b)) := rfl
theorem exL {o : Option (List D)} {ys : List D} {P : List D → Prop} (h : o = some ys) : (∃ xs, o = some xs ∧ P xs) = P ys := propext ⟨fun ⟨v, e, k⟩ => by rw [h] at e; cases e; exact k, fun k => ⟨ys, h, k⟩⟩
theorem p_tpc : bltK .tuple [.cell c.length] (c ++ [.lst xs]) K = K (.tup xs) := exL (P := fun xs => K (.tup xs)) p_lkr
theorem p_lic : bltK .list [.cell c.length] (c ++ [.lst xs]) K = K (.own xs) := exL (P := fun xs => K (.own xs)) p_lks
theorem p_lnc : bltK .len [.cell c.length] (c ++ [.lst xs]) K = K (.int xs.length) := exL (P := fun xs => K (.int xs.length)) p_lks
theorem p_trc : truK (c ++ [.lst xs]) (.cell c.length) B = B (!xs.isEmpty) := exL (P := fun xs => B (!xs.isEmpty)) p_lkr
theorem p_slc {lo hi : Option Int} : slK (.cell c.length) lo hi (c ++ [.lst xs]) K = K (.own (cutD xs lo hi)) := exL (P := fun xs => K (.own (cutD xs lo hi))) p_lkr
theorem p_slo {lo hi : Option Int} : slK (.own xs) lo hi c K = K (.own (cutD xs lo hi)) := exL (P := fun xs => K (.own (cutD xs lo hi))) rfl
theorem p_ixc [Inhabited α] (h1 : i < ws.length) (h0 : 0 ≤ i) : idxK (.cell c.length) (.int i) (c ++ [.lst (ws.map g)]) K = K (g (gI ws i)) := by
  refine propext ⟨?_, fun k => ⟨_, i, _, p_lks, rfl, atI_g h1 h0, k⟩⟩
  rintro ⟨ys, j, v, e1, e2, e3, k⟩
  rw [p_lks] at e1
  cases e1; cases e2
  rw [atI_g h1 h0] at e3
  cases e3
  exact k
theorem p_ixcm [Inhabited α] (h : 0 < ws.length) : idxK (.cell c.length) (.int (-1)) (c ++ [.lst (ws.map g)]) K = K (g (gI ws ((ws.length : Int) - 1))) := by
  refine propext ⟨?_, fun k => ⟨_, _, _, p_lks, rfl, atI_m1 h, k⟩⟩
  rintro ⟨ys, j, v, e1, e2, e3, k⟩
  rw [p_lks] at e1
  cases e1; cases e2
  rw [atI_m1 h] at e3
  cases e3
  exact k
/-! tests -/
theorem p_and {p q : Prop} (h : p) : (p ∧ q) = q := propext ⟨fun x => x.2, fun x => ⟨h, x⟩⟩
theorem p_ifd {p : Prop} [Decidable p] {A B : Prop} : (if decide p = true then A else B) = if p then A else B := by simp
theorem p_ifn {p : Prop} [Decidable p] {A B : Prop} : (if (!decide p) = true then A else B) = if p then B else A := by by_cases h : p <;> simp [h]
theorem p_ifb {A B : Prop} : (if (!b) = true then A else B) = if b = true then B else A := by cases b <;> rfl
end
/-! ### loops over lists made by a map -/
section
variable {ok : Cells → Prop} {turn : D → Cells → (Option D → Cells → Prop) → Prop} {α : Type} {g : α → D} {tg : Tg} {body : WS} {P : DE}
theorem for_mp (I : List α → Sl → Cells → Prop) {ys : List α} {σ : Sl} {c : Cells} (h0 : I ys σ c) (hnil : ∀ σ c, I [] σ c → ok c ∧ P.nx σ c)
    (hcons : ∀ x r σ c (R : Sl → Cells → Prop), I (x :: r) σ c → (∀ σ' c', I r σ' c' → R σ' c') → ok c ∧ asgT tg (g x) σ c fun σ1 => body ⟨R, P.rt, P.nx, R⟩ σ1 c) : forGo ok tg body P (ys.map g) σ c := by
  refine forGo_ind (I := fun r σ c => ∃ zs, r = zs.map g ∧ I zs σ c) ?_ ?_ _ _ _ ⟨ys, rfl, h0⟩
  · rintro σ c ⟨zs, e, h⟩
    have : zs = [] := by simpa using e.symm
    subst this
    exact hnil σ c h
  · rintro x r σ c R ⟨zs, e, h⟩ hR
    cases zs with
    | nil => cases e
    | cons z zs =>
      simp only [List.map_cons, List.cons.injEq] at e
      obtain ⟨rfl, rfl⟩ := e
      exact hcons z zs σ c R h fun σ' c' q => hR σ' c' ⟨zs, rfl, q⟩
/-- by what is done and what is left -/
theorem for_dn (I : List α → List α → Sl → Cells → Prop) {ys : List α} {σ : Sl} {c : Cells} (h0 : I [] ys σ c) (hnil : ∀ σ c, I ys [] σ c → ok c ∧ P.nx σ c)
    (hcons : ∀ d x r σ c (R : Sl → Cells → Prop), ys = d ++ x :: r → I d (x :: r) σ c → (∀ σ' c', I (d ++ [x]) r σ' c' → R σ' c') → ok c ∧ asgT tg (g x) σ c fun σ1 => body ⟨R, P.rt, P.nx, R⟩ σ1 c) : forGo ok tg body P (ys.map g) σ c := by
  refine for_mp (I := fun r σ c => ∃ d, ys = d ++ r ∧ I d r σ c) ⟨[], rfl, h0⟩ ?_ ?_
  · rintro σ c ⟨d, e, h⟩
    rw [List.append_nil] at e
    subst e
    exact hnil σ c h
  · rintro x r σ c R ⟨d, e, h⟩ hR
    exact hcons d x r σ c R e h fun σ' c' q => hR σ' c' ⟨d ++ [x], by rw [e]; simp, q⟩
/-- over a range from 0 -/
theorem for_rg {N : Nat} (I : Nat → Sl → Cells → Prop) {σ : Sl} {c : Cells} (h0 : I 0 σ c) (hnil : ∀ σ c, I N σ c → ok c ∧ P.nx σ c)
    (hcons : ∀ j σ c (R : Sl → Cells → Prop), j < N → I j σ c → (∀ σ' c', I (j + 1) σ' c' → R σ' c') → ok c ∧ asgT tg (.int (j : Nat)) σ c fun σ1 => body ⟨R, P.rt, P.nx, R⟩ σ1 c) : forGo ok tg body P ((List.range N).map nI) σ c := by
  refine for_mp (I := fun r σ c => ∃ j, j ≤ N ∧ r = (List.range' j (N - j)) ∧ I j σ c) ⟨0, Nat.zero_le _, by rw [List.range_eq_range', Nat.sub_zero], h0⟩ ?_ ?_
  · rintro σ c ⟨j, hj, e, h⟩
    have : j = N := by
      have := congrArg List.length e
      simp at this
      omega
    subst this
    exact hnil σ c h
  · rintro x r σ c R ⟨j, hj, e, h⟩ hR
    cases hk : N - j with
    | zero => rw [hk] at e; cases e
    | succ k =>
      rw [hk, List.range'_succ] at e
      injection e with e1 e2
      subst e1; subst e2
      exact hcons x σ c R (by omega) h fun σ' c' q => hR σ' c' ⟨x + 1, by omega, by rw [show N - (x + 1) = k by omega], q⟩
/-- over a range -/
theorem for_rl (lo hi : Nat) (I : Nat → Sl → Cells → Prop) {i j : Int} {σ : Sl} {c : Cells} (hi' : i = lo) (hj' : j = hi) (hle : lo ≤ hi) (h0 : I lo σ c) (hnil : ∀ σ c, I hi σ c → ok c ∧ P.nx σ c)
    (hcons : ∀ m σ c (R : Sl → Cells → Prop), lo ≤ m → m < hi → I m σ c → (∀ σ' c', I (m + 1) σ' c' → R σ' c') → ok c ∧ asgT tg (.int (m : Nat)) σ c fun σ1 => body ⟨R, P.rt, P.nx, R⟩ σ1 c) : forGo ok tg body P (rngL i j) σ c := by
  subst hi'; subst hj'
  have e : rngL (lo : Int) (hi : Int) = (List.range' lo (hi - lo)).map nI := by
    rw [rng_gen, List.range'_eq_map_range, List.map_map, show ((hi : Int) - (lo : Int)).toNat = hi - lo by omega]
    apply List.map_congr_left
    intro a _
    simp [nI]
  rw [e]
  refine for_mp (I := fun r σ c => ∃ m, lo ≤ m ∧ m ≤ hi ∧ r = (List.range' m (hi - m)) ∧ I m σ c) ⟨lo, Nat.le_refl _, hle, rfl, h0⟩ ?_ ?_
  · rintro σ c ⟨m, h1, h2, e, h⟩
    have : m = hi := by
      have := congrArg List.length e
      simp at this
      omega
    subst this
    exact hnil σ c h
  · rintro x r σ c R ⟨m, h1, h2, e, h⟩ hR
    cases hk : hi - m with
    | zero => rw [hk] at e; cases e
    | succ k =>
      rw [hk, List.range'_succ] at e
      injection e with e1 e2
      subst e1; subst e2
      exact hcons x σ c R h1 (by omega) h fun σ' c' q => hR σ' c' ⟨x + 1, by omega, by omega, by rw [show hi - (x + 1) = k by omega], q⟩
theorem lc_g {f : α → D} {ys : List α} {c : Cells} {K : List D → Cells → Prop} (h : ok c) (t : ∀ x ∈ ys, ∀ K, K (some (f x)) c → turn (g x) c K) (k : K (ys.map f) c) : lcGo ok turn (ys.map g) c K := by
  induction ys generalizing K with
  | nil => exact ⟨h, k⟩
  | cons x r ih => exact ⟨h, t x List.mem_cons_self _ (ih (fun y hy => t y (List.mem_cons_of_mem _ hy)) k)⟩
theorem lc_i {f : α → Int} {ys : List α} {c : Cells} {K : List D → Cells → Prop} (h : ok c) (t : ∀ x ∈ ys, ∀ K, K (some (.int (f x))) c → turn (g x) c K) (k : K ((ys.map f).map .int) c) : lcGo ok turn (ys.map g) c K :=
  lc_g (f := fun x => .int (f x)) h t (by rw [List.map_map] at k; exact k)
theorem lc_b {f : α → Bool} {ys : List α} {c : Cells} {K : List D → Cells → Prop} (h : ok c) (t : ∀ x ∈ ys, ∀ K, K (some (.bl (f x))) c → turn (g x) c K) (k : K ((ys.map f).map .bl) c) : lcGo ok turn (ys.map g) c K :=
  lc_g (f := fun x => .bl (f x)) h t (by rw [List.map_map] at k; exact k)
theorem lc_t {f : α → List Int} {ys : List α} {c : Cells} {K : List D → Cells → Prop} (h : ok c) (t : ∀ x ∈ ys, ∀ K, K (some (tI (f x))) c → turn (g x) c K) (k : K ((ys.map f).map tI) c) : lcGo ok turn (ys.map g) c K :=
  lc_g (f := fun x => tI (f x)) h t (by rw [List.map_map] at k; exact k)
/-- with a test -/
theorem lc_if {p : α → Bool} {f : α → D} {ys : List α} {c : Cells} {K : List D → Cells → Prop} (h : ok c) (t : ∀ x ∈ ys, ∀ K : Option D → Cells → Prop, (if p x = true then K (some (f x)) c else K none c) → turn (g x) c K) (k : K ((ys.filter p).map f) c) : lcGo ok turn (ys.map g) c K := by
  induction ys generalizing K with
  | nil => exact ⟨h, k⟩
  | cons x r ih =>
    refine ⟨h, t x List.mem_cons_self _ ?_⟩
    rw [List.filter_cons] at k
    cases e : p x with
    | true =>
      rw [if_pos e] at k
      rw [if_pos rfl]
      exact ih (fun y hy => t y (List.mem_cons_of_mem _ hy)) k
    | false =>
      rw [if_neg (by rw [e]; decide)] at k
      rw [if_neg (by decide)]
      exact ih (fun y hy => t y (List.mem_cons_of_mem _ hy)) k
/-- each turn draws a number -/
theorem lc_dr {I : Cells → Prop} {p : Int → Prop} {ys : List α} {c : Cells} {K : List D → Cells → Prop} (hI : I c) (hok : ∀ c, I c → ok c)
    (t : ∀ x ∈ ys, ∀ c K, I c → (∀ v c', p v → I c' → K (some (.int v)) c') → turn (g x) c K) (k : ∀ (vs : List Int) c', vs.length = ys.length → (∀ v ∈ vs, p v) → I c' → K (vs.map .int) c') : lcGo ok turn (ys.map g) c K := by
  induction ys generalizing K c with
  | nil => exact ⟨hok c hI, k [] c rfl (fun _ h => by cases h) hI⟩
  | cons x r ih =>
    refine ⟨hok c hI, t x List.mem_cons_self c _ hI fun v c' hv h' => ih h' (fun y hy => t y (List.mem_cons_of_mem _ hy)) fun vs c2 hl hvs h2 => k (v :: vs) c2 (by simp [hl]) (fun z hz => ?_) h2⟩
    rcases List.mem_cons.mp hz with rfl | q
    · exact hv
    · exact hvs z q
end
section
variable {Γ : Str → DSp} {sub : Str → Str → Option Bool} {kind : Str → Str → D}
theorem wSs_cons {base : Nat} {X : XW} {s : S} {r : Ss} {P : DE} {σ : Sl} {c : Cells} : wSs Γ sub kind base X (.cons s r) P σ c = wS Γ sub kind base X s { P with nx := wSs Γ sub kind base X r P } σ c := by simp only [wSs]
theorem wFn_mk {ar sz : Nat} {b : Ss} {ds : List D} {c : Cells} {Q : D → Cells → Prop} {E : Str → Cells → Prop} (h : ds.length = ar) (k : wSs Γ sub kind c.length (fun n _ c1 => E n (c1.take c.length)) b
    ⟨fun _ c1 => Q .non (c1.take c.length), retK c.length Q, fun _ _ => False, fun _ _ => False⟩ (ds.map some ++ List.replicate (sz - ar) none) c) : wFn Γ sub kind ⟨ar, sz, b⟩ ds c Q E := ⟨h, k⟩
/-- a turn of a comprehension -/
theorem p_lct {tg : Tg} {cond : WT} {elt : WE} {σ : Sl} {x : D} {c : Cells} {K : Option D → Cells → Prop} : lcTurn tg cond elt σ x c K = asgT tg x σ c fun σ1 => cond σ1 c fun b c1 => if b = true then elt σ1 c1 fun y c2 => stK y fun e => K (some e) c2 else K none c1 := rfl
/-- the first lines of a law -/
theorem law_pre {sz : Nat} {N : Int} {rest : Ss} (h0 : 0 ≤ N) (h1 : N ≤ 1000) (hz : 2 ≤ sz) (hD : ∀ ds c Q E, spDraws ds c Q E → Γ "_law_draws" ds c Q E) (hM : ∀ ds c Q E, spMore ds c Q E → Γ "_law_more" ds c Q E)
    (h : ∀ (ns : List Int) (c : Cells) (E : XW) (N B C : Sl → Cells → Prop) (R : D → Cells → Prop), c.length = 2 → Dr 1 c → (∀ c, R (.bl true) c) → wSs Γ sub kind 0 E rest ⟨N, R, B, C⟩ (some (.scr (ns.map .int)) :: some (.cell 1) :: List.replicate (sz - 2) none) c) :
    ∀ ds c Q E, spLaw ds c Q E → wFn Γ sub kind ⟨1, sz, .cons (.asgC 1 (.call "_law_draws" (.cons (.var 0) .nil))) (.cons (.asgC 1 (.call "_law_more" (.cons (.var 1) (.cons (.lit (.int N)) .nil)))) rest)⟩ ds c Q E := by
  rintro _ _ Q E ⟨ns, rfl, rfl, hlen, _, hq⟩
  obtain ⟨m, rfl⟩ : ∃ m, sz = m + 2 := ⟨sz - 2, by omega⟩
  refine wFn_mk rfl ?_
  rw [wSs_cons]
  have e : List.map some [D.scr (ns.map .int)] ++ List.replicate (m + 2 - 1) none = some (.scr (ns.map .int)) :: none :: List.replicate m none := by
    rw [show m + 2 - 1 = m + 1 by omega, List.replicate_succ]; rfl
  rw [e]
  simp only [wS, wE, wA, List.getElem?_cons_zero, List.getElem?_cons_succ, Option.some.injEq, exists_eq_left', q_fzr]
  refine hD _ _ _ _ ⟨ns, rfl, hlen, fun xs hx hb => ?_⟩
  simp only [D.own.injEq, exists_eq_left', wSs_cons, wS, wE, wA, List.set_cons_succ, List.set_cons_zero, List.getElem?_cons_zero, List.getElem?_cons_succ, Option.some.injEq, q_fzc, q_fzi, List.length_nil, List.nil_append]
  refine hM _ _ _ _ ⟨0, N, xs, rfl, h0, h1, rfl, hb, hx, fun ys c1 hb2 hd1 => ?_⟩
  simp only [D.own.injEq, exists_eq_left']
  have hl1 : c1.length = 1 := hd1.len
  rw [hl1]
  exact h ns _ _ _ _ _ _ (by simp [hl1]) ⟨ys, by rw [← hl1]; simp, hb2⟩ fun c => hq _
end
/-! ### data that is shown -/
mutual
/-- what a text of the data takes at most; what it is -/
def D.wt : D → Nat
  | .int _ => 21 | .bl _ => 5 | .non => 4 | .str _ => 40
  | .tup xs => D.wts xs + 3 | .lst xs => D.wts xs + 3 | .own xs => D.wts xs + 3
  | _ => 0
def D.wts : List D → Nat
  | [] => 0
  | x :: r => x.wt + 2 + D.wts r
end
mutual
def D.dp : D → Nat
  | .tup xs => D.dps xs + 1 | .lst xs => D.dps xs + 1 | .own xs => D.dps xs + 1
  | _ => 0
def D.dps : List D → Nat
  | [] => 0
  | x :: r => max x.dp (D.dps r)
end
def kindS : List Str := ["!rule", "!word", "!sum", "!rows", "!paper", "!number", "!none", "!answer", "!large", "!other"]
mutual
def D.sh : D → Prop
  | .int i => i.natAbs < 10 ^ 20 | .bl _ => True | .non => True | .str s => s ∈ kindS
  | .tup xs => D.shs xs | .lst xs => D.shs xs | .own xs => D.shs xs
  | _ => False
def D.shs : List D → Prop
  | [] => True
  | x :: r => x.sh ∧ D.shs r
end
mutual
theorem D.rp : ∀ {d : D}, d.sh → ∃ p, Rp d p d.dp d.wt
  | .int i, h => ⟨_, Rp.int (by simpa only [D.sh] using h)⟩
  | .bl b, _ => ⟨_, .bl⟩
  | .non, _ => ⟨_, .non⟩
  | .str s, h => by
    simp only [D.sh] at h
    refine ⟨.str s, rfl, ?_, rfl, Nat.le_refl _, ?_, ?_⟩
    · have : ∀ s ∈ kindS, (PyData.str s).showable = true := by decide +kernel
      exact this s h
    · have : ∀ s ∈ kindS, (PyData.str s).shown.length ≤ 40 := by decide +kernel
      exact this s h
    · have : ∀ s ∈ kindS, (PyData.str s).canLay0 = true := by decide +kernel
      exact this s h
  | .tup xs, h => by
    obtain ⟨ps, q⟩ := D.rps (ds := xs) (by simpa only [D.sh] using h)
    exact ⟨_, by simp only [D.dp, D.wt]; exact q.tup⟩
  | .lst xs, h => by
    obtain ⟨ps, q⟩ := D.rps (ds := xs) (by simpa only [D.sh] using h)
    exact ⟨_, by simp only [D.dp, D.wt]; exact q.lst⟩
  | .own xs, h => by
    obtain ⟨ps, q⟩ := D.rps (ds := xs) (by simpa only [D.sh] using h)
    exact ⟨_, by simp only [D.dp, D.wt]; exact q.own⟩
  | .scr _, h => by simp only [D.sh] at h
  | .cell _, h => by simp only [D.sh] at h
  | .fn _, h => by simp only [D.sh] at h
theorem D.rps : ∀ {ds : List D}, D.shs ds → ∃ ps, RpL ds ps (D.dps ds) (D.wts ds)
  | [], _ => ⟨[], by simp only [D.dps, D.wts]; exact .nil⟩
  | d :: ds, h => by
    simp only [D.shs] at h
    obtain ⟨p, q⟩ := D.rp h.1
    obtain ⟨ps, r⟩ := D.rps h.2
    exact ⟨p :: ps, by simp only [D.dps, D.wts]; exact .cons q r⟩
end
def shw (d : D) : Str := (d.py.getD .none).shown
def eqD (x y : D) : Bool := PyData.eqv (x.py.getD .none) (y.py.getD .none)
section
variable {c : Cells} {x y : D} {xs ys : List D} {K : D → Prop} {B : Bool → Prop} {i j : Int} {ws us : List Int} {wss uss : List (List Int)}
theorem deref_sh : ∀ {d : D}, d.sh → deref c d = d
  | .int _, _ => rfl | .bl _, _ => rfl | .non, _ => rfl | .str _, _ => rfl | .tup _, _ => rfl | .lst _, _ => rfl | .own _, _ => rfl | .scr _, _ => rfl | .fn _, _ => rfl
  | .cell _, h => by simp only [D.sh] at h
theorem p_repr (h : x.sh) (h2 : x.dp ≤ 60) (h3 : x.wt ≤ 1000000) : bltK .repr [x] c K = K (.str (shw x)) := by
  obtain ⟨p, r⟩ := D.rp h
  have e : p = x.py.getD .none := by rw [r.py]; rfl
  refine propext ⟨?_, fun k => r.repr h2 h3 (deref_sh h) (by rw [e]; exact k)⟩
  rintro ⟨q, h1, _, _, _, _, k⟩
  rw [deref_sh h] at h1
  unfold shw
  rw [h1]
  exact k
theorem p_eq (hx : x.sh) (hy : y.sh) (h2 : x.dp ≤ 60) (h3 : y.dp ≤ 60) (hs : ∀ s, x ≠ .str s) : eqK x y c B = B (eqD x y) := by
  obtain ⟨p, r⟩ := D.rp hx
  obtain ⟨q, t⟩ := D.rp hy
  have e1 : p = x.py.getD .none := by rw [r.py]; rfl
  have e2 : q = y.py.getD .none := by rw [t.py]; rfl
  refine propext ⟨?_, fun k => .inr ⟨p, q, by rw [deref_sh hx]; exact r.py, by rw [deref_sh hy]; exact t.py, r.shaped h2, t.shaped h3, by subst e1; subst e2; exact k⟩⟩
  rintro (⟨s, _, e, _⟩ | ⟨p', q', h1, h2, _, _, k⟩)
  · exact absurd e (hs s)
  · rw [deref_sh hx] at h1
    rw [deref_sh hy] at h2
    unfold eqD
    rw [h1, h2]
    exact k
theorem eqD_self (h : x.sh) : eqD x x = true := by
  obtain ⟨p, r⟩ := D.rp h
  unfold eqD
  rw [r.py]
  exact eqv_self r.nd
theorem shw_own : shw (.own xs) = shw (.lst xs) := rfl
theorem eqD_ol : eqD (.own xs) y = eqD (.lst xs) y := rfl
theorem eqD_or : eqD x (.own xs) = eqD x (.lst xs) := rfl
theorem eqD_ii : eqD (.int i) (.int j) = decide (i = j) := rfl
theorem shs_ints : D.shs (ws.map .int) = ∀ x ∈ ws, x.natAbs < 10 ^ 20 := by
  induction ws with
  | nil => simp [D.shs]
  | cons x r ih => simp only [List.map_cons, D.shs, ih, D.sh, List.forall_mem_cons]
theorem wts_ints : D.wts (ws.map .int) = 23 * ws.length := by
  induction ws with
  | nil => rfl
  | cons x r ih => simp only [List.map_cons, D.wts, ih, D.wt, List.length_cons]; omega
theorem dps_ints : D.dps (ws.map .int) = 0 := by
  induction ws with
  | nil => rfl
  | cons x r ih => simp only [List.map_cons, D.dps, ih, D.dp, Nat.max_self]
theorem shs_tIs : D.shs (wss.map tI) = ∀ w ∈ wss, ∀ x ∈ w, x.natAbs < 10 ^ 20 := by
  induction wss with
  | nil => simp [D.shs]
  | cons x r ih => simp only [List.map_cons, D.shs, ih, D.sh, shs_ints, List.forall_mem_cons]
theorem dps_tIs : D.dps (wss.map tI) ≤ 1 := by
  induction wss with
  | nil => decide
  | cons x r ih => simp only [List.map_cons, D.dps, D.dp, dps_ints]; omega
theorem wts_tIs {n : Nat} (h : ∀ w ∈ wss, w.length ≤ n) : D.wts (wss.map tI) ≤ (23 * n + 5) * wss.length := by
  induction wss with
  | nil => exact Nat.zero_le _
  | cons x r ih =>
    have := ih fun w hw => h w (List.mem_cons_of_mem _ hw)
    have h1 := h x List.mem_cons_self
    simp only [List.map_cons, D.wts, D.wt, wts_ints, List.length_cons, Nat.mul_add]
    omega
theorem eqD_ints : eqD (tI ws) (tI us) = decide (ws = us) := by
  have py : ∀ zs : List Int, (tI zs).py = some (.tuple (zs.map .int)) := fun zs => by
    have : D.pys (zs.map .int) = some (zs.map .int) := by
      induction zs with
      | nil => rfl
      | cons z r ih => simp only [List.map_cons, D.pys, ih, D.py]
    simp only [D.py, this, Option.map_some]
  unfold eqD
  rw [py, py]
  simp only [Option.getD_some, PyData.eqv]
  induction ws generalizing us with
  | nil => cases us <;> simp [PyData.eqvAll]
  | cons w r ih =>
    cases us with
    | nil => simp [PyData.eqvAll]
    | cons u s => simp [PyData.eqvAll, PyData.eqv, ih, Bool.decide_and, Bool.beq_eq_decide_eq]
theorem nI_id (k : Nat) : (List.range k).map nI = ((List.range k).map fun i : Nat => (i : Int)).map D.int := by simp [nI, Function.comp_def]
theorem p_repc {xs : List D} : bltK .repr [.cell c.length] (c ++ [.lst xs]) K = bltK .repr [.lst xs] (c ++ [.lst xs]) K := by
  have e : deref (c ++ [.lst xs]) (.cell c.length) = .own xs := by simp only [deref, p_top]
  simp only [bltK, e]
  rfl
/-! data that can be compared -/
mutual
def D.eok : D → Bool
  | .int _ => true | .bl _ => true | .non => true | .str s => (PyData.str s).canLay0
  | .tup xs => D.eoks xs | .lst xs => D.eoks xs | .own xs => D.eoks xs
  | _ => false
def D.eoks : List D → Bool
  | [] => true
  | x :: r => x.eok && D.eoks r
end
structure Qo (d : D) (p : PyData) (dep : Nat) : Prop where
  py : d.py = some p
  nd : p.hasDict = false
  dp : p.depth ≤ dep
  cl : p.canLay0 = true
structure QoL (ds : List D) (ps : List PyData) (dep : Nat) : Prop where
  py : D.pys ds = some ps
  nd : PyData.hasDictAll ps = false
  dp : PyData.depthAll ps ≤ dep
  cl : PyData.canLayAll0 ps = true
mutual
theorem D.eo : ∀ {d : D}, d.eok = true → ∃ p, Qo d p d.dp
  | .int i, _ => ⟨.int i, rfl, rfl, Nat.le_refl _, rfl⟩
  | .bl b, _ => ⟨.bool b, rfl, rfl, Nat.le_refl _, rfl⟩
  | .non, _ => ⟨.none, rfl, rfl, Nat.le_refl _, rfl⟩
  | .str s, h => ⟨.str s, rfl, rfl, Nat.le_refl _, by simpa only [D.eok] using h⟩
  | .tup xs, h => by
    obtain ⟨ps, q⟩ := D.eos (ds := xs) (by simpa only [D.eok] using h)
    exact ⟨.tuple ps, by simp only [D.py, q.py, Option.map_some], q.nd, by simp only [D.dp]; exact Nat.succ_le_succ q.dp, q.cl⟩
  | .lst xs, h => by
    obtain ⟨ps, q⟩ := D.eos (ds := xs) (by simpa only [D.eok] using h)
    exact ⟨.list ps, by simp only [D.py, q.py, Option.map_some], q.nd, by simp only [D.dp]; exact Nat.succ_le_succ q.dp, q.cl⟩
  | .own xs, h => by
    obtain ⟨ps, q⟩ := D.eos (ds := xs) (by simpa only [D.eok] using h)
    exact ⟨.list ps, by simp only [D.py, q.py, Option.map_some], q.nd, by simp only [D.dp]; exact Nat.succ_le_succ q.dp, q.cl⟩
  | .scr _, h => by simp only [D.eok] at h; cases h
  | .cell _, h => by simp only [D.eok] at h; cases h
  | .fn _, h => by simp only [D.eok] at h; cases h
theorem D.eos : ∀ {ds : List D}, D.eoks ds = true → ∃ ps, QoL ds ps (D.dps ds)
  | [], _ => ⟨[], rfl, rfl, Nat.le_refl _, rfl⟩
  | d :: ds, h => by
    simp only [D.eoks, Bool.and_eq_true] at h
    obtain ⟨p, q⟩ := D.eo h.1
    obtain ⟨ps, r⟩ := D.eos h.2
    refine ⟨p :: ps, by simp only [D.pys, q.py, r.py], by simp only [PyData.hasDictAll, q.nd, r.nd, Bool.or_self], ?_, by simp only [PyData.canLayAll0, q.cl, r.cl, Bool.and_self]⟩
    simp only [PyData.depthAll, D.dps]
    have := q.dp
    have := r.dp
    omega
end
theorem deref_eok : ∀ {d : D}, d.eok = true → deref c d = d
  | .int _, _ => rfl | .bl _, _ => rfl | .non, _ => rfl | .str _, _ => rfl | .tup _, _ => rfl | .lst _, _ => rfl | .own _, _ => rfl | .scr _, _ => rfl | .fn _, _ => rfl
  | .cell _, h => by simp only [D.eok] at h; cases h
theorem eqK_eok (hx : x.eok = true) (hy : y.eok = true) (h2 : x.dp ≤ 60) (h3 : y.dp ≤ 60) (hs : ∀ s, x ≠ .str s) : eqK x y c B = B (eqD x y) := by
  obtain ⟨p, r⟩ := D.eo hx
  obtain ⟨q, t⟩ := D.eo hy
  have e1 : p = x.py.getD .none := by rw [r.py]; rfl
  have e2 : q = y.py.getD .none := by rw [t.py]; rfl
  have s1 : SeqAt.shaped p = true := by
    have := r.dp
    unfold SeqAt.shaped
    rw [r.cl, Bool.true_and]
    exact decide_eq_true (by omega)
  have s2 : SeqAt.shaped q = true := by
    have := t.dp
    unfold SeqAt.shaped
    rw [t.cl, Bool.true_and]
    exact decide_eq_true (by omega)
  refine propext ⟨?_, fun k => .inr ⟨p, q, by rw [deref_eok hx]; exact r.py, by rw [deref_eok hy]; exact t.py, s1, s2, by subst e1; subst e2; exact k⟩⟩
  rintro (⟨s, _, e, _⟩ | ⟨p', q', h1, h2, _, _, k⟩)
  · exact absurd e (hs s)
  · rw [deref_eok hx] at h1
    rw [deref_eok hy] at h2
    unfold eqD
    rw [h1, h2]
    exact k
theorem eqD_eok (h : x.eok = true) : eqD x x = true := by
  obtain ⟨p, r⟩ := D.eo h
  unfold eqD
  rw [r.py]
  exact eqv_self r.nd
theorem eoks_ints : D.eoks (ws.map .int) = true := by
  induction ws with
  | nil => rfl
  | cons x r ih => simp only [List.map_cons, D.eoks, ih, D.eok, Bool.and_self]
theorem eoks_tIs : D.eoks (wss.map tI) = true := by
  induction wss with
  | nil => rfl
  | cons x r ih => simp only [List.map_cons, D.eoks, ih, D.eok, eoks_ints, Bool.and_self]
theorem eok_tI : (tI ws).eok = true := by simp only [D.eok, eoks_ints]
theorem p_eqt : eqK (.tup (ws.map .int)) (.tup (us.map .int)) c B = B (decide (ws = us)) := by
  rw [eqK_eok eok_tI eok_tI (by simp only [D.dp, dps_ints]; decide) (by simp only [D.dp, dps_ints]; decide) (fun _ h => by cases h), eqD_ints]
theorem eqD_tc {r s : List D} {u v : D} (hx : D.eoks (u :: r) = true) (hy : D.eoks (v :: s) = true) : eqD (.tup (u :: r)) (.tup (v :: s)) = (eqD u v && eqD (.tup r) (.tup s)) := by
  simp only [D.eoks, Bool.and_eq_true] at hx hy
  obtain ⟨p, a⟩ := D.eo hx.1
  obtain ⟨ps, b⟩ := D.eos hx.2
  obtain ⟨q, a'⟩ := D.eo hy.1
  obtain ⟨qs, b'⟩ := D.eos hy.2
  unfold eqD
  simp only [D.py, D.pys, a.py, b.py, a'.py, b'.py, Option.map_some, Option.getD_some, PyData.eqv, PyData.eqvAll]
theorem eqD_nil : eqD (.tup []) (.tup []) = true := rfl
theorem p_eqr {a b a' b' : Int} : eqK (.tup [.int a, .int b, .tup (ws.map .int)]) (.tup [.int a', .int b', .tup (us.map .int)]) c B = B (decide (a = a' ∧ b = b' ∧ ws = us)) := by
  have e1 : ∀ (a b : Int) (ws : List Int), D.eok (.tup [.int a, .int b, tI ws]) = true := fun a b ws => by simp only [D.eok, D.eoks, eoks_ints, Bool.and_self]
  have d1 : ∀ (a b : Int) (ws : List Int), D.dp (.tup [.int a, .int b, tI ws]) ≤ 60 := fun a b ws => by simp only [D.dp, D.dps, dps_ints]; decide
  rw [eqK_eok (e1 ..) (e1 ..) (d1 ..) (d1 ..) (fun _ h => by cases h), eqD_tc (by simp only [D.eok, D.eoks, eoks_ints, Bool.and_self]) (by simp only [D.eok, D.eoks, eoks_ints, Bool.and_self]),
    eqD_tc (by simp only [D.eok, D.eoks, eoks_ints, Bool.and_self]) (by simp only [D.eok, D.eoks, eoks_ints, Bool.and_self]), eqD_tc (by simp only [D.eok, D.eoks, eoks_ints, Bool.and_self]) (by simp only [D.eok, D.eoks, eoks_ints, Bool.and_self]), eqD_nil]
  simp only [eqD_ints, eqD_ii, Bool.and_true, Bool.decide_and]
theorem p_eqp {ws' us' : List Int} : eqK (.tup [.tup (ws.map .int), .tup (us.map .int)]) (.tup [.tup (ws'.map .int), .tup (us'.map .int)]) c B = B (decide (ws = ws' ∧ us = us')) := by
  have e1 : ∀ (a b : List Int), D.eok (.tup [tI a, tI b]) = true := fun a b => by simp only [D.eok, D.eoks, eoks_ints, Bool.and_self]
  have d1 : ∀ (a b : List Int), D.dp (.tup [tI a, tI b]) ≤ 60 := fun a b => by simp only [D.dp, D.dps, dps_ints]; decide
  rw [eqK_eok (e1 ..) (e1 ..) (d1 ..) (d1 ..) (fun _ h => by cases h), eqD_tc (by simp only [D.eok, D.eoks, eoks_ints, Bool.and_self]) (by simp only [D.eok, D.eoks, eoks_ints, Bool.and_self]),
    eqD_tc (by simp only [D.eok, D.eoks, eoks_ints, Bool.and_self]) (by simp only [D.eok, D.eoks, eoks_ints, Bool.and_self]), eqD_nil]
  simp only [eqD_ints, Bool.and_true, Bool.decide_and]
theorem p_eqs (h : x.eok = true) (h2 : x.dp ≤ 60) : eqK x x c B = B true := by
  by_cases hs : ∃ s, x = .str s
  · obtain ⟨s, rfl⟩ := hs
    rw [q_ess, beq_self_eq_true]
  · rw [eqK_eok h h h2 h2 (fun s e => hs ⟨s, e⟩), eqD_eok h]
theorem p_eqlo (h : D.eoks xs = true) (h2 : D.dps xs ≤ 59) : eqK (.lst xs) (.own xs) c B = B true := by
  rw [eqK_eok (by simpa only [D.eok] using h) (by simpa only [D.eok] using h) (by simp only [D.dp]; omega) (by simp only [D.dp]; omega) (fun _ e => by cases e), eqD_or, eqD_eok (by simpa only [D.eok] using h)]
theorem p_eqol (h : D.eoks xs = true) (h2 : D.dps xs ≤ 59) : eqK (.own xs) (.lst xs) c B = B true := by
  rw [eqK_eok (by simpa only [D.eok] using h) (by simpa only [D.eok] using h) (by simp only [D.dp]; omega) (by simp only [D.dp]; omega) (fun _ e => by cases e), eqD_ol, eqD_eok (by simpa only [D.eok] using h)]
theorem shs_snoc (h : D.shs xs) (hx : x.sh) : D.shs (xs ++ [x]) := by
  induction xs with
  | nil => simp only [List.nil_append, D.shs]; exact ⟨hx, trivial⟩
  | cons y r ih =>
    simp only [List.cons_append, D.shs] at h ⊢
    exact ⟨h.1, ih h.2⟩
theorem dps_snoc : D.dps (xs ++ [x]) = max (D.dps xs) x.dp := by
  induction xs with
  | nil => simp [D.dps]
  | cons y r ih => simp only [List.cons_append, D.dps, ih]; omega
theorem wts_snoc : D.wts (xs ++ [x]) = D.wts xs + x.wt + 2 := by
  induction xs with
  | nil => simp [D.wts]
  | cons y r ih => simp only [List.cons_append, D.wts, ih]; omega
end
end Ev

/-! # Pu6: the law k00 -/
namespace Ev
open PySem
def askD (way : Nat) (k w : Int) (t xs : List Int) : D :=
  if isR k w t = false then .str "!rule" else if inR k xs = false then (if way = 3 then .bl false else .str "!word") else
  match way with
  | 0 => if (xs.length : Int) = w then .int (t.getD (idx k xs).toNat 0) else .str "!number"
  | 1 => tI (img k.toNat w.toNat t xs)
  | 2 => if xs = [] then .str "!word" else tI (rimg k.toNat w.toNat t xs)
  | _ => .bl true
def spFlat : DSp := fun ds c Q _ => ∃ xss : List (List D), ds = [.lst (xss.map .lst)] ∧ xss.flatten.length ≤ 100000 ∧ Q (.own xss.flatten) c
def spAsked : DSp := fun ds c Q _ => ∃ (way : Nat) (k w : Int) (t xs : List Int), ds = [.int way, ruleI k w t, tI xs] ∧ way < 4 ∧ t.length ≤ 100000 ∧ xs.length ≤ 300 ∧ Q (askD way k w t xs) c
def spWrong : DSp := fun ds c Q _ => ∃ (k w : Nat) (t : List Int), ds = [ruleD k w t] ∧ Rl k w t ∧ ∀ l : List D, l ≠ [] → l.length ≤ 20 → (∀ x ∈ l, ∃ (k w : Int) (t : List Int), x = ruleI k w t ∧ t.length ≤ 2000 ∧ isR k w t = false) → Q (.own l) c
def ir00_asked : Fn := ⟨3, 4, (.cons (.tryK (.cons (.ret (.calv (.idx (.lst (.cons (.gfn "value") (.cons (.gfn "image") (.cons (.gfn "ring_image") (.cons (.gfn "is_word") .nil))))) (.var 0)) (.cons (.var 1) (.cons (.var 2) .nil)))) .nil) "CellError" 3 "_law_kind") .nil)⟩
def ir00_wrong : Fn := ⟨1, 5, (.cons (.asg (.tp [1, 2, 3]) (.var 0)) (.cons (.asg (.nm 4) (.lst (.cons (.tup (.cons (.lit (.int 1)) (.cons (.var 2) (.cons (.var 3) .nil)))) (.cons (.tup (.cons (.lit (.int 5)) (.cons (.lit (.int 1)) (.cons (.bin .Mult (.tup (.cons (.lit (.int 0)) .nil)) (.lit (.int 5))) .nil)))) (.cons (.tup (.cons (.var 1) (.cons (.lit (.int 0)) (.cons (.tup .nil) .nil)))) (.cons (.tup (.cons (.var 1) (.cons (.lit (.int 0)) (.cons (.tup (.cons (.lit (.int 0)) .nil)) .nil)))) (.cons (.tup (.cons (.var 1) (.cons (.var 2) (.cons (.sl (.var 3) (.some (.lit (.int 1))) .none) .nil)))) (.cons (.tup (.cons (.var 1) (.cons (.var 2) (.cons (.bin .Add (.var 3) (.tup (.cons (.lit (.int 0)) .nil))) .nil)))) (.cons (.tup (.cons (.var 1) (.cons (.var 2) (.cons (.bin .Add (.sl (.var 3) .none (.some (.neg (.lit (.int 1))))) (.tup (.cons (.var 1) .nil))) .nil)))) (.cons (.tup (.cons (.var 1) (.cons (.var 2) (.cons (.bin .Add (.tup (.cons (.neg (.lit (.int 1))) .nil)) (.sl (.var 3) (.some (.lit (.int 1))) .none)) .nil)))) .nil)))))))))) (.cons (.ret (.bin .Add (.var 4) (.lst (.cons (.tup (.cons (.lit (.int 2)) (.cons (.lit (.int 9)) (.cons (.bin .Mult (.tup (.cons (.lit (.int 0)) .nil)) (.lit (.int 512))) .nil)))) (.cons (.tup (.cons (.lit (.int 4)) (.cons (.lit (.int 5)) (.cons (.bin .Mult (.tup (.cons (.lit (.int 0)) .nil)) (.lit (.int 1024))) .nil)))) (.cons (.tup (.cons (.lit (.int 3)) (.cons (.lit (.int 6)) (.cons (.bin .Mult (.tup (.cons (.lit (.int 0)) .nil)) (.lit (.int 729))) .nil)))) (.cons (.tup (.cons (.lit (.int 2)) (.cons (.lit (.int 300)) (.cons (.tup (.cons (.lit (.int 0)) .nil)) .nil)))) .nil))))))) .nil)))⟩
def ir00_law : Fn := ⟨1, 14, (.cons (.asgC 1 (.call "_law_draws" (.cons (.var 0) .nil))) (.cons (.asgC 1 (.call "_law_more" (.cons (.var 1) (.cons (.lit (.int 160)) .nil)))) (.cons (.asg (.nm 2) (.call "_law_rule" (.cons (.var 1) (.cons (.lit (.int 64)) .nil)))) (.cons (.asg (.tp [3, 4, 5]) (.var 2)) (.cons (.asg (.nm 6) (.lst (.cons (.tup (.cons (.lit (.int 2)) (.cons (.lit (.int 8)) (.cons (.bin .Mult (.tup (.cons (.lit (.int 1)) .nil)) (.lit (.int 256))) .nil)))) (.cons (.tup (.cons (.lit (.int 4)) (.cons (.lit (.int 4)) (.cons (.bin .Mult (.tup (.cons (.lit (.int 3)) .nil)) (.lit (.int 256))) .nil)))) (.cons (.tup (.cons (.lit (.int 3)) (.cons (.lit (.int 5)) (.cons (.bin .Mult (.tup (.cons (.lit (.int 2)) .nil)) (.lit (.int 243))) .nil)))) (.cons (.tup (.cons (.lit (.int 2)) (.cons (.lit (.int 1)) (.cons (.tup (.cons (.lit (.int 0)) (.cons (.lit (.int 0)) .nil))) .nil)))) .nil)))))) (.cons (.ifS (.or (.cmp .NotEq (.lc [13] (.nm 13) (.seq (.bin .Add (.lst (.cons (.var 2) .nil)) (.var 6))) .none (.call "is_rule" (.cons (.var 13) .nil))) (.bin .Mult (.lst (.cons (.lit (.bl true)) .nil)) (.lit (.int 5)))) (.val (.blt .any (.cons (.lc [13] (.nm 13) (.seq (.call "_law_wrong" (.cons (.var 2) .nil))) .none (.call "is_rule" (.cons (.var 13) .nil))) .nil)))) (.cons (.ret (.lit (.bl false))) .nil) .nil) (.cons (.forS (.nm 7) (.rng (.cons (.lit (.int 5)) .nil)) (.cons (.asg (.nm 8) (.call "_law_word" (.cons (.var 1) (.cons (.var 3) (.cons (.bin .Mod (.blt .int (.cons (.call "_law_next" (.cons (.var 1) .nil)) .nil)) (.lit (.int 12))) .nil))))) (.cons (.asg (.nm 9) (.call "_law_word" (.cons (.var 1) (.cons (.var 3) (.cons (.var 4) .nil))))) (.cons (.ifS (.cmp .NotEq (.blt .repr (.cons (.lst (.cons (.call "image" (.cons (.var 2) (.cons (.var 8) .nil))) (.cons (.call "value" (.cons (.var 2) (.cons (.var 9) .nil))) .nil))) .nil)) (.blt .repr (.cons (.lst (.cons (.call "_law_image" (.cons (.var 2) (.cons (.var 8) .nil))) (.cons (.idx (.var 5) (.call "_law_index" (.cons (.var 3) (.cons (.var 9) .nil)))) .nil))) .nil))) (.cons (.ret (.lit (.bl false))) .nil) .nil) (.cons (.ifS (.or (.cmp .NotEq (.blt .repr (.cons (.call "_law_asked" (.cons (.lit (.int 2)) (.cons (.var 2) (.cons (.var 8) .nil)))) .nil)) (.blt .repr (.cons (.ite (.val (.var 8)) (.call "_law_ring" (.cons (.var 2) (.cons (.var 8) .nil))) (.lit (.str "!word"))) .nil))) (.cmp .IsNot (.call "_law_asked" (.cons (.lit (.int 3)) (.cons (.var 2) (.cons (.var 8) .nil)))) (.lit (.bl true)))) (.cons (.ret (.lit (.bl false))) .nil) .nil) .nil))))) (.cons (.asg (.nm 10) (.call "_law_pick" (.cons (.var 1) (.cons (.call "_law_wrong" (.cons (.var 2) .nil)) .nil)))) (.cons (.ifS (.cmp .NotEq (.lc [11] (.nm 11) (.rng (.cons (.lit (.int 4)) .nil)) .none (.call "_law_asked" (.cons (.var 11) (.cons (.var 10) (.cons (.tup (.cons (.lit (.int 9)) .nil)) .nil))))) (.bin .Mult (.lst (.cons (.lit (.str "!rule")) .nil)) (.lit (.int 4)))) (.cons (.ret (.lit (.bl false))) .nil) .nil) (.cons (.asg (.nm 12) (.bin .Add (.call "_law_flat" (.cons (.lc [11] (.nm 11) (.rng (.cons (.lit (.int 3)) .nil)) .none (.lc [13] (.nm 13) (.seq (.lst (.cons (.tup (.cons (.var 3) .nil)) (.cons (.tup (.cons (.lit (.int 0)) (.cons (.neg (.lit (.int 1))) .nil))) .nil)))) .none (.call "_law_asked" (.cons (.var 11) (.cons (.var 2) (.cons (.var 13) .nil)))))) .nil)) (.lc [13] (.nm 13) (.seq (.lst (.cons (.tup (.cons (.var 3) .nil)) (.cons (.tup (.cons (.lit (.int 0)) (.cons (.neg (.lit (.int 1))) .nil))) (.cons (.tup .nil) .nil))))) .none (.call "_law_asked" (.cons (.lit (.int 3)) (.cons (.var 2) (.cons (.var 13) .nil))))))) (.cons (.ret (.and (.cmp .Eq (.var 12) (.bin .Add (.bin .Mult (.lst (.cons (.lit (.str "!word")) .nil)) (.lit (.int 6))) (.lst (.cons (.lit (.bl false)) (.cons (.lit (.bl false)) (.cons (.lit (.bl true)) .nil)))))) (.cmp .Eq (.lc [13] (.nm 13) (.seq (.lst (.cons (.bin .Mult (.tup (.cons (.lit (.int 0)) .nil)) (.bin .Add (.var 4) (.lit (.int 1)))) (.cons (.bin .Mult (.tup (.cons (.lit (.int 0)) .nil)) (.bin .Sub (.var 4) (.lit (.int 1)))) .nil)))) .none (.call "_law_asked" (.cons (.lit (.int 0)) (.cons (.var 2) (.cons (.var 13) .nil))))) (.bin .Mult (.lst (.cons (.lit (.str "!number")) .nil)) (.lit (.int 2)))))) .nil)))))))))))⟩
section
variable {Γ : Str → DSp} {sub : Str → Str → Option Bool} {kind : Str → Str → D}
theorem pu_flat : ∀ ds c Q E, spFlat ds c Q E → wFn Γ sub kind ir_law_flat ds c Q E := by
  rintro _ c Q E ⟨xss, rfl, hl, h⟩
  simp only [ir_law_flat, wFn, wSs, wS, wE, wA, wL, wT, wO, wC, wI, q_bii, q_btt, q_bti, q_bss, q_bl1, q_bl2, q_bl3, q_iadd, q_isub, q_imul, q_imod, q_idiv, q_ipow, q_tadd, q_trep, q_sadd, q_ladd, q_lrep, q_lkl, q_lko, q_lrl, q_lro, q_lrs, q_lsl, q_lso, q_lss, q_lst, q_aii, q_att2, q_clt, q_cle, q_cgt, q_cge, q_ceq, q_cne, q_cin, q_cni, q_cis, q_cin', q_eii, q_ebb, q_ess, q_tb, q_ti, q_tn, q_tt, q_tl, q_to, q_tc, q_int, q_inb, q_lnt, q_lnl, q_lnc, q_min, q_max, q_abs, q_tpt, q_tpl, q_lil, q_lit, q_sum, q_any, q_all, q_repr, q_fzi, q_fzb, q_fzs, q_fzn, q_fzt, q_fzl, q_fzo, q_fzc, q_fzr, q_fzf, q_ski, q_skb, q_sks, q_skn, q_skt, q_skl, q_sko, q_skf, q_ani, q_anb, q_ans, q_ann, q_ant, q_anl, q_ano, q_att, q_atl, q_ato, q_ri, q_rb, q_rs, q_rn, q_rt, q_rl, q_ro, q_rc, q_ixt, q_ixl, q_ixo, q_slt, q_sll, q_wt, q_r1, q_r2, List.map_cons, List.map_nil, List.cons_append, List.nil_append, List.replicate, List.getElem?_cons_zero, List.getElem?_cons_succ, List.set_cons_zero, List.set_cons_succ, Option.some.injEq, exists_eq_left', List.length_cons, List.length_nil, Bool.not_true, Bool.not_false, List.zip_cons_cons, List.zip_nil_right, List.foldl_cons, List.foldl_nil, true_and, and_true, if_true, if_false, Bool.false_eq_true, D.own.injEq, D.int.injEq, D.tup.injEq, D.lst.injEq, D.cell.injEq, D.bl.injEq, D.str.injEq, D.scr.injEq]
  refine ⟨Nat.zero_le _, _, rfl, ?_⟩
  refine forGo_ind (I := fun r σ c' => ∃ (ys zs : List (List D)) (t : Option D), xss = ys ++ zs ∧ r = zs.map .lst ∧ σ = [some (.lst (xss.map .lst)), some (.cell c.length), t] ∧ c' = c ++ [.lst ys.flatten]) ?_ ?_ _ _ _ ⟨[], xss, none, rfl, rfl, rfl, rfl⟩
  · rintro σ c' ⟨ys, zs, t, he, hz, rfl, rfl⟩
    have : zs = [] := by simpa using hz.symm
    subst this
    rw [List.append_nil] at he
    subst he
    have hlast : (c ++ [Ob.lst xss.flatten])[c.length]? = some (.lst xss.flatten) := by simp
    simp only [wFn, wSs, wS, wE, wA, wL, wT, wO, wC, wI, q_bii, q_btt, q_bti, q_bss, q_bl1, q_bl2, q_bl3, q_iadd, q_isub, q_imul, q_imod, q_idiv, q_ipow, q_tadd, q_trep, q_sadd, q_ladd, q_lrep, q_lkl, q_lko, q_lrl, q_lro, q_lrs, q_lsl, q_lso, q_lss, q_lst, q_aii, q_att2, q_clt, q_cle, q_cgt, q_cge, q_ceq, q_cne, q_cin, q_cni, q_cis, q_cin', q_eii, q_ebb, q_ess, q_tb, q_ti, q_tn, q_tt, q_tl, q_to, q_tc, q_int, q_inb, q_lnt, q_lnl, q_lnc, q_min, q_max, q_abs, q_tpt, q_tpl, q_lil, q_lit, q_sum, q_any, q_all, q_repr, q_fzi, q_fzb, q_fzs, q_fzn, q_fzt, q_fzl, q_fzo, q_fzc, q_fzr, q_fzf, q_ski, q_skb, q_sks, q_skn, q_skt, q_skl, q_sko, q_skf, q_ani, q_anb, q_ans, q_ann, q_ant, q_anl, q_ano, q_att, q_atl, q_ato, q_ri, q_rb, q_rs, q_rn, q_rt, q_rl, q_ro, q_rc, q_ixt, q_ixl, q_ixo, q_slt, q_sll, q_wt, q_r1, q_r2, List.map_cons, List.map_nil, List.cons_append, List.nil_append, List.replicate, List.getElem?_cons_zero, List.getElem?_cons_succ, List.set_cons_zero, List.set_cons_succ, Option.some.injEq, exists_eq_left', List.length_cons, List.length_nil, Bool.not_true, Bool.not_false, List.zip_cons_cons, List.zip_nil_right, List.foldl_cons, List.foldl_nil, true_and, and_true, if_true, if_false, Bool.false_eq_true, D.own.injEq, D.int.injEq, D.tup.injEq, D.lst.injEq, D.cell.injEq, D.bl.injEq, D.str.injEq, D.scr.injEq]
    refine ⟨_, Nat.le_refl _, hlast, ?_⟩
    rw [List.take_left]
    exact h
  · rintro x r σ c' R ⟨ys, zs, t, he, hz, rfl, rfl⟩ hR
    cases zs with
    | nil => cases hz
    | cons z zs =>
      simp only [List.map_cons, List.cons.injEq] at hz
      obtain ⟨rfl, rfl⟩ := hz
      have hlast : (c ++ [Ob.lst ys.flatten])[c.length]? = some (.lst ys.flatten) := by simp
      simp only [wFn, wSs, wS, wE, wA, wL, wT, wO, wC, wI, q_bii, q_btt, q_bti, q_bss, q_bl1, q_bl2, q_bl3, q_iadd, q_isub, q_imul, q_imod, q_idiv, q_ipow, q_tadd, q_trep, q_sadd, q_ladd, q_lrep, q_lkl, q_lko, q_lrl, q_lro, q_lrs, q_lsl, q_lso, q_lss, q_lst, q_aii, q_att2, q_clt, q_cle, q_cgt, q_cge, q_ceq, q_cne, q_cin, q_cni, q_cis, q_cin', q_eii, q_ebb, q_ess, q_tb, q_ti, q_tn, q_tt, q_tl, q_to, q_tc, q_int, q_inb, q_lnt, q_lnl, q_lnc, q_min, q_max, q_abs, q_tpt, q_tpl, q_lil, q_lit, q_sum, q_any, q_all, q_repr, q_fzi, q_fzb, q_fzs, q_fzn, q_fzt, q_fzl, q_fzo, q_fzc, q_fzr, q_fzf, q_ski, q_skb, q_sks, q_skn, q_skt, q_skl, q_sko, q_skf, q_ani, q_anb, q_ans, q_ann, q_ant, q_anl, q_ano, q_att, q_atl, q_ato, q_ri, q_rb, q_rs, q_rn, q_rt, q_rl, q_ro, q_rc, q_ixt, q_ixl, q_ixo, q_slt, q_sll, q_wt, q_r1, q_r2, List.map_cons, List.map_nil, List.cons_append, List.nil_append, List.replicate, List.getElem?_cons_zero, List.getElem?_cons_succ, List.set_cons_zero, List.set_cons_succ, Option.some.injEq, exists_eq_left', List.length_cons, List.length_nil, Bool.not_true, Bool.not_false, List.zip_cons_cons, List.zip_nil_right, List.foldl_cons, List.foldl_nil, true_and, and_true, if_true, if_false, Bool.false_eq_true, D.own.injEq, D.int.injEq, D.tup.injEq, D.lst.injEq, D.cell.injEq, D.bl.injEq, D.str.injEq, D.scr.injEq]
      refine ⟨by rw [lkR_cell hlast]; rfl, c.length, _, _, _, rfl, hlast, rfl, rfl, ?_, hR _ _ ⟨ys ++ [z], zs, some (.lst z), by rw [he]; simp, rfl, rfl, by simp⟩⟩
      have hsz : (200000 : Nat) ≤ sizeLine := by decide
      rw [he] at hl
      simp only [List.flatten_append, List.flatten_cons, List.length_append] at hl
      omega
theorem pu_asked00 (hV : ∀ ds c Q E, spValue ds c Q E → Γ "value" ds c Q E) (hI : ∀ ds c Q E, spImageE ds c Q E → Γ "image" ds c Q E) (hR : ∀ ds c Q E, spRingE ds c Q E → Γ "ring_image" ds c Q E) (hW : ∀ ds c Q E, spIsWord ds c Q E → Γ "is_word" ds c Q E)
    (s1 : sub "NotRule" "CellError" = some true) (s2 : sub "NotWord" "CellError" = some true) (s3 : sub "BadNumber" "CellError" = some true)
    (k1 : kind "_law_kind" "NotRule" = .str "!rule") (k2 : kind "_law_kind" "NotWord" = .str "!word") (k3 : kind "_law_kind" "BadNumber" = .str "!number") :
    ∀ ds c Q E, spAsked ds c Q E → wFn Γ sub kind ir00_asked ds c Q E := by
  rintro _ c Q E ⟨way, k, w, t, xs, rfl, hw, ht, hx, h⟩
  simp only [ir00_asked, wFn, wSs, wS, wE, wA, wL, wT, wO, wC, wI, q_bii, q_btt, q_bti, q_bss, q_bl1, q_bl2, q_bl3, q_iadd, q_isub, q_imul, q_imod, q_idiv, q_ipow, q_tadd, q_trep, q_sadd, q_ladd, q_lrep, q_lkl, q_lko, q_lrl, q_lro, q_lrs, q_lsl, q_lso, q_lss, q_lst, q_aii, q_att2, q_clt, q_cle, q_cgt, q_cge, q_ceq, q_cne, q_cin, q_cni, q_cis, q_cin', q_eii, q_ebb, q_ess, q_tb, q_ti, q_tn, q_tt, q_tl, q_to, q_tc, q_int, q_inb, q_lnt, q_lnl, q_lnc, q_min, q_max, q_abs, q_tpt, q_tpl, q_lil, q_lit, q_sum, q_any, q_all, q_repr, q_fzi, q_fzb, q_fzs, q_fzn, q_fzt, q_fzl, q_fzo, q_fzc, q_fzr, q_fzf, q_ski, q_skb, q_sks, q_skn, q_skt, q_skl, q_sko, q_skf, q_ani, q_anb, q_ans, q_ann, q_ant, q_anl, q_ano, q_att, q_atl, q_ato, q_ri, q_rb, q_rs, q_rn, q_rt, q_rl, q_ro, q_rc, q_ixt, q_ixl, q_ixo, q_slt, q_sll, q_wt, q_r1, q_r2, List.map_cons, List.map_nil, List.cons_append, List.nil_append, List.replicate, List.getElem?_cons_zero, List.getElem?_cons_succ, List.set_cons_zero, List.set_cons_succ, Option.some.injEq, exists_eq_left', List.length_cons, List.length_nil, Bool.not_true, Bool.not_false, List.zip_cons_cons, List.zip_nil_right, List.foldl_cons, List.foldl_nil, true_and, and_true, if_true, if_false, Bool.false_eq_true, D.own.injEq, D.int.injEq, D.tup.injEq, D.lst.injEq, D.cell.injEq, D.bl.injEq, D.str.injEq, D.scr.injEq]
  have e1 : isR k w t = false → Q (.str "!rule") c := fun e => by
    unfold askD at h
    rw [if_pos e] at h
    exact h
  have e2 : isR k w t = true → inR k xs = false → way ≠ 3 → Q (.str "!word") c := fun a b d => by
    unfold askD at h
    rw [if_neg (by rw [a]; decide), if_pos b, if_neg d] at h
    exact h
  have hs : (1000 : Nat) ≤ sizeLine := by decide
  have x1 : isR k w t = false → (sub "NotRule" "CellError" = some true ∧ retK c.length Q (kind "_law_kind" "NotRule") c) ∨ (sub "NotRule" "CellError" = some false ∧ E "NotRule" (c.take c.length)) := fun e => .inl ⟨s1, by rw [k1]; exact rt1 rfl rfl (e1 e)⟩
  have x2 : isR k w t = true → inR k xs = false → way ≠ 3 → (sub "NotWord" "CellError" = some true ∧ retK c.length Q (kind "_law_kind" "NotWord") c) ∨ (sub "NotWord" "CellError" = some false ∧ E "NotWord" (c.take c.length)) := fun a b d => .inl ⟨s2, by rw [k2]; exact rt1 rfl rfl (e2 a b d)⟩
  refine ⟨by omega, ?_⟩
  have hcase : way = 0 ∨ way = 1 ∨ way = 2 ∨ way = 3 := by omega
  rcases hcase with rfl | rfl | rfl | rfl
  · refine ⟨.fn "value", rfl, "value", rfl, hV _ _ _ _ ⟨k, w, t, xs, rfl, ht, by omega, fun a b d => rt1 rfl rfl ?_, fun a b d => .inl ⟨s3, ?_⟩, fun a b => x2 a b (by decide), x1⟩⟩
    · unfold askD at h
      rw [if_neg (by rw [a]; decide), if_neg (by rw [b]; decide), if_pos d] at h
      exact h
    · rw [k3]
      refine rt1 rfl rfl ?_
      unfold askD at h
      rw [if_neg (by rw [a]; decide), if_neg (by rw [b]; decide), if_neg d] at h
      exact h
  · refine ⟨.fn "image", rfl, "image", rfl, hI _ _ _ _ ⟨k, w, t, xs, rfl, ht, by omega, fun a b => rt1 rfl rfl ?_, fun a b => x2 a b (by decide), x1⟩⟩
    unfold askD at h
    rw [if_neg (by rw [a]; decide), if_neg (by rw [b]; decide)] at h
    exact h
  · refine ⟨.fn "ring_image", rfl, "ring_image", rfl, hR _ _ _ _ ⟨k, w, t, xs, rfl, ht, by omega, fun a b d => rt1 rfl rfl ?_, fun a b => ?_, x1⟩⟩
    · unfold askD at h
      rw [if_neg (by rw [a]; decide), if_neg (by rw [b]; decide), if_neg d] at h
      exact h
    · rcases b with b | b
      · exact x2 a b (by decide)
      · refine .inl ⟨s2, ?_⟩
        rw [k2]
        refine rt1 rfl rfl ?_
        unfold askD at h
        by_cases q : inR k xs = false
        · exact e2 a q (by decide)
        · rw [if_neg (by rw [a]; decide), if_neg q, if_pos b] at h
          exact h
  · refine ⟨.fn "is_word", rfl, "is_word", rfl, hW _ _ _ _ ⟨k, w, t, xs, rfl, ht, by omega, fun a => rt1 rfl rfl ?_, x1⟩⟩
    unfold askD at h
    rw [if_neg (by rw [a]; decide)] at h
    cases q : inR k xs with
    | false => rw [q, if_pos rfl] at h; exact h
    | true => rw [q, if_neg (by decide)] at h; exact h
theorem isR_no {k w : Int} {t : List Int} (h : ¬ (2 ≤ k ∧ k ≤ 4 ∧ 1 ≤ w ∧ w ≤ 256 ∧ k.toNat ^ w.toNat ≤ 256 ∧ t.length = k.toNat ^ w.toNat)) : isR k w t = false := by
  unfold isR
  rw [decide_eq_false h, Bool.false_and]
theorem isR_no2 {k w : Int} {t : List Int} {s : Int} (hs : s ∈ t) (h : ¬ (0 ≤ s ∧ s < k)) : isR k w t = false := by
  unfold isR
  have : inR k t = false := by
    unfold inR
    rw [List.all_eq_false]
    refine ⟨s, hs, ?_⟩
    simp only [Bool.and_eq_true, decide_eq_true_eq]
    exact h
  rw [this, Bool.and_false]
theorem repl_int (n : Nat) (x : Int) : (List.replicate n [D.int x]).flatten = (List.replicate n x).map .int := by
  induction n with
  | zero => rfl
  | succ n ih => rw [List.replicate_succ, List.flatten_cons, ih, List.replicate_succ, List.map_cons]; rfl
theorem pu_wrong : ∀ ds c Q E, spWrong ds c Q E → wFn Γ sub kind ir00_wrong ds c Q E := by
  rintro _ c Q E ⟨k, w, t, rfl, hr, h⟩
  have hk2 := hr.k2
  have hk4 := hr.k4
  have hw1 := hr.w1
  have hw := hr.w256
  have hl := hr.len
  have hb := hr.big
  have hp : 1 ≤ k ^ w := Nat.le_trans Nat.one_le_two_pow (Nat.pow_le_pow_left hk2 w)
  have hs : (3000 : Nat) ≤ sizeLine := by decide
  simp only [ir00_wrong, wFn, wSs, wS, wE, wA, wL, wT, wO, wC, wI, q_bii, q_btt, q_bti, q_bss, q_bl1, q_bl2, q_bl3, q_iadd, q_isub, q_imul, q_imod, q_idiv, q_ipow, q_tadd, q_trep, q_sadd, q_ladd, q_lrep, q_lkl, q_lko, q_lrl, q_lro, q_lrs, q_lsl, q_lso, q_lss, q_lst, q_aii, q_att2, q_clt, q_cle, q_cgt, q_cge, q_ceq, q_cne, q_cin, q_cni, q_cis, q_cin', q_eii, q_ebb, q_ess, q_tb, q_ti, q_tn, q_tt, q_tl, q_to, q_tc, q_int, q_inb, q_lnt, q_lnl, q_lnc, q_min, q_max, q_abs, q_tpt, q_tpl, q_lil, q_lit, q_sum, q_any, q_all, q_repr, q_fzi, q_fzb, q_fzs, q_fzn, q_fzt, q_fzl, q_fzo, q_fzc, q_fzr, q_fzf, q_ski, q_skb, q_sks, q_skn, q_skt, q_skl, q_sko, q_skf, q_ani, q_anb, q_ans, q_ann, q_ant, q_anl, q_ano, q_att, q_atl, q_ato, q_ri, q_rb, q_rs, q_rn, q_rt, q_rl, q_ro, q_rc, q_ixt, q_ixl, q_ixo, q_slt, q_sll, q_wt, q_r1, q_r2, List.map_cons, List.map_nil, List.cons_append, List.nil_append, List.replicate, List.getElem?_cons_zero, List.getElem?_cons_succ, List.set_cons_zero, List.set_cons_succ, Option.some.injEq, exists_eq_left', List.length_cons, List.length_nil, Bool.not_true, Bool.not_false, List.zip_cons_cons, List.zip_nil_right, List.foldl_cons, List.foldl_nil, true_and, and_true, if_true, if_false, Bool.false_eq_true, D.own.injEq, D.int.injEq, D.tup.injEq, D.lst.injEq, D.cell.injEq, D.bl.injEq, D.str.injEq, D.scr.injEq]
  simp only [cut_last, cut_tail, List.length_map, List.length_dropLast, List.length_drop, repl_int]
  repeat (refine ⟨by omega, ?_⟩)
  refine ⟨_, _, rfl, rfl, by simp; omega, ?_⟩
  refine tkQ (h _ (by simp) (by simp) fun x hx => ?_)
  have tn : t ≠ [] := by rintro rfl; simp at hl; omega
  simp only [List.cons_append, List.nil_append, List.mem_cons, List.not_mem_nil, or_false] at hx
  rcases hx with rfl | rfl | rfl | rfl | rfl | rfl | rfl | rfl | rfl | rfl | rfl | rfl
  · exact ⟨1, w, t, rfl, by omega, isR_no (by omega)⟩
  · exact ⟨5, 1, List.replicate 5 0, rfl, by decide, isR_no (by omega)⟩
  · exact ⟨k, 0, [], rfl, by decide, isR_no (by omega)⟩
  · exact ⟨k, 0, [0], rfl, by decide, isR_no (by omega)⟩
  · exact ⟨k, w, t.drop 1, by simp [List.map_drop], by simp; omega, isR_no (by simp only [Int.toNat_natCast, List.length_drop]; omega)⟩
  · exact ⟨k, w, t ++ [0], by simp, by simp; omega, isR_no (by simp only [Int.toNat_natCast, List.length_append, List.length_singleton]; omega)⟩
  · exact ⟨k, w, t.dropLast ++ [(k : Int)], by simp [List.map_dropLast], by simp; omega, isR_no2 (s := k) (by simp) (by omega)⟩
  · exact ⟨k, w, -1 :: t.drop 1, by simp [List.map_drop], by simp; omega, isR_no2 (s := -1) (by simp) (by omega)⟩
  · exact ⟨2, 9, List.replicate 512 0, rfl, by simp, isR_no (fun q => absurd q.2.2.2.2.1 (by decide))⟩
  · exact ⟨4, 5, List.replicate 1024 0, rfl, by simp, isR_no (fun q => absurd q.2.2.2.2.1 (by decide))⟩
  · exact ⟨3, 6, List.replicate 729 0, rfl, by simp, isR_no (fun q => absurd q.2.2.2.2.1 (by decide))⟩
  · exact ⟨2, 300, [0], rfl, by decide, isR_no (by omega)⟩
theorem img_st {k w : Nat} {t : List Int} (hr : Rl k w t) (ws : List Int) : St k (img k w t ws) := by
  intro s hs
  simp only [img, List.mem_map] at hs
  obtain ⟨i, _, rfl⟩ := hs
  rw [List.getD_eq_getElem?_getD]
  cases q : t[(idx k ((ws.drop i).take w)).toNat]? with
  | none => have := hr.k2; exact ⟨by simp, by simp; omega⟩
  | some v => exact hr.st v (List.mem_of_getElem? q)
theorem pu_law00 (hD : ∀ ds c Q E, spDraws ds c Q E → Γ "_law_draws" ds c Q E) (hM : ∀ ds c Q E, spMore ds c Q E → Γ "_law_more" ds c Q E) (hN : ∀ ds c Q E, spNext ds c Q E → Γ "_law_next" ds c Q E)
    (hP : ∀ ds c Q E, spPick ds c Q E → Γ "_law_pick" ds c Q E) (hRu : ∀ ds c Q E, spRule ds c Q E → Γ "_law_rule" ds c Q E) (hIs : ∀ ds c Q E, spIsRule ds c Q E → Γ "is_rule" ds c Q E)
    (hWr : ∀ ds c Q E, spWrong ds c Q E → Γ "_law_wrong" ds c Q E) (hWo : ∀ ds c Q E, spWord ds c Q E → Γ "_law_word" ds c Q E) (hIm : ∀ ds c Q E, spImageE ds c Q E → Γ "image" ds c Q E)
    (hVa : ∀ ds c Q E, spValue ds c Q E → Γ "value" ds c Q E) (hLI : ∀ ds c Q E, spImage ds c Q E → Γ "_law_image" ds c Q E) (hIx : ∀ ds c Q E, spIndex ds c Q E → Γ "_law_index" ds c Q E)
    (hAs : ∀ ds c Q E, spAsked ds c Q E → Γ "_law_asked" ds c Q E) (hRi : ∀ ds c Q E, spRing ds c Q E → Γ "_law_ring" ds c Q E) (hFl : ∀ ds c Q E, spFlat ds c Q E → Γ "_law_flat" ds c Q E) :
    ∀ ds c Q E, spLaw ds c Q E → wFn Γ sub kind ir00_law ds c Q E := by
  rintro _ _ Q E ⟨ns, rfl, rfl, hlen, _, h⟩
  have hs : (200000 : Nat) ≤ sizeLine := by decide
  simp only [ir00_law, wFn, wSs, wS, wE, wA, wL, wT, wO, wC, wI, q_bii, q_btt, q_bti, q_bss, q_bl1, q_bl2, q_bl3, q_iadd, q_isub, q_imul, q_imod, q_idiv, q_ipow, q_tadd, q_trep, q_sadd, q_ladd, q_lrep, q_lkl, q_lko, q_lrl, q_lro, q_lrs, q_lsl, q_lso, q_lss, q_lst, q_aii, q_att2, q_clt, q_cle, q_cgt, q_cge, q_ceq, q_cne, q_cin, q_cni, q_cis, q_cin', q_eii, q_ebb, q_ess, q_tb, q_ti, q_tn, q_tt, q_tl, q_to, q_tc, q_int, q_inb, q_lnt, q_lnl, q_lnc, q_min, q_max, q_abs, q_tpt, q_tpl, q_lil, q_lit, q_sum, q_any, q_all, q_repr, q_fzi, q_fzb, q_fzs, q_fzn, q_fzt, q_fzl, q_fzo, q_fzc, q_fzr, q_fzf, q_ski, q_skb, q_sks, q_skn, q_skt, q_skl, q_sko, q_skf, q_ani, q_anb, q_ans, q_ann, q_ant, q_anl, q_ano, q_att, q_atl, q_ato, q_ri, q_rb, q_rs, q_rn, q_rt, q_rl, q_ro, q_rc, q_ixt, q_ixl, q_ixo, q_slt, q_sll, q_wt, q_r1, q_r2, List.map_cons, List.map_nil, List.cons_append, List.nil_append, List.replicate, List.getElem?_cons_zero, List.getElem?_cons_succ, List.set_cons_zero, List.set_cons_succ, Option.some.injEq, exists_eq_left', List.length_cons, List.length_nil, Bool.not_true, Bool.not_false, List.zip_cons_cons, List.zip_nil_right, List.foldl_cons, List.foldl_nil, true_and, and_true, if_true, if_false, Bool.false_eq_true, D.own.injEq, D.int.injEq, D.tup.injEq, D.lst.injEq, D.cell.injEq, D.bl.injEq, D.str.injEq, D.scr.injEq]
  refine hD _ _ _ _ ⟨ns, rfl, hlen, fun xs hx hb => ?_⟩
  simp only [wFn, wSs, wS, wE, wA, wL, wT, wO, wC, wI, q_bii, q_btt, q_bti, q_bss, q_bl1, q_bl2, q_bl3, q_iadd, q_isub, q_imul, q_imod, q_idiv, q_ipow, q_tadd, q_trep, q_sadd, q_ladd, q_lrep, q_lkl, q_lko, q_lrl, q_lro, q_lrs, q_lsl, q_lso, q_lss, q_lst, q_aii, q_att2, q_clt, q_cle, q_cgt, q_cge, q_ceq, q_cne, q_cin, q_cni, q_cis, q_cin', q_eii, q_ebb, q_ess, q_tb, q_ti, q_tn, q_tt, q_tl, q_to, q_tc, q_int, q_inb, q_lnt, q_lnl, q_lnc, q_min, q_max, q_abs, q_tpt, q_tpl, q_lil, q_lit, q_sum, q_any, q_all, q_repr, q_fzi, q_fzb, q_fzs, q_fzn, q_fzt, q_fzl, q_fzo, q_fzc, q_fzr, q_fzf, q_ski, q_skb, q_sks, q_skn, q_skt, q_skl, q_sko, q_skf, q_ani, q_anb, q_ans, q_ann, q_ant, q_anl, q_ano, q_att, q_atl, q_ato, q_ri, q_rb, q_rs, q_rn, q_rt, q_rl, q_ro, q_rc, q_ixt, q_ixl, q_ixo, q_slt, q_sll, q_wt, q_r1, q_r2, List.map_cons, List.map_nil, List.cons_append, List.nil_append, List.replicate, List.getElem?_cons_zero, List.getElem?_cons_succ, List.set_cons_zero, List.set_cons_succ, Option.some.injEq, exists_eq_left', List.length_cons, List.length_nil, Bool.not_true, Bool.not_false, List.zip_cons_cons, List.zip_nil_right, List.foldl_cons, List.foldl_nil, true_and, and_true, if_true, if_false, Bool.false_eq_true, D.own.injEq, D.int.injEq, D.tup.injEq, D.lst.injEq, D.cell.injEq, D.bl.injEq, D.str.injEq, D.scr.injEq]
  refine hM _ _ _ _ ⟨0, 160, xs, rfl, by omega, by omega, rfl, hb, hx, fun ys c1 hb2 hd1 => ?_⟩
  simp only [wFn, wSs, wS, wE, wA, wL, wT, wO, wC, wI, q_bii, q_btt, q_bti, q_bss, q_bl1, q_bl2, q_bl3, q_iadd, q_isub, q_imul, q_imod, q_idiv, q_ipow, q_tadd, q_trep, q_sadd, q_ladd, q_lrep, q_lkl, q_lko, q_lrl, q_lro, q_lrs, q_lsl, q_lso, q_lss, q_lst, q_aii, q_att2, q_clt, q_cle, q_cgt, q_cge, q_ceq, q_cne, q_cin, q_cni, q_cis, q_cin', q_eii, q_ebb, q_ess, q_tb, q_ti, q_tn, q_tt, q_tl, q_to, q_tc, q_int, q_inb, q_lnt, q_lnl, q_lnc, q_min, q_max, q_abs, q_tpt, q_tpl, q_lil, q_lit, q_sum, q_any, q_all, q_repr, q_fzi, q_fzb, q_fzs, q_fzn, q_fzt, q_fzl, q_fzo, q_fzc, q_fzr, q_fzf, q_ski, q_skb, q_sks, q_skn, q_skt, q_skl, q_sko, q_skf, q_ani, q_anb, q_ans, q_ann, q_ant, q_anl, q_ano, q_att, q_atl, q_ato, q_ri, q_rb, q_rs, q_rn, q_rt, q_rl, q_ro, q_rc, q_ixt, q_ixl, q_ixo, q_slt, q_sll, q_wt, q_r1, q_r2, List.map_cons, List.map_nil, List.cons_append, List.nil_append, List.replicate, List.getElem?_cons_zero, List.getElem?_cons_succ, List.set_cons_zero, List.set_cons_succ, Option.some.injEq, exists_eq_left', List.length_cons, List.length_nil, Bool.not_true, Bool.not_false, List.zip_cons_cons, List.zip_nil_right, List.foldl_cons, List.foldl_nil, true_and, and_true, if_true, if_false, Bool.false_eq_true, D.own.injEq, D.int.injEq, D.tup.injEq, D.lst.injEq, D.cell.injEq, D.bl.injEq, D.str.injEq, D.scr.injEq]
  have hl1 : c1.length = 1 := hd1.len
  have hdr : Dr 1 (c1 ++ [Ob.lst (ys.map .int)]) := ⟨ys, by rw [← hl1]; simp, hb2⟩
  rw [hl1]
  generalize c1 ++ [Ob.lst (ys.map D.int)] = c2 at hdr
  refine hRu _ _ _ _ ⟨1, 64, rfl, by omega, by omega, hdr, fun k w t c3 hr hle hw4 hd3 => ?_⟩
  have hdr3 := hd3.dr hdr.lt
  have hrt : isR k w t = true := isR_iff.mpr hr
  have htl : t.length ≤ 64 := by rw [hr.len]; exact hle
  simp only [wFn, wSs, wS, wE, wA, wL, wT, wO, wC, wI, q_bii, q_btt, q_bti, q_bss, q_bl1, q_bl2, q_bl3, q_iadd, q_isub, q_imul, q_imod, q_idiv, q_ipow, q_tadd, q_trep, q_sadd, q_ladd, q_lrep, q_lkl, q_lko, q_lrl, q_lro, q_lrs, q_lsl, q_lso, q_lss, q_lst, q_aii, q_att2, q_clt, q_cle, q_cgt, q_cge, q_ceq, q_cne, q_cin, q_cni, q_cis, q_cin', q_eii, q_ebb, q_ess, q_tb, q_ti, q_tn, q_tt, q_tl, q_to, q_tc, q_int, q_inb, q_lnt, q_lnl, q_lnc, q_min, q_max, q_abs, q_tpt, q_tpl, q_lil, q_lit, q_sum, q_any, q_all, q_repr, q_fzi, q_fzb, q_fzs, q_fzn, q_fzt, q_fzl, q_fzo, q_fzc, q_fzr, q_fzf, q_ski, q_skb, q_sks, q_skn, q_skt, q_skl, q_sko, q_skf, q_ani, q_anb, q_ans, q_ann, q_ant, q_anl, q_ano, q_att, q_atl, q_ato, q_ri, q_rb, q_rs, q_rn, q_rt, q_rl, q_ro, q_rc, q_ixt, q_ixl, q_ixo, q_slt, q_sll, q_wt, q_r1, q_r2, List.map_cons, List.map_nil, List.cons_append, List.nil_append, List.replicate, List.getElem?_cons_zero, List.getElem?_cons_succ, List.set_cons_zero, List.set_cons_succ, Option.some.injEq, exists_eq_left', List.length_cons, List.length_nil, Bool.not_true, Bool.not_false, List.zip_cons_cons, List.zip_nil_right, List.foldl_cons, List.foldl_nil, true_and, and_true, if_true, if_false, Bool.false_eq_true, D.own.injEq, D.int.injEq, D.tup.injEq, D.lst.injEq, D.cell.injEq, D.bl.injEq, D.str.injEq, D.scr.injEq]
  simp only [repl_int]
  repeat (refine ⟨by omega, ?_⟩)
  refine ⟨_, _, rfl, rfl, by simp; omega, ?_⟩
  refine ⟨_, rfl, by simp; omega, ?_⟩
  refine lc_map (f := fun _ => .bl true) rfl (fun x hx K hK => ?_) ?_
  · have hx' : ∃ (k w : Int) (t : List Int), x = ruleI k w t ∧ t.length ≤ 2000 ∧ isR k w t = true := by
      simp only [List.cons_append, List.nil_append, List.mem_cons, List.not_mem_nil, or_false] at hx
      rcases hx with rfl | rfl | rfl | rfl | rfl
      · exact ⟨k, w, t, rfl, by omega, hrt⟩
      · exact ⟨2, 8, List.replicate 256 1, rfl, by simp, by decide +kernel⟩
      · exact ⟨4, 4, List.replicate 256 3, rfl, by simp, by decide +kernel⟩
      · exact ⟨3, 5, List.replicate 243 2, rfl, by simp, by decide +kernel⟩
      · exact ⟨2, 1, [0, 0], rfl, by simp, by decide +kernel⟩
    obtain ⟨k', w', t', rfl, h1, h2⟩ := hx'
    unfold lcTurn
    simp only [wipeD, wFn, wSs, wS, wE, wA, wL, wT, wO, wC, wI, q_bii, q_btt, q_bti, q_bss, q_bl1, q_bl2, q_bl3, q_iadd, q_isub, q_imul, q_imod, q_idiv, q_ipow, q_tadd, q_trep, q_sadd, q_ladd, q_lrep, q_lkl, q_lko, q_lrl, q_lro, q_lrs, q_lsl, q_lso, q_lss, q_lst, q_aii, q_att2, q_clt, q_cle, q_cgt, q_cge, q_ceq, q_cne, q_cin, q_cni, q_cis, q_cin', q_eii, q_ebb, q_ess, q_tb, q_ti, q_tn, q_tt, q_tl, q_to, q_tc, q_int, q_inb, q_lnt, q_lnl, q_lnc, q_min, q_max, q_abs, q_tpt, q_tpl, q_lil, q_lit, q_sum, q_any, q_all, q_repr, q_fzi, q_fzb, q_fzs, q_fzn, q_fzt, q_fzl, q_fzo, q_fzc, q_fzr, q_fzf, q_ski, q_skb, q_sks, q_skn, q_skt, q_skl, q_sko, q_skf, q_ani, q_anb, q_ans, q_ann, q_ant, q_anl, q_ano, q_att, q_atl, q_ato, q_ri, q_rb, q_rs, q_rn, q_rt, q_rl, q_ro, q_rc, q_ixt, q_ixl, q_ixo, q_slt, q_sll, q_wt, q_r1, q_r2, List.map_cons, List.map_nil, List.cons_append, List.nil_append, List.replicate, List.getElem?_cons_zero, List.getElem?_cons_succ, List.set_cons_zero, List.set_cons_succ, Option.some.injEq, exists_eq_left', List.length_cons, List.length_nil, Bool.not_true, Bool.not_false, List.zip_cons_cons, List.zip_nil_right, List.foldl_cons, List.foldl_nil, true_and, and_true, if_true, if_false, Bool.false_eq_true, D.own.injEq, D.int.injEq, D.tup.injEq, D.lst.injEq, D.cell.injEq, D.bl.injEq, D.str.injEq, D.scr.injEq]
    refine hIs _ _ _ _ ⟨k', w', t', rfl, by omega, ?_⟩
    rw [h2]
    exact ⟨rfl, hK⟩
  refine ⟨by omega, _, _, rfl, rfl, by omega, by omega, by simp; omega, ?_⟩
  have r5 : Rp (.own [.bl true, .bl true, .bl true, .bl true, .bl true]) _ _ _ := RpL.own (.cons .bl (.cons .bl (.cons .bl (.cons .bl (.cons .bl .nil)))))
  refine Rp.eq r5 r5 (by decide) (by decide) rfl rfl ?_
  refine iteB (fun q => by cases q) fun _ => ?_
  refine hWr _ _ _ _ ⟨k, w, t, rfl, hr, fun l hne hll hl => ?_⟩
  refine ⟨_, rfl, by omega, ?_⟩
  refine lc_map (f := fun _ => .bl false) rfl (fun x hx K hK => ?_) ?_
  · obtain ⟨k', w', t', rfl, h1, h2⟩ := hl x hx
    unfold lcTurn
    simp only [wipeD, wFn, wSs, wS, wE, wA, wL, wT, wO, wC, wI, q_bii, q_btt, q_bti, q_bss, q_bl1, q_bl2, q_bl3, q_iadd, q_isub, q_imul, q_imod, q_idiv, q_ipow, q_tadd, q_trep, q_sadd, q_ladd, q_lrep, q_lkl, q_lko, q_lrl, q_lro, q_lrs, q_lsl, q_lso, q_lss, q_lst, q_aii, q_att2, q_clt, q_cle, q_cgt, q_cge, q_ceq, q_cne, q_cin, q_cni, q_cis, q_cin', q_eii, q_ebb, q_ess, q_tb, q_ti, q_tn, q_tt, q_tl, q_to, q_tc, q_int, q_inb, q_lnt, q_lnl, q_lnc, q_min, q_max, q_abs, q_tpt, q_tpl, q_lil, q_lit, q_sum, q_any, q_all, q_repr, q_fzi, q_fzb, q_fzs, q_fzn, q_fzt, q_fzl, q_fzo, q_fzc, q_fzr, q_fzf, q_ski, q_skb, q_sks, q_skn, q_skt, q_skl, q_sko, q_skf, q_ani, q_anb, q_ans, q_ann, q_ant, q_anl, q_ano, q_att, q_atl, q_ato, q_ri, q_rb, q_rs, q_rn, q_rt, q_rl, q_ro, q_rc, q_ixt, q_ixl, q_ixo, q_slt, q_sll, q_wt, q_r1, q_r2, List.map_cons, List.map_nil, List.cons_append, List.nil_append, List.replicate, List.getElem?_cons_zero, List.getElem?_cons_succ, List.set_cons_zero, List.set_cons_succ, Option.some.injEq, exists_eq_left', List.length_cons, List.length_nil, Bool.not_true, Bool.not_false, List.zip_cons_cons, List.zip_nil_right, List.foldl_cons, List.foldl_nil, true_and, and_true, if_true, if_false, Bool.false_eq_true, D.own.injEq, D.int.injEq, D.tup.injEq, D.lst.injEq, D.cell.injEq, D.bl.injEq, D.str.injEq, D.scr.injEq]
    refine hIs _ _ _ _ ⟨k', w', t', rfl, by omega, ?_⟩
    rw [h2]
    exact ⟨rfl, hK⟩
  refine ⟨_, l.map fun _ => false, rfl, by rw [← blsOf_map (l.map fun _ => false), List.map_map]; rfl, ?_⟩
  have hany : (l.map fun _ => false).any id = false := by simp [List.any_map]
  rw [hany]
  refine iteB (fun q => by cases q) fun _ => ?_
  refine ⟨by unfold RgI; omega, ?_⟩
  refine forGo_ind (I := fun r σ c' => ∃ (t7 t8 t9 : Option D), Dn 1 c3 c' ∧ (∀ x ∈ r, ∃ i, x = .int i) ∧ σ = [some (.scr (ns.map .int)), some (.cell 1), some (ruleD k w t), some (.int k), some (.int w), some (tI t),
    some (.lst [.tup [.int 2, .int 8, tI (List.replicate 256 1)], .tup [.int 4, .int 4, tI (List.replicate 256 3)], .tup [.int 3, .int 5, tI (List.replicate 243 2)], .tup [.int 2, .int 1, .tup [.int 0, .int 0]]]), t7, t8, t9, none, none, none, none]) ?_ ?_ _ _ _ ⟨none, none, none, hdr3.refl, fun x hx => by obtain ⟨i, _, rfl⟩ := rng_mem hx; exact ⟨_, rfl⟩, rfl⟩
  · rintro σ c' ⟨t7, t8, t9, hd4, _, rfl⟩
    have hdr4 := hd4.dr hdr3.lt
    simp only [wFn, wSs, wS, wE, wA, wL, wT, wO, wC, wI, q_bii, q_btt, q_bti, q_bss, q_bl1, q_bl2, q_bl3, q_iadd, q_isub, q_imul, q_imod, q_idiv, q_ipow, q_tadd, q_trep, q_sadd, q_ladd, q_lrep, q_lkl, q_lko, q_lrl, q_lro, q_lrs, q_lsl, q_lso, q_lss, q_lst, q_aii, q_att2, q_clt, q_cle, q_cgt, q_cge, q_ceq, q_cne, q_cin, q_cni, q_cis, q_cin', q_eii, q_ebb, q_ess, q_tb, q_ti, q_tn, q_tt, q_tl, q_to, q_tc, q_int, q_inb, q_lnt, q_lnl, q_lnc, q_min, q_max, q_abs, q_tpt, q_tpl, q_lil, q_lit, q_sum, q_any, q_all, q_repr, q_fzi, q_fzb, q_fzs, q_fzn, q_fzt, q_fzl, q_fzo, q_fzc, q_fzr, q_fzf, q_ski, q_skb, q_sks, q_skn, q_skt, q_skl, q_sko, q_skf, q_ani, q_anb, q_ans, q_ann, q_ant, q_anl, q_ano, q_att, q_atl, q_ato, q_ri, q_rb, q_rs, q_rn, q_rt, q_rl, q_ro, q_rc, q_ixt, q_ixl, q_ixo, q_slt, q_sll, q_wt, q_r1, q_r2, List.map_cons, List.map_nil, List.cons_append, List.nil_append, List.replicate, List.getElem?_cons_zero, List.getElem?_cons_succ, List.set_cons_zero, List.set_cons_succ, Option.some.injEq, exists_eq_left', List.length_cons, List.length_nil, Bool.not_true, Bool.not_false, List.zip_cons_cons, List.zip_nil_right, List.foldl_cons, List.foldl_nil, true_and, and_true, if_true, if_false, Bool.false_eq_true, D.own.injEq, D.int.injEq, D.tup.injEq, D.lst.injEq, D.cell.injEq, D.bl.injEq, D.str.injEq, D.scr.injEq]
    have hk4 := hr.k4
    have hk2 := hr.k2
    have hstr : ∀ z : Str, z = "!rule" ∨ z = "!word" ∨ z = "!number" → Rp (.str z) (.str z) 0 20 := fun z hz => by
      rcases hz with rfl | rfl | rfl
      · exact ⟨rfl, rfl, rfl, Nat.le_refl _, by decide +kernel, by decide +kernel⟩
      · exact ⟨rfl, rfl, rfl, Nat.le_refl _, by decide +kernel, by decide +kernel⟩
      · exact ⟨rfl, rfl, rfl, Nat.le_refl _, by decide +kernel, by decide +kernel⟩
    have sR := hstr "!rule" (.inl rfl)
    have sW := hstr "!word" (.inr (.inl rfl))
    have sN := hstr "!number" (.inr (.inr rfl))
    refine hWr _ _ _ _ ⟨k, w, t, rfl, hr, fun l hne hll hl => ?_⟩
    simp only [wFn, wSs, wS, wE, wA, wL, wT, wO, wC, wI, q_bii, q_btt, q_bti, q_bss, q_bl1, q_bl2, q_bl3, q_iadd, q_isub, q_imul, q_imod, q_idiv, q_ipow, q_tadd, q_trep, q_sadd, q_ladd, q_lrep, q_lkl, q_lko, q_lrl, q_lro, q_lrs, q_lsl, q_lso, q_lss, q_lst, q_aii, q_att2, q_clt, q_cle, q_cgt, q_cge, q_ceq, q_cne, q_cin, q_cni, q_cis, q_cin', q_eii, q_ebb, q_ess, q_tb, q_ti, q_tn, q_tt, q_tl, q_to, q_tc, q_int, q_inb, q_lnt, q_lnl, q_lnc, q_min, q_max, q_abs, q_tpt, q_tpl, q_lil, q_lit, q_sum, q_any, q_all, q_repr, q_fzi, q_fzb, q_fzs, q_fzn, q_fzt, q_fzl, q_fzo, q_fzc, q_fzr, q_fzf, q_ski, q_skb, q_sks, q_skn, q_skt, q_skl, q_sko, q_skf, q_ani, q_anb, q_ans, q_ann, q_ant, q_anl, q_ano, q_att, q_atl, q_ato, q_ri, q_rb, q_rs, q_rn, q_rt, q_rl, q_ro, q_rc, q_ixt, q_ixl, q_ixo, q_slt, q_sll, q_wt, q_r1, q_r2, List.map_cons, List.map_nil, List.cons_append, List.nil_append, List.replicate, List.getElem?_cons_zero, List.getElem?_cons_succ, List.set_cons_zero, List.set_cons_succ, Option.some.injEq, exists_eq_left', List.length_cons, List.length_nil, Bool.not_true, Bool.not_false, List.zip_cons_cons, List.zip_nil_right, List.foldl_cons, List.foldl_nil, true_and, and_true, if_true, if_false, Bool.false_eq_true, D.own.injEq, D.int.injEq, D.tup.injEq, D.lst.injEq, D.cell.injEq, D.bl.injEq, D.str.injEq, D.scr.injEq]
    refine hP _ _ _ _ ⟨1, _, l, rfl, .inl rfl, hne, fun x hx => by obtain ⟨_, _, _, rfl, _⟩ := hl x hx; rfl, hdr4, fun x hxl c8 hd8 => ?_⟩
    obtain ⟨k', w', t', rfl, ht1, ht2⟩ := hl x hxl
    simp only [wFn, wSs, wS, wE, wA, wL, wT, wO, wC, wI, q_bii, q_btt, q_bti, q_bss, q_bl1, q_bl2, q_bl3, q_iadd, q_isub, q_imul, q_imod, q_idiv, q_ipow, q_tadd, q_trep, q_sadd, q_ladd, q_lrep, q_lkl, q_lko, q_lrl, q_lro, q_lrs, q_lsl, q_lso, q_lss, q_lst, q_aii, q_att2, q_clt, q_cle, q_cgt, q_cge, q_ceq, q_cne, q_cin, q_cni, q_cis, q_cin', q_eii, q_ebb, q_ess, q_tb, q_ti, q_tn, q_tt, q_tl, q_to, q_tc, q_int, q_inb, q_lnt, q_lnl, q_lnc, q_min, q_max, q_abs, q_tpt, q_tpl, q_lil, q_lit, q_sum, q_any, q_all, q_repr, q_fzi, q_fzb, q_fzs, q_fzn, q_fzt, q_fzl, q_fzo, q_fzc, q_fzr, q_fzf, q_ski, q_skb, q_sks, q_skn, q_skt, q_skl, q_sko, q_skf, q_ani, q_anb, q_ans, q_ann, q_ant, q_anl, q_ano, q_att, q_atl, q_ato, q_ri, q_rb, q_rs, q_rn, q_rt, q_rl, q_ro, q_rc, q_ixt, q_ixl, q_ixo, q_slt, q_sll, q_wt, q_r1, q_r2, List.map_cons, List.map_nil, List.cons_append, List.nil_append, List.replicate, List.getElem?_cons_zero, List.getElem?_cons_succ, List.set_cons_zero, List.set_cons_succ, Option.some.injEq, exists_eq_left', List.length_cons, List.length_nil, Bool.not_true, Bool.not_false, List.zip_cons_cons, List.zip_nil_right, List.foldl_cons, List.foldl_nil, true_and, and_true, if_true, if_false, Bool.false_eq_true, D.own.injEq, D.int.injEq, D.tup.injEq, D.lst.injEq, D.cell.injEq, D.bl.injEq, D.str.injEq, D.scr.injEq]
    refine ⟨by unfold RgI; omega, by simp [rngL]; omega, ?_⟩
    refine lc_map (f := fun _ => .str "!rule") trivial (fun x hx K hK => ?_) ?_
    · obtain ⟨j, hj, rfl⟩ := rng_mem (m := 4) hx
      unfold lcTurn
      simp only [wipeD, wFn, wSs, wS, wE, wA, wL, wT, wO, wC, wI, q_bii, q_btt, q_bti, q_bss, q_bl1, q_bl2, q_bl3, q_iadd, q_isub, q_imul, q_imod, q_idiv, q_ipow, q_tadd, q_trep, q_sadd, q_ladd, q_lrep, q_lkl, q_lko, q_lrl, q_lro, q_lrs, q_lsl, q_lso, q_lss, q_lst, q_aii, q_att2, q_clt, q_cle, q_cgt, q_cge, q_ceq, q_cne, q_cin, q_cni, q_cis, q_cin', q_eii, q_ebb, q_ess, q_tb, q_ti, q_tn, q_tt, q_tl, q_to, q_tc, q_int, q_inb, q_lnt, q_lnl, q_lnc, q_min, q_max, q_abs, q_tpt, q_tpl, q_lil, q_lit, q_sum, q_any, q_all, q_repr, q_fzi, q_fzb, q_fzs, q_fzn, q_fzt, q_fzl, q_fzo, q_fzc, q_fzr, q_fzf, q_ski, q_skb, q_sks, q_skn, q_skt, q_skl, q_sko, q_skf, q_ani, q_anb, q_ans, q_ann, q_ant, q_anl, q_ano, q_att, q_atl, q_ato, q_ri, q_rb, q_rs, q_rn, q_rt, q_rl, q_ro, q_rc, q_ixt, q_ixl, q_ixo, q_slt, q_sll, q_wt, q_r1, q_r2, List.map_cons, List.map_nil, List.cons_append, List.nil_append, List.replicate, List.getElem?_cons_zero, List.getElem?_cons_succ, List.set_cons_zero, List.set_cons_succ, Option.some.injEq, exists_eq_left', List.length_cons, List.length_nil, Bool.not_true, Bool.not_false, List.zip_cons_cons, List.zip_nil_right, List.foldl_cons, List.foldl_nil, true_and, and_true, if_true, if_false, Bool.false_eq_true, D.own.injEq, D.int.injEq, D.tup.injEq, D.lst.injEq, D.cell.injEq, D.bl.injEq, D.str.injEq, D.scr.injEq]
      refine ⟨by omega, hAs _ _ _ _ ⟨j, k', w', t', [9], rfl, hj, by omega, by decide, ?_⟩⟩
      have e : askD j k' w' t' [9] = .str "!rule" := by
        unfold askD
        rw [if_pos ht2]
      rw [e]
      exact ⟨rfl, hK⟩
    refine ⟨by omega, _, _, rfl, rfl, by omega, by omega, by simp; omega, ?_⟩
    have r4 : Rp (.own [.str "!rule", .str "!rule", .str "!rule", .str "!rule"]) _ _ _ := RpL.own (.cons sR (.cons sR (.cons sR (.cons sR .nil))))
    refine Rp.eq r4 r4 (by decide) (by decide) rfl rfl ?_
    refine iteB (fun q => by cases q) fun _ => ?_
    have bad : ∀ (j : Nat) (xs : List Int), inR k xs = false → j ≠ 3 → askD j k w t xs = .str "!word" := fun j xs hx hj => by
      unfold askD
      rw [if_neg (by rw [hrt]; decide), if_pos hx, if_neg hj]
    have bad3 : ∀ (xs : List Int), inR k xs = false → askD 3 k w t xs = .bl false := fun xs hx => by
      unfold askD
      rw [if_neg (by rw [hrt]; decide), if_pos hx, if_pos rfl]
    have i1 : inR (k : Int) [(k : Int)] = false := by simp [inR]
    have i2 : inR (k : Int) [0, -1] = false := by simp [inR]
    refine ⟨by unfold RgI; omega, by simp [rngL]; omega, ?_⟩
    refine lc_map (f := fun _ => .lst [.str "!word", .str "!word"]) trivial (fun x hx K hK => ?_) ?_
    · obtain ⟨j, hj, rfl⟩ := rng_mem (m := 3) hx
      unfold lcTurn
      simp only [wipeD, wFn, wSs, wS, wE, wA, wL, wT, wO, wC, wI, q_bii, q_btt, q_bti, q_bss, q_bl1, q_bl2, q_bl3, q_iadd, q_isub, q_imul, q_imod, q_idiv, q_ipow, q_tadd, q_trep, q_sadd, q_ladd, q_lrep, q_lkl, q_lko, q_lrl, q_lro, q_lrs, q_lsl, q_lso, q_lss, q_lst, q_aii, q_att2, q_clt, q_cle, q_cgt, q_cge, q_ceq, q_cne, q_cin, q_cni, q_cis, q_cin', q_eii, q_ebb, q_ess, q_tb, q_ti, q_tn, q_tt, q_tl, q_to, q_tc, q_int, q_inb, q_lnt, q_lnl, q_lnc, q_min, q_max, q_abs, q_tpt, q_tpl, q_lil, q_lit, q_sum, q_any, q_all, q_repr, q_fzi, q_fzb, q_fzs, q_fzn, q_fzt, q_fzl, q_fzo, q_fzc, q_fzr, q_fzf, q_ski, q_skb, q_sks, q_skn, q_skt, q_skl, q_sko, q_skf, q_ani, q_anb, q_ans, q_ann, q_ant, q_anl, q_ano, q_att, q_atl, q_ato, q_ri, q_rb, q_rs, q_rn, q_rt, q_rl, q_ro, q_rc, q_ixt, q_ixl, q_ixo, q_slt, q_sll, q_wt, q_r1, q_r2, List.map_cons, List.map_nil, List.cons_append, List.nil_append, List.replicate, List.getElem?_cons_zero, List.getElem?_cons_succ, List.set_cons_zero, List.set_cons_succ, Option.some.injEq, exists_eq_left', List.length_cons, List.length_nil, Bool.not_true, Bool.not_false, List.zip_cons_cons, List.zip_nil_right, List.foldl_cons, List.foldl_nil, true_and, and_true, if_true, if_false, Bool.false_eq_true, D.own.injEq, D.int.injEq, D.tup.injEq, D.lst.injEq, D.cell.injEq, D.bl.injEq, D.str.injEq, D.scr.injEq]
      refine ⟨by omega, by omega, by omega, _, rfl, by simp; omega, ?_⟩
      refine lc_map (f := fun _ => .str "!word") rfl (fun x hx K hK => ?_) ?_
      · simp only [List.mem_cons, List.not_mem_nil, or_false] at hx
        rcases hx with rfl | rfl
        · simp only [wFn, wSs, wS, wE, wA, wL, wT, wO, wC, wI, q_bii, q_btt, q_bti, q_bss, q_bl1, q_bl2, q_bl3, q_iadd, q_isub, q_imul, q_imod, q_idiv, q_ipow, q_tadd, q_trep, q_sadd, q_ladd, q_lrep, q_lkl, q_lko, q_lrl, q_lro, q_lrs, q_lsl, q_lso, q_lss, q_lst, q_aii, q_att2, q_clt, q_cle, q_cgt, q_cge, q_ceq, q_cne, q_cin, q_cni, q_cis, q_cin', q_eii, q_ebb, q_ess, q_tb, q_ti, q_tn, q_tt, q_tl, q_to, q_tc, q_int, q_inb, q_lnt, q_lnl, q_lnc, q_min, q_max, q_abs, q_tpt, q_tpl, q_lil, q_lit, q_sum, q_any, q_all, q_repr, q_fzi, q_fzb, q_fzs, q_fzn, q_fzt, q_fzl, q_fzo, q_fzc, q_fzr, q_fzf, q_ski, q_skb, q_sks, q_skn, q_skt, q_skl, q_sko, q_skf, q_ani, q_anb, q_ans, q_ann, q_ant, q_anl, q_ano, q_att, q_atl, q_ato, q_ri, q_rb, q_rs, q_rn, q_rt, q_rl, q_ro, q_rc, q_ixt, q_ixl, q_ixo, q_slt, q_sll, q_wt, q_r1, q_r2, List.map_cons, List.map_nil, List.cons_append, List.nil_append, List.replicate, List.getElem?_cons_zero, List.getElem?_cons_succ, List.set_cons_zero, List.set_cons_succ, Option.some.injEq, exists_eq_left', List.length_cons, List.length_nil, Bool.not_true, Bool.not_false, List.zip_cons_cons, List.zip_nil_right, List.foldl_cons, List.foldl_nil, true_and, and_true, if_true, if_false, Bool.false_eq_true, D.own.injEq, D.int.injEq, D.tup.injEq, D.lst.injEq, D.cell.injEq, D.bl.injEq, D.str.injEq, D.scr.injEq]
          refine hAs _ _ _ _ ⟨j, k, w, t, [(k : Int)], rfl, by omega, by omega, by simp, ?_⟩
          rw [bad _ _ i1 (by omega)]
          exact ⟨rfl, hK⟩
        · simp only [wFn, wSs, wS, wE, wA, wL, wT, wO, wC, wI, q_bii, q_btt, q_bti, q_bss, q_bl1, q_bl2, q_bl3, q_iadd, q_isub, q_imul, q_imod, q_idiv, q_ipow, q_tadd, q_trep, q_sadd, q_ladd, q_lrep, q_lkl, q_lko, q_lrl, q_lro, q_lrs, q_lsl, q_lso, q_lss, q_lst, q_aii, q_att2, q_clt, q_cle, q_cgt, q_cge, q_ceq, q_cne, q_cin, q_cni, q_cis, q_cin', q_eii, q_ebb, q_ess, q_tb, q_ti, q_tn, q_tt, q_tl, q_to, q_tc, q_int, q_inb, q_lnt, q_lnl, q_lnc, q_min, q_max, q_abs, q_tpt, q_tpl, q_lil, q_lit, q_sum, q_any, q_all, q_repr, q_fzi, q_fzb, q_fzs, q_fzn, q_fzt, q_fzl, q_fzo, q_fzc, q_fzr, q_fzf, q_ski, q_skb, q_sks, q_skn, q_skt, q_skl, q_sko, q_skf, q_ani, q_anb, q_ans, q_ann, q_ant, q_anl, q_ano, q_att, q_atl, q_ato, q_ri, q_rb, q_rs, q_rn, q_rt, q_rl, q_ro, q_rc, q_ixt, q_ixl, q_ixo, q_slt, q_sll, q_wt, q_r1, q_r2, List.map_cons, List.map_nil, List.cons_append, List.nil_append, List.replicate, List.getElem?_cons_zero, List.getElem?_cons_succ, List.set_cons_zero, List.set_cons_succ, Option.some.injEq, exists_eq_left', List.length_cons, List.length_nil, Bool.not_true, Bool.not_false, List.zip_cons_cons, List.zip_nil_right, List.foldl_cons, List.foldl_nil, true_and, and_true, if_true, if_false, Bool.false_eq_true, D.own.injEq, D.int.injEq, D.tup.injEq, D.lst.injEq, D.cell.injEq, D.bl.injEq, D.str.injEq, D.scr.injEq]
          refine hAs _ _ _ _ ⟨j, k, w, t, [0, -1], rfl, by omega, by omega, by decide, ?_⟩
          rw [bad _ _ i2 (by omega)]
          exact ⟨rfl, hK⟩
      · exact hK
    refine hFl _ _ _ _ ⟨[[.str "!word", .str "!word"], [.str "!word", .str "!word"], [.str "!word", .str "!word"]], rfl, by decide, ?_⟩
    refine ⟨by omega, by omega, by omega, by omega, _, rfl, by simp; omega, ?_⟩
    refine lc_map (f := fun d => match d with | .tup [] => .bl true | _ => .bl false) rfl (fun x hx K hK => ?_) ?_
    · simp only [List.mem_cons, List.not_mem_nil, or_false] at hx
      unfold lcTurn
      rcases hx with rfl | rfl | rfl
      · simp only [wipeD, wFn, wSs, wS, wE, wA, wL, wT, wO, wC, wI, q_bii, q_btt, q_bti, q_bss, q_bl1, q_bl2, q_bl3, q_iadd, q_isub, q_imul, q_imod, q_idiv, q_ipow, q_tadd, q_trep, q_sadd, q_ladd, q_lrep, q_lkl, q_lko, q_lrl, q_lro, q_lrs, q_lsl, q_lso, q_lss, q_lst, q_aii, q_att2, q_clt, q_cle, q_cgt, q_cge, q_ceq, q_cne, q_cin, q_cni, q_cis, q_cin', q_eii, q_ebb, q_ess, q_tb, q_ti, q_tn, q_tt, q_tl, q_to, q_tc, q_int, q_inb, q_lnt, q_lnl, q_lnc, q_min, q_max, q_abs, q_tpt, q_tpl, q_lil, q_lit, q_sum, q_any, q_all, q_repr, q_fzi, q_fzb, q_fzs, q_fzn, q_fzt, q_fzl, q_fzo, q_fzc, q_fzr, q_fzf, q_ski, q_skb, q_sks, q_skn, q_skt, q_skl, q_sko, q_skf, q_ani, q_anb, q_ans, q_ann, q_ant, q_anl, q_ano, q_att, q_atl, q_ato, q_ri, q_rb, q_rs, q_rn, q_rt, q_rl, q_ro, q_rc, q_ixt, q_ixl, q_ixo, q_slt, q_sll, q_wt, q_r1, q_r2, List.map_cons, List.map_nil, List.cons_append, List.nil_append, List.replicate, List.getElem?_cons_zero, List.getElem?_cons_succ, List.set_cons_zero, List.set_cons_succ, Option.some.injEq, exists_eq_left', List.length_cons, List.length_nil, Bool.not_true, Bool.not_false, List.zip_cons_cons, List.zip_nil_right, List.foldl_cons, List.foldl_nil, true_and, and_true, if_true, if_false, Bool.false_eq_true, D.own.injEq, D.int.injEq, D.tup.injEq, D.lst.injEq, D.cell.injEq, D.bl.injEq, D.str.injEq, D.scr.injEq]
        refine hAs _ _ _ _ ⟨3, k, w, t, [(k : Int)], rfl, by omega, by omega, by simp, ?_⟩
        rw [bad3 _ i1]
        exact ⟨rfl, hK⟩
      · simp only [wipeD, wFn, wSs, wS, wE, wA, wL, wT, wO, wC, wI, q_bii, q_btt, q_bti, q_bss, q_bl1, q_bl2, q_bl3, q_iadd, q_isub, q_imul, q_imod, q_idiv, q_ipow, q_tadd, q_trep, q_sadd, q_ladd, q_lrep, q_lkl, q_lko, q_lrl, q_lro, q_lrs, q_lsl, q_lso, q_lss, q_lst, q_aii, q_att2, q_clt, q_cle, q_cgt, q_cge, q_ceq, q_cne, q_cin, q_cni, q_cis, q_cin', q_eii, q_ebb, q_ess, q_tb, q_ti, q_tn, q_tt, q_tl, q_to, q_tc, q_int, q_inb, q_lnt, q_lnl, q_lnc, q_min, q_max, q_abs, q_tpt, q_tpl, q_lil, q_lit, q_sum, q_any, q_all, q_repr, q_fzi, q_fzb, q_fzs, q_fzn, q_fzt, q_fzl, q_fzo, q_fzc, q_fzr, q_fzf, q_ski, q_skb, q_sks, q_skn, q_skt, q_skl, q_sko, q_skf, q_ani, q_anb, q_ans, q_ann, q_ant, q_anl, q_ano, q_att, q_atl, q_ato, q_ri, q_rb, q_rs, q_rn, q_rt, q_rl, q_ro, q_rc, q_ixt, q_ixl, q_ixo, q_slt, q_sll, q_wt, q_r1, q_r2, List.map_cons, List.map_nil, List.cons_append, List.nil_append, List.replicate, List.getElem?_cons_zero, List.getElem?_cons_succ, List.set_cons_zero, List.set_cons_succ, Option.some.injEq, exists_eq_left', List.length_cons, List.length_nil, Bool.not_true, Bool.not_false, List.zip_cons_cons, List.zip_nil_right, List.foldl_cons, List.foldl_nil, true_and, and_true, if_true, if_false, Bool.false_eq_true, D.own.injEq, D.int.injEq, D.tup.injEq, D.lst.injEq, D.cell.injEq, D.bl.injEq, D.str.injEq, D.scr.injEq]
        refine hAs _ _ _ _ ⟨3, k, w, t, [0, -1], rfl, by omega, by omega, by decide, ?_⟩
        rw [bad3 _ i2]
        exact ⟨rfl, hK⟩
      · simp only [wipeD, wFn, wSs, wS, wE, wA, wL, wT, wO, wC, wI, q_bii, q_btt, q_bti, q_bss, q_bl1, q_bl2, q_bl3, q_iadd, q_isub, q_imul, q_imod, q_idiv, q_ipow, q_tadd, q_trep, q_sadd, q_ladd, q_lrep, q_lkl, q_lko, q_lrl, q_lro, q_lrs, q_lsl, q_lso, q_lss, q_lst, q_aii, q_att2, q_clt, q_cle, q_cgt, q_cge, q_ceq, q_cne, q_cin, q_cni, q_cis, q_cin', q_eii, q_ebb, q_ess, q_tb, q_ti, q_tn, q_tt, q_tl, q_to, q_tc, q_int, q_inb, q_lnt, q_lnl, q_lnc, q_min, q_max, q_abs, q_tpt, q_tpl, q_lil, q_lit, q_sum, q_any, q_all, q_repr, q_fzi, q_fzb, q_fzs, q_fzn, q_fzt, q_fzl, q_fzo, q_fzc, q_fzr, q_fzf, q_ski, q_skb, q_sks, q_skn, q_skt, q_skl, q_sko, q_skf, q_ani, q_anb, q_ans, q_ann, q_ant, q_anl, q_ano, q_att, q_atl, q_ato, q_ri, q_rb, q_rs, q_rn, q_rt, q_rl, q_ro, q_rc, q_ixt, q_ixl, q_ixo, q_slt, q_sll, q_wt, q_r1, q_r2, List.map_cons, List.map_nil, List.cons_append, List.nil_append, List.replicate, List.getElem?_cons_zero, List.getElem?_cons_succ, List.set_cons_zero, List.set_cons_succ, Option.some.injEq, exists_eq_left', List.length_cons, List.length_nil, Bool.not_true, Bool.not_false, List.zip_cons_cons, List.zip_nil_right, List.foldl_cons, List.foldl_nil, true_and, and_true, if_true, if_false, Bool.false_eq_true, D.own.injEq, D.int.injEq, D.tup.injEq, D.lst.injEq, D.cell.injEq, D.bl.injEq, D.str.injEq, D.scr.injEq]
        refine hAs _ _ _ _ ⟨3, k, w, t, [], rfl, by omega, by omega, by decide, ?_⟩
        have e : askD 3 k w t [] = .bl true := by
          unfold askD
          rw [if_neg (by rw [hrt]; decide), if_neg (by simp [inR])]
          rfl
        rw [e]
        exact ⟨rfl, hK⟩
    have s9 := RpL.cons sW (.cons sW (.cons sW (.cons sW (.cons sW (.cons sW (.cons (Rp.bl (b := false)) (.cons (Rp.bl (b := false)) (.cons (Rp.bl (b := true)) .nil))))))))
    refine ⟨_, _, rfl, rfl, by simp; omega, ?_⟩
    refine ⟨_, rfl, by omega, _, _, rfl, rfl, by omega, by omega, by simp; omega, by omega, _, _, rfl, rfl, by simp; omega, ?_⟩
    refine Rp.eq s9.lst s9.own (by decide) (by decide) rfl rfl ?_
    refine iteB (fun _ => ?_) fun q => by cases q
    simp only [wFn, wSs, wS, wE, wA, wL, wT, wO, wC, wI, q_bii, q_btt, q_bti, q_bss, q_bl1, q_bl2, q_bl3, q_iadd, q_isub, q_imul, q_imod, q_idiv, q_ipow, q_tadd, q_trep, q_sadd, q_ladd, q_lrep, q_lkl, q_lko, q_lrl, q_lro, q_lrs, q_lsl, q_lso, q_lss, q_lst, q_aii, q_att2, q_clt, q_cle, q_cgt, q_cge, q_ceq, q_cne, q_cin, q_cni, q_cis, q_cin', q_eii, q_ebb, q_ess, q_tb, q_ti, q_tn, q_tt, q_tl, q_to, q_tc, q_int, q_inb, q_lnt, q_lnl, q_lnc, q_min, q_max, q_abs, q_tpt, q_tpl, q_lil, q_lit, q_sum, q_any, q_all, q_repr, q_fzi, q_fzb, q_fzs, q_fzn, q_fzt, q_fzl, q_fzo, q_fzc, q_fzr, q_fzf, q_ski, q_skb, q_sks, q_skn, q_skt, q_skl, q_sko, q_skf, q_ani, q_anb, q_ans, q_ann, q_ant, q_anl, q_ano, q_att, q_atl, q_ato, q_ri, q_rb, q_rs, q_rn, q_rt, q_rl, q_ro, q_rc, q_ixt, q_ixl, q_ixo, q_slt, q_sll, q_wt, q_r1, q_r2, List.map_cons, List.map_nil, List.cons_append, List.nil_append, List.replicate, List.getElem?_cons_zero, List.getElem?_cons_succ, List.set_cons_zero, List.set_cons_succ, Option.some.injEq, exists_eq_left', List.length_cons, List.length_nil, Bool.not_true, Bool.not_false, List.zip_cons_cons, List.zip_nil_right, List.foldl_cons, List.foldl_nil, true_and, and_true, if_true, if_false, Bool.false_eq_true, D.own.injEq, D.int.injEq, D.tup.injEq, D.lst.injEq, D.cell.injEq, D.bl.injEq, D.str.injEq, D.scr.injEq]
    simp only [repl_int]
    have num : ∀ n : Nat, n ≤ 300 → (n : Int) ≠ w → askD 0 k w t (List.replicate n 0) = .str "!number" := fun n _ hn => by
      have hz : inR (k : Int) (List.replicate n 0) = true := by
        unfold inR
        rw [List.all_eq_true]
        intro x hx
        have := List.eq_of_mem_replicate hx
        subst this
        simp only [Bool.and_eq_true, decide_eq_true_eq]
        omega
      unfold askD
      rw [if_neg (by rw [hrt]; decide), if_neg (by rw [hz]; decide)]
      show (if ((List.replicate n (0 : Int)).length : Int) = w then _ else _) = _
      rw [if_neg (by rw [List.length_replicate]; exact hn)]
    refine ⟨by omega, by omega, by omega, by omega, by omega, by omega, by omega, by omega, by omega, _, rfl, by simp; omega, ?_⟩
    refine lc_map (f := fun _ => .str "!number") rfl (fun x hx K hK => ?_) ?_
    · have hx' : ∃ n : Nat, x = tI (List.replicate n 0) ∧ n ≤ 300 ∧ (n : Int) ≠ w := by
        simp only [List.mem_cons, List.not_mem_nil, or_false] at hx
        rcases hx with rfl | rfl
        · exact ⟨((w : Int) + 1).toNat, rfl, by omega, by omega⟩
        · exact ⟨((w : Int) - 1).toNat, rfl, by omega, by have := hr.w1; omega⟩
      obtain ⟨n, rfl, hn1, hn2⟩ := hx'
      unfold lcTurn
      simp only [wipeD, wFn, wSs, wS, wE, wA, wL, wT, wO, wC, wI, q_bii, q_btt, q_bti, q_bss, q_bl1, q_bl2, q_bl3, q_iadd, q_isub, q_imul, q_imod, q_idiv, q_ipow, q_tadd, q_trep, q_sadd, q_ladd, q_lrep, q_lkl, q_lko, q_lrl, q_lro, q_lrs, q_lsl, q_lso, q_lss, q_lst, q_aii, q_att2, q_clt, q_cle, q_cgt, q_cge, q_ceq, q_cne, q_cin, q_cni, q_cis, q_cin', q_eii, q_ebb, q_ess, q_tb, q_ti, q_tn, q_tt, q_tl, q_to, q_tc, q_int, q_inb, q_lnt, q_lnl, q_lnc, q_min, q_max, q_abs, q_tpt, q_tpl, q_lil, q_lit, q_sum, q_any, q_all, q_repr, q_fzi, q_fzb, q_fzs, q_fzn, q_fzt, q_fzl, q_fzo, q_fzc, q_fzr, q_fzf, q_ski, q_skb, q_sks, q_skn, q_skt, q_skl, q_sko, q_skf, q_ani, q_anb, q_ans, q_ann, q_ant, q_anl, q_ano, q_att, q_atl, q_ato, q_ri, q_rb, q_rs, q_rn, q_rt, q_rl, q_ro, q_rc, q_ixt, q_ixl, q_ixo, q_slt, q_sll, q_wt, q_r1, q_r2, List.map_cons, List.map_nil, List.cons_append, List.nil_append, List.replicate, List.getElem?_cons_zero, List.getElem?_cons_succ, List.set_cons_zero, List.set_cons_succ, Option.some.injEq, exists_eq_left', List.length_cons, List.length_nil, Bool.not_true, Bool.not_false, List.zip_cons_cons, List.zip_nil_right, List.foldl_cons, List.foldl_nil, true_and, and_true, if_true, if_false, Bool.false_eq_true, D.own.injEq, D.int.injEq, D.tup.injEq, D.lst.injEq, D.cell.injEq, D.bl.injEq, D.str.injEq, D.scr.injEq]
      refine hAs _ _ _ _ ⟨0, k, w, t, List.replicate n 0, rfl, by omega, by omega, by simpa using hn1, ?_⟩
      rw [num n hn1 hn2]
      exact ⟨rfl, hK⟩
    have r2 := RpL.own (.cons sN (.cons sN .nil))
    refine ⟨by omega, _, _, rfl, rfl, by omega, by omega, by simp; omega, ?_⟩
    refine Rp.eq r2 r2 (by decide) (by decide) rfl rfl ?_
    exact h _
  · rintro x r σ c' R ⟨t7, t8, t9, hd4, hx, rfl⟩ hR
    obtain ⟨i, rfl⟩ := hx x (by simp)
    have hdr4 := hd4.dr hdr3.lt
    simp only [wFn, wSs, wS, wE, wA, wL, wT, wO, wC, wI, q_bii, q_btt, q_bti, q_bss, q_bl1, q_bl2, q_bl3, q_iadd, q_isub, q_imul, q_imod, q_idiv, q_ipow, q_tadd, q_trep, q_sadd, q_ladd, q_lrep, q_lkl, q_lko, q_lrl, q_lro, q_lrs, q_lsl, q_lso, q_lss, q_lst, q_aii, q_att2, q_clt, q_cle, q_cgt, q_cge, q_ceq, q_cne, q_cin, q_cni, q_cis, q_cin', q_eii, q_ebb, q_ess, q_tb, q_ti, q_tn, q_tt, q_tl, q_to, q_tc, q_int, q_inb, q_lnt, q_lnl, q_lnc, q_min, q_max, q_abs, q_tpt, q_tpl, q_lil, q_lit, q_sum, q_any, q_all, q_repr, q_fzi, q_fzb, q_fzs, q_fzn, q_fzt, q_fzl, q_fzo, q_fzc, q_fzr, q_fzf, q_ski, q_skb, q_sks, q_skn, q_skt, q_skl, q_sko, q_skf, q_ani, q_anb, q_ans, q_ann, q_ant, q_anl, q_ano, q_att, q_atl, q_ato, q_ri, q_rb, q_rs, q_rn, q_rt, q_rl, q_ro, q_rc, q_ixt, q_ixl, q_ixo, q_slt, q_sll, q_wt, q_r1, q_r2, List.map_cons, List.map_nil, List.cons_append, List.nil_append, List.replicate, List.getElem?_cons_zero, List.getElem?_cons_succ, List.set_cons_zero, List.set_cons_succ, Option.some.injEq, exists_eq_left', List.length_cons, List.length_nil, Bool.not_true, Bool.not_false, List.zip_cons_cons, List.zip_nil_right, List.foldl_cons, List.foldl_nil, true_and, and_true, if_true, if_false, Bool.false_eq_true, D.own.injEq, D.int.injEq, D.tup.injEq, D.lst.injEq, D.cell.injEq, D.bl.injEq, D.str.injEq, D.scr.injEq]
    refine hN _ _ _ _ ⟨1, rfl, hdr4, fun n c5 n0 n1 hd5 => ?_⟩
    simp only [wFn, wSs, wS, wE, wA, wL, wT, wO, wC, wI, q_bii, q_btt, q_bti, q_bss, q_bl1, q_bl2, q_bl3, q_iadd, q_isub, q_imul, q_imod, q_idiv, q_ipow, q_tadd, q_trep, q_sadd, q_ladd, q_lrep, q_lkl, q_lko, q_lrl, q_lro, q_lrs, q_lsl, q_lso, q_lss, q_lst, q_aii, q_att2, q_clt, q_cle, q_cgt, q_cge, q_ceq, q_cne, q_cin, q_cni, q_cis, q_cin', q_eii, q_ebb, q_ess, q_tb, q_ti, q_tn, q_tt, q_tl, q_to, q_tc, q_int, q_inb, q_lnt, q_lnl, q_lnc, q_min, q_max, q_abs, q_tpt, q_tpl, q_lil, q_lit, q_sum, q_any, q_all, q_repr, q_fzi, q_fzb, q_fzs, q_fzn, q_fzt, q_fzl, q_fzo, q_fzc, q_fzr, q_fzf, q_ski, q_skb, q_sks, q_skn, q_skt, q_skl, q_sko, q_skf, q_ani, q_anb, q_ans, q_ann, q_ant, q_anl, q_ano, q_att, q_atl, q_ato, q_ri, q_rb, q_rs, q_rn, q_rt, q_rl, q_ro, q_rc, q_ixt, q_ixl, q_ixo, q_slt, q_sll, q_wt, q_r1, q_r2, List.map_cons, List.map_nil, List.cons_append, List.nil_append, List.replicate, List.getElem?_cons_zero, List.getElem?_cons_succ, List.set_cons_zero, List.set_cons_succ, Option.some.injEq, exists_eq_left', List.length_cons, List.length_nil, Bool.not_true, Bool.not_false, List.zip_cons_cons, List.zip_nil_right, List.foldl_cons, List.foldl_nil, true_and, and_true, if_true, if_false, Bool.false_eq_true, D.own.injEq, D.int.injEq, D.tup.injEq, D.lst.injEq, D.cell.injEq, D.bl.injEq, D.str.injEq, D.scr.injEq]
    have hdr5 := hd5.dr hdr4.lt
    refine ⟨by omega, hWo _ _ _ _ ⟨1, k, (n % 12).toNat, by rw [Int.toNat_of_nonneg (by omega)], by have := hr.k2; omega, by omega, hdr5, fun ws c6 hwl hws hd6 => ?_⟩⟩
    have hdr6 := hd6.dr hdr5.lt
    simp only [wFn, wSs, wS, wE, wA, wL, wT, wO, wC, wI, q_bii, q_btt, q_bti, q_bss, q_bl1, q_bl2, q_bl3, q_iadd, q_isub, q_imul, q_imod, q_idiv, q_ipow, q_tadd, q_trep, q_sadd, q_ladd, q_lrep, q_lkl, q_lko, q_lrl, q_lro, q_lrs, q_lsl, q_lso, q_lss, q_lst, q_aii, q_att2, q_clt, q_cle, q_cgt, q_cge, q_ceq, q_cne, q_cin, q_cni, q_cis, q_cin', q_eii, q_ebb, q_ess, q_tb, q_ti, q_tn, q_tt, q_tl, q_to, q_tc, q_int, q_inb, q_lnt, q_lnl, q_lnc, q_min, q_max, q_abs, q_tpt, q_tpl, q_lil, q_lit, q_sum, q_any, q_all, q_repr, q_fzi, q_fzb, q_fzs, q_fzn, q_fzt, q_fzl, q_fzo, q_fzc, q_fzr, q_fzf, q_ski, q_skb, q_sks, q_skn, q_skt, q_skl, q_sko, q_skf, q_ani, q_anb, q_ans, q_ann, q_ant, q_anl, q_ano, q_att, q_atl, q_ato, q_ri, q_rb, q_rs, q_rn, q_rt, q_rl, q_ro, q_rc, q_ixt, q_ixl, q_ixo, q_slt, q_sll, q_wt, q_r1, q_r2, List.map_cons, List.map_nil, List.cons_append, List.nil_append, List.replicate, List.getElem?_cons_zero, List.getElem?_cons_succ, List.set_cons_zero, List.set_cons_succ, Option.some.injEq, exists_eq_left', List.length_cons, List.length_nil, Bool.not_true, Bool.not_false, List.zip_cons_cons, List.zip_nil_right, List.foldl_cons, List.foldl_nil, true_and, and_true, if_true, if_false, Bool.false_eq_true, D.own.injEq, D.int.injEq, D.tup.injEq, D.lst.injEq, D.cell.injEq, D.bl.injEq, D.str.injEq, D.scr.injEq]
    refine hWo _ _ _ _ ⟨1, k, w, rfl, by have := hr.k2; omega, by omega, hdr6, fun bs c7 hbl hbs hd7 => ?_⟩
    have hdr7 := hd7.dr hdr6.lt
    have hd47 := ((hd4.trans hd5).trans hd6).trans hd7
    simp only [wFn, wSs, wS, wE, wA, wL, wT, wO, wC, wI, q_bii, q_btt, q_bti, q_bss, q_bl1, q_bl2, q_bl3, q_iadd, q_isub, q_imul, q_imod, q_idiv, q_ipow, q_tadd, q_trep, q_sadd, q_ladd, q_lrep, q_lkl, q_lko, q_lrl, q_lro, q_lrs, q_lsl, q_lso, q_lss, q_lst, q_aii, q_att2, q_clt, q_cle, q_cgt, q_cge, q_ceq, q_cne, q_cin, q_cni, q_cis, q_cin', q_eii, q_ebb, q_ess, q_tb, q_ti, q_tn, q_tt, q_tl, q_to, q_tc, q_int, q_inb, q_lnt, q_lnl, q_lnc, q_min, q_max, q_abs, q_tpt, q_tpl, q_lil, q_lit, q_sum, q_any, q_all, q_repr, q_fzi, q_fzb, q_fzs, q_fzn, q_fzt, q_fzl, q_fzo, q_fzc, q_fzr, q_fzf, q_ski, q_skb, q_sks, q_skn, q_skt, q_skl, q_sko, q_skf, q_ani, q_anb, q_ans, q_ann, q_ant, q_anl, q_ano, q_att, q_atl, q_ato, q_ri, q_rb, q_rs, q_rn, q_rt, q_rl, q_ro, q_rc, q_ixt, q_ixl, q_ixo, q_slt, q_sll, q_wt, q_r1, q_r2, List.map_cons, List.map_nil, List.cons_append, List.nil_append, List.replicate, List.getElem?_cons_zero, List.getElem?_cons_succ, List.set_cons_zero, List.set_cons_succ, Option.some.injEq, exists_eq_left', List.length_cons, List.length_nil, Bool.not_true, Bool.not_false, List.zip_cons_cons, List.zip_nil_right, List.foldl_cons, List.foldl_nil, true_and, and_true, if_true, if_false, Bool.false_eq_true, D.own.injEq, D.int.injEq, D.tup.injEq, D.lst.injEq, D.cell.injEq, D.bl.injEq, D.str.injEq, D.scr.injEq]
    refine hIm _ _ _ _ ⟨k, w, t, ws, rfl, by omega, by omega, fun _ _ => ?_, (fun _ q => absurd (q.symm.trans (inR_st.mpr hws)) (by decide)), (fun q => absurd (q.symm.trans hrt) (by decide))⟩
    simp only [wFn, wSs, wS, wE, wA, wL, wT, wO, wC, wI, q_bii, q_btt, q_bti, q_bss, q_bl1, q_bl2, q_bl3, q_iadd, q_isub, q_imul, q_imod, q_idiv, q_ipow, q_tadd, q_trep, q_sadd, q_ladd, q_lrep, q_lkl, q_lko, q_lrl, q_lro, q_lrs, q_lsl, q_lso, q_lss, q_lst, q_aii, q_att2, q_clt, q_cle, q_cgt, q_cge, q_ceq, q_cne, q_cin, q_cni, q_cis, q_cin', q_eii, q_ebb, q_ess, q_tb, q_ti, q_tn, q_tt, q_tl, q_to, q_tc, q_int, q_inb, q_lnt, q_lnl, q_lnc, q_min, q_max, q_abs, q_tpt, q_tpl, q_lil, q_lit, q_sum, q_any, q_all, q_repr, q_fzi, q_fzb, q_fzs, q_fzn, q_fzt, q_fzl, q_fzo, q_fzc, q_fzr, q_fzf, q_ski, q_skb, q_sks, q_skn, q_skt, q_skl, q_sko, q_skf, q_ani, q_anb, q_ans, q_ann, q_ant, q_anl, q_ano, q_att, q_atl, q_ato, q_ri, q_rb, q_rs, q_rn, q_rt, q_rl, q_ro, q_rc, q_ixt, q_ixl, q_ixo, q_slt, q_sll, q_wt, q_r1, q_r2, List.map_cons, List.map_nil, List.cons_append, List.nil_append, List.replicate, List.getElem?_cons_zero, List.getElem?_cons_succ, List.set_cons_zero, List.set_cons_succ, Option.some.injEq, exists_eq_left', List.length_cons, List.length_nil, Bool.not_true, Bool.not_false, List.zip_cons_cons, List.zip_nil_right, List.foldl_cons, List.foldl_nil, true_and, and_true, if_true, if_false, Bool.false_eq_true, D.own.injEq, D.int.injEq, D.tup.injEq, D.lst.injEq, D.cell.injEq, D.bl.injEq, D.str.injEq, D.scr.injEq]
    refine hVa _ _ _ _ ⟨k, w, t, bs, rfl, by omega, by omega, fun _ _ _ => ?_, (fun _ _ q => absurd (by rw [hbl]) q), (fun _ q => absurd (q.symm.trans (inR_st.mpr hbs)) (by decide)), (fun q => absurd (q.symm.trans hrt) (by decide))⟩
    have hk4 := hr.k4
    have hkk : k ≤ 1000000 := by omega
    obtain ⟨v, hv, hve, hv0, hv1⟩ := hr.at_ hbs hbl
    have hvn : v.natAbs < 10 ^ 20 := by
      have : (1000000 : Nat) ≤ 10 ^ 20 := by decide
      omega
    have hil : (img k w t ws).length ≤ 300 := by simp only [img, List.length_map, List.length_range]; omega
    have hri : (rimg k w t ws).length ≤ 300 := by simp only [rimg, img, List.length_map, List.length_range, lng, List.length_take]; omega
    have h1 := RpL.lst (.cons (RpL.tup (St.nums (img_st hr ws) hkk)) (.cons (Rp.int hvn) .nil))
    simp only [wFn, wSs, wS, wE, wA, wL, wT, wO, wC, wI, q_bii, q_btt, q_bti, q_bss, q_bl1, q_bl2, q_bl3, q_iadd, q_isub, q_imul, q_imod, q_idiv, q_ipow, q_tadd, q_trep, q_sadd, q_ladd, q_lrep, q_lkl, q_lko, q_lrl, q_lro, q_lrs, q_lsl, q_lso, q_lss, q_lst, q_aii, q_att2, q_clt, q_cle, q_cgt, q_cge, q_ceq, q_cne, q_cin, q_cni, q_cis, q_cin', q_eii, q_ebb, q_ess, q_tb, q_ti, q_tn, q_tt, q_tl, q_to, q_tc, q_int, q_inb, q_lnt, q_lnl, q_lnc, q_min, q_max, q_abs, q_tpt, q_tpl, q_lil, q_lit, q_sum, q_any, q_all, q_repr, q_fzi, q_fzb, q_fzs, q_fzn, q_fzt, q_fzl, q_fzo, q_fzc, q_fzr, q_fzf, q_ski, q_skb, q_sks, q_skn, q_skt, q_skl, q_sko, q_skf, q_ani, q_anb, q_ans, q_ann, q_ant, q_anl, q_ano, q_att, q_atl, q_ato, q_ri, q_rb, q_rs, q_rn, q_rt, q_rl, q_ro, q_rc, q_ixt, q_ixl, q_ixo, q_slt, q_sll, q_wt, q_r1, q_r2, List.map_cons, List.map_nil, List.cons_append, List.nil_append, List.replicate, List.getElem?_cons_zero, List.getElem?_cons_succ, List.set_cons_zero, List.set_cons_succ, Option.some.injEq, exists_eq_left', List.length_cons, List.length_nil, Bool.not_true, Bool.not_false, List.zip_cons_cons, List.zip_nil_right, List.foldl_cons, List.foldl_nil, true_and, and_true, if_true, if_false, Bool.false_eq_true, D.own.injEq, D.int.injEq, D.tup.injEq, D.lst.injEq, D.cell.injEq, D.bl.injEq, D.str.injEq, D.scr.injEq, Int.toNat_natCast]
    rw [← hve]
    refine ⟨by omega, _, h1.py, h1.sh, h1.nd, Nat.le_trans h1.dp (by decide), Nat.le_trans h1.ln (by omega), ?_⟩
    refine hLI _ _ _ _ ⟨k, w, t, ws, rfl, hr, hws, by omega, ?_⟩
    simp only [wFn, wSs, wS, wE, wA, wL, wT, wO, wC, wI, q_bii, q_btt, q_bti, q_bss, q_bl1, q_bl2, q_bl3, q_iadd, q_isub, q_imul, q_imod, q_idiv, q_ipow, q_tadd, q_trep, q_sadd, q_ladd, q_lrep, q_lkl, q_lko, q_lrl, q_lro, q_lrs, q_lsl, q_lso, q_lss, q_lst, q_aii, q_att2, q_clt, q_cle, q_cgt, q_cge, q_ceq, q_cne, q_cin, q_cni, q_cis, q_cin', q_eii, q_ebb, q_ess, q_tb, q_ti, q_tn, q_tt, q_tl, q_to, q_tc, q_int, q_inb, q_lnt, q_lnl, q_lnc, q_min, q_max, q_abs, q_tpt, q_tpl, q_lil, q_lit, q_sum, q_any, q_all, q_repr, q_fzi, q_fzb, q_fzs, q_fzn, q_fzt, q_fzl, q_fzo, q_fzc, q_fzr, q_fzf, q_ski, q_skb, q_sks, q_skn, q_skt, q_skl, q_sko, q_skf, q_ani, q_anb, q_ans, q_ann, q_ant, q_anl, q_ano, q_att, q_atl, q_ato, q_ri, q_rb, q_rs, q_rn, q_rt, q_rl, q_ro, q_rc, q_ixt, q_ixl, q_ixo, q_slt, q_sll, q_wt, q_r1, q_r2, List.map_cons, List.map_nil, List.cons_append, List.nil_append, List.replicate, List.getElem?_cons_zero, List.getElem?_cons_succ, List.set_cons_zero, List.set_cons_succ, Option.some.injEq, exists_eq_left', List.length_cons, List.length_nil, Bool.not_true, Bool.not_false, List.zip_cons_cons, List.zip_nil_right, List.foldl_cons, List.foldl_nil, true_and, and_true, if_true, if_false, Bool.false_eq_true, D.own.injEq, D.int.injEq, D.tup.injEq, D.lst.injEq, D.cell.injEq, D.bl.injEq, D.str.injEq, D.scr.injEq]
    refine hIx _ _ _ _ ⟨k, bs, rfl, by omega, ?_⟩
    simp only [wFn, wSs, wS, wE, wA, wL, wT, wO, wC, wI, q_bii, q_btt, q_bti, q_bss, q_bl1, q_bl2, q_bl3, q_iadd, q_isub, q_imul, q_imod, q_idiv, q_ipow, q_tadd, q_trep, q_sadd, q_ladd, q_lrep, q_lkl, q_lko, q_lrl, q_lro, q_lrs, q_lsl, q_lso, q_lss, q_lst, q_aii, q_att2, q_clt, q_cle, q_cgt, q_cge, q_ceq, q_cne, q_cin, q_cni, q_cis, q_cin', q_eii, q_ebb, q_ess, q_tb, q_ti, q_tn, q_tt, q_tl, q_to, q_tc, q_int, q_inb, q_lnt, q_lnl, q_lnc, q_min, q_max, q_abs, q_tpt, q_tpl, q_lil, q_lit, q_sum, q_any, q_all, q_repr, q_fzi, q_fzb, q_fzs, q_fzn, q_fzt, q_fzl, q_fzo, q_fzc, q_fzr, q_fzf, q_ski, q_skb, q_sks, q_skn, q_skt, q_skl, q_sko, q_skf, q_ani, q_anb, q_ans, q_ann, q_ant, q_anl, q_ano, q_att, q_atl, q_ato, q_ri, q_rb, q_rs, q_rn, q_rt, q_rl, q_ro, q_rc, q_ixt, q_ixl, q_ixo, q_slt, q_sll, q_wt, q_r1, q_r2, List.map_cons, List.map_nil, List.cons_append, List.nil_append, List.replicate, List.getElem?_cons_zero, List.getElem?_cons_succ, List.set_cons_zero, List.set_cons_succ, Option.some.injEq, exists_eq_left', List.length_cons, List.length_nil, Bool.not_true, Bool.not_false, List.zip_cons_cons, List.zip_nil_right, List.foldl_cons, List.foldl_nil, true_and, and_true, if_true, if_false, Bool.false_eq_true, D.own.injEq, D.int.injEq, D.tup.injEq, D.lst.injEq, D.cell.injEq, D.bl.injEq, D.str.injEq, D.scr.injEq]
    refine ⟨.int v, atI_int (idx_lt hbs).1 hv, ?_⟩
    simp only [wFn, wSs, wS, wE, wA, wL, wT, wO, wC, wI, q_bii, q_btt, q_bti, q_bss, q_bl1, q_bl2, q_bl3, q_iadd, q_isub, q_imul, q_imod, q_idiv, q_ipow, q_tadd, q_trep, q_sadd, q_ladd, q_lrep, q_lkl, q_lko, q_lrl, q_lro, q_lrs, q_lsl, q_lso, q_lss, q_lst, q_aii, q_att2, q_clt, q_cle, q_cgt, q_cge, q_ceq, q_cne, q_cin, q_cni, q_cis, q_cin', q_eii, q_ebb, q_ess, q_tb, q_ti, q_tn, q_tt, q_tl, q_to, q_tc, q_int, q_inb, q_lnt, q_lnl, q_lnc, q_min, q_max, q_abs, q_tpt, q_tpl, q_lil, q_lit, q_sum, q_any, q_all, q_repr, q_fzi, q_fzb, q_fzs, q_fzn, q_fzt, q_fzl, q_fzo, q_fzc, q_fzr, q_fzf, q_ski, q_skb, q_sks, q_skn, q_skt, q_skl, q_sko, q_skf, q_ani, q_anb, q_ans, q_ann, q_ant, q_anl, q_ano, q_att, q_atl, q_ato, q_ri, q_rb, q_rs, q_rn, q_rt, q_rl, q_ro, q_rc, q_ixt, q_ixl, q_ixo, q_slt, q_sll, q_wt, q_r1, q_r2, List.map_cons, List.map_nil, List.cons_append, List.nil_append, List.replicate, List.getElem?_cons_zero, List.getElem?_cons_succ, List.set_cons_zero, List.set_cons_succ, Option.some.injEq, exists_eq_left', List.length_cons, List.length_nil, Bool.not_true, Bool.not_false, List.zip_cons_cons, List.zip_nil_right, List.foldl_cons, List.foldl_nil, true_and, and_true, if_true, if_false, Bool.false_eq_true, D.own.injEq, D.int.injEq, D.tup.injEq, D.lst.injEq, D.cell.injEq, D.bl.injEq, D.str.injEq, D.scr.injEq]
    refine ⟨by omega, _, h1.py, h1.sh, h1.nd, Nat.le_trans h1.dp (by decide), Nat.le_trans h1.ln (by omega), ?_⟩
    refine iteB (fun q => by simp at q) fun _ => ?_
    have fin : Γ "_law_asked" [.int 3, ruleD k w t, tI ws] c7 (fun x c1 => isK x (.bl true) fun b => if (!b) = true then Q (.bl false) (c1.take 0) else R [some (.scr (ns.map .int)), some (.cell 1), some (ruleD k w t), some (.int k), some (.int w), some (tI t),
        some (.lst [.tup [.int 2, .int 8, tI (List.replicate 256 1)], .tup [.int 4, .int 4, tI (List.replicate 256 3)], .tup [.int 3, .int 5, tI (List.replicate 243 2)], .tup [.int 2, .int 1, .tup [.int 0, .int 0]]]), some (.int i), some (tI ws), some (tI bs), none, none, none, none] c1) (fun n c2 => E n (c2.take 0)) := by
      refine hAs _ _ _ _ ⟨3, k, w, t, ws, rfl, by omega, by omega, by omega, ?_⟩
      have e : askD 3 k w t ws = .bl true := by
        unfold askD
        rw [if_neg (by rw [hrt]; decide), if_neg (by rw [inR_st.mpr hws]; decide)]
        rfl
      rw [e]
      exact hR _ _ ⟨_, _, _, hd47, fun y hy => hx y (by simp [hy]), rfl⟩
    refine hAs _ _ _ _ ⟨2, k, w, t, ws, rfl, by omega, by omega, by omega, ?_⟩
    have e : askD 2 k w t ws = if ws = [] then .str "!word" else tI (rimg k w t ws) := by
      unfold askD
      rw [if_neg (by rw [hrt]; decide), if_neg (by rw [inR_st.mpr hws]; decide)]
      simp only [Int.toNat_natCast]
    rw [e]
    by_cases hw0 : ws = []
    · rw [if_pos hw0]
      have h2 : Rp (.str "!word") (.str "!word") 0 10 := ⟨rfl, rfl, rfl, Nat.le_refl _, by decide +kernel, by decide +kernel⟩
      refine ⟨_, h2.py, h2.sh, h2.nd, Nat.le_trans h2.dp (by decide), Nat.le_trans h2.ln (by omega), ?_⟩
      refine iteB (fun q => by rw [hw0] at q; cases q) fun _ => ?_
      refine ⟨_, h2.py, h2.sh, h2.nd, Nat.le_trans h2.dp (by decide), Nat.le_trans h2.ln (by omega), ?_⟩
      refine iteB (fun q => by simp at q) fun _ => ?_
      exact fin
    · rw [if_neg hw0]
      have h2 := RpL.tup (St.nums (img_st hr (lng (ws.length + w - 1) ws)) hkk)
      refine ⟨_, h2.py, h2.sh, h2.nd, Nat.le_trans h2.dp (by decide), Nat.le_trans h2.ln (by change 23 * (rimg k w t ws).length + 3 ≤ _; omega), ?_⟩
      refine iteB (fun _ => ?_) fun q => by simp [hw0] at q
      refine hRi _ _ _ _ ⟨k, w, t, ws, rfl, hr, hws, hw0, by omega, ?_⟩
      refine ⟨_, h2.py, h2.sh, h2.nd, Nat.le_trans h2.dp (by decide), Nat.le_trans h2.ln (by change 23 * (rimg k w t ws).length + 3 ≤ _; omega), ?_⟩
      refine iteB (fun q => by simp at q) fun _ => ?_
      exact fin
end
end Ev

/-! # Pu7: composed rules, powers -/
namespace Ev
open PySem
def val (k : Nat) (t b : List Int) : Int := t.getD (idx k b).toNat 0
def cmp2 (k w1 : Nat) (t1 : List Int) (w2 : Nat) (t2 : List Int) : List Int := (wds k (w1 + w2 - 1)).map fun b => val k t2 (img k w1 t1 b)
theorem val_st {k w : Nat} {t : List Int} (hr : Rl k w t) (b : List Int) : 0 ≤ val k t b ∧ val k t b < k := by
  unfold val
  rw [List.getD_eq_getElem?_getD]
  cases q : t[(idx k b).toNat]? with
  | none => have := hr.k2; exact ⟨by simp, by simp; omega⟩
  | some v => exact hr.st v (List.mem_of_getElem? q)
theorem cmp2_rl {k w1 w2 : Nat} {t1 t2 : List Int} (h1 : Rl k w1 t1) (h2 : Rl k w2 t2) (hb : k ^ (w1 + w2 - 1) ≤ 256) : Rl k (w1 + w2 - 1) (cmp2 k w1 t1 w2 t2) := by
  have := h1.w1
  have := h2.w1
  refine ⟨h1.k2, h1.k4, by omega, hb, by simp [cmp2, wds_len], fun s hs => ?_⟩
  simp only [cmp2, List.mem_map] at hs
  obtain ⟨b, _, rfl⟩ := hs
  exact val_st h2 _
def idT (k : Nat) : List Int := (List.range k).map fun (i : Nat) => (i : Int)
theorem idT_rl {k : Nat} (h2 : 2 ≤ k) (h4 : k ≤ 4) : Rl k 1 (idT k) := by
  refine ⟨h2, h4, by omega, by rw [Nat.pow_one]; omega, by simp [idT], fun s hs => ?_⟩
  simp only [idT, List.mem_map, List.mem_range] at hs
  obtain ⟨i, hi, rfl⟩ := hs
  omega
/-- powers: the width and the table -/
def pwr (k w : Nat) (t : List Int) : Nat → List Int
  | 0 => idT k
  | n + 1 => cmp2 k (n * (w - 1) + 1) (pwr k w t n) w t
theorem pwr_rl {k w : Nat} {t : List Int} (h : Rl k w t) : ∀ n, k ^ (n * (w - 1) + 1) ≤ 256 → Rl k (n * (w - 1) + 1) (pwr k w t n)
  | 0, _ => by simpa [pwr] using idT_rl h.k2 h.k4
  | n + 1, hb => by
    have hw := h.w1
    have hk := h.k2
    have e : (n + 1) * (w - 1) + 1 = n * (w - 1) + 1 + w - 1 := by rw [Nat.add_mul]; omega
    have hb' : k ^ (n * (w - 1) + 1) ≤ 256 := Nat.le_trans (pow_le (by omega) (by rw [e]; omega)) hb
    rw [e] at hb ⊢
    exact cmp2_rl (pwr_rl h n hb') h hb
def ir_blocks : Fn := ⟨2, 7, (.cons (.asg (.nm 2) (.lst (.cons (.tup .nil) .nil))) (.cons (.forS (.nm 3) (.rng (.cons (.var 1) .nil)) (.cons (.asgC 4 (.lst .nil)) (.cons (.forS (.nm 5) (.seq (.var 2)) (.cons (.expr (.meth .extend (.var 4) (.cons (.lc [6] (.nm 6) (.rng (.cons (.var 0) .nil)) .none (.tup (.star (.var 5) (.cons (.var 6) .nil)))) .nil))) .nil)) (.cons (.frz 4) (.cons (.asg (.nm 2) (.var 4)) .nil))))) (.cons (.ret (.var 2)) .nil)))⟩
def ir_still : Fn := ⟨1, 1, (.cons (.ret (.tup (.cons (.var 0) (.cons (.lit (.int 1)) (.cons (.trg true (.var 0)) .nil))))) .nil)⟩
def ir_composed_of : Fn := ⟨2, 5, (.cons (.asg (.nm 2) (.idx (.var 0) (.lit (.int 0)))) (.cons (.asg (.nm 3) (.bin .Sub (.bin .Add (.idx (.var 0) (.lit (.int 1))) (.idx (.var 1) (.lit (.int 1)))) (.lit (.int 1)))) (.cons (.ifS (.cmp .Gt (.call "entries_for" (.cons (.var 2) (.cons (.var 3) .nil))) (.gint "MOST_ENTRIES" 256)) (.cons (.raise "TooLarge" "the rule would have more than 256 entries") .nil) .nil) (.cons (.ret (.tup (.cons (.var 2) (.cons (.var 3) (.cons (.blt .tuple (.cons (.lc [4] (.nm 4) (.seq (.call "blocks" (.cons (.var 2) (.cons (.var 3) .nil)))) .none (.call "value_of" (.cons (.var 1) (.cons (.call "image_of" (.cons (.var 0) (.cons (.var 4) .nil))) .nil)))) .nil)) .nil))))) .nil))))⟩
def ir_check_both : Fn := ⟨2, 2, (.cons (.expr (.call "check_rule" (.cons (.var 0) .nil))) (.cons (.expr (.call "check_rule" (.cons (.var 1) .nil))) (.cons (.ifS (.cmp .NotEq (.idx (.var 0) (.lit (.int 0))) (.idx (.var 1) (.lit (.int 0)))) (.cons (.raise "BadNumber" "the rules have different numbers of states") .nil) .nil) .nil)))⟩
def ir_composed : Fn := ⟨2, 2, (.cons (.expr (.call "check_both" (.cons (.var 0) (.cons (.var 1) .nil)))) (.cons (.ret (.call "composed_of" (.cons (.var 0) (.cons (.var 1) .nil)))) .nil))⟩
def ir_power_of : Fn := ⟨2, 4, (.cons (.ifS (.cmp .Gt (.call "entries_for" (.cons (.idx (.var 0) (.lit (.int 0))) (.cons (.bin .Add (.bin .Mult (.var 1) (.bin .Sub (.idx (.var 0) (.lit (.int 1))) (.lit (.int 1)))) (.lit (.int 1))) .nil))) (.gint "MOST_ENTRIES" 256)) (.cons (.raise "TooLarge" "the rule would have more than 256 entries") .nil) .nil) (.cons (.asg (.nm 2) (.call "still" (.cons (.idx (.var 0) (.lit (.int 0))) .nil))) (.cons (.forS (.nm 3) (.rng (.cons (.var 1) .nil)) (.cons (.asg (.nm 2) (.call "composed_of" (.cons (.var 2) (.cons (.var 0) .nil)))) .nil)) (.cons (.ret (.var 2)) .nil))))⟩
def ir_power : Fn := ⟨2, 2, (.cons (.expr (.call "check_rule" (.cons (.var 0) .nil))) (.cons (.ifS (.not (.chain .LtE .LtE (.lit (.int 0)) (.var 1) (.gint "MOST_POWER" 100))) (.cons (.raise "BadNumber" "this is no such power") .nil) .nil) (.cons (.ret (.call "power_of" (.cons (.var 0) (.cons (.var 1) .nil)))) .nil)))⟩
def ir_check_turns : Fn := ⟨1, 1, (.cons (.ifS (.not (.chain .LtE .LtE (.lit (.int 0)) (.var 0) (.gint "MOST_TURNS" 1000))) (.cons (.raise "BadNumber" "there are not so many turns") .nil) .nil) .nil)⟩
def ir_after : Fn := ⟨3, 5, (.cons (.expr (.call "check_word" (.cons (.var 0) (.cons (.var 1) .nil)))) (.cons (.expr (.call "check_turns" (.cons (.var 2) .nil))) (.cons (.asg (.nm 3) (.blt .tuple (.cons (.var 1) .nil))) (.cons (.forS (.nm 4) (.rng (.cons (.var 2) .nil)) (.cons (.asg (.nm 3) (.call "image_of" (.cons (.var 0) (.cons (.var 3) .nil)))) .nil)) (.cons (.ret (.var 3)) .nil)))))⟩
def ir_ring_after : Fn := ⟨3, 5, (.cons (.expr (.call "check_ring" (.cons (.var 0) (.cons (.var 1) .nil)))) (.cons (.expr (.call "check_turns" (.cons (.var 2) .nil))) (.cons (.asg (.nm 3) (.blt .tuple (.cons (.var 1) .nil))) (.cons (.forS (.nm 4) (.rng (.cons (.var 2) .nil)) (.cons (.asg (.nm 3) (.call "ring_image_of" (.cons (.var 0) (.cons (.var 3) .nil)))) .nil)) (.cons (.ret (.var 3)) .nil)))))⟩
def ir_law_then : Fn := ⟨2, 4, (.cons (.asg (.nm 2) (.bin .Sub (.bin .Add (.idx (.var 0) (.lit (.int 1))) (.idx (.var 1) (.lit (.int 1)))) (.lit (.int 1)))) (.cons (.ret (.tup (.cons (.idx (.var 0) (.lit (.int 0))) (.cons (.var 2) (.cons (.blt .tuple (.cons (.lc [3] (.nm 3) (.seq (.call "_law_words" (.cons (.idx (.var 0) (.lit (.int 0))) (.cons (.var 2) .nil)))) .none (.idx (.call "_law_image" (.cons (.var 1) (.cons (.call "_law_image" (.cons (.var 0) (.cons (.var 3) .nil))) .nil))) (.lit (.int 0)))) .nil)) .nil))))) .nil))⟩
def aft (k w : Nat) (t : List Int) : Nat → List Int → List Int
  | 0, b => b
  | n + 1, b => aft k w t n (img k w t b)
def raft (k w : Nat) (t : List Int) : Nat → List Int → List Int
  | 0, b => b
  | n + 1, b => raft k w t n (rimg k w t b)
def spStill : DSp := fun ds c Q _ => ∃ k : Nat, ds = [.int k] ∧ k ≤ 1000 ∧ Q (ruleD k 1 (idT k)) c
def spCompOf : DSp := fun ds c Q E => ∃ (k w1 w2 : Nat) (t1 t2 : List Int), ds = [ruleD k w1 t1, ruleD k w2 t2] ∧ Rl k w1 t1 ∧ Rl k w2 t2 ∧ (k ^ (w1 + w2 - 1) ≤ 256 → Q (ruleD k (w1 + w2 - 1 : Nat) (cmp2 k w1 t1 w2 t2)) c) ∧ (256 < k ^ (w1 + w2 - 1) → E "TooLarge" c)
def spBoth : DSp := fun ds c Q E => ∃ (k1 w1 k2 w2 : Int) (t1 t2 : List Int), ds = [ruleI k1 w1 t1, ruleI k2 w2 t2] ∧ t1.length ≤ 100000 ∧ t2.length ≤ 100000 ∧ (isR k1 w1 t1 = false → E "NotRule" c) ∧ (isR k1 w1 t1 = true → isR k2 w2 t2 = false → E "NotRule" c) ∧
  (isR k1 w1 t1 = true → isR k2 w2 t2 = true → k1 ≠ k2 → E "BadNumber" c) ∧ (isR k1 w1 t1 = true → isR k2 w2 t2 = true → k1 = k2 → Q .non c)
def spComp : DSp := fun ds c Q E => ∃ (k1 w1 k2 w2 : Int) (t1 t2 : List Int), ds = [ruleI k1 w1 t1, ruleI k2 w2 t2] ∧ t1.length ≤ 100000 ∧ t2.length ≤ 100000 ∧ (isR k1 w1 t1 = false → E "NotRule" c) ∧ (isR k1 w1 t1 = true → isR k2 w2 t2 = false → E "NotRule" c) ∧
  (isR k1 w1 t1 = true → isR k2 w2 t2 = true → k1 ≠ k2 → E "BadNumber" c) ∧
  (∀ k a b : Nat, k1 = k → k2 = k → w1 = a → w2 = b → Rl k a t1 → Rl k b t2 → (k ^ (a + b - 1) ≤ 256 → Q (ruleD k (a + b - 1 : Nat) (cmp2 k a t1 b t2)) c) ∧ (256 < k ^ (a + b - 1) → E "TooLarge" c))
def spPowOf : DSp := fun ds c Q E => ∃ (k w n : Nat) (t : List Int), ds = [ruleD k w t, .int n] ∧ n ≤ 100 ∧ Rl k w t ∧ (k ^ (n * (w - 1) + 1) ≤ 256 → Q (ruleD k (n * (w - 1) + 1 : Nat) (pwr k w t n)) c) ∧ (256 < k ^ (n * (w - 1) + 1) → E "TooLarge" c)
def spPow : DSp := fun ds c Q E => ∃ (k w n : Int) (t : List Int), ds = [ruleI k w t, .int n] ∧ t.length ≤ 100000 ∧ (isR k w t = false → E "NotRule" c) ∧ (isR k w t = true → ¬ (0 ≤ n ∧ n ≤ 100) → E "BadNumber" c) ∧
  (∀ a b m : Nat, k = a → w = b → n = m → m ≤ 100 → Rl a b t → (a ^ (m * (b - 1) + 1) ≤ 256 → Q (ruleD a (m * (b - 1) + 1 : Nat) (pwr a b t m)) c) ∧ (256 < a ^ (m * (b - 1) + 1) → E "TooLarge" c))
def spTurns : DSp := fun ds c Q E => ∃ n : Int, ds = [.int n] ∧ (0 ≤ n ∧ n ≤ 1000 → Q .non c) ∧ (¬ (0 ≤ n ∧ n ≤ 1000) → E "BadNumber" c)
def spAfter : DSp := fun ds c Q E => ∃ (k w n : Int) (t xs : List Int), ds = [ruleI k w t, tI xs, .int n] ∧ t.length ≤ 100000 ∧ xs.length ≤ 10000 ∧ (isR k w t = false → E "NotRule" c) ∧ (isR k w t = true → inR k xs = false → E "NotWord" c) ∧
  (isR k w t = true → inR k xs = true → ¬ (0 ≤ n ∧ n ≤ 1000) → E "BadNumber" c) ∧ (∀ a b m : Nat, k = a → w = b → n = m → m ≤ 1000 → Rl a b t → St a xs → Q (tI (aft a b t m xs)) c)
def spRAfter : DSp := fun ds c Q E => ∃ (k w n : Int) (t xs : List Int), ds = [ruleI k w t, tI xs, .int n] ∧ t.length ≤ 100000 ∧ xs.length ≤ 300 ∧ (isR k w t = false → E "NotRule" c) ∧ (isR k w t = true → (inR k xs = false ∨ xs = []) → E "NotWord" c) ∧
  (isR k w t = true → inR k xs = true → xs ≠ [] → ¬ (0 ≤ n ∧ n ≤ 1000) → E "BadNumber" c) ∧ (∀ a b m : Nat, k = a → w = b → n = m → m ≤ 1000 → Rl a b t → St a xs → xs ≠ [] → Q (tI (raft a b t m xs)) c)
def spThen : DSp := fun ds c Q _ => ∃ (k w1 w2 : Nat) (t1 t2 : List Int), ds = [ruleD k w1 t1, ruleD k w2 t2] ∧ Rl k w1 t1 ∧ Rl k w2 t2 ∧ k ^ (w1 + w2 - 1) ≤ 10000 ∧ Q (ruleD k (w1 + w2 - 1 : Nat) (cmp2 k w1 t1 w2 t2)) c
theorem rng_idT (k : Nat) : rngL 0 (k : Int) = (idT k).map .int := by simp [rngL, idT, Function.comp_def]
section
variable {Γ : Str → DSp} {sub : Str → Str → Option Bool} {kind : Str → Str → D}
theorem pu_still : ∀ ds c Q E, spStill ds c Q E → wFn Γ sub kind ir_still ds c Q E := by
  rintro _ c Q E ⟨k, rfl, hk, h⟩
  have hs : (3000 : Nat) ≤ sizeLine := by decide
  simp only [ir_still, wFn, wSs, wS, wE, wA, wL, wT, wO, wC, wI, q_bii, q_btt, q_bti, q_bss, q_bl1, q_bl2, q_bl3, q_iadd, q_isub, q_imul, q_imod, q_idiv, q_ipow, q_tadd, q_trep, q_sadd, q_ladd, q_lrep, q_lkl, q_lko, q_lrl, q_lro, q_lrs, q_lsl, q_lso, q_lss, q_lst, q_aii, q_att2, q_clt, q_cle, q_cgt, q_cge, q_ceq, q_cne, q_cin, q_cni, q_cis, q_cin', q_eii, q_ebb, q_ess, q_tb, q_ti, q_tn, q_tt, q_tl, q_to, q_tc, q_int, q_inb, q_lnt, q_lnl, q_lnc, q_min, q_max, q_abs, q_tpt, q_tpl, q_lil, q_lit, q_sum, q_any, q_all, q_repr, q_fzi, q_fzb, q_fzs, q_fzn, q_fzt, q_fzl, q_fzo, q_fzc, q_fzr, q_fzf, q_ski, q_skb, q_sks, q_skn, q_skt, q_skl, q_sko, q_skf, q_ani, q_anb, q_ans, q_ann, q_ant, q_anl, q_ano, q_att, q_atl, q_ato, q_ri, q_rb, q_rs, q_rn, q_rt, q_rl, q_ro, q_rc, q_ixt, q_ixl, q_ixo, q_slt, q_sll, q_wt, q_r1, q_r2, List.map_cons, List.map_nil, List.cons_append, List.nil_append, List.replicate, List.getElem?_cons_zero, List.getElem?_cons_succ, List.set_cons_zero, List.set_cons_succ, Option.some.injEq, exists_eq_left', List.length_cons, List.length_nil, Bool.not_true, Bool.not_false, List.zip_cons_cons, List.zip_nil_right, List.foldl_cons, List.foldl_nil, true_and, and_true, if_true, if_false, Bool.false_eq_true, D.own.injEq, D.int.injEq, D.tup.injEq, D.lst.injEq, D.cell.injEq, D.bl.injEq, D.str.injEq, D.scr.injEq]
  rw [rng_idT]
  exact ⟨by unfold RgI; omega, by omega, by omega, tkQ h⟩
theorem pu_turns : ∀ ds c Q E, spTurns ds c Q E → wFn Γ sub kind ir_check_turns ds c Q E := by
  rintro _ c Q E ⟨n, rfl, h1, h2⟩
  simp only [ir_check_turns, wFn, wSs, wS, wE, wA, wL, wT, wO, wC, wI, q_bii, q_btt, q_bti, q_bss, q_bl1, q_bl2, q_bl3, q_iadd, q_isub, q_imul, q_imod, q_idiv, q_ipow, q_tadd, q_trep, q_sadd, q_ladd, q_lrep, q_lkl, q_lko, q_lrl, q_lro, q_lrs, q_lsl, q_lso, q_lss, q_lst, q_aii, q_att2, q_clt, q_cle, q_cgt, q_cge, q_ceq, q_cne, q_cin, q_cni, q_cis, q_cin', q_eii, q_ebb, q_ess, q_tb, q_ti, q_tn, q_tt, q_tl, q_to, q_tc, q_int, q_inb, q_lnt, q_lnl, q_lnc, q_min, q_max, q_abs, q_tpt, q_tpl, q_lil, q_lit, q_sum, q_any, q_all, q_repr, q_fzi, q_fzb, q_fzs, q_fzn, q_fzt, q_fzl, q_fzo, q_fzc, q_fzr, q_fzf, q_ski, q_skb, q_sks, q_skn, q_skt, q_skl, q_sko, q_skf, q_ani, q_anb, q_ans, q_ann, q_ant, q_anl, q_ano, q_att, q_atl, q_ato, q_ri, q_rb, q_rs, q_rn, q_rt, q_rl, q_ro, q_rc, q_ixt, q_ixl, q_ixo, q_slt, q_sll, q_wt, q_r1, q_r2, List.map_cons, List.map_nil, List.cons_append, List.nil_append, List.replicate, List.getElem?_cons_zero, List.getElem?_cons_succ, List.set_cons_zero, List.set_cons_succ, Option.some.injEq, exists_eq_left', List.length_cons, List.length_nil, Bool.not_true, Bool.not_false, List.zip_cons_cons, List.zip_nil_right, List.foldl_cons, List.foldl_nil, true_and, and_true, if_true, if_false, Bool.false_eq_true, D.own.injEq, D.int.injEq, D.tup.injEq, D.lst.injEq, D.cell.injEq, D.bl.injEq, D.str.injEq, D.scr.injEq]
  rw [List.take_length]
  refine iteB (fun a => iteB (fun b => ?_) fun b => ?_) fun a => ?_
  · exact h2 (by simp at a b; omega)
  · exact h1 (by simp at a b; omega)
  · exact h2 (by simp at a; omega)
theorem pu_both (hR : ∀ ds c Q E, spCheckRule ds c Q E → Γ "check_rule" ds c Q E) : ∀ ds c Q E, spBoth ds c Q E → wFn Γ sub kind ir_check_both ds c Q E := by
  rintro _ c Q E ⟨k1, w1, k2, w2, t1, t2, rfl, l1, l2, h1, h2, h3, h4⟩
  simp only [ir_check_both, wFn, wSs, wS, wE, wA, wL, wT, wO, wC, wI, q_bii, q_btt, q_bti, q_bss, q_bl1, q_bl2, q_bl3, q_iadd, q_isub, q_imul, q_imod, q_idiv, q_ipow, q_tadd, q_trep, q_sadd, q_ladd, q_lrep, q_lkl, q_lko, q_lrl, q_lro, q_lrs, q_lsl, q_lso, q_lss, q_lst, q_aii, q_att2, q_clt, q_cle, q_cgt, q_cge, q_ceq, q_cne, q_cin, q_cni, q_cis, q_cin', q_eii, q_ebb, q_ess, q_tb, q_ti, q_tn, q_tt, q_tl, q_to, q_tc, q_int, q_inb, q_lnt, q_lnl, q_lnc, q_min, q_max, q_abs, q_tpt, q_tpl, q_lil, q_lit, q_sum, q_any, q_all, q_repr, q_fzi, q_fzb, q_fzs, q_fzn, q_fzt, q_fzl, q_fzo, q_fzc, q_fzr, q_fzf, q_ski, q_skb, q_sks, q_skn, q_skt, q_skl, q_sko, q_skf, q_ani, q_anb, q_ans, q_ann, q_ant, q_anl, q_ano, q_att, q_atl, q_ato, q_ri, q_rb, q_rs, q_rn, q_rt, q_rl, q_ro, q_rc, q_ixt, q_ixl, q_ixo, q_slt, q_sll, q_wt, q_r1, q_r2, List.map_cons, List.map_nil, List.cons_append, List.nil_append, List.replicate, List.getElem?_cons_zero, List.getElem?_cons_succ, List.set_cons_zero, List.set_cons_succ, Option.some.injEq, exists_eq_left', List.length_cons, List.length_nil, Bool.not_true, Bool.not_false, List.zip_cons_cons, List.zip_nil_right, List.foldl_cons, List.foldl_nil, true_and, and_true, if_true, if_false, Bool.false_eq_true, D.own.injEq, D.int.injEq, D.tup.injEq, D.lst.injEq, D.cell.injEq, D.bl.injEq, D.str.injEq, D.scr.injEq]
  refine hR _ _ _ _ ⟨k1, w1, t1, rfl, l1, fun a => ?_, fun a => tkE (h1 a)⟩
  refine hR _ _ _ _ ⟨k2, w2, t2, rfl, l2, fun b => ?_, fun b => tkE (h2 a b)⟩
  refine ⟨.int k1, rfl, .int k2, rfl, ?_⟩
  simp only [wFn, wSs, wS, wE, wA, wL, wT, wO, wC, wI, q_bii, q_btt, q_bti, q_bss, q_bl1, q_bl2, q_bl3, q_iadd, q_isub, q_imul, q_imod, q_idiv, q_ipow, q_tadd, q_trep, q_sadd, q_ladd, q_lrep, q_lkl, q_lko, q_lrl, q_lro, q_lrs, q_lsl, q_lso, q_lss, q_lst, q_aii, q_att2, q_clt, q_cle, q_cgt, q_cge, q_ceq, q_cne, q_cin, q_cni, q_cis, q_cin', q_eii, q_ebb, q_ess, q_tb, q_ti, q_tn, q_tt, q_tl, q_to, q_tc, q_int, q_inb, q_lnt, q_lnl, q_lnc, q_min, q_max, q_abs, q_tpt, q_tpl, q_lil, q_lit, q_sum, q_any, q_all, q_repr, q_fzi, q_fzb, q_fzs, q_fzn, q_fzt, q_fzl, q_fzo, q_fzc, q_fzr, q_fzf, q_ski, q_skb, q_sks, q_skn, q_skt, q_skl, q_sko, q_skf, q_ani, q_anb, q_ans, q_ann, q_ant, q_anl, q_ano, q_att, q_atl, q_ato, q_ri, q_rb, q_rs, q_rn, q_rt, q_rl, q_ro, q_rc, q_ixt, q_ixl, q_ixo, q_slt, q_sll, q_wt, q_r1, q_r2, List.map_cons, List.map_nil, List.cons_append, List.nil_append, List.replicate, List.getElem?_cons_zero, List.getElem?_cons_succ, List.set_cons_zero, List.set_cons_succ, Option.some.injEq, exists_eq_left', List.length_cons, List.length_nil, Bool.not_true, Bool.not_false, List.zip_cons_cons, List.zip_nil_right, List.foldl_cons, List.foldl_nil, true_and, and_true, if_true, if_false, Bool.false_eq_true, D.own.injEq, D.int.injEq, D.tup.injEq, D.lst.injEq, D.cell.injEq, D.bl.injEq, D.str.injEq, D.scr.injEq]
  refine iteB (fun d => tkE (h3 a b (by simpa using d))) fun d => tkQ (h4 a b (by simpa using d))
theorem pu_comp (hB : ∀ ds c Q E, spBoth ds c Q E → Γ "check_both" ds c Q E) (hC : ∀ ds c Q E, spCompOf ds c Q E → Γ "composed_of" ds c Q E) : ∀ ds c Q E, spComp ds c Q E → wFn Γ sub kind ir_composed ds c Q E := by
  rintro _ c Q E ⟨k1, w1, k2, w2, t1, t2, rfl, l1, l2, h1, h2, h3, h4⟩
  simp only [ir_composed, wFn, wSs, wS, wE, wA, wL, wT, wO, wC, wI, q_bii, q_btt, q_bti, q_bss, q_bl1, q_bl2, q_bl3, q_iadd, q_isub, q_imul, q_imod, q_idiv, q_ipow, q_tadd, q_trep, q_sadd, q_ladd, q_lrep, q_lkl, q_lko, q_lrl, q_lro, q_lrs, q_lsl, q_lso, q_lss, q_lst, q_aii, q_att2, q_clt, q_cle, q_cgt, q_cge, q_ceq, q_cne, q_cin, q_cni, q_cis, q_cin', q_eii, q_ebb, q_ess, q_tb, q_ti, q_tn, q_tt, q_tl, q_to, q_tc, q_int, q_inb, q_lnt, q_lnl, q_lnc, q_min, q_max, q_abs, q_tpt, q_tpl, q_lil, q_lit, q_sum, q_any, q_all, q_repr, q_fzi, q_fzb, q_fzs, q_fzn, q_fzt, q_fzl, q_fzo, q_fzc, q_fzr, q_fzf, q_ski, q_skb, q_sks, q_skn, q_skt, q_skl, q_sko, q_skf, q_ani, q_anb, q_ans, q_ann, q_ant, q_anl, q_ano, q_att, q_atl, q_ato, q_ri, q_rb, q_rs, q_rn, q_rt, q_rl, q_ro, q_rc, q_ixt, q_ixl, q_ixo, q_slt, q_sll, q_wt, q_r1, q_r2, List.map_cons, List.map_nil, List.cons_append, List.nil_append, List.replicate, List.getElem?_cons_zero, List.getElem?_cons_succ, List.set_cons_zero, List.set_cons_succ, Option.some.injEq, exists_eq_left', List.length_cons, List.length_nil, Bool.not_true, Bool.not_false, List.zip_cons_cons, List.zip_nil_right, List.foldl_cons, List.foldl_nil, true_and, and_true, if_true, if_false, Bool.false_eq_true, D.own.injEq, D.int.injEq, D.tup.injEq, D.lst.injEq, D.cell.injEq, D.bl.injEq, D.str.injEq, D.scr.injEq]
  refine hB _ _ _ _ ⟨k1, w1, k2, w2, t1, t2, rfl, l1, l2, fun a => tkE (h1 a), fun a b => tkE (h2 a b), fun a b d => tkE (h3 a b d), fun a b e => ?_⟩
  obtain ⟨k, u, rfl, rfl, hr⟩ := isR_nat a
  obtain ⟨k', v, e', rfl, hr'⟩ := isR_nat b
  subst e'
  have : k' = k := by omega
  subst this
  obtain ⟨q1, q2⟩ := h4 k' u v rfl rfl rfl rfl hr hr'
  exact hC _ _ _ _ ⟨k', u, v, t1, t2, rfl, hr, hr', fun z => rt1 rfl rfl (q1 z), fun z => tkE (q2 z)⟩
theorem pu_pow (hR : ∀ ds c Q E, spCheckRule ds c Q E → Γ "check_rule" ds c Q E) (hP : ∀ ds c Q E, spPowOf ds c Q E → Γ "power_of" ds c Q E) : ∀ ds c Q E, spPow ds c Q E → wFn Γ sub kind ir_power ds c Q E := by
  rintro _ c Q E ⟨k, w, n, t, rfl, l1, h1, h2, h3⟩
  simp only [ir_power, wFn, wSs, wS, wE, wA, wL, wT, wO, wC, wI, q_bii, q_btt, q_bti, q_bss, q_bl1, q_bl2, q_bl3, q_iadd, q_isub, q_imul, q_imod, q_idiv, q_ipow, q_tadd, q_trep, q_sadd, q_ladd, q_lrep, q_lkl, q_lko, q_lrl, q_lro, q_lrs, q_lsl, q_lso, q_lss, q_lst, q_aii, q_att2, q_clt, q_cle, q_cgt, q_cge, q_ceq, q_cne, q_cin, q_cni, q_cis, q_cin', q_eii, q_ebb, q_ess, q_tb, q_ti, q_tn, q_tt, q_tl, q_to, q_tc, q_int, q_inb, q_lnt, q_lnl, q_lnc, q_min, q_max, q_abs, q_tpt, q_tpl, q_lil, q_lit, q_sum, q_any, q_all, q_repr, q_fzi, q_fzb, q_fzs, q_fzn, q_fzt, q_fzl, q_fzo, q_fzc, q_fzr, q_fzf, q_ski, q_skb, q_sks, q_skn, q_skt, q_skl, q_sko, q_skf, q_ani, q_anb, q_ans, q_ann, q_ant, q_anl, q_ano, q_att, q_atl, q_ato, q_ri, q_rb, q_rs, q_rn, q_rt, q_rl, q_ro, q_rc, q_ixt, q_ixl, q_ixo, q_slt, q_sll, q_wt, q_r1, q_r2, List.map_cons, List.map_nil, List.cons_append, List.nil_append, List.replicate, List.getElem?_cons_zero, List.getElem?_cons_succ, List.set_cons_zero, List.set_cons_succ, Option.some.injEq, exists_eq_left', List.length_cons, List.length_nil, Bool.not_true, Bool.not_false, List.zip_cons_cons, List.zip_nil_right, List.foldl_cons, List.foldl_nil, true_and, and_true, if_true, if_false, Bool.false_eq_true, D.own.injEq, D.int.injEq, D.tup.injEq, D.lst.injEq, D.cell.injEq, D.bl.injEq, D.str.injEq, D.scr.injEq]
  refine hR _ _ _ _ ⟨k, w, t, rfl, l1, fun a => ?_, fun a => tkE (h1 a)⟩
  refine iteB (fun b => iteB (fun d => ?_) fun d => ?_) fun b => ?_
  · exact tkE (h2 a (by simp at b d; omega))
  · simp at b d
    obtain ⟨u, v, rfl, rfl, hr⟩ := isR_nat a
    obtain ⟨m, rfl⟩ : ∃ m : Nat, n = m := ⟨n.toNat, by omega⟩
    obtain ⟨q1, q2⟩ := h3 u v m rfl rfl rfl (by omega) hr
    exact hP _ _ _ _ ⟨u, v, m, t, rfl, by omega, hr, fun z => rt1 rfl rfl (q1 z), fun z => tkE (q2 z)⟩
  · exact tkE (h2 a (by simp at b; omega))
theorem pu_blocks : ∀ ds c Q E, spWords ds c Q E → wFn Γ sub kind ir_blocks ds c Q E := by
  rintro _ c Q E ⟨k, n, rfl, h1, hk, hn, hn1, h⟩
  simp only [ir_blocks, wFn, wSs, wS, wE, wA, wL, wT, wO, wC, wI, q_bii, q_btt, q_bti, q_bss, q_bl1, q_bl2, q_bl3, q_iadd, q_isub, q_imul, q_imod, q_idiv, q_ipow, q_tadd, q_trep, q_sadd, q_ladd, q_lrep, q_lkl, q_lko, q_lrl, q_lro, q_lrs, q_lsl, q_lso, q_lss, q_lst, q_aii, q_att2, q_clt, q_cle, q_cgt, q_cge, q_ceq, q_cne, q_cin, q_cni, q_cis, q_cin', q_eii, q_ebb, q_ess, q_tb, q_ti, q_tn, q_tt, q_tl, q_to, q_tc, q_int, q_inb, q_lnt, q_lnl, q_lnc, q_min, q_max, q_abs, q_tpt, q_tpl, q_lil, q_lit, q_sum, q_any, q_all, q_repr, q_fzi, q_fzb, q_fzs, q_fzn, q_fzt, q_fzl, q_fzo, q_fzc, q_fzr, q_fzf, q_ski, q_skb, q_sks, q_skn, q_skt, q_skl, q_sko, q_skf, q_ani, q_anb, q_ans, q_ann, q_ant, q_anl, q_ano, q_att, q_atl, q_ato, q_ri, q_rb, q_rs, q_rn, q_rt, q_rl, q_ro, q_rc, q_ixt, q_ixl, q_ixo, q_slt, q_sll, q_wt, q_r1, q_r2, List.map_cons, List.map_nil, List.cons_append, List.nil_append, List.replicate, List.getElem?_cons_zero, List.getElem?_cons_succ, List.set_cons_zero, List.set_cons_succ, Option.some.injEq, exists_eq_left', List.length_cons, List.length_nil, Bool.not_true, Bool.not_false, List.zip_cons_cons, List.zip_nil_right, List.foldl_cons, List.foldl_nil, true_and, and_true, if_true, if_false, Bool.false_eq_true, D.own.injEq, D.int.injEq, D.tup.injEq, D.lst.injEq, D.cell.injEq, D.bl.injEq, D.str.injEq, D.scr.injEq]
  refine ⟨by decide, by decide, by unfold RgI; omega, ?_⟩
  refine forGo_ind (I := fun r σ c' => ∃ (m : Nat) (t3 t4 t5 t6 : Option D), m + r.length = n ∧ σ = [some (.int k), some (.int n), some (.lst ((wds k m).map tI)), t3, t4, t5, t6] ∧ c = c' ∧ (∀ x ∈ r, ∃ i, x = .int i)) ?_ ?_ _ _ _
    ⟨0, none, none, none, none, by simp [rngL], rfl, rfl, fun x hx => by simp only [rngL, List.mem_map] at hx; obtain ⟨k, _, rfl⟩ := hx; exact ⟨_, rfl⟩⟩
  · rintro σ c' ⟨m, t3, t4, t5, t6, hm, rfl, rfl, _⟩
    have : m = n := by simpa using hm
    subst this
    simp only [wFn, wSs, wS, wE, wA, wL, wT, wO, wC, wI, q_bii, q_btt, q_bti, q_bss, q_bl1, q_bl2, q_bl3, q_iadd, q_isub, q_imul, q_imod, q_idiv, q_ipow, q_tadd, q_trep, q_sadd, q_ladd, q_lrep, q_lkl, q_lko, q_lrl, q_lro, q_lrs, q_lsl, q_lso, q_lss, q_lst, q_aii, q_att2, q_clt, q_cle, q_cgt, q_cge, q_ceq, q_cne, q_cin, q_cni, q_cis, q_cin', q_eii, q_ebb, q_ess, q_tb, q_ti, q_tn, q_tt, q_tl, q_to, q_tc, q_int, q_inb, q_lnt, q_lnl, q_lnc, q_min, q_max, q_abs, q_tpt, q_tpl, q_lil, q_lit, q_sum, q_any, q_all, q_repr, q_fzi, q_fzb, q_fzs, q_fzn, q_fzt, q_fzl, q_fzo, q_fzc, q_fzr, q_fzf, q_ski, q_skb, q_sks, q_skn, q_skt, q_skl, q_sko, q_skf, q_ani, q_anb, q_ans, q_ann, q_ant, q_anl, q_ano, q_att, q_atl, q_ato, q_ri, q_rb, q_rs, q_rn, q_rt, q_rl, q_ro, q_rc, q_ixt, q_ixl, q_ixo, q_slt, q_sll, q_wt, q_r1, q_r2, List.map_cons, List.map_nil, List.cons_append, List.nil_append, List.replicate, List.getElem?_cons_zero, List.getElem?_cons_succ, List.set_cons_zero, List.set_cons_succ, Option.some.injEq, exists_eq_left', List.length_cons, List.length_nil, Bool.not_true, Bool.not_false, List.zip_cons_cons, List.zip_nil_right, List.foldl_cons, List.foldl_nil, true_and, and_true, if_true, if_false, Bool.false_eq_true, D.own.injEq, D.int.injEq, D.tup.injEq, D.lst.injEq, D.cell.injEq, D.bl.injEq, D.str.injEq, D.scr.injEq]
    rw [List.take_length]
    exact h
  · rintro x r σ c' R ⟨m, t3, t4, t5, t6, hm, rfl, rfl, hx⟩ hR
    obtain ⟨i, rfl⟩ := hx x (by simp)
    simp only [List.length_cons] at hm
    simp only [wFn, wSs, wS, wE, wA, wL, wT, wO, wC, wI, q_bii, q_btt, q_bti, q_bss, q_bl1, q_bl2, q_bl3, q_iadd, q_isub, q_imul, q_imod, q_idiv, q_ipow, q_tadd, q_trep, q_sadd, q_ladd, q_lrep, q_lkl, q_lko, q_lrl, q_lro, q_lrs, q_lsl, q_lso, q_lss, q_lst, q_aii, q_att2, q_clt, q_cle, q_cgt, q_cge, q_ceq, q_cne, q_cin, q_cni, q_cis, q_cin', q_eii, q_ebb, q_ess, q_tb, q_ti, q_tn, q_tt, q_tl, q_to, q_tc, q_int, q_inb, q_lnt, q_lnl, q_lnc, q_min, q_max, q_abs, q_tpt, q_tpl, q_lil, q_lit, q_sum, q_any, q_all, q_repr, q_fzi, q_fzb, q_fzs, q_fzn, q_fzt, q_fzl, q_fzo, q_fzc, q_fzr, q_fzf, q_ski, q_skb, q_sks, q_skn, q_skt, q_skl, q_sko, q_skf, q_ani, q_anb, q_ans, q_ann, q_ant, q_anl, q_ano, q_att, q_atl, q_ato, q_ri, q_rb, q_rs, q_rn, q_rt, q_rl, q_ro, q_rc, q_ixt, q_ixl, q_ixo, q_slt, q_sll, q_wt, q_r1, q_r2, List.map_cons, List.map_nil, List.cons_append, List.nil_append, List.replicate, List.getElem?_cons_zero, List.getElem?_cons_succ, List.set_cons_zero, List.set_cons_succ, Option.some.injEq, exists_eq_left', List.length_cons, List.length_nil, Bool.not_true, Bool.not_false, List.zip_cons_cons, List.zip_nil_right, List.foldl_cons, List.foldl_nil, true_and, and_true, if_true, if_false, Bool.false_eq_true, D.own.injEq, D.int.injEq, D.tup.injEq, D.lst.injEq, D.cell.injEq, D.bl.injEq, D.str.injEq, D.scr.injEq]
    refine ⟨by decide, _, rfl, ?_⟩
    have hbig : k ^ (m + 1) ≤ 100000 := Nat.le_trans (pow_le h1 (by omega)) hn
    refine forGo_ind (I := fun q σ c' => ∃ (t5 t6 : Option D) (ys zs : List (List Int)), wds k m = ys ++ zs ∧ q = zs.map tI ∧ σ = [some (.int k), some (.int n), some (.lst ((wds k m).map tI)), some (.int i), some (.cell c.length), t5, t6] ∧
      c' = c ++ [.lst ((ys.flatMap fun w => (List.range k).map fun (s : Nat) => w ++ [(s : Int)]).map tI)]) ?_ ?_ _ _ _ ⟨t5, t6, [], wds k m, rfl, rfl, rfl, rfl⟩
    · rintro σ c' ⟨t5, t6, ys, zs, he, hz, rfl, rfl⟩
      have : zs = [] := by simpa using hz.symm
      subst this
      simp only [List.append_nil] at he
      have hlast : (c ++ [Ob.lst ((ys.flatMap fun w => (List.range k).map fun (s : Nat) => w ++ [(s : Int)]).map tI)])[c.length]? = some (.lst ((ys.flatMap fun w => (List.range k).map fun (s : Nat) => w ++ [(s : Int)]).map tI)) := by simp
      simp only [wFn, wSs, wS, wE, wA, wL, wT, wO, wC, wI, q_bii, q_btt, q_bti, q_bss, q_bl1, q_bl2, q_bl3, q_iadd, q_isub, q_imul, q_imod, q_idiv, q_ipow, q_tadd, q_trep, q_sadd, q_ladd, q_lrep, q_lkl, q_lko, q_lrl, q_lro, q_lrs, q_lsl, q_lso, q_lss, q_lst, q_aii, q_att2, q_clt, q_cle, q_cgt, q_cge, q_ceq, q_cne, q_cin, q_cni, q_cis, q_cin', q_eii, q_ebb, q_ess, q_tb, q_ti, q_tn, q_tt, q_tl, q_to, q_tc, q_int, q_inb, q_lnt, q_lnl, q_lnc, q_min, q_max, q_abs, q_tpt, q_tpl, q_lil, q_lit, q_sum, q_any, q_all, q_repr, q_fzi, q_fzb, q_fzs, q_fzn, q_fzt, q_fzl, q_fzo, q_fzc, q_fzr, q_fzf, q_ski, q_skb, q_sks, q_skn, q_skt, q_skl, q_sko, q_skf, q_ani, q_anb, q_ans, q_ann, q_ant, q_anl, q_ano, q_att, q_atl, q_ato, q_ri, q_rb, q_rs, q_rn, q_rt, q_rl, q_ro, q_rc, q_ixt, q_ixl, q_ixo, q_slt, q_sll, q_wt, q_r1, q_r2, List.map_cons, List.map_nil, List.cons_append, List.nil_append, List.replicate, List.getElem?_cons_zero, List.getElem?_cons_succ, List.set_cons_zero, List.set_cons_succ, Option.some.injEq, exists_eq_left', List.length_cons, List.length_nil, Bool.not_true, Bool.not_false, List.zip_cons_cons, List.zip_nil_right, List.foldl_cons, List.foldl_nil, true_and, and_true, if_true, if_false, Bool.false_eq_true, D.own.injEq, D.int.injEq, D.tup.injEq, D.lst.injEq, D.cell.injEq, D.bl.injEq, D.str.injEq, D.scr.injEq]
      refine ⟨c.length, _, rfl, Nat.le_refl _, by simp, hlast, ?_⟩
      simp only [thawS, wFn, wSs, wS, wE, wA, wL, wT, wO, wC, wI, q_bii, q_btt, q_bti, q_bss, q_bl1, q_bl2, q_bl3, q_iadd, q_isub, q_imul, q_imod, q_idiv, q_ipow, q_tadd, q_trep, q_sadd, q_ladd, q_lrep, q_lkl, q_lko, q_lrl, q_lro, q_lrs, q_lsl, q_lso, q_lss, q_lst, q_aii, q_att2, q_clt, q_cle, q_cgt, q_cge, q_ceq, q_cne, q_cin, q_cni, q_cis, q_cin', q_eii, q_ebb, q_ess, q_tb, q_ti, q_tn, q_tt, q_tl, q_to, q_tc, q_int, q_inb, q_lnt, q_lnl, q_lnc, q_min, q_max, q_abs, q_tpt, q_tpl, q_lil, q_lit, q_sum, q_any, q_all, q_repr, q_fzi, q_fzb, q_fzs, q_fzn, q_fzt, q_fzl, q_fzo, q_fzc, q_fzr, q_fzf, q_ski, q_skb, q_sks, q_skn, q_skt, q_skl, q_sko, q_skf, q_ani, q_anb, q_ans, q_ann, q_ant, q_anl, q_ano, q_att, q_atl, q_ato, q_ri, q_rb, q_rs, q_rn, q_rt, q_rl, q_ro, q_rc, q_ixt, q_ixl, q_ixo, q_slt, q_sll, q_wt, q_r1, q_r2, List.map_cons, List.map_nil, List.cons_append, List.nil_append, List.replicate, List.getElem?_cons_zero, List.getElem?_cons_succ, List.set_cons_zero, List.set_cons_succ, Option.some.injEq, exists_eq_left', List.length_cons, List.length_nil, Bool.not_true, Bool.not_false, List.zip_cons_cons, List.zip_nil_right, List.foldl_cons, List.foldl_nil, true_and, and_true, if_true, if_false, Bool.false_eq_true, D.own.injEq, D.int.injEq, D.tup.injEq, D.lst.injEq, D.cell.injEq, D.bl.injEq, D.str.injEq, D.scr.injEq]
      rw [List.take_left]
      exact hR _ _ ⟨m + 1, _, _, _, _, by omega, by rw [← he]; rfl, rfl, fun y hy => hx y (by simp [hy])⟩
    · rintro x q σ c' R' ⟨t5, t6, ys, zs, he, hz, rfl, rfl⟩ hR'
      cases zs with
      | nil => cases hz
      | cons z zs =>
        simp only [List.map_cons, List.cons.injEq] at hz
        obtain ⟨rfl, rfl⟩ := hz
        have hlast : (c ++ [Ob.lst ((ys.flatMap fun w => (List.range k).map fun (s : Nat) => w ++ [(s : Int)]).map tI)])[c.length]? = some (.lst ((ys.flatMap fun w => (List.range k).map fun (s : Nat) => w ++ [(s : Int)]).map tI)) := by simp
        have hz := wds_mem k m z (by rw [he]; simp)
        simp only [wFn, wSs, wS, wE, wA, wL, wT, wO, wC, wI, q_bii, q_btt, q_bti, q_bss, q_bl1, q_bl2, q_bl3, q_iadd, q_isub, q_imul, q_imod, q_idiv, q_ipow, q_tadd, q_trep, q_sadd, q_ladd, q_lrep, q_lkl, q_lko, q_lrl, q_lro, q_lrs, q_lsl, q_lso, q_lss, q_lst, q_aii, q_att2, q_clt, q_cle, q_cgt, q_cge, q_ceq, q_cne, q_cin, q_cni, q_cis, q_cin', q_eii, q_ebb, q_ess, q_tb, q_ti, q_tn, q_tt, q_tl, q_to, q_tc, q_int, q_inb, q_lnt, q_lnl, q_lnc, q_min, q_max, q_abs, q_tpt, q_tpl, q_lil, q_lit, q_sum, q_any, q_all, q_repr, q_fzi, q_fzb, q_fzs, q_fzn, q_fzt, q_fzl, q_fzo, q_fzc, q_fzr, q_fzf, q_ski, q_skb, q_sks, q_skn, q_skt, q_skl, q_sko, q_skf, q_ani, q_anb, q_ans, q_ann, q_ant, q_anl, q_ano, q_att, q_atl, q_ato, q_ri, q_rb, q_rs, q_rn, q_rt, q_rl, q_ro, q_rc, q_ixt, q_ixl, q_ixo, q_slt, q_sll, q_wt, q_r1, q_r2, List.map_cons, List.map_nil, List.cons_append, List.nil_append, List.replicate, List.getElem?_cons_zero, List.getElem?_cons_succ, List.set_cons_zero, List.set_cons_succ, Option.some.injEq, exists_eq_left', List.length_cons, List.length_nil, Bool.not_true, Bool.not_false, List.zip_cons_cons, List.zip_nil_right, List.foldl_cons, List.foldl_nil, true_and, and_true, if_true, if_false, Bool.false_eq_true, D.own.injEq, D.int.injEq, D.tup.injEq, D.lst.injEq, D.cell.injEq, D.bl.injEq, D.str.injEq, D.scr.injEq]
        refine ⟨by rw [lkR_cell hlast]; rfl, by unfold RgI; omega, ?_, ?_⟩
        · simp only [rngL, List.length_map, List.length_range]
          have : (1000 : Nat) ≤ sizeLine := by decide
          omega
        · refine lc_map (f := fun d => match d with | .int s => tI (z ++ [s]) | d => d) trivial (fun x hx K hK => ?_) ?_
          · simp only [rngL, List.mem_map, List.mem_range] at hx
            obtain ⟨s, hs, rfl⟩ := hx
            unfold lcTurn
            simp only [wipeD, wFn, wSs, wS, wE, wA, wL, wT, wO, wC, wI, q_bii, q_btt, q_bti, q_bss, q_bl1, q_bl2, q_bl3, q_iadd, q_isub, q_imul, q_imod, q_idiv, q_ipow, q_tadd, q_trep, q_sadd, q_ladd, q_lrep, q_lkl, q_lko, q_lrl, q_lro, q_lrs, q_lsl, q_lso, q_lss, q_lst, q_aii, q_att2, q_clt, q_cle, q_cgt, q_cge, q_ceq, q_cne, q_cin, q_cni, q_cis, q_cin', q_eii, q_ebb, q_ess, q_tb, q_ti, q_tn, q_tt, q_tl, q_to, q_tc, q_int, q_inb, q_lnt, q_lnl, q_lnc, q_min, q_max, q_abs, q_tpt, q_tpl, q_lil, q_lit, q_sum, q_any, q_all, q_repr, q_fzi, q_fzb, q_fzs, q_fzn, q_fzt, q_fzl, q_fzo, q_fzc, q_fzr, q_fzf, q_ski, q_skb, q_sks, q_skn, q_skt, q_skl, q_sko, q_skf, q_ani, q_anb, q_ans, q_ann, q_ant, q_anl, q_ano, q_att, q_atl, q_ato, q_ri, q_rb, q_rs, q_rn, q_rt, q_rl, q_ro, q_rc, q_ixt, q_ixl, q_ixo, q_slt, q_sll, q_wt, q_r1, q_r2, List.map_cons, List.map_nil, List.cons_append, List.nil_append, List.replicate, List.getElem?_cons_zero, List.getElem?_cons_succ, List.set_cons_zero, List.set_cons_succ, Option.some.injEq, exists_eq_left', List.length_cons, List.length_nil, Bool.not_true, Bool.not_false, List.zip_cons_cons, List.zip_nil_right, List.foldl_cons, List.foldl_nil, true_and, and_true, if_true, if_false, Bool.false_eq_true, D.own.injEq, D.int.injEq, D.tup.injEq, D.lst.injEq, D.cell.injEq, D.bl.injEq, D.str.injEq, D.scr.injEq]
            have h3 : (2000 : Nat) ≤ sizeLine := by decide
            refine ⟨by rw [List.length_map, hz.1]; omega, by simp only [List.length_append, List.length_map, List.length_cons, List.length_nil, hz.1]; omega, ?_⟩
            rw [show (D.tup (z.map D.int ++ [D.int (0 + (s : Int))])) = tI (z ++ [0 + (s : Int)]) by simp]
            exact hK
          · have eB : (rngL 0 (k : Int)).map (fun d => match d with | .int s => tI (z ++ [s]) | d => d) = ((List.range k).map fun (s : Nat) => z ++ [(s : Int)]).map tI := by
              simp [rngL, Function.comp_def]
            refine ⟨c.length, _, _, _, rfl, hlast, rfl, rfl, ?_, hR' _ _ ⟨_, _, ys ++ [z], zs, by rw [he]; simp, rfl, rfl, ?_⟩⟩
            · have h4 : (200000 : Nat) ≤ sizeLine := by decide
              have h5 : (ys.flatMap fun w => (List.range k).map fun (s : Nat) => w ++ [(s : Int)]).length ≤ k ^ (m + 1) := by
                rw [← wds_len k (m + 1)]
                simp only [wds, he, List.flatMap_append, List.length_append]
                omega
              simp only [List.length_map, rngL, List.length_range]
              omega
            · rw [eB]
              simp [List.flatMap_append]
theorem val_img1 {k w : Nat} {t b : List Int} (hl : b.length = w) (hw : 1 ≤ w) : img k w t b = [val k t b] := by
  subst hl
  unfold img val
  rw [Nat.add_sub_cancel_left]
  simp
theorem img_len {k w : Nat} {t b : List Int} : (img k w t b).length = b.length + 1 - w := by simp [img]
theorem pu_comp_of (hE : ∀ ds c Q E, spEntries ds c Q E → Γ "entries_for" ds c Q E) (hB : ∀ ds c Q E, spWords ds c Q E → Γ "blocks" ds c Q E) (hV : ∀ ds c Q E, spValueOf ds c Q E → Γ "value_of" ds c Q E) (hI : ∀ ds c Q E, spImage ds c Q E → Γ "image_of" ds c Q E) :
    ∀ ds c Q E, spCompOf ds c Q E → wFn Γ sub kind ir_composed_of ds c Q E := by
  rintro _ c Q E ⟨k, w1, w2, t1, t2, rfl, r1, r2, h1, h2⟩
  have a1 := r1.w1
  have a2 := r2.w1
  have b1 := r1.w256
  have b2 := r2.w256
  have hk := r1.k2
  have hk4 := r1.k4
  have hs : (200000 : Nat) ≤ sizeLine := by decide
  simp only [ir_composed_of, wFn, wSs, wS, wE, wA, wL, wT, wO, wC, wI, q_bii, q_btt, q_bti, q_bss, q_bl1, q_bl2, q_bl3, q_iadd, q_isub, q_imul, q_imod, q_idiv, q_ipow, q_tadd, q_trep, q_sadd, q_ladd, q_lrep, q_lkl, q_lko, q_lrl, q_lro, q_lrs, q_lsl, q_lso, q_lss, q_lst, q_aii, q_att2, q_clt, q_cle, q_cgt, q_cge, q_ceq, q_cne, q_cin, q_cni, q_cis, q_cin', q_eii, q_ebb, q_ess, q_tb, q_ti, q_tn, q_tt, q_tl, q_to, q_tc, q_int, q_inb, q_lnt, q_lnl, q_lnc, q_min, q_max, q_abs, q_tpt, q_tpl, q_lil, q_lit, q_sum, q_any, q_all, q_repr, q_fzi, q_fzb, q_fzs, q_fzn, q_fzt, q_fzl, q_fzo, q_fzc, q_fzr, q_fzf, q_ski, q_skb, q_sks, q_skn, q_skt, q_skl, q_sko, q_skf, q_ani, q_anb, q_ans, q_ann, q_ant, q_anl, q_ano, q_att, q_atl, q_ato, q_ri, q_rb, q_rs, q_rn, q_rt, q_rl, q_ro, q_rc, q_ixt, q_ixl, q_ixo, q_slt, q_sll, q_wt, q_r1, q_r2, List.map_cons, List.map_nil, List.cons_append, List.nil_append, List.replicate, List.getElem?_cons_zero, List.getElem?_cons_succ, List.set_cons_zero, List.set_cons_succ, Option.some.injEq, exists_eq_left', List.length_cons, List.length_nil, Bool.not_true, Bool.not_false, List.zip_cons_cons, List.zip_nil_right, List.foldl_cons, List.foldl_nil, true_and, and_true, if_true, if_false, Bool.false_eq_true, D.own.injEq, D.int.injEq, D.tup.injEq, D.lst.injEq, D.cell.injEq, D.bl.injEq, D.str.injEq, D.scr.injEq]
  refine ⟨.int k, rfl, ?_⟩
  simp only [wFn, wSs, wS, wE, wA, wL, wT, wO, wC, wI, q_bii, q_btt, q_bti, q_bss, q_bl1, q_bl2, q_bl3, q_iadd, q_isub, q_imul, q_imod, q_idiv, q_ipow, q_tadd, q_trep, q_sadd, q_ladd, q_lrep, q_lkl, q_lko, q_lrl, q_lro, q_lrs, q_lsl, q_lso, q_lss, q_lst, q_aii, q_att2, q_clt, q_cle, q_cgt, q_cge, q_ceq, q_cne, q_cin, q_cni, q_cis, q_cin', q_eii, q_ebb, q_ess, q_tb, q_ti, q_tn, q_tt, q_tl, q_to, q_tc, q_int, q_inb, q_lnt, q_lnl, q_lnc, q_min, q_max, q_abs, q_tpt, q_tpl, q_lil, q_lit, q_sum, q_any, q_all, q_repr, q_fzi, q_fzb, q_fzs, q_fzn, q_fzt, q_fzl, q_fzo, q_fzc, q_fzr, q_fzf, q_ski, q_skb, q_sks, q_skn, q_skt, q_skl, q_sko, q_skf, q_ani, q_anb, q_ans, q_ann, q_ant, q_anl, q_ano, q_att, q_atl, q_ato, q_ri, q_rb, q_rs, q_rn, q_rt, q_rl, q_ro, q_rc, q_ixt, q_ixl, q_ixo, q_slt, q_sll, q_wt, q_r1, q_r2, List.map_cons, List.map_nil, List.cons_append, List.nil_append, List.replicate, List.getElem?_cons_zero, List.getElem?_cons_succ, List.set_cons_zero, List.set_cons_succ, Option.some.injEq, exists_eq_left', List.length_cons, List.length_nil, Bool.not_true, Bool.not_false, List.zip_cons_cons, List.zip_nil_right, List.foldl_cons, List.foldl_nil, true_and, and_true, if_true, if_false, Bool.false_eq_true, D.own.injEq, D.int.injEq, D.tup.injEq, D.lst.injEq, D.cell.injEq, D.bl.injEq, D.str.injEq, D.scr.injEq]
  refine ⟨.int w1, rfl, .int w2, rfl, ?_⟩
  simp only [wFn, wSs, wS, wE, wA, wL, wT, wO, wC, wI, q_bii, q_btt, q_bti, q_bss, q_bl1, q_bl2, q_bl3, q_iadd, q_isub, q_imul, q_imod, q_idiv, q_ipow, q_tadd, q_trep, q_sadd, q_ladd, q_lrep, q_lkl, q_lko, q_lrl, q_lro, q_lrs, q_lsl, q_lso, q_lss, q_lst, q_aii, q_att2, q_clt, q_cle, q_cgt, q_cge, q_ceq, q_cne, q_cin, q_cni, q_cis, q_cin', q_eii, q_ebb, q_ess, q_tb, q_ti, q_tn, q_tt, q_tl, q_to, q_tc, q_int, q_inb, q_lnt, q_lnl, q_lnc, q_min, q_max, q_abs, q_tpt, q_tpl, q_lil, q_lit, q_sum, q_any, q_all, q_repr, q_fzi, q_fzb, q_fzs, q_fzn, q_fzt, q_fzl, q_fzo, q_fzc, q_fzr, q_fzf, q_ski, q_skb, q_sks, q_skn, q_skt, q_skl, q_sko, q_skf, q_ani, q_anb, q_ans, q_ann, q_ant, q_anl, q_ano, q_att, q_atl, q_ato, q_ri, q_rb, q_rs, q_rn, q_rt, q_rl, q_ro, q_rc, q_ixt, q_ixl, q_ixo, q_slt, q_sll, q_wt, q_r1, q_r2, List.map_cons, List.map_nil, List.cons_append, List.nil_append, List.replicate, List.getElem?_cons_zero, List.getElem?_cons_succ, List.set_cons_zero, List.set_cons_succ, Option.some.injEq, exists_eq_left', List.length_cons, List.length_nil, Bool.not_true, Bool.not_false, List.zip_cons_cons, List.zip_nil_right, List.foldl_cons, List.foldl_nil, true_and, and_true, if_true, if_false, Bool.false_eq_true, D.own.injEq, D.int.injEq, D.tup.injEq, D.lst.injEq, D.cell.injEq, D.bl.injEq, D.str.injEq, D.scr.injEq]
  have e : (w1 : Int) + (w2 : Int) - 1 = ((w1 + w2 - 1 : Nat) : Int) := by omega
  rw [e]
  refine hE _ _ _ _ ⟨k, w1 + w2 - 1, rfl, by omega, by omega, ?_⟩
  simp only [wFn, wSs, wS, wE, wA, wL, wT, wO, wC, wI, q_bii, q_btt, q_bti, q_bss, q_bl1, q_bl2, q_bl3, q_iadd, q_isub, q_imul, q_imod, q_idiv, q_ipow, q_tadd, q_trep, q_sadd, q_ladd, q_lrep, q_lkl, q_lko, q_lrl, q_lro, q_lrs, q_lsl, q_lso, q_lss, q_lst, q_aii, q_att2, q_clt, q_cle, q_cgt, q_cge, q_ceq, q_cne, q_cin, q_cni, q_cis, q_cin', q_eii, q_ebb, q_ess, q_tb, q_ti, q_tn, q_tt, q_tl, q_to, q_tc, q_int, q_inb, q_lnt, q_lnl, q_lnc, q_min, q_max, q_abs, q_tpt, q_tpl, q_lil, q_lit, q_sum, q_any, q_all, q_repr, q_fzi, q_fzb, q_fzs, q_fzn, q_fzt, q_fzl, q_fzo, q_fzc, q_fzr, q_fzf, q_ski, q_skb, q_sks, q_skn, q_skt, q_skl, q_sko, q_skf, q_ani, q_anb, q_ans, q_ann, q_ant, q_anl, q_ano, q_att, q_atl, q_ato, q_ri, q_rb, q_rs, q_rn, q_rt, q_rl, q_ro, q_rc, q_ixt, q_ixl, q_ixo, q_slt, q_sll, q_wt, q_r1, q_r2, List.map_cons, List.map_nil, List.cons_append, List.nil_append, List.replicate, List.getElem?_cons_zero, List.getElem?_cons_succ, List.set_cons_zero, List.set_cons_succ, Option.some.injEq, exists_eq_left', List.length_cons, List.length_nil, Bool.not_true, Bool.not_false, List.zip_cons_cons, List.zip_nil_right, List.foldl_cons, List.foldl_nil, true_and, and_true, if_true, if_false, Bool.false_eq_true, D.own.injEq, D.int.injEq, D.tup.injEq, D.lst.injEq, D.cell.injEq, D.bl.injEq, D.str.injEq, D.scr.injEq]
  refine iteB (fun z => tkE (h2 (by simp at z; omega))) fun z => ?_
  have hb : k ^ (w1 + w2 - 1) ≤ 256 := by simp at z; omega
  refine hB _ _ _ _ ⟨k, w1 + w2 - 1, rfl, by omega, by omega, by omega, by omega, ?_⟩
  refine ⟨_, rfl, by rw [List.length_map, wds_len]; omega, ?_⟩
  refine lc_map (f := fun d => match d with | .tup xs => .int (val k t2 (img k w1 t1 ((intsOf xs).getD []))) | d => d) rfl (fun x hx K hK => ?_) ?_
  · obtain ⟨b, hb1, rfl⟩ := List.mem_map.mp hx
    obtain ⟨l1, l2⟩ := wds_mem k _ b hb1
    unfold lcTurn
    simp only [wipeD, wFn, wSs, wS, wE, wA, wL, wT, wO, wC, wI, q_bii, q_btt, q_bti, q_bss, q_bl1, q_bl2, q_bl3, q_iadd, q_isub, q_imul, q_imod, q_idiv, q_ipow, q_tadd, q_trep, q_sadd, q_ladd, q_lrep, q_lkl, q_lko, q_lrl, q_lro, q_lrs, q_lsl, q_lso, q_lss, q_lst, q_aii, q_att2, q_clt, q_cle, q_cgt, q_cge, q_ceq, q_cne, q_cin, q_cni, q_cis, q_cin', q_eii, q_ebb, q_ess, q_tb, q_ti, q_tn, q_tt, q_tl, q_to, q_tc, q_int, q_inb, q_lnt, q_lnl, q_lnc, q_min, q_max, q_abs, q_tpt, q_tpl, q_lil, q_lit, q_sum, q_any, q_all, q_repr, q_fzi, q_fzb, q_fzs, q_fzn, q_fzt, q_fzl, q_fzo, q_fzc, q_fzr, q_fzf, q_ski, q_skb, q_sks, q_skn, q_skt, q_skl, q_sko, q_skf, q_ani, q_anb, q_ans, q_ann, q_ant, q_anl, q_ano, q_att, q_atl, q_ato, q_ri, q_rb, q_rs, q_rn, q_rt, q_rl, q_ro, q_rc, q_ixt, q_ixl, q_ixo, q_slt, q_sll, q_wt, q_r1, q_r2, List.map_cons, List.map_nil, List.cons_append, List.nil_append, List.replicate, List.getElem?_cons_zero, List.getElem?_cons_succ, List.set_cons_zero, List.set_cons_succ, Option.some.injEq, exists_eq_left', List.length_cons, List.length_nil, Bool.not_true, Bool.not_false, List.zip_cons_cons, List.zip_nil_right, List.foldl_cons, List.foldl_nil, true_and, and_true, if_true, if_false, Bool.false_eq_true, D.own.injEq, D.int.injEq, D.tup.injEq, D.lst.injEq, D.cell.injEq, D.bl.injEq, D.str.injEq, D.scr.injEq]
    refine hI _ _ _ _ ⟨k, w1, t1, b, rfl, r1, l2, by omega, ?_⟩
    simp only [wFn, wSs, wS, wE, wA, wL, wT, wO, wC, wI, q_bii, q_btt, q_bti, q_bss, q_bl1, q_bl2, q_bl3, q_iadd, q_isub, q_imul, q_imod, q_idiv, q_ipow, q_tadd, q_trep, q_sadd, q_ladd, q_lrep, q_lkl, q_lko, q_lrl, q_lro, q_lrs, q_lsl, q_lso, q_lss, q_lst, q_aii, q_att2, q_clt, q_cle, q_cgt, q_cge, q_ceq, q_cne, q_cin, q_cni, q_cis, q_cin', q_eii, q_ebb, q_ess, q_tb, q_ti, q_tn, q_tt, q_tl, q_to, q_tc, q_int, q_inb, q_lnt, q_lnl, q_lnc, q_min, q_max, q_abs, q_tpt, q_tpl, q_lil, q_lit, q_sum, q_any, q_all, q_repr, q_fzi, q_fzb, q_fzs, q_fzn, q_fzt, q_fzl, q_fzo, q_fzc, q_fzr, q_fzf, q_ski, q_skb, q_sks, q_skn, q_skt, q_skl, q_sko, q_skf, q_ani, q_anb, q_ans, q_ann, q_ant, q_anl, q_ano, q_att, q_atl, q_ato, q_ri, q_rb, q_rs, q_rn, q_rt, q_rl, q_ro, q_rc, q_ixt, q_ixl, q_ixo, q_slt, q_sll, q_wt, q_r1, q_r2, List.map_cons, List.map_nil, List.cons_append, List.nil_append, List.replicate, List.getElem?_cons_zero, List.getElem?_cons_succ, List.set_cons_zero, List.set_cons_succ, Option.some.injEq, exists_eq_left', List.length_cons, List.length_nil, Bool.not_true, Bool.not_false, List.zip_cons_cons, List.zip_nil_right, List.foldl_cons, List.foldl_nil, true_and, and_true, if_true, if_false, Bool.false_eq_true, D.own.injEq, D.int.injEq, D.tup.injEq, D.lst.injEq, D.cell.injEq, D.bl.injEq, D.str.injEq, D.scr.injEq]
    refine hV _ _ _ _ ⟨k, w2, t2, img k w1 t1 b, rfl, r2, img_st r1 b, by rw [img_len]; omega, ?_⟩
    simp only [intsOf_map, Option.getD_some] at hK
    exact ⟨rfl, hK⟩
  · have eq : ((wds k (w1 + w2 - 1)).map tI).map (fun d => match d with | .tup xs => .int (val k t2 (img k w1 t1 ((intsOf xs).getD []))) | d => d) = (cmp2 k w1 t1 w2 t2).map D.int := by
      unfold cmp2
      rw [List.map_map, List.map_map]
      apply List.map_congr_left
      intro b _
      simp only [Function.comp_apply, intsOf_map, Option.getD_some]
    rw [eq]
    exact ⟨by omega, tkQ (h1 hb)⟩
theorem pu_then (hW : ∀ ds c Q E, spWords ds c Q E → Γ "_law_words" ds c Q E) (hI : ∀ ds c Q E, spImage ds c Q E → Γ "_law_image" ds c Q E) :
    ∀ ds c Q E, spThen ds c Q E → wFn Γ sub kind ir_law_then ds c Q E := by
  rintro _ c Q E ⟨k, w1, w2, t1, t2, rfl, r1, r2, hb, h⟩
  have a1 := r1.w1
  have a2 := r2.w1
  have b1 := r1.w256
  have b2 := r2.w256
  have hk := r1.k2
  have hk4 := r1.k4
  have hs : (200000 : Nat) ≤ sizeLine := by decide
  simp only [ir_law_then, wFn, wSs, wS, wE, wA, wL, wT, wO, wC, wI, q_bii, q_btt, q_bti, q_bss, q_bl1, q_bl2, q_bl3, q_iadd, q_isub, q_imul, q_imod, q_idiv, q_ipow, q_tadd, q_trep, q_sadd, q_ladd, q_lrep, q_lkl, q_lko, q_lrl, q_lro, q_lrs, q_lsl, q_lso, q_lss, q_lst, q_aii, q_att2, q_clt, q_cle, q_cgt, q_cge, q_ceq, q_cne, q_cin, q_cni, q_cis, q_cin', q_eii, q_ebb, q_ess, q_tb, q_ti, q_tn, q_tt, q_tl, q_to, q_tc, q_int, q_inb, q_lnt, q_lnl, q_lnc, q_min, q_max, q_abs, q_tpt, q_tpl, q_lil, q_lit, q_sum, q_any, q_all, q_repr, q_fzi, q_fzb, q_fzs, q_fzn, q_fzt, q_fzl, q_fzo, q_fzc, q_fzr, q_fzf, q_ski, q_skb, q_sks, q_skn, q_skt, q_skl, q_sko, q_skf, q_ani, q_anb, q_ans, q_ann, q_ant, q_anl, q_ano, q_att, q_atl, q_ato, q_ri, q_rb, q_rs, q_rn, q_rt, q_rl, q_ro, q_rc, q_ixt, q_ixl, q_ixo, q_slt, q_sll, q_wt, q_r1, q_r2, List.map_cons, List.map_nil, List.cons_append, List.nil_append, List.replicate, List.getElem?_cons_zero, List.getElem?_cons_succ, List.set_cons_zero, List.set_cons_succ, Option.some.injEq, exists_eq_left', List.length_cons, List.length_nil, Bool.not_true, Bool.not_false, List.zip_cons_cons, List.zip_nil_right, List.foldl_cons, List.foldl_nil, true_and, and_true, if_true, if_false, Bool.false_eq_true, D.own.injEq, D.int.injEq, D.tup.injEq, D.lst.injEq, D.cell.injEq, D.bl.injEq, D.str.injEq, D.scr.injEq]
  refine ⟨.int w1, rfl, .int w2, rfl, ?_⟩
  simp only [wFn, wSs, wS, wE, wA, wL, wT, wO, wC, wI, q_bii, q_btt, q_bti, q_bss, q_bl1, q_bl2, q_bl3, q_iadd, q_isub, q_imul, q_imod, q_idiv, q_ipow, q_tadd, q_trep, q_sadd, q_ladd, q_lrep, q_lkl, q_lko, q_lrl, q_lro, q_lrs, q_lsl, q_lso, q_lss, q_lst, q_aii, q_att2, q_clt, q_cle, q_cgt, q_cge, q_ceq, q_cne, q_cin, q_cni, q_cis, q_cin', q_eii, q_ebb, q_ess, q_tb, q_ti, q_tn, q_tt, q_tl, q_to, q_tc, q_int, q_inb, q_lnt, q_lnl, q_lnc, q_min, q_max, q_abs, q_tpt, q_tpl, q_lil, q_lit, q_sum, q_any, q_all, q_repr, q_fzi, q_fzb, q_fzs, q_fzn, q_fzt, q_fzl, q_fzo, q_fzc, q_fzr, q_fzf, q_ski, q_skb, q_sks, q_skn, q_skt, q_skl, q_sko, q_skf, q_ani, q_anb, q_ans, q_ann, q_ant, q_anl, q_ano, q_att, q_atl, q_ato, q_ri, q_rb, q_rs, q_rn, q_rt, q_rl, q_ro, q_rc, q_ixt, q_ixl, q_ixo, q_slt, q_sll, q_wt, q_r1, q_r2, List.map_cons, List.map_nil, List.cons_append, List.nil_append, List.replicate, List.getElem?_cons_zero, List.getElem?_cons_succ, List.set_cons_zero, List.set_cons_succ, Option.some.injEq, exists_eq_left', List.length_cons, List.length_nil, Bool.not_true, Bool.not_false, List.zip_cons_cons, List.zip_nil_right, List.foldl_cons, List.foldl_nil, true_and, and_true, if_true, if_false, Bool.false_eq_true, D.own.injEq, D.int.injEq, D.tup.injEq, D.lst.injEq, D.cell.injEq, D.bl.injEq, D.str.injEq, D.scr.injEq]
  have e : (w1 : Int) + (w2 : Int) - 1 = ((w1 + w2 - 1 : Nat) : Int) := by omega
  rw [e]
  refine ⟨.int k, rfl, ?_⟩
  simp only [wFn, wSs, wS, wE, wA, wL, wT, wO, wC, wI, q_bii, q_btt, q_bti, q_bss, q_bl1, q_bl2, q_bl3, q_iadd, q_isub, q_imul, q_imod, q_idiv, q_ipow, q_tadd, q_trep, q_sadd, q_ladd, q_lrep, q_lkl, q_lko, q_lrl, q_lro, q_lrs, q_lsl, q_lso, q_lss, q_lst, q_aii, q_att2, q_clt, q_cle, q_cgt, q_cge, q_ceq, q_cne, q_cin, q_cni, q_cis, q_cin', q_eii, q_ebb, q_ess, q_tb, q_ti, q_tn, q_tt, q_tl, q_to, q_tc, q_int, q_inb, q_lnt, q_lnl, q_lnc, q_min, q_max, q_abs, q_tpt, q_tpl, q_lil, q_lit, q_sum, q_any, q_all, q_repr, q_fzi, q_fzb, q_fzs, q_fzn, q_fzt, q_fzl, q_fzo, q_fzc, q_fzr, q_fzf, q_ski, q_skb, q_sks, q_skn, q_skt, q_skl, q_sko, q_skf, q_ani, q_anb, q_ans, q_ann, q_ant, q_anl, q_ano, q_att, q_atl, q_ato, q_ri, q_rb, q_rs, q_rn, q_rt, q_rl, q_ro, q_rc, q_ixt, q_ixl, q_ixo, q_slt, q_sll, q_wt, q_r1, q_r2, List.map_cons, List.map_nil, List.cons_append, List.nil_append, List.replicate, List.getElem?_cons_zero, List.getElem?_cons_succ, List.set_cons_zero, List.set_cons_succ, Option.some.injEq, exists_eq_left', List.length_cons, List.length_nil, Bool.not_true, Bool.not_false, List.zip_cons_cons, List.zip_nil_right, List.foldl_cons, List.foldl_nil, true_and, and_true, if_true, if_false, Bool.false_eq_true, D.own.injEq, D.int.injEq, D.tup.injEq, D.lst.injEq, D.cell.injEq, D.bl.injEq, D.str.injEq, D.scr.injEq]
  refine ⟨.int k, rfl, ?_⟩
  simp only [wFn, wSs, wS, wE, wA, wL, wT, wO, wC, wI, q_bii, q_btt, q_bti, q_bss, q_bl1, q_bl2, q_bl3, q_iadd, q_isub, q_imul, q_imod, q_idiv, q_ipow, q_tadd, q_trep, q_sadd, q_ladd, q_lrep, q_lkl, q_lko, q_lrl, q_lro, q_lrs, q_lsl, q_lso, q_lss, q_lst, q_aii, q_att2, q_clt, q_cle, q_cgt, q_cge, q_ceq, q_cne, q_cin, q_cni, q_cis, q_cin', q_eii, q_ebb, q_ess, q_tb, q_ti, q_tn, q_tt, q_tl, q_to, q_tc, q_int, q_inb, q_lnt, q_lnl, q_lnc, q_min, q_max, q_abs, q_tpt, q_tpl, q_lil, q_lit, q_sum, q_any, q_all, q_repr, q_fzi, q_fzb, q_fzs, q_fzn, q_fzt, q_fzl, q_fzo, q_fzc, q_fzr, q_fzf, q_ski, q_skb, q_sks, q_skn, q_skt, q_skl, q_sko, q_skf, q_ani, q_anb, q_ans, q_ann, q_ant, q_anl, q_ano, q_att, q_atl, q_ato, q_ri, q_rb, q_rs, q_rn, q_rt, q_rl, q_ro, q_rc, q_ixt, q_ixl, q_ixo, q_slt, q_sll, q_wt, q_r1, q_r2, List.map_cons, List.map_nil, List.cons_append, List.nil_append, List.replicate, List.getElem?_cons_zero, List.getElem?_cons_succ, List.set_cons_zero, List.set_cons_succ, Option.some.injEq, exists_eq_left', List.length_cons, List.length_nil, Bool.not_true, Bool.not_false, List.zip_cons_cons, List.zip_nil_right, List.foldl_cons, List.foldl_nil, true_and, and_true, if_true, if_false, Bool.false_eq_true, D.own.injEq, D.int.injEq, D.tup.injEq, D.lst.injEq, D.cell.injEq, D.bl.injEq, D.str.injEq, D.scr.injEq]
  refine hW _ _ _ _ ⟨k, w1 + w2 - 1, rfl, by omega, by omega, by omega, by omega, ?_⟩
  refine ⟨_, rfl, by rw [List.length_map, wds_len]; omega, ?_⟩
  refine lc_map (f := fun d => match d with | .tup xs => .int (val k t2 (img k w1 t1 ((intsOf xs).getD []))) | d => d) rfl (fun x hx K hK => ?_) ?_
  · obtain ⟨b, hb1, rfl⟩ := List.mem_map.mp hx
    obtain ⟨l1, l2⟩ := wds_mem k _ b hb1
    unfold lcTurn
    simp only [wipeD, wFn, wSs, wS, wE, wA, wL, wT, wO, wC, wI, q_bii, q_btt, q_bti, q_bss, q_bl1, q_bl2, q_bl3, q_iadd, q_isub, q_imul, q_imod, q_idiv, q_ipow, q_tadd, q_trep, q_sadd, q_ladd, q_lrep, q_lkl, q_lko, q_lrl, q_lro, q_lrs, q_lsl, q_lso, q_lss, q_lst, q_aii, q_att2, q_clt, q_cle, q_cgt, q_cge, q_ceq, q_cne, q_cin, q_cni, q_cis, q_cin', q_eii, q_ebb, q_ess, q_tb, q_ti, q_tn, q_tt, q_tl, q_to, q_tc, q_int, q_inb, q_lnt, q_lnl, q_lnc, q_min, q_max, q_abs, q_tpt, q_tpl, q_lil, q_lit, q_sum, q_any, q_all, q_repr, q_fzi, q_fzb, q_fzs, q_fzn, q_fzt, q_fzl, q_fzo, q_fzc, q_fzr, q_fzf, q_ski, q_skb, q_sks, q_skn, q_skt, q_skl, q_sko, q_skf, q_ani, q_anb, q_ans, q_ann, q_ant, q_anl, q_ano, q_att, q_atl, q_ato, q_ri, q_rb, q_rs, q_rn, q_rt, q_rl, q_ro, q_rc, q_ixt, q_ixl, q_ixo, q_slt, q_sll, q_wt, q_r1, q_r2, List.map_cons, List.map_nil, List.cons_append, List.nil_append, List.replicate, List.getElem?_cons_zero, List.getElem?_cons_succ, List.set_cons_zero, List.set_cons_succ, Option.some.injEq, exists_eq_left', List.length_cons, List.length_nil, Bool.not_true, Bool.not_false, List.zip_cons_cons, List.zip_nil_right, List.foldl_cons, List.foldl_nil, true_and, and_true, if_true, if_false, Bool.false_eq_true, D.own.injEq, D.int.injEq, D.tup.injEq, D.lst.injEq, D.cell.injEq, D.bl.injEq, D.str.injEq, D.scr.injEq]
    refine hI _ _ _ _ ⟨k, w1, t1, b, rfl, r1, l2, by omega, ?_⟩
    simp only [wFn, wSs, wS, wE, wA, wL, wT, wO, wC, wI, q_bii, q_btt, q_bti, q_bss, q_bl1, q_bl2, q_bl3, q_iadd, q_isub, q_imul, q_imod, q_idiv, q_ipow, q_tadd, q_trep, q_sadd, q_ladd, q_lrep, q_lkl, q_lko, q_lrl, q_lro, q_lrs, q_lsl, q_lso, q_lss, q_lst, q_aii, q_att2, q_clt, q_cle, q_cgt, q_cge, q_ceq, q_cne, q_cin, q_cni, q_cis, q_cin', q_eii, q_ebb, q_ess, q_tb, q_ti, q_tn, q_tt, q_tl, q_to, q_tc, q_int, q_inb, q_lnt, q_lnl, q_lnc, q_min, q_max, q_abs, q_tpt, q_tpl, q_lil, q_lit, q_sum, q_any, q_all, q_repr, q_fzi, q_fzb, q_fzs, q_fzn, q_fzt, q_fzl, q_fzo, q_fzc, q_fzr, q_fzf, q_ski, q_skb, q_sks, q_skn, q_skt, q_skl, q_sko, q_skf, q_ani, q_anb, q_ans, q_ann, q_ant, q_anl, q_ano, q_att, q_atl, q_ato, q_ri, q_rb, q_rs, q_rn, q_rt, q_rl, q_ro, q_rc, q_ixt, q_ixl, q_ixo, q_slt, q_sll, q_wt, q_r1, q_r2, List.map_cons, List.map_nil, List.cons_append, List.nil_append, List.replicate, List.getElem?_cons_zero, List.getElem?_cons_succ, List.set_cons_zero, List.set_cons_succ, Option.some.injEq, exists_eq_left', List.length_cons, List.length_nil, Bool.not_true, Bool.not_false, List.zip_cons_cons, List.zip_nil_right, List.foldl_cons, List.foldl_nil, true_and, and_true, if_true, if_false, Bool.false_eq_true, D.own.injEq, D.int.injEq, D.tup.injEq, D.lst.injEq, D.cell.injEq, D.bl.injEq, D.str.injEq, D.scr.injEq]
    refine hI _ _ _ _ ⟨k, w2, t2, img k w1 t1 b, rfl, r2, img_st r1 b, by rw [img_len]; omega, ?_⟩
    rw [val_img1 (by rw [img_len]; omega) a2]
    simp only [intsOf_map, Option.getD_some] at hK
    exact ⟨_, 0, _, rfl, rfl, rfl, rfl, hK⟩
  · have eq : ((wds k (w1 + w2 - 1)).map tI).map (fun d => match d with | .tup xs => .int (val k t2 (img k w1 t1 ((intsOf xs).getD []))) | d => d) = (cmp2 k w1 t1 w2 t2).map D.int := by
      unfold cmp2
      rw [List.map_map, List.map_map]
      apply List.map_congr_left
      intro b _
      simp only [Function.comp_apply, intsOf_map, Option.getD_some]
    rw [eq]
    exact ⟨by omega, tkQ h⟩
theorem pu_pow_of (hE : ∀ ds c Q E, spEntries ds c Q E → Γ "entries_for" ds c Q E) (hS : ∀ ds c Q E, spStill ds c Q E → Γ "still" ds c Q E) (hC : ∀ ds c Q E, spCompOf ds c Q E → Γ "composed_of" ds c Q E) :
    ∀ ds c Q E, spPowOf ds c Q E → wFn Γ sub kind ir_power_of ds c Q E := by
  rintro _ c Q E ⟨k, w, n, t, rfl, hn, r, h1, h2⟩
  have a1 := r.w1
  have b1 := r.w256
  have hk := r.k2
  have hk4 := r.k4
  simp only [ir_power_of, wFn, wSs, wS, wE, wA, wL, wT, wO, wC, wI, q_bii, q_btt, q_bti, q_bss, q_bl1, q_bl2, q_bl3, q_iadd, q_isub, q_imul, q_imod, q_idiv, q_ipow, q_tadd, q_trep, q_sadd, q_ladd, q_lrep, q_lkl, q_lko, q_lrl, q_lro, q_lrs, q_lsl, q_lso, q_lss, q_lst, q_aii, q_att2, q_clt, q_cle, q_cgt, q_cge, q_ceq, q_cne, q_cin, q_cni, q_cis, q_cin', q_eii, q_ebb, q_ess, q_tb, q_ti, q_tn, q_tt, q_tl, q_to, q_tc, q_int, q_inb, q_lnt, q_lnl, q_lnc, q_min, q_max, q_abs, q_tpt, q_tpl, q_lil, q_lit, q_sum, q_any, q_all, q_repr, q_fzi, q_fzb, q_fzs, q_fzn, q_fzt, q_fzl, q_fzo, q_fzc, q_fzr, q_fzf, q_ski, q_skb, q_sks, q_skn, q_skt, q_skl, q_sko, q_skf, q_ani, q_anb, q_ans, q_ann, q_ant, q_anl, q_ano, q_att, q_atl, q_ato, q_ri, q_rb, q_rs, q_rn, q_rt, q_rl, q_ro, q_rc, q_ixt, q_ixl, q_ixo, q_slt, q_sll, q_wt, q_r1, q_r2, List.map_cons, List.map_nil, List.cons_append, List.nil_append, List.replicate, List.getElem?_cons_zero, List.getElem?_cons_succ, List.set_cons_zero, List.set_cons_succ, Option.some.injEq, exists_eq_left', List.length_cons, List.length_nil, Bool.not_true, Bool.not_false, List.zip_cons_cons, List.zip_nil_right, List.foldl_cons, List.foldl_nil, true_and, and_true, if_true, if_false, Bool.false_eq_true, D.own.injEq, D.int.injEq, D.tup.injEq, D.lst.injEq, D.cell.injEq, D.bl.injEq, D.str.injEq, D.scr.injEq]
  refine ⟨.int k, rfl, .int w, rfl, ?_⟩
  simp only [wFn, wSs, wS, wE, wA, wL, wT, wO, wC, wI, q_bii, q_btt, q_bti, q_bss, q_bl1, q_bl2, q_bl3, q_iadd, q_isub, q_imul, q_imod, q_idiv, q_ipow, q_tadd, q_trep, q_sadd, q_ladd, q_lrep, q_lkl, q_lko, q_lrl, q_lro, q_lrs, q_lsl, q_lso, q_lss, q_lst, q_aii, q_att2, q_clt, q_cle, q_cgt, q_cge, q_ceq, q_cne, q_cin, q_cni, q_cis, q_cin', q_eii, q_ebb, q_ess, q_tb, q_ti, q_tn, q_tt, q_tl, q_to, q_tc, q_int, q_inb, q_lnt, q_lnl, q_lnc, q_min, q_max, q_abs, q_tpt, q_tpl, q_lil, q_lit, q_sum, q_any, q_all, q_repr, q_fzi, q_fzb, q_fzs, q_fzn, q_fzt, q_fzl, q_fzo, q_fzc, q_fzr, q_fzf, q_ski, q_skb, q_sks, q_skn, q_skt, q_skl, q_sko, q_skf, q_ani, q_anb, q_ans, q_ann, q_ant, q_anl, q_ano, q_att, q_atl, q_ato, q_ri, q_rb, q_rs, q_rn, q_rt, q_rl, q_ro, q_rc, q_ixt, q_ixl, q_ixo, q_slt, q_sll, q_wt, q_r1, q_r2, List.map_cons, List.map_nil, List.cons_append, List.nil_append, List.replicate, List.getElem?_cons_zero, List.getElem?_cons_succ, List.set_cons_zero, List.set_cons_succ, Option.some.injEq, exists_eq_left', List.length_cons, List.length_nil, Bool.not_true, Bool.not_false, List.zip_cons_cons, List.zip_nil_right, List.foldl_cons, List.foldl_nil, true_and, and_true, if_true, if_false, Bool.false_eq_true, D.own.injEq, D.int.injEq, D.tup.injEq, D.lst.injEq, D.cell.injEq, D.bl.injEq, D.str.injEq, D.scr.injEq]
  have e : (n : Int) * ((w : Int) - 1) + 1 = ((n * (w - 1) + 1 : Nat) : Int) := by push_cast [a1]; omega
  rw [e]
  refine ⟨by unfold L2.CMul; omega, hE _ _ _ _ ⟨k, n * (w - 1) + 1, rfl, by omega, by omega, ?_⟩⟩
  simp only [wFn, wSs, wS, wE, wA, wL, wT, wO, wC, wI, q_bii, q_btt, q_bti, q_bss, q_bl1, q_bl2, q_bl3, q_iadd, q_isub, q_imul, q_imod, q_idiv, q_ipow, q_tadd, q_trep, q_sadd, q_ladd, q_lrep, q_lkl, q_lko, q_lrl, q_lro, q_lrs, q_lsl, q_lso, q_lss, q_lst, q_aii, q_att2, q_clt, q_cle, q_cgt, q_cge, q_ceq, q_cne, q_cin, q_cni, q_cis, q_cin', q_eii, q_ebb, q_ess, q_tb, q_ti, q_tn, q_tt, q_tl, q_to, q_tc, q_int, q_inb, q_lnt, q_lnl, q_lnc, q_min, q_max, q_abs, q_tpt, q_tpl, q_lil, q_lit, q_sum, q_any, q_all, q_repr, q_fzi, q_fzb, q_fzs, q_fzn, q_fzt, q_fzl, q_fzo, q_fzc, q_fzr, q_fzf, q_ski, q_skb, q_sks, q_skn, q_skt, q_skl, q_sko, q_skf, q_ani, q_anb, q_ans, q_ann, q_ant, q_anl, q_ano, q_att, q_atl, q_ato, q_ri, q_rb, q_rs, q_rn, q_rt, q_rl, q_ro, q_rc, q_ixt, q_ixl, q_ixo, q_slt, q_sll, q_wt, q_r1, q_r2, List.map_cons, List.map_nil, List.cons_append, List.nil_append, List.replicate, List.getElem?_cons_zero, List.getElem?_cons_succ, List.set_cons_zero, List.set_cons_succ, Option.some.injEq, exists_eq_left', List.length_cons, List.length_nil, Bool.not_true, Bool.not_false, List.zip_cons_cons, List.zip_nil_right, List.foldl_cons, List.foldl_nil, true_and, and_true, if_true, if_false, Bool.false_eq_true, D.own.injEq, D.int.injEq, D.tup.injEq, D.lst.injEq, D.cell.injEq, D.bl.injEq, D.str.injEq, D.scr.injEq]
  refine iteB (fun z => tkE (h2 (by simp at z; omega))) fun z => ?_
  have hb : k ^ (n * (w - 1) + 1) ≤ 256 := by simp at z; omega
  refine ⟨.int k, rfl, ?_⟩
  simp only [wFn, wSs, wS, wE, wA, wL, wT, wO, wC, wI, q_bii, q_btt, q_bti, q_bss, q_bl1, q_bl2, q_bl3, q_iadd, q_isub, q_imul, q_imod, q_idiv, q_ipow, q_tadd, q_trep, q_sadd, q_ladd, q_lrep, q_lkl, q_lko, q_lrl, q_lro, q_lrs, q_lsl, q_lso, q_lss, q_lst, q_aii, q_att2, q_clt, q_cle, q_cgt, q_cge, q_ceq, q_cne, q_cin, q_cni, q_cis, q_cin', q_eii, q_ebb, q_ess, q_tb, q_ti, q_tn, q_tt, q_tl, q_to, q_tc, q_int, q_inb, q_lnt, q_lnl, q_lnc, q_min, q_max, q_abs, q_tpt, q_tpl, q_lil, q_lit, q_sum, q_any, q_all, q_repr, q_fzi, q_fzb, q_fzs, q_fzn, q_fzt, q_fzl, q_fzo, q_fzc, q_fzr, q_fzf, q_ski, q_skb, q_sks, q_skn, q_skt, q_skl, q_sko, q_skf, q_ani, q_anb, q_ans, q_ann, q_ant, q_anl, q_ano, q_att, q_atl, q_ato, q_ri, q_rb, q_rs, q_rn, q_rt, q_rl, q_ro, q_rc, q_ixt, q_ixl, q_ixo, q_slt, q_sll, q_wt, q_r1, q_r2, List.map_cons, List.map_nil, List.cons_append, List.nil_append, List.replicate, List.getElem?_cons_zero, List.getElem?_cons_succ, List.set_cons_zero, List.set_cons_succ, Option.some.injEq, exists_eq_left', List.length_cons, List.length_nil, Bool.not_true, Bool.not_false, List.zip_cons_cons, List.zip_nil_right, List.foldl_cons, List.foldl_nil, true_and, and_true, if_true, if_false, Bool.false_eq_true, D.own.injEq, D.int.injEq, D.tup.injEq, D.lst.injEq, D.cell.injEq, D.bl.injEq, D.str.injEq, D.scr.injEq]
  refine hS _ _ _ _ ⟨k, rfl, by omega, ?_⟩
  simp only [wFn, wSs, wS, wE, wA, wL, wT, wO, wC, wI, q_bii, q_btt, q_bti, q_bss, q_bl1, q_bl2, q_bl3, q_iadd, q_isub, q_imul, q_imod, q_idiv, q_ipow, q_tadd, q_trep, q_sadd, q_ladd, q_lrep, q_lkl, q_lko, q_lrl, q_lro, q_lrs, q_lsl, q_lso, q_lss, q_lst, q_aii, q_att2, q_clt, q_cle, q_cgt, q_cge, q_ceq, q_cne, q_cin, q_cni, q_cis, q_cin', q_eii, q_ebb, q_ess, q_tb, q_ti, q_tn, q_tt, q_tl, q_to, q_tc, q_int, q_inb, q_lnt, q_lnl, q_lnc, q_min, q_max, q_abs, q_tpt, q_tpl, q_lil, q_lit, q_sum, q_any, q_all, q_repr, q_fzi, q_fzb, q_fzs, q_fzn, q_fzt, q_fzl, q_fzo, q_fzc, q_fzr, q_fzf, q_ski, q_skb, q_sks, q_skn, q_skt, q_skl, q_sko, q_skf, q_ani, q_anb, q_ans, q_ann, q_ant, q_anl, q_ano, q_att, q_atl, q_ato, q_ri, q_rb, q_rs, q_rn, q_rt, q_rl, q_ro, q_rc, q_ixt, q_ixl, q_ixo, q_slt, q_sll, q_wt, q_r1, q_r2, List.map_cons, List.map_nil, List.cons_append, List.nil_append, List.replicate, List.getElem?_cons_zero, List.getElem?_cons_succ, List.set_cons_zero, List.set_cons_succ, Option.some.injEq, exists_eq_left', List.length_cons, List.length_nil, Bool.not_true, Bool.not_false, List.zip_cons_cons, List.zip_nil_right, List.foldl_cons, List.foldl_nil, true_and, and_true, if_true, if_false, Bool.false_eq_true, D.own.injEq, D.int.injEq, D.tup.injEq, D.lst.injEq, D.cell.injEq, D.bl.injEq, D.str.injEq, D.scr.injEq]
  refine ⟨by unfold RgI; omega, ?_⟩
  refine forGo_ind (I := fun q σ c' => ∃ (m : Nat) (t3 : Option D), m + q.length = n ∧ c = c' ∧ (∀ x ∈ q, ∃ i, x = .int i) ∧ σ = [some (ruleD k w t), some (.int n), some (ruleD k (m * (w - 1) + 1 : Nat) (pwr k w t m)), t3]) ?_ ?_ _ _ _
    ⟨0, none, by simp [rngL], rfl, fun x hx => by obtain ⟨i, _, rfl⟩ := rng_mem hx; exact ⟨_, rfl⟩, by simp [pwr]⟩
  · rintro σ c' ⟨m, t3, hm, rfl, _, rfl⟩
    have : m = n := by simpa using hm
    subst this
    simp only [wFn, wSs, wS, wE, wA, wL, wT, wO, wC, wI, q_bii, q_btt, q_bti, q_bss, q_bl1, q_bl2, q_bl3, q_iadd, q_isub, q_imul, q_imod, q_idiv, q_ipow, q_tadd, q_trep, q_sadd, q_ladd, q_lrep, q_lkl, q_lko, q_lrl, q_lro, q_lrs, q_lsl, q_lso, q_lss, q_lst, q_aii, q_att2, q_clt, q_cle, q_cgt, q_cge, q_ceq, q_cne, q_cin, q_cni, q_cis, q_cin', q_eii, q_ebb, q_ess, q_tb, q_ti, q_tn, q_tt, q_tl, q_to, q_tc, q_int, q_inb, q_lnt, q_lnl, q_lnc, q_min, q_max, q_abs, q_tpt, q_tpl, q_lil, q_lit, q_sum, q_any, q_all, q_repr, q_fzi, q_fzb, q_fzs, q_fzn, q_fzt, q_fzl, q_fzo, q_fzc, q_fzr, q_fzf, q_ski, q_skb, q_sks, q_skn, q_skt, q_skl, q_sko, q_skf, q_ani, q_anb, q_ans, q_ann, q_ant, q_anl, q_ano, q_att, q_atl, q_ato, q_ri, q_rb, q_rs, q_rn, q_rt, q_rl, q_ro, q_rc, q_ixt, q_ixl, q_ixo, q_slt, q_sll, q_wt, q_r1, q_r2, List.map_cons, List.map_nil, List.cons_append, List.nil_append, List.replicate, List.getElem?_cons_zero, List.getElem?_cons_succ, List.set_cons_zero, List.set_cons_succ, Option.some.injEq, exists_eq_left', List.length_cons, List.length_nil, Bool.not_true, Bool.not_false, List.zip_cons_cons, List.zip_nil_right, List.foldl_cons, List.foldl_nil, true_and, and_true, if_true, if_false, Bool.false_eq_true, D.own.injEq, D.int.injEq, D.tup.injEq, D.lst.injEq, D.cell.injEq, D.bl.injEq, D.str.injEq, D.scr.injEq]
    exact tkQ (h1 hb)
  · rintro x q σ c' R ⟨m, t3, hm, rfl, hx, rfl⟩ hR
    obtain ⟨i, rfl⟩ := hx x (by simp)
    simp only [List.length_cons] at hm
    simp only [wFn, wSs, wS, wE, wA, wL, wT, wO, wC, wI, q_bii, q_btt, q_bti, q_bss, q_bl1, q_bl2, q_bl3, q_iadd, q_isub, q_imul, q_imod, q_idiv, q_ipow, q_tadd, q_trep, q_sadd, q_ladd, q_lrep, q_lkl, q_lko, q_lrl, q_lro, q_lrs, q_lsl, q_lso, q_lss, q_lst, q_aii, q_att2, q_clt, q_cle, q_cgt, q_cge, q_ceq, q_cne, q_cin, q_cni, q_cis, q_cin', q_eii, q_ebb, q_ess, q_tb, q_ti, q_tn, q_tt, q_tl, q_to, q_tc, q_int, q_inb, q_lnt, q_lnl, q_lnc, q_min, q_max, q_abs, q_tpt, q_tpl, q_lil, q_lit, q_sum, q_any, q_all, q_repr, q_fzi, q_fzb, q_fzs, q_fzn, q_fzt, q_fzl, q_fzo, q_fzc, q_fzr, q_fzf, q_ski, q_skb, q_sks, q_skn, q_skt, q_skl, q_sko, q_skf, q_ani, q_anb, q_ans, q_ann, q_ant, q_anl, q_ano, q_att, q_atl, q_ato, q_ri, q_rb, q_rs, q_rn, q_rt, q_rl, q_ro, q_rc, q_ixt, q_ixl, q_ixo, q_slt, q_sll, q_wt, q_r1, q_r2, List.map_cons, List.map_nil, List.cons_append, List.nil_append, List.replicate, List.getElem?_cons_zero, List.getElem?_cons_succ, List.set_cons_zero, List.set_cons_succ, Option.some.injEq, exists_eq_left', List.length_cons, List.length_nil, Bool.not_true, Bool.not_false, List.zip_cons_cons, List.zip_nil_right, List.foldl_cons, List.foldl_nil, true_and, and_true, if_true, if_false, Bool.false_eq_true, D.own.injEq, D.int.injEq, D.tup.injEq, D.lst.injEq, D.cell.injEq, D.bl.injEq, D.str.injEq, D.scr.injEq]
    have e2 : (m + 1) * (w - 1) + 1 = m * (w - 1) + 1 + w - 1 := by rw [Nat.add_mul]; omega
    have hmn : (m + 1) * (w - 1) ≤ n * (w - 1) := Nat.mul_le_mul_right _ (by omega)
    have hb2 : k ^ ((m + 1) * (w - 1) + 1) ≤ 256 := Nat.le_trans (pow_le (by omega) (by omega)) hb
    have hb3 : k ^ (m * (w - 1) + 1) ≤ 256 := Nat.le_trans (pow_le (by omega) (by rw [Nat.add_mul] at hmn; omega)) hb
    refine hC _ _ _ _ ⟨k, m * (w - 1) + 1, w, pwr k w t m, t, rfl, pwr_rl r m hb3, r, fun _ => ?_, fun z => by rw [← e2] at z; omega⟩
    simp only [wFn, wSs, wS, wE, wA, wL, wT, wO, wC, wI, q_bii, q_btt, q_bti, q_bss, q_bl1, q_bl2, q_bl3, q_iadd, q_isub, q_imul, q_imod, q_idiv, q_ipow, q_tadd, q_trep, q_sadd, q_ladd, q_lrep, q_lkl, q_lko, q_lrl, q_lro, q_lrs, q_lsl, q_lso, q_lss, q_lst, q_aii, q_att2, q_clt, q_cle, q_cgt, q_cge, q_ceq, q_cne, q_cin, q_cni, q_cis, q_cin', q_eii, q_ebb, q_ess, q_tb, q_ti, q_tn, q_tt, q_tl, q_to, q_tc, q_int, q_inb, q_lnt, q_lnl, q_lnc, q_min, q_max, q_abs, q_tpt, q_tpl, q_lil, q_lit, q_sum, q_any, q_all, q_repr, q_fzi, q_fzb, q_fzs, q_fzn, q_fzt, q_fzl, q_fzo, q_fzc, q_fzr, q_fzf, q_ski, q_skb, q_sks, q_skn, q_skt, q_skl, q_sko, q_skf, q_ani, q_anb, q_ans, q_ann, q_ant, q_anl, q_ano, q_att, q_atl, q_ato, q_ri, q_rb, q_rs, q_rn, q_rt, q_rl, q_ro, q_rc, q_ixt, q_ixl, q_ixo, q_slt, q_sll, q_wt, q_r1, q_r2, List.map_cons, List.map_nil, List.cons_append, List.nil_append, List.replicate, List.getElem?_cons_zero, List.getElem?_cons_succ, List.set_cons_zero, List.set_cons_succ, Option.some.injEq, exists_eq_left', List.length_cons, List.length_nil, Bool.not_true, Bool.not_false, List.zip_cons_cons, List.zip_nil_right, List.foldl_cons, List.foldl_nil, true_and, and_true, if_true, if_false, Bool.false_eq_true, D.own.injEq, D.int.injEq, D.tup.injEq, D.lst.injEq, D.cell.injEq, D.bl.injEq, D.str.injEq, D.scr.injEq]
    rw [← e2]
    exact hR _ _ ⟨m + 1, _, by omega, rfl, fun y hy => hx y (by simp [hy]), rfl⟩
theorem pu_after (hW : ∀ ds c Q E, spCheckWord ds c Q E → Γ "check_word" ds c Q E) (hT : ∀ ds c Q E, spTurns ds c Q E → Γ "check_turns" ds c Q E) (hI : ∀ ds c Q E, spImage ds c Q E → Γ "image_of" ds c Q E) :
    ∀ ds c Q E, spAfter ds c Q E → wFn Γ sub kind ir_after ds c Q E := by
  rintro _ c Q E ⟨k, w, n, t, xs, rfl, l1, l2, h1, h2, h3, h4⟩
  simp only [ir_after, wFn, wSs, wS, wE, wA, wL, wT, wO, wC, wI, q_bii, q_btt, q_bti, q_bss, q_bl1, q_bl2, q_bl3, q_iadd, q_isub, q_imul, q_imod, q_idiv, q_ipow, q_tadd, q_trep, q_sadd, q_ladd, q_lrep, q_lkl, q_lko, q_lrl, q_lro, q_lrs, q_lsl, q_lso, q_lss, q_lst, q_aii, q_att2, q_clt, q_cle, q_cgt, q_cge, q_ceq, q_cne, q_cin, q_cni, q_cis, q_cin', q_eii, q_ebb, q_ess, q_tb, q_ti, q_tn, q_tt, q_tl, q_to, q_tc, q_int, q_inb, q_lnt, q_lnl, q_lnc, q_min, q_max, q_abs, q_tpt, q_tpl, q_lil, q_lit, q_sum, q_any, q_all, q_repr, q_fzi, q_fzb, q_fzs, q_fzn, q_fzt, q_fzl, q_fzo, q_fzc, q_fzr, q_fzf, q_ski, q_skb, q_sks, q_skn, q_skt, q_skl, q_sko, q_skf, q_ani, q_anb, q_ans, q_ann, q_ant, q_anl, q_ano, q_att, q_atl, q_ato, q_ri, q_rb, q_rs, q_rn, q_rt, q_rl, q_ro, q_rc, q_ixt, q_ixl, q_ixo, q_slt, q_sll, q_wt, q_r1, q_r2, List.map_cons, List.map_nil, List.cons_append, List.nil_append, List.replicate, List.getElem?_cons_zero, List.getElem?_cons_succ, List.set_cons_zero, List.set_cons_succ, Option.some.injEq, exists_eq_left', List.length_cons, List.length_nil, Bool.not_true, Bool.not_false, List.zip_cons_cons, List.zip_nil_right, List.foldl_cons, List.foldl_nil, true_and, and_true, if_true, if_false, Bool.false_eq_true, D.own.injEq, D.int.injEq, D.tup.injEq, D.lst.injEq, D.cell.injEq, D.bl.injEq, D.str.injEq, D.scr.injEq]
  refine hW _ _ _ _ ⟨k, w, t, xs, rfl, l1, by omega, fun a b => ?_, fun a b => tkE (h2 a b), fun a => tkE (h1 a)⟩
  refine hT _ _ _ _ ⟨n, rfl, fun d => ?_, fun d => tkE (h3 a b d)⟩
  obtain ⟨u, v, rfl, rfl, hr⟩ := isR_nat a
  obtain ⟨m, rfl⟩ : ∃ m : Nat, n = m := ⟨n.toNat, by omega⟩
  have hs := inR_st.mp b
  have q := h4 u v m rfl rfl rfl (by omega) hr hs
  refine ⟨by unfold RgI; omega, ?_⟩
  refine forGo_ind (I := fun r σ c' => ∃ (ys : List Int) (t4 : Option D), aft u v t r.length ys = aft u v t m xs ∧ St u ys ∧ ys.length ≤ 10000 ∧ c = c' ∧ (∀ x ∈ r, ∃ i, x = .int i) ∧ σ = [some (ruleD u v t), some (tI xs), some (.int m), some (tI ys), t4]) ?_ ?_ _ _ _
    ⟨xs, none, by simp [rngL], hs, l2, rfl, fun x hx => by obtain ⟨i, _, rfl⟩ := rng_mem hx; exact ⟨_, rfl⟩, rfl⟩
  · rintro σ c' ⟨ys, t4, he, _, _, rfl, _, rfl⟩
    simp only [wFn, wSs, wS, wE, wA, wL, wT, wO, wC, wI, q_bii, q_btt, q_bti, q_bss, q_bl1, q_bl2, q_bl3, q_iadd, q_isub, q_imul, q_imod, q_idiv, q_ipow, q_tadd, q_trep, q_sadd, q_ladd, q_lrep, q_lkl, q_lko, q_lrl, q_lro, q_lrs, q_lsl, q_lso, q_lss, q_lst, q_aii, q_att2, q_clt, q_cle, q_cgt, q_cge, q_ceq, q_cne, q_cin, q_cni, q_cis, q_cin', q_eii, q_ebb, q_ess, q_tb, q_ti, q_tn, q_tt, q_tl, q_to, q_tc, q_int, q_inb, q_lnt, q_lnl, q_lnc, q_min, q_max, q_abs, q_tpt, q_tpl, q_lil, q_lit, q_sum, q_any, q_all, q_repr, q_fzi, q_fzb, q_fzs, q_fzn, q_fzt, q_fzl, q_fzo, q_fzc, q_fzr, q_fzf, q_ski, q_skb, q_sks, q_skn, q_skt, q_skl, q_sko, q_skf, q_ani, q_anb, q_ans, q_ann, q_ant, q_anl, q_ano, q_att, q_atl, q_ato, q_ri, q_rb, q_rs, q_rn, q_rt, q_rl, q_ro, q_rc, q_ixt, q_ixl, q_ixo, q_slt, q_sll, q_wt, q_r1, q_r2, List.map_cons, List.map_nil, List.cons_append, List.nil_append, List.replicate, List.getElem?_cons_zero, List.getElem?_cons_succ, List.set_cons_zero, List.set_cons_succ, Option.some.injEq, exists_eq_left', List.length_cons, List.length_nil, Bool.not_true, Bool.not_false, List.zip_cons_cons, List.zip_nil_right, List.foldl_cons, List.foldl_nil, true_and, and_true, if_true, if_false, Bool.false_eq_true, D.own.injEq, D.int.injEq, D.tup.injEq, D.lst.injEq, D.cell.injEq, D.bl.injEq, D.str.injEq, D.scr.injEq]
    have he' : ys = aft u v t m xs := he
    rw [he']
    exact tkQ q
  · rintro x r σ c' R ⟨ys, t4, he, hst, hl, rfl, hx, rfl⟩ hR
    obtain ⟨i, rfl⟩ := hx x (by simp)
    simp only [wFn, wSs, wS, wE, wA, wL, wT, wO, wC, wI, q_bii, q_btt, q_bti, q_bss, q_bl1, q_bl2, q_bl3, q_iadd, q_isub, q_imul, q_imod, q_idiv, q_ipow, q_tadd, q_trep, q_sadd, q_ladd, q_lrep, q_lkl, q_lko, q_lrl, q_lro, q_lrs, q_lsl, q_lso, q_lss, q_lst, q_aii, q_att2, q_clt, q_cle, q_cgt, q_cge, q_ceq, q_cne, q_cin, q_cni, q_cis, q_cin', q_eii, q_ebb, q_ess, q_tb, q_ti, q_tn, q_tt, q_tl, q_to, q_tc, q_int, q_inb, q_lnt, q_lnl, q_lnc, q_min, q_max, q_abs, q_tpt, q_tpl, q_lil, q_lit, q_sum, q_any, q_all, q_repr, q_fzi, q_fzb, q_fzs, q_fzn, q_fzt, q_fzl, q_fzo, q_fzc, q_fzr, q_fzf, q_ski, q_skb, q_sks, q_skn, q_skt, q_skl, q_sko, q_skf, q_ani, q_anb, q_ans, q_ann, q_ant, q_anl, q_ano, q_att, q_atl, q_ato, q_ri, q_rb, q_rs, q_rn, q_rt, q_rl, q_ro, q_rc, q_ixt, q_ixl, q_ixo, q_slt, q_sll, q_wt, q_r1, q_r2, List.map_cons, List.map_nil, List.cons_append, List.nil_append, List.replicate, List.getElem?_cons_zero, List.getElem?_cons_succ, List.set_cons_zero, List.set_cons_succ, Option.some.injEq, exists_eq_left', List.length_cons, List.length_nil, Bool.not_true, Bool.not_false, List.zip_cons_cons, List.zip_nil_right, List.foldl_cons, List.foldl_nil, true_and, and_true, if_true, if_false, Bool.false_eq_true, D.own.injEq, D.int.injEq, D.tup.injEq, D.lst.injEq, D.cell.injEq, D.bl.injEq, D.str.injEq, D.scr.injEq]
    refine hI _ _ _ _ ⟨u, v, t, ys, rfl, hr, hst, by omega, ?_⟩
    simp only [wFn, wSs, wS, wE, wA, wL, wT, wO, wC, wI, q_bii, q_btt, q_bti, q_bss, q_bl1, q_bl2, q_bl3, q_iadd, q_isub, q_imul, q_imod, q_idiv, q_ipow, q_tadd, q_trep, q_sadd, q_ladd, q_lrep, q_lkl, q_lko, q_lrl, q_lro, q_lrs, q_lsl, q_lso, q_lss, q_lst, q_aii, q_att2, q_clt, q_cle, q_cgt, q_cge, q_ceq, q_cne, q_cin, q_cni, q_cis, q_cin', q_eii, q_ebb, q_ess, q_tb, q_ti, q_tn, q_tt, q_tl, q_to, q_tc, q_int, q_inb, q_lnt, q_lnl, q_lnc, q_min, q_max, q_abs, q_tpt, q_tpl, q_lil, q_lit, q_sum, q_any, q_all, q_repr, q_fzi, q_fzb, q_fzs, q_fzn, q_fzt, q_fzl, q_fzo, q_fzc, q_fzr, q_fzf, q_ski, q_skb, q_sks, q_skn, q_skt, q_skl, q_sko, q_skf, q_ani, q_anb, q_ans, q_ann, q_ant, q_anl, q_ano, q_att, q_atl, q_ato, q_ri, q_rb, q_rs, q_rn, q_rt, q_rl, q_ro, q_rc, q_ixt, q_ixl, q_ixo, q_slt, q_sll, q_wt, q_r1, q_r2, List.map_cons, List.map_nil, List.cons_append, List.nil_append, List.replicate, List.getElem?_cons_zero, List.getElem?_cons_succ, List.set_cons_zero, List.set_cons_succ, Option.some.injEq, exists_eq_left', List.length_cons, List.length_nil, Bool.not_true, Bool.not_false, List.zip_cons_cons, List.zip_nil_right, List.foldl_cons, List.foldl_nil, true_and, and_true, if_true, if_false, Bool.false_eq_true, D.own.injEq, D.int.injEq, D.tup.injEq, D.lst.injEq, D.cell.injEq, D.bl.injEq, D.str.injEq, D.scr.injEq]
    have := hr.w1
    exact hR _ _ ⟨img u v t ys, _, he, img_st hr ys, by rw [img_len]; omega, rfl, fun y hy => hx y (by simp [hy]), rfl⟩
theorem rimg_len {k w : Nat} {t ring : List Int} (hw : 1 ≤ w) (hn : ring ≠ []) : (rimg k w t ring).length = ring.length := by
  have : 1 ≤ ring.length := List.length_pos_iff.mpr hn
  have h8 : ring.length + w - 1 ≤ (ring.length + w - 1) * ring.length := Nat.le_mul_of_pos_right _ this
  unfold rimg
  rw [img_len]
  unfold lng
  rw [List.length_take]
  simp only [List.length_flatten, List.map_replicate, List.sum_replicate_nat]
  omega
theorem pu_rafter (hW : ∀ ds c Q E, spCheckRing ds c Q E → Γ "check_ring" ds c Q E) (hT : ∀ ds c Q E, spTurns ds c Q E → Γ "check_turns" ds c Q E) (hI : ∀ ds c Q E, spRing ds c Q E → Γ "ring_image_of" ds c Q E) :
    ∀ ds c Q E, spRAfter ds c Q E → wFn Γ sub kind ir_ring_after ds c Q E := by
  rintro _ c Q E ⟨k, w, n, t, xs, rfl, l1, l2, h1, h2, h3, h4⟩
  simp only [ir_ring_after, wFn, wSs, wS, wE, wA, wL, wT, wO, wC, wI, q_bii, q_btt, q_bti, q_bss, q_bl1, q_bl2, q_bl3, q_iadd, q_isub, q_imul, q_imod, q_idiv, q_ipow, q_tadd, q_trep, q_sadd, q_ladd, q_lrep, q_lkl, q_lko, q_lrl, q_lro, q_lrs, q_lsl, q_lso, q_lss, q_lst, q_aii, q_att2, q_clt, q_cle, q_cgt, q_cge, q_ceq, q_cne, q_cin, q_cni, q_cis, q_cin', q_eii, q_ebb, q_ess, q_tb, q_ti, q_tn, q_tt, q_tl, q_to, q_tc, q_int, q_inb, q_lnt, q_lnl, q_lnc, q_min, q_max, q_abs, q_tpt, q_tpl, q_lil, q_lit, q_sum, q_any, q_all, q_repr, q_fzi, q_fzb, q_fzs, q_fzn, q_fzt, q_fzl, q_fzo, q_fzc, q_fzr, q_fzf, q_ski, q_skb, q_sks, q_skn, q_skt, q_skl, q_sko, q_skf, q_ani, q_anb, q_ans, q_ann, q_ant, q_anl, q_ano, q_att, q_atl, q_ato, q_ri, q_rb, q_rs, q_rn, q_rt, q_rl, q_ro, q_rc, q_ixt, q_ixl, q_ixo, q_slt, q_sll, q_wt, q_r1, q_r2, List.map_cons, List.map_nil, List.cons_append, List.nil_append, List.replicate, List.getElem?_cons_zero, List.getElem?_cons_succ, List.set_cons_zero, List.set_cons_succ, Option.some.injEq, exists_eq_left', List.length_cons, List.length_nil, Bool.not_true, Bool.not_false, List.zip_cons_cons, List.zip_nil_right, List.foldl_cons, List.foldl_nil, true_and, and_true, if_true, if_false, Bool.false_eq_true, D.own.injEq, D.int.injEq, D.tup.injEq, D.lst.injEq, D.cell.injEq, D.bl.injEq, D.str.injEq, D.scr.injEq]
  refine hW _ _ _ _ ⟨k, w, t, xs, rfl, l1, by omega, fun a b z => ?_, fun a b => tkE (h2 a b), fun a => tkE (h1 a)⟩
  refine hT _ _ _ _ ⟨n, rfl, fun d => ?_, fun d => tkE (h3 a b z d)⟩
  obtain ⟨u, v, rfl, rfl, hr⟩ := isR_nat a
  obtain ⟨m, rfl⟩ : ∃ m : Nat, n = m := ⟨n.toNat, by omega⟩
  have hs := inR_st.mp b
  have hw := hr.w1
  have q := h4 u v m rfl rfl rfl (by omega) hr hs z
  refine ⟨by unfold RgI; omega, ?_⟩
  refine forGo_ind (I := fun r σ c' => ∃ (ys : List Int) (t4 : Option D), raft u v t r.length ys = raft u v t m xs ∧ St u ys ∧ ys.length = xs.length ∧ c = c' ∧ (∀ x ∈ r, ∃ i, x = .int i) ∧ σ = [some (ruleD u v t), some (tI xs), some (.int m), some (tI ys), t4]) ?_ ?_ _ _ _
    ⟨xs, none, by simp [rngL], hs, rfl, rfl, fun x hx => by obtain ⟨i, _, rfl⟩ := rng_mem hx; exact ⟨_, rfl⟩, rfl⟩
  · rintro σ c' ⟨ys, t4, he, _, _, rfl, _, rfl⟩
    simp only [wFn, wSs, wS, wE, wA, wL, wT, wO, wC, wI, q_bii, q_btt, q_bti, q_bss, q_bl1, q_bl2, q_bl3, q_iadd, q_isub, q_imul, q_imod, q_idiv, q_ipow, q_tadd, q_trep, q_sadd, q_ladd, q_lrep, q_lkl, q_lko, q_lrl, q_lro, q_lrs, q_lsl, q_lso, q_lss, q_lst, q_aii, q_att2, q_clt, q_cle, q_cgt, q_cge, q_ceq, q_cne, q_cin, q_cni, q_cis, q_cin', q_eii, q_ebb, q_ess, q_tb, q_ti, q_tn, q_tt, q_tl, q_to, q_tc, q_int, q_inb, q_lnt, q_lnl, q_lnc, q_min, q_max, q_abs, q_tpt, q_tpl, q_lil, q_lit, q_sum, q_any, q_all, q_repr, q_fzi, q_fzb, q_fzs, q_fzn, q_fzt, q_fzl, q_fzo, q_fzc, q_fzr, q_fzf, q_ski, q_skb, q_sks, q_skn, q_skt, q_skl, q_sko, q_skf, q_ani, q_anb, q_ans, q_ann, q_ant, q_anl, q_ano, q_att, q_atl, q_ato, q_ri, q_rb, q_rs, q_rn, q_rt, q_rl, q_ro, q_rc, q_ixt, q_ixl, q_ixo, q_slt, q_sll, q_wt, q_r1, q_r2, List.map_cons, List.map_nil, List.cons_append, List.nil_append, List.replicate, List.getElem?_cons_zero, List.getElem?_cons_succ, List.set_cons_zero, List.set_cons_succ, Option.some.injEq, exists_eq_left', List.length_cons, List.length_nil, Bool.not_true, Bool.not_false, List.zip_cons_cons, List.zip_nil_right, List.foldl_cons, List.foldl_nil, true_and, and_true, if_true, if_false, Bool.false_eq_true, D.own.injEq, D.int.injEq, D.tup.injEq, D.lst.injEq, D.cell.injEq, D.bl.injEq, D.str.injEq, D.scr.injEq]
    have he' : ys = raft u v t m xs := he
    rw [he']
    exact tkQ q
  · rintro x r σ c' R ⟨ys, t4, he, hst, hl, rfl, hx, rfl⟩ hR
    obtain ⟨i, rfl⟩ := hx x (by simp)
    have yn : ys ≠ [] := by
      rintro rfl
      have := List.length_pos_iff.mpr z
      simp at hl
      omega
    simp only [wFn, wSs, wS, wE, wA, wL, wT, wO, wC, wI, q_bii, q_btt, q_bti, q_bss, q_bl1, q_bl2, q_bl3, q_iadd, q_isub, q_imul, q_imod, q_idiv, q_ipow, q_tadd, q_trep, q_sadd, q_ladd, q_lrep, q_lkl, q_lko, q_lrl, q_lro, q_lrs, q_lsl, q_lso, q_lss, q_lst, q_aii, q_att2, q_clt, q_cle, q_cgt, q_cge, q_ceq, q_cne, q_cin, q_cni, q_cis, q_cin', q_eii, q_ebb, q_ess, q_tb, q_ti, q_tn, q_tt, q_tl, q_to, q_tc, q_int, q_inb, q_lnt, q_lnl, q_lnc, q_min, q_max, q_abs, q_tpt, q_tpl, q_lil, q_lit, q_sum, q_any, q_all, q_repr, q_fzi, q_fzb, q_fzs, q_fzn, q_fzt, q_fzl, q_fzo, q_fzc, q_fzr, q_fzf, q_ski, q_skb, q_sks, q_skn, q_skt, q_skl, q_sko, q_skf, q_ani, q_anb, q_ans, q_ann, q_ant, q_anl, q_ano, q_att, q_atl, q_ato, q_ri, q_rb, q_rs, q_rn, q_rt, q_rl, q_ro, q_rc, q_ixt, q_ixl, q_ixo, q_slt, q_sll, q_wt, q_r1, q_r2, List.map_cons, List.map_nil, List.cons_append, List.nil_append, List.replicate, List.getElem?_cons_zero, List.getElem?_cons_succ, List.set_cons_zero, List.set_cons_succ, Option.some.injEq, exists_eq_left', List.length_cons, List.length_nil, Bool.not_true, Bool.not_false, List.zip_cons_cons, List.zip_nil_right, List.foldl_cons, List.foldl_nil, true_and, and_true, if_true, if_false, Bool.false_eq_true, D.own.injEq, D.int.injEq, D.tup.injEq, D.lst.injEq, D.cell.injEq, D.bl.injEq, D.str.injEq, D.scr.injEq]
    refine hI _ _ _ _ ⟨u, v, t, ys, rfl, hr, hst, yn, by omega, ?_⟩
    simp only [wFn, wSs, wS, wE, wA, wL, wT, wO, wC, wI, q_bii, q_btt, q_bti, q_bss, q_bl1, q_bl2, q_bl3, q_iadd, q_isub, q_imul, q_imod, q_idiv, q_ipow, q_tadd, q_trep, q_sadd, q_ladd, q_lrep, q_lkl, q_lko, q_lrl, q_lro, q_lrs, q_lsl, q_lso, q_lss, q_lst, q_aii, q_att2, q_clt, q_cle, q_cgt, q_cge, q_ceq, q_cne, q_cin, q_cni, q_cis, q_cin', q_eii, q_ebb, q_ess, q_tb, q_ti, q_tn, q_tt, q_tl, q_to, q_tc, q_int, q_inb, q_lnt, q_lnl, q_lnc, q_min, q_max, q_abs, q_tpt, q_tpl, q_lil, q_lit, q_sum, q_any, q_all, q_repr, q_fzi, q_fzb, q_fzs, q_fzn, q_fzt, q_fzl, q_fzo, q_fzc, q_fzr, q_fzf, q_ski, q_skb, q_sks, q_skn, q_skt, q_skl, q_sko, q_skf, q_ani, q_anb, q_ans, q_ann, q_ant, q_anl, q_ano, q_att, q_atl, q_ato, q_ri, q_rb, q_rs, q_rn, q_rt, q_rl, q_ro, q_rc, q_ixt, q_ixl, q_ixo, q_slt, q_sll, q_wt, q_r1, q_r2, List.map_cons, List.map_nil, List.cons_append, List.nil_append, List.replicate, List.getElem?_cons_zero, List.getElem?_cons_succ, List.set_cons_zero, List.set_cons_succ, Option.some.injEq, exists_eq_left', List.length_cons, List.length_nil, Bool.not_true, Bool.not_false, List.zip_cons_cons, List.zip_nil_right, List.foldl_cons, List.foldl_nil, true_and, and_true, if_true, if_false, Bool.false_eq_true, D.own.injEq, D.int.injEq, D.tup.injEq, D.lst.injEq, D.cell.injEq, D.bl.injEq, D.str.injEq, D.scr.injEq]
    exact hR _ _ ⟨rimg u v t ys, _, he, img_st hr _, by rw [rimg_len hw yn, hl], rfl, fun y hy => hx y (by simp [hy]), rfl⟩
end
end Ev

/-! # Pm1: words, tables, composed rules: plain mathematics -/
namespace Ev
open PySem
theorem range_mul (k : Nat) : ∀ m : Nat, (List.range m).flatMap (fun i => (List.range k).map fun s => i * k + s) = List.range (m * k)
  | 0 => by simp
  | m + 1 => by
    rw [List.range_succ, List.flatMap_append, range_mul k m, Nat.add_mul, Nat.one_mul, List.range_add]
    simp
theorem idx_snoc (k : Int) (w : List Int) (s : Int) : idx k (w ++ [s]) = idx k w * k + s := by simp [idx, List.foldl_append]
theorem wds_idx (k : Nat) : ∀ n, (wds k n).map (idx k) = (List.range (k ^ n)).map fun i : Nat => (i : Int)
  | 0 => by simp [wds, idx]
  | n + 1 => by
    have ih := wds_idx k n
    rw [wds, List.map_flatMap]
    have e : (wds k n).flatMap (fun a => List.map (idx k) (List.map (fun s : Nat => a ++ [(s : Int)]) (List.range k))) = ((wds k n).map (idx k)).flatMap fun z : Int => (List.range k).map fun s : Nat => z * (k : Int) + (s : Int) := by
      rw [List.flatMap_map]
      congr 1
      funext a
      rw [List.map_map]
      apply List.map_congr_left
      intro s _
      exact idx_snoc k a s
    rw [e, ih, List.flatMap_map, Nat.pow_succ, ← range_mul, List.map_flatMap]
    congr 1
    funext a
    rw [List.map_map]
    apply List.map_congr_left
    intro s _
    simp
theorem wds_all {k : Nat} : ∀ {n : Nat} {b : List Int}, b.length = n → St k b → b ∈ wds k n
  | 0, b, h, _ => by
    have : b = [] := List.length_eq_zero_iff.mp h
    subst this
    simp [wds]
  | n + 1, b, h, hs => by
    rcases List.eq_nil_or_concat b with rfl | ⟨c, s, rfl⟩
    · simp at h
    · simp only [List.length_append, List.length_cons, List.length_nil, List.concat_eq_append] at h
      have h1 : c ∈ wds k n := wds_all (by omega) fun x hx => hs x (by simp [hx])
      have h2 := hs s (by simp)
      simp only [wds, List.mem_flatMap, List.mem_map, List.mem_range]
      exact ⟨c, h1, s.toNat, by omega, by rw [Int.toNat_of_nonneg h2.1]; simp⟩
theorem wds_at {k n : Nat} {b : List Int} (h : b.length = n) (hs : St k b) : (wds k n)[(idx k b).toNat]? = some b := by
  obtain ⟨j, hj, e⟩ := List.getElem_of_mem (wds_all h hs)
  have q := congrArg (fun l => l[j]?) (wds_idx k n)
  simp only [List.getElem?_map, List.getElem?_eq_getElem hj, Option.map_some, e] at q
  rw [List.getElem?_range (by rw [← wds_len]; exact hj)] at q
  simp only [Option.map_some, Option.some.injEq] at q
  rw [q, Int.toNat_natCast, List.getElem?_eq_getElem hj, e]
theorem idx_nth {k n j : Nat} {b : List Int} (h : (wds k n)[j]? = some b) : idx k b = j := by
  have q := congrArg (fun l => l[j]?) (wds_idx k n)
  have hj := (List.getElem?_eq_some_iff.mp h).1
  simp only [List.getElem?_map, h, Option.map_some] at q
  rw [List.getElem?_range (by rw [← wds_len]; exact hj)] at q
  simpa using q
theorem wds_nd (k n : Nat) : (wds k n).Nodup := by
  have h : ((wds k n).map (idx k)).Nodup := by
    rw [wds_idx]
    exact List.Pairwise.map _ (fun a b (h : a ≠ b) e => h (Int.ofNat.inj e)) List.nodup_range
  exact List.Pairwise.of_map (S := (· ≠ ·)) (idx k) (fun a b h e => h (by rw [e])) h
theorem map_at {k n : Nat} {b : List Int} (f : List Int → Int) (h : b.length = n) (hs : St k b) : ((wds k n).map f).getD (idx k b).toNat 0 = f b := by
  rw [List.getD_eq_getElem?_getD, List.getElem?_map, wds_at h hs]
  rfl
theorem tbl {k w : Nat} {t : List Int} (h : t.length = k ^ w) : (wds k w).map (val k t) = t := by
  have e : (wds k w).map (val k t) = ((wds k w).map (idx k)).map fun i => t.getD i.toNat 0 := by rw [List.map_map]; rfl
  rw [e, wds_idx, List.map_map]
  apply List.ext_getElem?
  intro i
  rw [List.getElem?_map]
  by_cases hi : i < k ^ w
  · rw [List.getElem?_range hi]
    simp [List.getElem?_eq_getElem (h ▸ hi : i < t.length)]
  · rw [List.getElem?_eq_none (by simp; omega), List.getElem?_eq_none (by omega)]
    rfl
theorem img_cut {k w1 w2 i : Nat} {t ws : List Int} (h1 : 1 ≤ w1) (h2 : 1 ≤ w2) (hi : i + (w1 + w2 - 1) ≤ ws.length) : img k w1 t ((ws.drop i).take (w1 + w2 - 1)) = ((img k w1 t ws).drop i).take w2 := by
  unfold img
  rw [← List.map_drop, ← List.map_take]
  have e : ((List.range (ws.length + 1 - w1)).drop i).take w2 = (List.range w2).map fun j => i + j := by
    apply List.ext_getElem?
    intro j
    rw [List.getElem?_take, List.getElem?_drop, List.getElem?_map]
    by_cases hj : j < w2
    · rw [if_pos hj, List.getElem?_range (by omega), List.getElem?_range hj]
      rfl
    · rw [if_neg hj, List.getElem?_eq_none (by simp; omega)]
      rfl
  rw [e, List.map_map]
  have hl : ((ws.drop i).take (w1 + w2 - 1)).length + 1 - w1 = w2 := by rw [List.length_take, List.length_drop]; omega
  rw [hl]
  apply List.map_congr_left
  intro j hj
  have hj := List.mem_range.mp hj
  show t.getD (idx k ((((ws.drop i).take (w1 + w2 - 1)).drop j).take w1)).toNat 0 = t.getD (idx k ((ws.drop (i + j)).take w1)).toNat 0
  rw [List.drop_take, List.drop_drop, List.take_take, Nat.min_eq_left (by omega)]
/-- what is turned by a composed rule -/
theorem img_cmp {k w1 w2 : Nat} {t1 t2 ws : List Int} (h1 : 1 ≤ w1) (h2 : 1 ≤ w2) (hs : St k ws) : img k (w1 + w2 - 1) (cmp2 k w1 t1 w2 t2) ws = img k w2 t2 (img k w1 t1 ws) := by
  have e1 : (img k w1 t1 ws).length + 1 - w2 = ws.length + 1 - (w1 + w2 - 1) := by rw [img_len]; omega
  rw [img, img, e1]
  apply List.map_congr_left
  intro i hi
  have hi := List.mem_range.mp hi
  have hl : ((ws.drop i).take (w1 + w2 - 1)).length = w1 + w2 - 1 := by rw [List.length_take, List.length_drop]; omega
  unfold cmp2
  rw [map_at _ hl (hs.sub i _), img_cut h1 h2 (by omega)]
  rfl
theorem val_cmp {k w1 w2 : Nat} {t1 t2 b : List Int} (hl : b.length = w1 + w2 - 1) (hs : St k b) : val k (cmp2 k w1 t1 w2 t2) b = val k t2 (img k w1 t1 b) := by
  unfold cmp2
  rw [val, map_at _ hl hs]
theorem cmp2_assoc {k w1 w2 w3 : Nat} {t1 t2 t3 : List Int} (r1 : Rl k w1 t1) (h2 : 1 ≤ w2) (h3 : 1 ≤ w3) : cmp2 k (w1 + w2 - 1) (cmp2 k w1 t1 w2 t2) w3 t3 = cmp2 k w1 t1 (w2 + w3 - 1) (cmp2 k w2 t2 w3 t3) := by
  have h1 := r1.w1
  unfold cmp2
  rw [show w1 + w2 - 1 + w3 - 1 = w1 + (w2 + w3 - 1) - 1 by omega]
  apply List.map_congr_left
  intro b hb
  obtain ⟨hl, hs⟩ := wds_mem _ _ _ hb
  have e1 := img_cmp (t1 := t1) (t2 := t2) h1 h2 hs
  have e2 := val_cmp (w1 := w2) (w2 := w3) (t1 := t2) (t2 := t3) (b := img k w1 t1 b) (by rw [img_len]; omega) (img_st r1 b)
  unfold cmp2 at e1 e2
  rw [e1, e2]
theorem val_id {k : Nat} {s : Int} (h : 0 ≤ s ∧ s < k) : val k (idT k) [s] = s := by
  unfold val idT idx
  simp only [List.foldl_cons, List.foldl_nil, Int.zero_mul, Int.zero_add]
  rw [List.getD_eq_getElem?_getD, List.getElem?_map, List.getElem?_range (by omega)]
  simp [Int.toNat_of_nonneg h.1]
theorem img_id {k : Nat} {b : List Int} (h : St k b) : img k 1 (idT k) b = b := by
  unfold img
  apply List.ext_getElem?
  intro i
  rw [List.getElem?_map, Nat.add_sub_cancel]
  by_cases hi : i < b.length
  · rw [List.getElem?_range hi, List.getElem?_eq_getElem hi]
    have : (b.drop i).take 1 = [b[i]] := by rw [List.drop_eq_getElem_cons hi]; rfl
    show some ((idT k).getD (idx k ((b.drop i).take 1)).toNat 0) = _
    rw [this]
    exact congrArg some (val_id (h _ (List.getElem_mem hi)))
  · rw [List.getElem?_eq_none (by simp; omega), List.getElem?_eq_none (by omega)]
    rfl
theorem cmp2_idl {k w : Nat} {t : List Int} (h : Rl k w t) : cmp2 k 1 (idT k) w t = t := by
  unfold cmp2
  rw [show 1 + w - 1 = w by omega]
  conv => rhs; rw [← tbl h.len]
  apply List.map_congr_left
  intro b hb
  rw [img_id (wds_mem _ _ _ hb).2]
theorem cmp2_idr {k w : Nat} {t : List Int} (h : Rl k w t) : cmp2 k w t 1 (idT k) = t := by
  have hw := h.w1
  unfold cmp2
  rw [show w + 1 - 1 = w by omega]
  conv => rhs; rw [← tbl h.len]
  apply List.map_congr_left
  intro b hb
  rw [val_img1 (wds_mem _ _ _ hb).1 hw, val_id (val_st h b)]
theorem lng_one (ring : List Int) (h : ring ≠ []) : lng ring.length ring = ring := by
  have : 1 ≤ ring.length := List.length_pos_iff.mpr h
  unfold lng
  rw [rep_take ring ring.length ring.length 1 (Nat.le_mul_of_pos_right _ this) (by omega)]
  simp
theorem rimg_id {k : Nat} {b : List Int} (h : St k b) (hn : b ≠ []) : rimg k 1 (idT k) b = b := by
  unfold rimg
  rw [Nat.add_sub_cancel, lng_one b hn, img_id h]
theorem raft_id {k : Nat} {b : List Int} (h : St k b) (hn : b ≠ []) : ∀ n, raft k 1 (idT k) n b = b
  | 0 => rfl
  | n + 1 => by rw [raft, rimg_id h hn, raft_id h hn n]
theorem aft_id {k : Nat} {b : List Int} (h : St k b) : ∀ n, aft k 1 (idT k) n b = b
  | 0 => rfl
  | n + 1 => by rw [aft, img_id h, aft_id h n]
end Ev

/-! # Pm2: promises at known arguments; the asking within a try -/
namespace Ev
open PySem
def kS (n : Str) : Str := if n = "NotRule" then "!rule" else if n = "NotWord" then "!word" else if n = "NotSum" then "!sum" else if n = "NotRowSet" then "!rows" else if n = "NotPaper" then "!paper" else if n = "BadNumber" then "!number" else if n = "NoAnswer" then "!none" else if n = "TooLarge" then "!large" else "!other"
/-- the promise of a function, asked within a try -/
def viaK (L : List Str) (sp : DSp) (ds : List D) (c : Cells) (Q : D → Cells → Prop) : Prop := ∀ (Q' : D → Cells → Prop) (E' : Str → Cells → Prop), (∀ d, d.isCell = false → Q d c → Q' d c) → (∀ n, n ∈ L → Q (.str (kS n)) c → E' n c) → sp ds c Q' E'
def eRW : List Str := ["NotRule", "NotWord", "BadNumber", "TooLarge"]
section
variable {c : Cells} {Q : D → Cells → Prop} {E : Str → Cells → Prop} {k a b n w : Nat} {t t1 t2 xs : List Int} {k1 w1 k2 w2 i : Int}
theorem Rl.isR (r : Rl k w t) : isR k w t = true := isR_iff.mpr r
theorem St.inR (h : St k xs) : inR k xs = true := inR_st.mpr h
theorem ff {p : Bool} {A : Prop} (h : p = true) (h' : p = false) : A := by rw [h] at h'; cases h'
theorem cl_comp (r1 : Rl k a t1) (r2 : Rl k b t2) (h : k ^ (a + b - 1) ≤ 256) (q : Q (ruleD k (a + b - 1 : Nat) (cmp2 k a t1 b t2)) c) (l1 : t1.length ≤ 100000 := by omega) (l2 : t2.length ≤ 100000 := by omega) : spComp [ruleD k a t1, ruleD k b t2] c Q E :=
  ⟨k, a, k, b, t1, t2, rfl, l1, l2, fun z => ff r1.isR z, fun _ z => ff r2.isR z, fun _ _ z => absurd rfl z, fun k' a' b' e1 e2 e3 e4 _ _ => by
    have : k' = k := by omega
    subst this
    have : a' = a := by omega
    subst this
    have : b' = b := by omega
    subst this
    exact ⟨fun _ => q, fun z => by omega⟩⟩
theorem cl_compB1 (h : isR k1 w1 t1 = false) (q : E "NotRule" c) (l1 : t1.length ≤ 100000) (l2 : t2.length ≤ 100000) : spComp [ruleI k1 w1 t1, ruleI k2 w2 t2] c Q E :=
  ⟨k1, w1, k2, w2, t1, t2, rfl, l1, l2, fun _ => q, fun z => ff z h, fun z => ff z h, fun k' a' b' e1 e2 e3 e4 r _ => ff (by subst e1; subst e3; exact r.isR) h⟩
theorem cl_compB2 (h0 : isR k1 w1 t1 = true) (h : isR k2 w2 t2 = false) (q : E "NotRule" c) (l1 : t1.length ≤ 100000) (l2 : t2.length ≤ 100000) : spComp [ruleI k1 w1 t1, ruleI k2 w2 t2] c Q E :=
  ⟨k1, w1, k2, w2, t1, t2, rfl, l1, l2, fun z => ff h0 z, fun _ _ => q, fun _ z => ff z h, fun k' a' b' e1 e2 e3 e4 _ r => ff (by subst e2; subst e4; exact r.isR) h⟩
theorem cl_compB3 (h0 : isR k1 w1 t1 = true) (h : isR k2 w2 t2 = true) (hk : k1 ≠ k2) (q : E "BadNumber" c) (l1 : t1.length ≤ 100000) (l2 : t2.length ≤ 100000) : spComp [ruleI k1 w1 t1, ruleI k2 w2 t2] c Q E :=
  ⟨k1, w1, k2, w2, t1, t2, rfl, l1, l2, fun z => ff h0 z, fun _ z => ff h z, fun _ _ _ => q, fun k' a' b' e1 e2 e3 e4 _ _ => absurd (e1.trans e2.symm) hk⟩
theorem cl_compB4 (r1 : Rl k a t1) (r2 : Rl k b t2) (h : 256 < k ^ (a + b - 1)) (q : E "TooLarge" c) (l1 : t1.length ≤ 100000) (l2 : t2.length ≤ 100000) : spComp [ruleD k a t1, ruleD k b t2] c Q E :=
  ⟨k, a, k, b, t1, t2, rfl, l1, l2, fun z => ff r1.isR z, fun _ z => ff r2.isR z, fun _ _ z => absurd rfl z, fun k' a' b' e1 e2 e3 e4 _ _ => by
    have : k' = k := by omega
    subst this
    have : a' = a := by omega
    subst this
    have : b' = b := by omega
    subst this
    exact ⟨fun z => by omega, fun _ => q⟩⟩
theorem cl_pow (r : Rl k w t) (hn : n ≤ 100) (h : k ^ (n * (w - 1) + 1) ≤ 256) (q : Q (ruleD k (n * (w - 1) + 1 : Nat) (pwr k w t n)) c) (l : t.length ≤ 100000) : spPow [ruleD k w t, .int (n : Nat)] c Q E :=
  ⟨k, w, n, t, rfl, l, fun z => ff r.isR z, fun _ z => absurd ⟨by omega, by omega⟩ z, fun a b m e1 e2 e3 _ _ => by
    have : a = k := by omega
    subst this
    have : b = w := by omega
    subst this
    have : m = n := by omega
    subst this
    exact ⟨fun _ => q, fun z => by omega⟩⟩
theorem cl_powB1 (h : isR k1 w1 t = false) (q : E "NotRule" c) (l : t.length ≤ 100000) : spPow [ruleI k1 w1 t, .int i] c Q E :=
  ⟨k1, w1, i, t, rfl, l, fun _ => q, fun z => ff z h, fun a b m e1 e2 e3 _ r => ff (by subst e1; subst e2; exact r.isR) h⟩
theorem cl_powB2 (h : isR k1 w1 t = true) (hi : ¬ (0 ≤ i ∧ i ≤ 100)) (q : E "BadNumber" c) (l : t.length ≤ 100000) : spPow [ruleI k1 w1 t, .int i] c Q E :=
  ⟨k1, w1, i, t, rfl, l, fun z => ff h z, fun _ _ => q, fun a b m e1 e2 e3 _ r => absurd ⟨by omega, by omega⟩ hi⟩
theorem cl_powB3 (r : Rl k w t) (hn : n ≤ 100) (h : 256 < k ^ (n * (w - 1) + 1)) (q : E "TooLarge" c) (l : t.length ≤ 100000) : spPow [ruleD k w t, .int (n : Nat)] c Q E :=
  ⟨k, w, n, t, rfl, l, fun z => ff r.isR z, fun _ z => absurd ⟨by omega, by omega⟩ z, fun a b m e1 e2 e3 _ _ => by
    have : a = k := by omega
    subst this
    have : b = w := by omega
    subst this
    have : m = n := by omega
    subst this
    exact ⟨fun z => by omega, fun _ => q⟩⟩
theorem cl_after (r : Rl k w t) (hs : St k xs) (hn : n ≤ 1000) (l : t.length ≤ 100000) (lx : xs.length ≤ 10000) (q : Q (tI (aft k w t n xs)) c) : spAfter [ruleD k w t, tI xs, .int (n : Nat)] c Q E :=
  ⟨k, w, n, t, xs, rfl, l, lx, fun z => ff r.isR z, fun _ z => ff hs.inR z, fun _ _ z => absurd ⟨by omega, by omega⟩ z, fun a b m e1 e2 e3 _ _ _ => by
    have : a = k := by omega
    subst this
    have : b = w := by omega
    subst this
    have : m = n := by omega
    subst this
    exact q⟩
theorem cl_afterB1 (h : isR k1 w1 t = false) (q : E "NotRule" c) (l : t.length ≤ 100000) (lx : xs.length ≤ 10000) : spAfter [ruleI k1 w1 t, tI xs, .int i] c Q E :=
  ⟨k1, w1, i, t, xs, rfl, l, lx, fun _ => q, fun z => ff z h, fun z => ff z h, fun a b m e1 e2 e3 _ r => ff (by subst e1; subst e2; exact r.isR) h⟩
theorem cl_afterB2 (h : isR k1 w1 t = true) (hx : inR k1 xs = false) (q : E "NotWord" c) (l : t.length ≤ 100000) (lx : xs.length ≤ 10000) : spAfter [ruleI k1 w1 t, tI xs, .int i] c Q E :=
  ⟨k1, w1, i, t, xs, rfl, l, lx, fun z => ff h z, fun _ _ => q, fun _ z => ff z hx, fun a b m e1 e2 e3 _ _ hs => ff (by subst e1; exact hs.inR) hx⟩
theorem cl_afterB3 (h : isR k1 w1 t = true) (hx : inR k1 xs = true) (hi : ¬ (0 ≤ i ∧ i ≤ 1000)) (q : E "BadNumber" c) (l : t.length ≤ 100000) (lx : xs.length ≤ 10000) : spAfter [ruleI k1 w1 t, tI xs, .int i] c Q E :=
  ⟨k1, w1, i, t, xs, rfl, l, lx, fun z => ff h z, fun _ z => ff hx z, fun _ _ _ => q, fun a b m e1 e2 e3 _ _ hs => absurd ⟨by omega, by omega⟩ hi⟩
theorem cl_rafter (r : Rl k w t) (hs : St k xs) (hx : xs ≠ []) (hn : n ≤ 1000) (l : t.length ≤ 100000) (lx : xs.length ≤ 300) (q : Q (tI (raft k w t n xs)) c) : spRAfter [ruleD k w t, tI xs, .int (n : Nat)] c Q E :=
  ⟨k, w, n, t, xs, rfl, l, lx, fun z => ff r.isR z, fun _ z => by rcases z with z | z; exact ff hs.inR z; exact absurd z hx, fun _ _ _ z => absurd ⟨by omega, by omega⟩ z, fun a b m e1 e2 e3 _ _ _ _ => by
    have : a = k := by omega
    subst this
    have : b = w := by omega
    subst this
    have : m = n := by omega
    subst this
    exact q⟩
theorem cl_rafterB1 (h : isR k1 w1 t = false) (q : E "NotRule" c) (l : t.length ≤ 100000) (lx : xs.length ≤ 300) : spRAfter [ruleI k1 w1 t, tI xs, .int i] c Q E :=
  ⟨k1, w1, i, t, xs, rfl, l, lx, fun _ => q, fun z => ff z h, fun z => ff z h, fun a b m e1 e2 e3 _ r => ff (by subst e1; subst e2; exact r.isR) h⟩
theorem cl_rafterB2 (h : isR k1 w1 t = true) (hx : inR k1 xs = false ∨ xs = []) (q : E "NotWord" c) (l : t.length ≤ 100000) (lx : xs.length ≤ 300) : spRAfter [ruleI k1 w1 t, tI xs, .int i] c Q E :=
  ⟨k1, w1, i, t, xs, rfl, l, lx, fun z => ff h z, fun _ _ => q, fun _ z z' => by rcases hx with y | y; exact ff z y; exact absurd y z', fun a b m e1 e2 e3 _ _ hs z' => by rcases hx with y | y; exact ff (by subst e1; exact hs.inR) y; exact absurd y z'⟩
theorem cl_rafterB3 (h : isR k1 w1 t = true) (hx : inR k1 xs = true) (hne : xs ≠ []) (hi : ¬ (0 ≤ i ∧ i ≤ 1000)) (q : E "BadNumber" c) (l : t.length ≤ 100000) (lx : xs.length ≤ 300) : spRAfter [ruleI k1 w1 t, tI xs, .int i] c Q E :=
  ⟨k1, w1, i, t, xs, rfl, l, lx, fun z => ff h z, fun _ z => by rcases z with z | z; exact ff hx z; exact absurd z hne, fun _ _ _ _ => q, fun a b m e1 e2 e3 _ _ hs => absurd ⟨by omega, by omega⟩ hi⟩
end
theorem askE {L : List Str} {sp : DSp} {ds : List D} {c : Cells} {Q : D → Cells → Prop} (n s : Str) (hk : kS n = s) (hm : n ∈ L) (h : ∀ (Q' : D → Cells → Prop) (E' : Str → Cells → Prop), E' n c → sp ds c Q' E') (k : Q (.str s) c) : viaK L sp ds c Q := fun Q' E' _ he => h Q' E' (he n hm (by rw [hk]; exact k))
theorem askQ {L : List Str} {sp : DSp} {ds : List D} {c : Cells} {Q : D → Cells → Prop} (d : D) (hd : d.isCell = false) (h : ∀ (Q' : D → Cells → Prop) (E' : Str → Cells → Prop), Q' d c → sp ds c Q' E') (k : Q d c) : viaK L sp ds c Q := fun Q' E' hq _ => h Q' E' (hq d hd k)
theorem kS1 : kS "NotRule" = "!rule" := by decide +kernel
theorem kS2 : kS "NotWord" = "!word" := by decide +kernel
theorem kS3 : kS "BadNumber" = "!number" := by decide +kernel
theorem kS4 : kS "TooLarge" = "!large" := by decide +kernel
theorem eR1 : ("NotRule" : Str) ∈ eRW := by decide +kernel
theorem eR2 : ("NotWord" : Str) ∈ eRW := by decide +kernel
theorem eR3 : ("BadNumber" : Str) ∈ eRW := by decide +kernel
theorem eR4 : ("TooLarge" : Str) ∈ eRW := by decide +kernel
theorem nI_idT (k : Nat) : (List.range k).map nI = (idT k).map D.int := nI_id k
theorem rng2 : (List.range 2).map nI = [.int 0, .int 1] := rfl
theorem rng3 : (List.range 3).map nI = [.int 0, .int 1, .int 2] := rfl
theorem rng4 : (List.range 4).map nI = [.int 0, .int 1, .int 2, .int 3] := rfl
theorem rng5 : (List.range 5).map nI = [.int 0, .int 1, .int 2, .int 3, .int 4] := rfl
theorem bad9 {k : Nat} (h : k ≤ 4) : isR (k : Int) 1 (List.replicate k 9) = false := by
  have : k = 0 ∨ k = 1 ∨ k = 2 ∨ k = 3 ∨ k = 4 := by omega
  rcases this with rfl | rfl | rfl | rfl | rfl <;> decide +kernel
theorem inR_k {k : Nat} : inR (k : Int) [(k : Int)] = false := by simp [inR]
end Ev

/-! # Pv2: rows for dicts -/
namespace Ev
open PySem
section
variable {i j : Int} {c c' : Cells} {x y d v : D} {K : Option D → Prop} {C : Cells → Prop} {ws us : List Int} {ki : List (Int × D)} {kw : List (List Int × D)} {ks : List Int} {kss : List (List Int)} {vs xs : List D}
theorem int_inj : ∀ {a b : List Int}, a.map D.int = b.map D.int → a = b
  | [], [], _ => rfl
  | [], _ :: _, h => by cases h
  | _ :: _, [], h => by cases h
  | x :: a, y :: b, h => by
    simp only [List.map_cons, List.cons.injEq, D.int.injEq] at h
    rw [h.1, int_inj h.2]
theorem dg_w (h1 : lkI c x = none) (h2 : lkW c x = some kw) : dgK x (.tup (ws.map .int)) c K = K (dval kw ws) := by
  refine propext ⟨?_, fun k => .inr ⟨_, _, h2, rfl, k⟩⟩
  rintro (⟨kvs, k, e, _⟩ | ⟨kvs, us, e, e2, k⟩)
  · rw [h1] at e; cases e
  · rw [h2] at e
    cases e
    have : ws = us := int_inj (by injection e2)
    rw [this]
    exact k
theorem dg_i (h1 : lkI c x = some ki) : dgK x (.int i) c K = K (dval ki i) := by
  refine propext ⟨?_, fun k => .inl ⟨_, _, h1, rfl, k⟩⟩
  rintro (⟨kvs, k, e, e2, h⟩ | ⟨kvs, us, e, e2, k⟩)
  · rw [h1] at e
    cases e; cases e2
    exact h
  · cases e2
theorem lkI_top : lkI (c ++ [.dI ki]) (.cell c.length) = some ki := by simp [lkI]
theorem lkW_top : lkW (c ++ [.dW kw]) (.cell c.length) = some kw := by simp [lkW]
theorem lkI_topw : lkI (c ++ [.dW kw]) (.cell c.length) = none := by simp [lkI]
theorem lkW_topi : lkW (c ++ [.dI ki]) (.cell c.length) = none := by simp [lkW]
theorem p_dgc : dgK (.cell c.length) (.tup (ws.map .int)) (c ++ [.dW kw]) K = K (dval kw ws) := dg_w lkI_topw lkW_top
theorem p_dgci : dgK (.cell c.length) (.int i) (c ++ [.dI ki]) K = K (dval ki i) := dg_i lkI_top
theorem p_dgf (h : kss.length = vs.length) : dgK (.dW kss vs) (.tup (ws.map .int)) c K = K (dval (kss.zip vs) ws) := dg_w rfl (if_pos h)
theorem p_dgfi (h : ks.length = vs.length) : dgK (.dI ks vs) (.int i) c K = K (dval (ks.zip vs) i) := dg_i (if_pos h)
theorem p_dsc (h : kw.length < 1000000) : dsK (.cell c.length) (.tup (ws.map .int)) v (c ++ [.dW kw]) C = C (c ++ [.dW (dput kw ws v)]) := by
  refine propext ⟨?_, fun k => .inr ⟨_, _, _, rfl, p_top, rfl, Nat.lt_trans h (by decide), by rw [p_tops]; exact k⟩⟩
  rintro (⟨n, kvs, k, e1, e2, e3, _⟩ | ⟨n, kvs, us, e1, e2, e3, _, k⟩)
  · cases e3
  · cases e1
    rw [p_top] at e2
    cases e2
    have : ws = us := int_inj (by injection e3)
    rw [p_tops, ← this] at k
    exact k
theorem p_dsci (h : ki.length < 1000000) : dsK (.cell c.length) (.int i) v (c ++ [.dI ki]) C = C (c ++ [.dI (dput ki i v)]) := by
  refine propext ⟨?_, fun k => .inl ⟨_, _, _, rfl, p_top, rfl, Nat.lt_trans h (by decide), by rw [p_tops]; exact k⟩⟩
  rintro (⟨n, kvs, k, e1, e2, e3, _, h⟩ | ⟨n, kvs, us, e1, e2, e3, _, k⟩)
  · cases e1
    rw [p_top] at e2
    cases e2; cases e3
    rw [p_tops] at h
    exact h
  · cases e3
theorem p_lnW : lkN (c ++ [.dW kw]) (.cell c.length) = some kw.length := by simp [lkN, lkI_topw, lkW_top]
theorem p_lnI : lkN (c ++ [.dI ki]) (.cell c.length) = some ki.length := by simp [lkN, lkI_top]
theorem p_lnWf (h : kss.length = vs.length) : lkN c (.dW kss vs) = some vs.length := by
  unfold lkN
  rw [show lkI c (.dW kss vs) = none from rfl, show lkW c (.dW kss vs) = some (kss.zip vs) from if_pos h]
  simp [h]
theorem p_lnIf (h : ks.length = vs.length) : lkN c (.dI ks vs) = some vs.length := by
  unfold lkN
  rw [show lkI c (.dI ks vs) = some (ks.zip vs) from if_pos h]
  simp [h]
theorem p_dfzW (h : kss.length = vs.length) : dfz (.dW kss vs) = some (kss.map tI, vs) := if_pos h
theorem p_dfzI (h : ks.length = vs.length) : dfz (.dI ks vs) = some (ks.map .int, vs) := if_pos h
theorem p_obW : obD (.dW kw) = some (.dW (kw.map (·.1)) (kw.map (·.2))) := rfl
theorem p_obI : obD (.dI ki) = some (.dI (ki.map (·.1)) (ki.map (·.2))) := rfl
theorem p_thD {n : Nat} : thawD n d (some (.cell n)) = some d := if_pos rfl
end
section
variable {κ : Type} [DecidableEq κ]
theorem dput_new {kvs : List (κ × D)} {k : κ} {v : D} (h : dval kvs k = none) : dput kvs k v = kvs ++ [(k, v)] := by
  unfold dput
  rw [if_neg]
  intro z
  obtain ⟨p, hp, e⟩ := List.any_eq_true.mp z
  unfold dval at h
  rw [Option.map_eq_none_iff, List.find?_eq_none] at h
  exact h p hp e
/-- places by what stands there -/
theorem dval_range {f : Nat → κ} {g : Nat → D} {n : Nat} {k : κ} (h : ∀ i, i < n → f i ≠ k) : dval ((List.range n).map fun i => (f i, g i)) k = none := by
  unfold dval
  rw [Option.map_eq_none_iff, List.find?_eq_none]
  intro p hp
  obtain ⟨i, hi, rfl⟩ := List.mem_map.mp hp
  have := h i (List.mem_range.mp hi)
  simpa using this
theorem find_unique {α : Type} {l : List α} {p : α → Bool} {a : α} (ha : a ∈ l) (hp : p a = true) (hu : ∀ b ∈ l, p b = true → b = a) : l.find? p = some a := by
  cases h : l.find? p with
  | none => exact absurd hp (by rw [List.find?_eq_none] at h; exact h a ha)
  | some b => rw [hu b (List.mem_of_find?_eq_some h) (List.find?_some h)]
theorem dval_range_at {f : Nat → κ} {g : Nat → D} {n i : Nat} {k : κ} (hi : i < n) (e : f i = k) (hu : ∀ j, j < n → f j = k → j = i) : dval ((List.range n).map fun i => (f i, g i)) k = some (g i) := by
  unfold dval
  rw [find_unique (a := (f i, g i)) (List.mem_map.mpr ⟨i, List.mem_range.mpr hi, rfl⟩) (by simp [e])]
  · rfl
  · intro b hb hp
    obtain ⟨j, hj, rfl⟩ := List.mem_map.mp hb
    rw [hu j (List.mem_range.mp hj) (by simpa using hp)]
end
/-! ### rows that come again -/
section
variable {α : Type} {x : Nat → α}
/-- n is the first place at which something comes again, i where it stood -/
def Rep1st (x : Nat → α) (i n : Nat) : Prop := i < n ∧ x n = x i ∧ ∀ a b, a < b → b < n → x a ≠ x b
def NoRep (x : Nat → α) (n : Nat) : Prop := ∀ a b, a < b → b < n → x a ≠ x b
theorem rep_or (x : Nat → α) (N : Nat) : (∃ i n, n ≤ N ∧ Rep1st x i n) ∨ NoRep x (N + 1) := by
  induction N with
  | zero => exact .inr fun a b h1 h2 => by omega
  | succ N ih =>
    rcases ih with ⟨i, n, h1, h2⟩ | h
    · exact .inl ⟨i, n, by omega, h2⟩
    · by_cases hx : ∃ i, i < N + 1 ∧ x (N + 1) = x i
      · obtain ⟨i, hi, e⟩ := hx
        exact .inl ⟨i, N + 1, Nat.le_refl _, hi, e, h⟩
      · refine .inr fun a b h1 h2 => ?_
        by_cases hb : b = N + 1
        · subst hb
          exact fun z => hx ⟨a, h1, z.symm⟩
        · exact h a b h1 (by omega)
theorem Rep1st.unique {i j n m : Nat} (h : Rep1st x i n) (h' : Rep1st x j m) : i = j ∧ n = m := by
  have e : n = m := by
    rcases Nat.lt_trichotomy n m with q | q | q
    · exact absurd h.2.1.symm (h'.2.2 _ _ h.1 q)
    · exact q
    · exact absurd h'.2.1.symm (h.2.2 _ _ h'.1 q)
  subst e
  refine ⟨?_, rfl⟩
  have := h.2.1.symm.trans h'.2.1
  rcases Nat.lt_trichotomy i j with q | q | q
  · exact absurd this (h.2.2 _ _ q h'.1)
  · exact q
  · exact absurd this.symm (h.2.2 _ _ q h.1)
theorem NoRep.mono {n m : Nat} (h : NoRep x n) (hm : m ≤ n) : NoRep x m := fun a b h1 h2 => h a b h1 (by omega)
theorem Rep1st.no {i n : Nat} (h : Rep1st x i n) : NoRep x n := h.2.2
end
end Ev

/-! # Pu22: rounds of rings (k03) -/
namespace Ev
open PySem
local macro_rules | `(tactic| bv_omega) => `(tactic| simp (maxSteps := 2000000) (disch := first | omega | rfl | (simp only [List.length_map, List.length_append, List.length_cons, List.length_nil, List.length_range, List.length_replicate, List.length_take, List.length_drop, List.length_dropLast]; omega) | decide +kernel) only [wFn, wSs, wS, wE, wA, wL, wT, wO, wC, wI, wipeD, thawS, nI, lcGo, isT, q_bii, q_btt, q_bti, q_bss, q_bl1, q_bl2, q_bl3, q_iadd, q_isub, q_imul, q_idiv, q_ipow, q_tadd, q_sadd, q_ladd, q_lrep, q_lkl, q_lko, q_lrl, q_lro, q_lrs, q_lsl, q_lso, q_lss, q_lst, q_aii, q_att2, q_clt, q_cle, q_cgt, q_cge, q_ceq, q_cne, q_cin, q_cni, q_cis, q_cin', q_eii, q_ebb, q_ess, q_tb, q_ti, q_tn, q_tt, q_tl, q_to, q_int, q_inb, q_lnt, q_lnl, q_min, q_max, q_abs, q_tpt, q_tpl, q_lil, q_lit, q_fzi, q_fzb, q_fzs, q_fzn, q_fzt, q_fzl, q_fzo, q_fzc, q_fzr, q_fzf, q_ski, q_skb, q_sks, q_skn, q_skt, q_skl, q_sko, q_skf, q_ani, q_anb, q_ans, q_ann, q_ant, q_anl, q_ano, q_att, q_atl, q_ato, q_ri, q_rb, q_rs, q_rn, q_rt, q_rl, q_ro, q_slt, q_sll, q_wt, q_r1, q_r2, p_sz, p_szl, p_cml, p_cmr, p_cdv, p_rg, p_mod, p_rng0, p_ixt, p_ixl, p_ixo, p_ixtm, p_ixlm, p_t0, p_t1, p_t2, p_t3, p_l0, p_l1, p_l2, p_l3, p_o0, p_o1, p_o2, p_o3, p_wl, p_wo, p_cut, cutI_w, cutI_to, cutI_from, cutI_last, p_sl1, p_sl1, p_slk, p_sl2, p_sl3, p_zt, p_zl, p_snoc, p_app, p_repl, p_repg, p_sumo, p_suml, p_anyo, p_anyl, p_allo, p_alll, p_lno, p_tpo, p_enum, p_top, p_tops, p_topt, p_lkl, p_lkr, p_lks, p_wc, p_some, p_apI, p_apB, p_apS, p_apN, p_apT, p_apL, p_exl, p_rtc, p_tIc, p_tIn, p_isn1, p_isn2, p_isn3, p_isn4, p_isn5, p_isn6, p_isn7, p_isbb, p_tpc, p_lic, p_lnc, p_trc, p_slc, p_slo, p_ixc, p_ixcm, p_and, p_ifd, p_ifn, p_ifb, p_lct, p_repr, p_repc, p_eqt, p_eqr, p_eqp, p_eqs, p_eqlo, p_eqol, p_dgc, p_dgci, p_dgf, p_dgfi, p_dsc, p_dsci, p_lnW, p_lnI, p_lnWf, p_lnIf, p_dfzW, p_dfzI, p_obW, p_obI, p_thD, List.map_cons, List.map_nil, List.cons_append, List.nil_append, List.replicate, List.getElem?_cons_zero, List.getElem?_cons_succ, List.set_cons_zero, List.set_cons_succ, Option.some.injEq, exists_eq_left', List.length_cons, List.length_nil, Bool.not_true, Bool.not_false, List.zip_cons_cons, List.zip_nil_right, List.foldl_cons, List.foldl_nil, true_and, and_true, if_true, if_false, Bool.false_eq_true, D.own.injEq, D.int.injEq, D.tup.injEq, D.lst.injEq, D.cell.injEq, D.bl.injEq, D.str.injEq, D.scr.injEq, Ob.lst.injEq, D.fn.injEq, List.length_map, List.length_append, List.length_range, List.length_replicate, List.length_dropLast, List.length_drop, List.length_take, List.isEmpty_map, List.flatten_cons, List.flatten_nil, List.append_nil, eq_self, exists_and_left, Option.toList_some, Option.toList_none, beq_self_eq_true, decide_true, decide_false, decide_eq_true_eq, if_pos, if_neg, Int.toNat_natCast, Nat.le_refl, Nat.zero_le, Nat.reduceAdd, Nat.reduceMul, Nat.reduceSub, Nat.reduceLeDiff, Nat.reduceEqDiff, Int.reduceAdd, Int.reduceSub, Int.reduceMul, Int.reduceNeg, Int.reducePow, Nat.reducePow, Int.reduceLE, Int.reduceLT, Int.reduceEq, Int.reduceToNat, Int.reduceMod, Int.reduceDiv, eqD_ol, eqD_or, shw_own])
def ir03_ring_round : Fn := ⟨2, 4, (.cons (.expr (.call "check_ring" (.cons (.var 0) (.cons (.var 1) .nil)))) (.cons (.asg (.nm 2) (.blt .tuple (.cons (.var 1) .nil))) (.cons (.dnw 3 true) (.cons (.whl (.din true (.var 2) (.var 3)) (.cons (.ifS (.cmp .GtE (.dln (.var 3)) (.gint "MOST_ROUND" 5000)) (.cons (.raise "TooLarge" "no ring comes again within 5000 turns") .nil) .nil) (.cons (.dst (.var 3) (.var 2) (.dln (.var 3))) (.cons (.asg (.nm 2) (.call "ring_image_of" (.cons (.var 0) (.cons (.var 2) .nil)))) .nil)))) (.cons (.ret (.tup (.cons (.dix (.var 3) (.var 2)) (.cons (.bin .Sub (.dln (.var 3)) (.dix (.var 3) (.var 2))) .nil)))) .nil)))))⟩
def ir03_law_asked : Fn := ⟨2, 3, (.cons (.tryK (.cons (.ret (.call "ring_round" (.cons (.var 0) (.cons (.var 1) .nil)))) .nil) "CellError" 2 "_law_kind") .nil)⟩
theorem raft_end (k w : Nat) (t : List Int) : ∀ (n : Nat) (b : List Int), raft k w t (n + 1) b = rimg k w t (raft k w t n b)
  | 0, b => rfl
  | n + 1, b => by rw [raft, raft_end k w t n]; rfl
theorem raft_ok {k w : Nat} {t xs : List Int} (r : Rl k w t) (hs : St k xs) (hn : xs ≠ []) : ∀ n, St k (raft k w t n xs) ∧ raft k w t n xs ≠ [] ∧ (raft k w t n xs).length = xs.length
  | 0 => ⟨hs, hn, rfl⟩
  | n + 1 => by
    obtain ⟨h1, h2, h3⟩ := raft_ok r hs hn n
    rw [raft_end]
    have hl := rimg_len (k := k) (t := t) r.w1 h2
    refine ⟨img_st r _, fun z => ?_, hl.trans h3⟩
    rw [z] at hl
    have := List.length_pos_iff.mpr h2
    simp at hl
    omega
def rSeen (x : Nat → List Int) (j : Nat) : List (List Int × D) := (List.range j).map fun i => (x i, .int (i : Nat))
theorem rSeen_len (x : Nat → List Int) (j : Nat) : (rSeen x j).length = j := by simp [rSeen]
theorem rSeen_new {x : Nat → List Int} {j : Nat} (h : NoRep x (j + 1)) : dval (rSeen x j) (x j) = none := dval_range fun i hi => h i j hi (by omega)
theorem rSeen_at {x : Nat → List Int} {i n : Nat} (h : Rep1st x i n) : dval (rSeen x n) (x n) = some (.int (i : Nat)) :=
  dval_range_at h.1 h.2.1.symm fun j hj e => (show j = i from by
    rcases Nat.lt_trichotomy j i with q | q | q
    · exact absurd (e.trans h.2.1) (h.2.2 _ _ q h.1)
    · exact q
    · exact absurd (e.trans h.2.1).symm (h.2.2 _ _ q hj))
theorem rSeen_put {x : Nat → List Int} {j : Nat} (h : NoRep x (j + 1)) : dput (rSeen x j) (x j) (.int (j : Nat)) = rSeen x (j + 1) := by
  rw [dput_new (rSeen_new h)]
  unfold rSeen
  rw [List.range_succ, List.map_append]
  rfl
def spRnd : DSp := fun ds c Q E => ∃ (k w : Int) (t xs : List Int), ds = [ruleI k w t, tI xs] ∧ t.length ≤ 100000 ∧ xs.length ≤ 300 ∧ (isR k w t = false → E "NotRule" c) ∧ (isR k w t = true → (inR k xs = false ∨ xs = []) → E "NotWord" c) ∧
  (∀ a b : Nat, k = a → w = b → Rl a b t → St a xs → xs ≠ [] → (∀ i n, n ≤ 5000 → Rep1st (fun n => raft a b t n xs) i n → Q (.tup [.int (i : Nat), .int ((n : Nat) - (i : Nat))]) c) ∧ (NoRep (fun n => raft a b t n xs) 5001 → E "TooLarge" c))
def spAsked03 : DSp := fun ds c Q _ => ∃ a b : D, ds = [a, b] ∧ a.fz = a ∧ b.fz = b ∧ viaK eRW spRnd [a, b] c Q
section
variable {Γ : Str → DSp} {sub : Str → Str → Option Bool} {kind : Str → Str → D}
theorem pu_ring_round (hW : ∀ ds c Q E, spCheckRing ds c Q E → Γ "check_ring" ds c Q E) (hI : ∀ ds c Q E, spRing ds c Q E → Γ "ring_image_of" ds c Q E) : ∀ ds c Q E, spRnd ds c Q E → wFn Γ sub kind ir03_ring_round ds c Q E := by
  rintro _ c Q E ⟨k, w, t, xs, rfl, lt, lx, h1, h2, h3⟩
  refine wFn_mk rfl ?_
  rw [wSs_cons]; generalize hN : wSs _ _ _ _ _ _ _ = N1; try bv_omega
  refine hW _ _ _ _ ⟨k, w, t, xs, rfl, lt, by omega, fun a b d => ?_, fun a b => tkE (h2 a b), fun a => tkE (h1 a)⟩
  obtain ⟨k, w, rfl, rfl, r⟩ := isR_nat a
  have hs := inR_st.mp b
  obtain ⟨q1, q2⟩ := h3 k w rfl rfl r hs d
  have ok := raft_ok r hs d
  have x0 : raft k w t 0 xs = xs := rfl
  have xn := raft_end k w t
  clear h1 h2 h3 a b
  try dsimp only
  subst hN; try dsimp only
  rw [wSs_cons]; generalize hN : wSs _ _ _ _ _ _ _ = N1; try bv_omega
  subst hN; try dsimp only
  rw [wSs_cons]; generalize hN : wSs _ _ _ _ _ _ _ = N1; try bv_omega
  subst hN; try dsimp only
  rw [wSs_cons]; generalize hN : wSs _ _ _ _ _ _ _ = N1; try bv_omega
  have hl1 : 1 ≤ xs.length := List.length_pos_iff.mpr d
  generalize hx : (fun n => raft k w t n xs) = x at q1 q2
  have e0 : ∀ n, raft k w t n xs = x n := fun n => by rw [← hx]
  have ok2 : ∀ n, St k (x n) ∧ x n ≠ [] ∧ (x n).length = xs.length := fun n => by rw [← e0]; exact ok n
  have xn2 : ∀ n, rimg k w t (x n) = x (n + 1) := fun n => by rw [← e0, ← e0, xn]
  have es : xs = x 0 := e0 0
  clear hx e0 ok xn x0
  rcases rep_or x 5000 with ⟨i, n, hn, h1⟩ | h1
  · have q1 := q1 i n hn h1
    have hno := h1.no
    have hat := rSeen_at h1
    refine ⟨n + 1, whl_ind (I := fun m σ c' => ∃ j, j ≤ n ∧ m = n - j ∧ c' = c ++ [.dW (rSeen x j)] ∧ σ = [some (ruleD k w t), some (tI xs), some (tI (x j)), some (.cell c.length)]) ?_ _ _ _ ⟨0, Nat.zero_le _, rfl, rfl, by rw [← es]⟩⟩
    rintro m σ c' R ⟨j, hj, rfl, rfl, rfl⟩ hR
    have hsl := rSeen_len x j
    by_cases hjn : j = n
    · subst hjn
      bv_omega
      rw [hat]
      dsimp only [Option.isSome]
      rw [if_pos rfl]
      subst hN
      try dsimp only
      rw [wSs_cons]; generalize hN : wSs _ _ _ _ _ _ _ = N1; try bv_omega
      rw [hat]
      try bv_omega
      rw [hsl]
      exact q1
    · have hnew := rSeen_new (hno.mono (show j + 1 ≤ n by omega))
      have hput := rSeen_put (hno.mono (show j + 1 ≤ n by omega))
      obtain ⟨o1, o2, o3⟩ := ok2 j
      bv_omega
      rw [hnew]
      dsimp only [Option.isSome]
      rw [if_neg (by decide), hsl]
      try rw [if_neg (by omega)]
      try bv_omega
      try rw [hsl]
      rw [hput]
      refine hI _ _ _ _ ⟨k, w, t, x j, rfl, r, o1, o2, by omega, ?_⟩
      rw [xn2]
      try bv_omega
      exact hR _ _ (by omega) ⟨j + 1, by omega, by omega, rfl, rfl⟩
  · have q2 := q2 h1
    refine ⟨5000 + 1, whl_ind (I := fun m σ c' => ∃ j, j ≤ 5000 ∧ m = 5000 - j ∧ c' = c ++ [.dW (rSeen x j)] ∧ σ = [some (ruleD k w t), some (tI xs), some (tI (x j)), some (.cell c.length)]) ?_ _ _ _ ⟨0, Nat.zero_le _, rfl, rfl, by rw [← es]⟩⟩
    rintro m σ c' R ⟨j, hj, rfl, rfl, rfl⟩ hR
    have hsl := rSeen_len x j
    have hnew := rSeen_new (h1.mono (show j + 1 ≤ 5001 by omega))
    have hput := rSeen_put (h1.mono (show j + 1 ≤ 5001 by omega))
    obtain ⟨o1, o2, o3⟩ := ok2 j
    bv_omega
    rw [hnew]
    dsimp only [Option.isSome]
    rw [if_neg (by decide), hsl]
    by_cases hjn : j = 5000
    · rw [if_pos (by omega)]
      exact q2
    · rw [if_neg (by omega)]
      try bv_omega
      rw [hput]
      refine hI _ _ _ _ ⟨k, w, t, x j, rfl, r, o1, o2, by omega, ?_⟩
      rw [xn2]
      try bv_omega
      exact hR _ _ (by omega) ⟨j + 1, by omega, by omega, rfl, rfl⟩
theorem pu_asked03 (h0 : ∀ ds c Q E, spRnd ds c Q E → Γ "ring_round" ds c Q E)
    (hs : ∀ n ∈ eRW, sub n "CellError" = some true) (hk : ∀ n ∈ eRW, kind "_law_kind" n = .str (kS n)) : ∀ ds c Q E, spAsked03 ds c Q E → wFn Γ sub kind ir03_law_asked ds c Q E := by
  rintro _ c Q E ⟨a, b, rfl, ha, hb, h⟩
  refine wFn_mk rfl ?_
  have f1 : ∀ d, d.isCell = false → Q d c → retK c.length Q d c := fun d hd q => rt1 hd rfl q
  have f2 : ∀ n, n ∈ eRW → Q (.str (kS n)) c → (sub n "CellError" = some true ∧ retK c.length Q (kind "_law_kind" n) c) ∨ (sub n "CellError" = some false ∧ E n (c.take c.length)) := fun n hn q => .inl ⟨hs n hn, by rw [hk n hn]; exact rt1 rfl rfl q⟩
  bv_omega
  rw [ha, hb]
  exact h0 _ _ _ _ (h _ _ f1 f2)
end
end Ev

/-! # Pu23: the law k03 -/
namespace Ev
open PySem
local macro_rules | `(tactic| bv_omega) => `(tactic| simp (maxSteps := 2000000) (disch := first | omega | rfl | (simp only [List.length_map, List.length_append, List.length_cons, List.length_nil, List.length_range, List.length_replicate, List.length_take, List.length_drop, List.length_dropLast]; omega) | decide +kernel) only [wFn, wSs, wS, wE, wA, wL, wT, wO, wC, wI, wipeD, thawS, nI, lcGo, isT, q_bii, q_btt, q_bti, q_bss, q_bl1, q_bl2, q_bl3, q_iadd, q_isub, q_imul, q_idiv, q_ipow, q_tadd, q_sadd, q_ladd, q_lrep, q_lkl, q_lko, q_lrl, q_lro, q_lrs, q_lsl, q_lso, q_lss, q_lst, q_aii, q_att2, q_clt, q_cle, q_cgt, q_cge, q_ceq, q_cne, q_cin, q_cni, q_cis, q_cin', q_eii, q_ebb, q_ess, q_tb, q_ti, q_tn, q_tt, q_tl, q_to, q_int, q_inb, q_lnt, q_lnl, q_min, q_max, q_abs, q_tpt, q_tpl, q_lil, q_lit, q_fzi, q_fzb, q_fzs, q_fzn, q_fzt, q_fzl, q_fzo, q_fzc, q_fzr, q_fzf, q_ski, q_skb, q_sks, q_skn, q_skt, q_skl, q_sko, q_skf, q_ani, q_anb, q_ans, q_ann, q_ant, q_anl, q_ano, q_att, q_atl, q_ato, q_ri, q_rb, q_rs, q_rn, q_rt, q_rl, q_ro, q_slt, q_sll, q_wt, q_r1, q_r2, p_sz, p_szl, p_cml, p_cmr, p_cdv, p_rg, p_mod, p_rng0, p_ixt, p_ixl, p_ixo, p_ixtm, p_ixlm, p_t0, p_t1, p_t2, p_t3, p_l0, p_l1, p_l2, p_l3, p_o0, p_o1, p_o2, p_o3, p_wl, p_wo, p_cut, cutI_w, cutI_to, cutI_from, cutI_last, p_sl1, p_sl1, p_slk, p_sl2, p_sl3, p_zt, p_zl, p_snoc, p_app, p_repl, p_repg, p_sumo, p_suml, p_anyo, p_anyl, p_allo, p_alll, p_lno, p_tpo, p_enum, p_top, p_tops, p_topt, p_lkl, p_lkr, p_lks, p_wc, p_some, p_apI, p_apB, p_apS, p_apN, p_apT, p_apL, p_exl, p_rtc, p_tIc, p_tIn, p_isn1, p_isn2, p_isn3, p_isn4, p_isn5, p_isn6, p_isn7, p_isbb, p_tpc, p_lic, p_lnc, p_trc, p_slc, p_slo, p_ixc, p_ixcm, p_and, p_ifd, p_ifn, p_ifb, p_lct, p_repr, p_repc, p_eqt, p_eqr, p_eqp, p_eqs, p_eqlo, p_eqol, p_dgc, p_dgci, p_dgf, p_dgfi, p_dsc, p_dsci, p_lnW, p_lnI, p_lnWf, p_lnIf, p_dfzW, p_dfzI, p_obW, p_obI, p_thD, List.map_cons, List.map_nil, List.cons_append, List.nil_append, List.replicate, List.getElem?_cons_zero, List.getElem?_cons_succ, List.set_cons_zero, List.set_cons_succ, Option.some.injEq, exists_eq_left', List.length_cons, List.length_nil, Bool.not_true, Bool.not_false, List.zip_cons_cons, List.zip_nil_right, List.foldl_cons, List.foldl_nil, true_and, and_true, if_true, if_false, Bool.false_eq_true, D.own.injEq, D.int.injEq, D.tup.injEq, D.lst.injEq, D.cell.injEq, D.bl.injEq, D.str.injEq, D.scr.injEq, Ob.lst.injEq, D.fn.injEq, List.length_map, List.length_append, List.length_range, List.length_replicate, List.length_dropLast, List.length_drop, List.length_take, List.isEmpty_map, List.flatten_cons, List.flatten_nil, List.append_nil, eq_self, exists_and_left, Option.toList_some, Option.toList_none, beq_self_eq_true, decide_true, decide_false, decide_eq_true_eq, if_pos, if_neg, Int.toNat_natCast, Nat.le_refl, Nat.zero_le, Nat.reduceAdd, Nat.reduceMul, Nat.reduceSub, Nat.reduceLeDiff, Nat.reduceEqDiff, Int.reduceAdd, Int.reduceSub, Int.reduceMul, Int.reduceNeg, Int.reducePow, Nat.reducePow, Int.reduceLE, Int.reduceLT, Int.reduceEq, Int.reduceToNat, Int.reduceMod, Int.reduceDiv, eqD_ol, eqD_or, shw_own, ↓reduceIte])
abbrev U03_0_4 : Ss := .nil
abbrev U03_0_3 : Ss := .cons (.ifS (.cmp .Gt (.var 7) (.lit (.int 4000))) (.cons (.brk) .nil) .nil) U03_0_4
abbrev U03_0_2 : Ss := .cons (.asg (.nm 6) (.call "_law_ring" (.cons (.var 2) (.cons (.var 6) .nil)))) U03_0_3
abbrev U03_0_1 : Ss := .cons (.dst (.var 5) (.var 6) (.var 7)) U03_0_2
abbrev U03_0_0 : Ss := .cons (.ifS (.din false (.var 6) (.var 5)) (.cons (.brk) .nil) .nil) U03_0_1
def L03_0 : Ss := U03_0_0
abbrev U03_2_7 : Ss := .nil
abbrev U03_2_6 : Ss := .cons (.ifS (.and (.val (.isin (.var 8) .tuple)) (.and (.cmp .NotEq (.call "ring_after" (.cons (.var 2) (.cons (.var 4) (.cons (.blt .min (.cons (.lit (.int 1000)) (.cons (.idx (.var 8) (.lit (.int 0))) .nil))) .nil)))) (.call "ring_after" (.cons (.var 2) (.cons (.var 4) (.cons (.blt .min (.cons (.lit (.int 1000)) (.cons (.bin .Add (.idx (.var 8) (.lit (.int 0))) (.idx (.var 8) (.lit (.int 1)))) .nil))) .nil))))) (.cmp .Lt (.bin .Add (.idx (.var 8) (.lit (.int 0))) (.idx (.var 8) (.lit (.int 1)))) (.lit (.int 1001))))) (.cons (.ret (.lit (.bl false))) .nil) .nil) U03_2_7
abbrev U03_2_5 : Ss := .cons (.ifS (.and (.din false (.var 6) (.var 5)) (.and (.cmp .Lt (.dln (.var 5)) (.lit (.int 4000))) (.cmp .NotEq (.blt .repr (.cons (.var 8) .nil)) (.blt .repr (.cons (.tup (.cons (.dix (.var 5) (.var 6)) (.cons (.bin .Sub (.dln (.var 5)) (.dix (.var 5) (.var 6))) .nil))) .nil))))) (.cons (.ret (.lit (.bl false))) .nil) .nil) U03_2_6
abbrev U03_2_4 : Ss := .cons (.asg (.nm 8) (.call "_law_asked" (.cons (.var 2) (.cons (.var 4) .nil)))) U03_2_5
abbrev U03_2_3 : Ss := .cons (.forS (.nm 7) (.rng (.cons (.lit (.int 70000)) .nil)) L03_0) U03_2_4
abbrev U03_2_2 : Ss := .cons (.asg (.nm 6) (.var 4)) U03_2_3
abbrev U03_2_1 : Ss := .cons (.dnw 5 true) U03_2_2
abbrev U03_2_0 : Ss := .cons (.asg (.nm 4) (.call "_law_word" (.cons (.var 1) (.cons (.idx (.var 2) (.lit (.int 0))) (.cons (.bin .Add (.lit (.int 1)) (.bin .Mod (.blt .int (.cons (.call "_law_next" (.cons (.var 1) .nil)) .nil)) (.lit (.int 8)))) .nil))))) U03_2_1
def L03_2 : Ss := U03_2_0
abbrev T03_9 : Ss := .nil
abbrev T03_8 : Ss := .cons (.ret (.cmp .Eq (.lst (.cons (.call "_law_asked" (.cons (.var 9) (.cons (.tup .nil) .nil))) (.cons (.call "_law_asked" (.cons (.var 2) (.cons (.tup .nil) .nil))) (.cons (.call "_law_asked" (.cons (.var 2) (.cons (.tup (.cons (.lit (.int 9)) .nil)) .nil))) (.cons (.call "_law_asked" (.cons (.var 10) (.cons (.tup (.cons (.lit (.int 0)) .nil)) .nil))) .nil))))) (.lst (.cons (.lit (.str "!rule")) (.cons (.lit (.str "!word")) (.cons (.lit (.str "!word")) (.cons (.tup (.cons (.lit (.int 0)) (.cons (.lit (.int 1)) .nil))) .nil))))))) T03_9
abbrev T03_7 : Ss := .cons (.ifS (.and (.cmp .Eq (.bin .Mod (.blt .int (.cons (.call "_law_next" (.cons (.var 1) .nil)) .nil)) (.lit (.int 12))) (.lit (.int 5))) (.cmp .Eq (.call "_law_asked" (.cons (.tup (.cons (.lit (.int 2)) (.cons (.lit (.int 4)) (.cons (.bin .Mult (.tup (.cons (.lit (.int 0)) (.cons (.lit (.int 1)) (.cons (.lit (.int 1)) (.cons (.lit (.int 0)) (.cons (.lit (.int 1)) (.cons (.lit (.int 0)) (.cons (.lit (.int 0)) (.cons (.lit (.int 1)) .nil))))))))) (.lit (.int 2))) .nil)))) (.cons (.bin .Add (.bin .Mult (.tup (.cons (.lit (.int 0)) .nil)) (.lit (.int 22))) (.tup (.cons (.lit (.int 1)) .nil))) .nil))) (.lit (.str "!other")))) (.cons (.ret (.lit (.bl false))) .nil) .nil) T03_8
abbrev T03_6 : Ss := .cons (.asg (.nm 10) (.tup (.cons (.lit (.int 2)) (.cons (.lit (.int 3)) (.cons (.tup (.cons (.lit (.int 0)) (.cons (.lit (.int 1)) (.cons (.lit (.int 1)) (.cons (.lit (.int 0)) (.cons (.lit (.int 1)) (.cons (.lit (.int 0)) (.cons (.lit (.int 0)) (.cons (.lit (.int 1)) .nil))))))))) .nil))))) T03_7
abbrev T03_5 : Ss := .cons (.asg (.nm 9) (.tup (.cons (.lit (.int 2)) (.cons (.lit (.int 1)) (.cons (.tup (.cons (.lit (.int 0)) (.cons (.lit (.int 2)) .nil))) .nil))))) T03_6
abbrev T03_4 : Ss := .cons (.forS (.nm 3) (.rng (.cons (.lit (.int 4)) .nil)) L03_2) T03_5
abbrev T03_3 : Ss := .cons (.asg (.nm 2) (.call "_law_rule" (.cons (.var 1) (.cons (.lit (.int 64)) .nil)))) T03_4
abbrev T03_2 : Ss := .cons (.ifS (.cmp .NotEq (.blt .repr (.cons (.call "ring_round" (.cons (.tup (.cons (.lit (.int 2)) (.cons (.lit (.int 2)) (.cons (.tup (.cons (.lit (.int 0)) (.cons (.lit (.int 1)) (.cons (.lit (.int 1)) (.cons (.lit (.int 0)) .nil))))) .nil)))) (.cons (.tup (.cons (.lit (.int 0)) (.cons (.lit (.int 0)) (.cons (.lit (.int 1)) .nil)))) .nil))) .nil)) (.blt .repr (.cons (.tup (.cons (.lit (.int 1)) (.cons (.lit (.int 3)) .nil))) .nil))) (.cons (.ret (.lit (.bl false))) .nil) .nil) T03_3
abbrev T03_1 : Ss := .cons (.asgC 1 (.call "_law_more" (.cons (.var 1) (.cons (.lit (.int 120)) .nil)))) T03_2
abbrev T03_0 : Ss := .cons (.asgC 1 (.call "_law_draws" (.cons (.var 0) .nil))) T03_1
def ir03_law : Fn := ⟨1, 11, T03_0⟩
theorem forGo_c {ok : Cells → Prop} {tg : Tg} {body : WS} {P : DE} {x : D} {r : List D} {σ : Sl} {c : Cells} : forGo ok tg body P (x :: r) σ c = (ok c ∧ asgT tg x σ c fun σ1 => body ⟨forGo ok tg body P r, P.rt, P.nx, forGo ok tg body P r⟩ σ1 c) := rfl
theorem forGo_n {ok : Cells → Prop} {tg : Tg} {body : WS} {P : DE} {σ : Sl} {c : Cells} : forGo ok tg body P [] σ c = (ok c ∧ P.nx σ c) := rfl
section
variable {c : Cells} {Q : D → Cells → Prop} {E : Str → Cells → Prop} {k w n i : Nat} {t xs : List Int} {k1 w1 : Int}
theorem cd_ok (r : Rl k w t) (hs : St k xs) (hn : xs ≠ []) (lx : xs.length ≤ 300) (n5 : n ≤ 5000) (h : Rep1st (fun n => raft k w t n xs) i n) (q : Q (.tup [.int (i : Nat), .int ((n : Nat) - (i : Nat))]) c) : spRnd [ruleD k w t, tI xs] c Q E :=
  ⟨k, w, t, xs, rfl, by have := r.len; have := r.big; omega, lx, fun z => ff r.isR z, fun _ z => by rcases z with z | z; exact ff hs.inR z; exact absurd z hn, fun a b e1 e2 _ _ _ => by
    have : a = k := by omega
    subst this
    have : b = w := by omega
    subst this
    refine ⟨fun j m hm h' => ?_, fun h' => absurd h.2.1.symm (h' _ _ h.1 (by omega))⟩
    obtain ⟨rfl, rfl⟩ := h.unique h'
    exact q⟩
theorem cd_big (r : Rl k w t) (hs : St k xs) (hn : xs ≠ []) (lx : xs.length ≤ 300) (h : NoRep (fun n => raft k w t n xs) 5001) (q : E "TooLarge" c) : spRnd [ruleD k w t, tI xs] c Q E :=
  ⟨k, w, t, xs, rfl, by have := r.len; have := r.big; omega, lx, fun z => ff r.isR z, fun _ z => by rcases z with z | z; exact ff hs.inR z; exact absurd z hn, fun a b e1 e2 _ _ _ => by
    have : a = k := by omega
    subst this
    have : b = w := by omega
    subst this
    exact ⟨fun j m hm h' => absurd h'.2.1.symm (h _ _ h'.1 (by omega)), fun _ => q⟩⟩
theorem cd_B1 (h : isR k1 w1 t = false) (l : t.length ≤ 100000) (lx : xs.length ≤ 300) (q : E "NotRule" c) : spRnd [ruleI k1 w1 t, tI xs] c Q E :=
  ⟨k1, w1, t, xs, rfl, l, lx, fun _ => q, fun z => ff z h, fun a b e1 e2 r => ff (by subst e1; subst e2; exact r.isR) h⟩
theorem cd_B2 (h : isR k1 w1 t = true) (hx : inR k1 xs = false ∨ xs = []) (l : t.length ≤ 100000) (lx : xs.length ≤ 300) (q : E "NotWord" c) : spRnd [ruleI k1 w1 t, tI xs] c Q E :=
  ⟨k1, w1, t, xs, rfl, l, lx, fun z => ff h z, fun _ _ => q, fun a b e1 e2 _ hs hn => by rcases hx with y | y; exact ff (by subst e1; exact hs.inR) y; exact absurd y hn⟩
end
section
variable {Γ : Str → DSp} {sub : Str → Str → Option Bool} {kind : Str → Str → D}
theorem eq_ts {ds : List D} {s : Str} {c : Cells} {B : Bool → Prop} {p : PyData} (h1 : (D.tup ds).py = some p) (h2 : SeqAt.shaped p = true) (h3 : SeqAt.shaped (.str s) = true) (h4 : PyData.eqv p (.str s) = false) (b : B false) : eqK (.tup ds) (.str s) c B := .inr ⟨p, .str s, h1, rfl, h2, h3, by rw [h4]; exact b⟩
theorem isin_str {base : Nat} {E : XW} {P : DE} {σ : Sl} {c : Cells} {i : Nat} {z : Str} {X : T} {a b : Ss} (h : σ[i]? = some (some (.str z))) : wS Γ sub kind base E (.ifS (.and (.val (.isin (.var i) .tuple)) X) a b) P σ c = wSs Γ sub kind base E b P σ c := by
  simp only [wS, wT, wE, h, Option.some.injEq, exists_eq_left', isT, truK, Bool.false_eq_true, if_false]
section
variable (hNx : ∀ ds c Q E, spNext ds c Q E → Γ "_law_next" ds c Q E) (hWd : ∀ ds c Q E, spWord ds c Q E → Γ "_law_word" ds c Q E) (hRg : ∀ ds c Q E, spRing ds c Q E → Γ "_law_ring" ds c Q E) (hRA : ∀ ds c Q E, spRAfter ds c Q E → Γ "ring_after" ds c Q E) (hAs : ∀ ds c Q E, spAsked03 ds c Q E → Γ "_law_asked" ds c Q E)
include hNx hWd hRg hRA hAs
theorem body03 {base : Nat} {E : XW} {P : DE} {x0 x3 x4 x5 x6 x7 x8 x9 x10 : Option D} {c : Cells} {k w : Nat} {t : List Int} (r : Rl k w t) (hdr : Dr 1 c)
    (hP : ∀ (y4 y5 y6 y7 y8 : Option D) c', Dr 1 c' → P.nx [x0, some (.cell 1), some (ruleD k w t), x3, y4, y5, y6, y7, y8, x9, x10] c') :
    wSs Γ sub kind base E L03_2 P [x0, some (.cell 1), some (ruleD k w t), x3, x4, x5, x6, x7, x8, x9, x10] c := by
  rw [L03_2]
  have hk2 := r.k2
  rw [wSs_cons]; generalize hN : wSs _ _ _ _ _ _ _ = N1; try bv_omega
  refine hNx _ _ _ _ ⟨1, rfl, hdr, fun i c2 i0 i1 hd2 => ?_⟩
  have hdr2 := hd2.dr hdr.lt
  obtain ⟨m, hm, m1, m8⟩ : ∃ m : Nat, 1 + i % 8 = (m : Int) ∧ 1 ≤ m ∧ m ≤ 8 := ⟨(1 + i % 8).toNat, by omega, by omega, by omega⟩
  try bv_omega
  rw [hm]
  refine hWd _ _ _ _ ⟨1, k, m, rfl, by omega, by omega, hdr2, fun xs c3 lx hs hd3 => ?_⟩
  have hdr3 := hd3.dr hdr2.lt
  have hn : xs ≠ [] := fun z => by rw [z] at lx; simp at lx; omega
  try bv_omega
  have ok := raft_ok r hs hn
  have x0' : raft k w t 0 xs = xs := rfl
  have xn := raft_end k w t
  subst hN; try dsimp only
  rw [wSs_cons]; generalize hN : wSs _ _ _ _ _ _ _ = N1; try bv_omega
  subst hN; try dsimp only
  rw [wSs_cons]; generalize hN : wSs _ _ _ _ _ _ _ = N1; try bv_omega
  subst hN; try dsimp only
  generalize hx : (fun n => raft k w t n xs) = x
  have e0 : ∀ n, raft k w t n xs = x n := fun n => by rw [← hx]
  have hk : k ≤ 1000 := by have := r.k4; omega
  have ok2 : ∀ n, St k (x n) ∧ x n ≠ [] ∧ (x n).length = xs.length := fun n => by rw [← e0]; exact ok n
  have xn2 : ∀ n, rimg k w t (x n) = x (n + 1) := fun n => by rw [← e0, ← e0, xn]
  have es : xs = x 0 := e0 0
  have hdrd : ∀ kw, Dr 1 (c3 ++ [.dW kw]) := fun kw => by
    obtain ⟨ys, h1, h2⟩ := hdr3
    exact ⟨ys, by rw [List.getElem?_append_left (List.getElem?_eq_some_iff.mp h1).1]; exact h1, h2⟩
  -- what is left to do behind the loop
  have last : ∀ (j i n : Nat) (y6 y7 : Option D) kw, Rep1st x i n → wSs Γ sub kind base E U03_2_6 P [x0, some (.cell 1), some (ruleD k w t), x3, some (tI xs), some (.cell c3.length), y6, y7, some (.tup [.int (i : Nat), .int ((n : Nat) - (i : Nat))]), x9, x10] (c3 ++ [.dW kw]) := by
    intro j i n y6 y7 kw hr
    have hP' : ∀ c', Dr 1 c' → P.nx [x0, some (.cell 1), some (ruleD k w t), x3, some (tI xs), some (.cell c3.length), y6, y7, some (.tup [.int (i : Nat), .int ((n : Nat) - (i : Nat))]), x9, x10] c' := fun c' h => hP _ _ _ _ _ _ h
    have ein : (i : Int) + ((n : Int) - (i : Int)) = (n : Int) := by omega
    have em : ∀ m : Nat, (if (m : Int) < 1000 then (m : Int) else 1000) = ((min 1000 m : Nat) : Int) := fun m => by split <;> omega
    have lt : t.length ≤ 100000 := by have := r.len; have := r.big; omega
    rw [wSs_cons]; generalize hN : wSs _ _ _ _ _ _ _ = N1; try bv_omega
    rw [em]
    refine hRA _ _ _ _ (cl_rafter (n := min 1000 i) r hs hn (by omega) lt (by omega) ?_)
    try bv_omega
    rw [ein, em]
    refine hRA _ _ _ _ (cl_rafter (n := min 1000 n) r hs hn (by omega) lt (by omega) ?_)
    rw [e0, e0]
    try bv_omega
    by_cases hn1 : n ≤ 1000
    · rw [show min 1000 i = i by have := hr.1; omega, show min 1000 n = n by omega, if_pos hr.2.1.symm]
      subst hN
      exact hP' _ (hdrd _)
    · rw [if_neg (show ¬ (n : Int) < 1001 by omega)]
      try rw [ite_self]
      subst hN
      exact hP' _ (hdrd _)
  have rest : ∀ (j : Nat) (y7 : Option D), ((∃ i, Rep1st x i j) ∧ j ≤ 4001) ∨ (j = 4002 ∧ NoRep x 4002) → wSs Γ sub kind base E U03_2_4 P [x0, some (.cell 1), some (ruleD k w t), x3, some (tI xs), some (.cell c3.length), some (tI (x j)), y7, x8, x9, x10] (c3 ++ [.dW (rSeen x j)]) := by
    intro j y7 h
    have hsl := rSeen_len x j
    rcases h with ⟨⟨i, hr⟩, hj⟩ | ⟨rfl, hno⟩
    · have hat := rSeen_at hr
      have hla := last j i j (some (tI (x j))) y7 (rSeen x j) hr
      have s0 : D.sh (.tup [.int (i : Nat), .int ((j : Nat) - (i : Nat))]) := by have := hr.1; simp only [D.sh, D.shs]; exact ⟨by omega, by omega, trivial⟩
      have d0 : D.dp (.tup [.int (i : Nat), .int ((j : Nat) - (i : Nat))]) ≤ 60 := by simp only [D.dp, D.dps]; decide
      have w0 : D.wt (.tup [.int (i : Nat), .int ((j : Nat) - (i : Nat))]) ≤ 1000000 := by simp only [D.wt, D.wts]; decide
      rw [wSs_cons]; generalize hN : wSs _ _ _ _ _ _ _ = N1; try bv_omega
      refine hAs _ _ _ _ ⟨_, _, rfl, rfl, rfl, askQ _ rfl (fun Q' E' q => cd_ok r hs hn (by omega) (n := j) (by omega) (by rw [hx]; exact hr) q) ?_⟩
      try bv_omega
      subst hN; try dsimp only
      rw [wSs_cons]; generalize hN : wSs _ _ _ _ _ _ _ = N1; try bv_omega
      rw [hat]
      dsimp only [Option.isSome]
      try rw [hsl]
      rw [if_pos rfl]
      try bv_omega
      rw [ite_self]
      subst hN
      exact hla
    · have big : ∀ (d : D), (∀ (y6 y7 : Option D), wSs Γ sub kind base E U03_2_6 P [x0, some (.cell 1), some (ruleD k w t), x3, some (tI xs), some (.cell c3.length), y6, y7, some d, x9, x10] (c3 ++ [.dW (rSeen x 4002)])) → wSs Γ sub kind base E U03_2_5 P [x0, some (.cell 1), some (ruleD k w t), x3, some (tI xs), some (.cell c3.length), some (tI (x 4002)), y7, some d, x9, x10] (c3 ++ [.dW (rSeen x 4002)]) := by
        intro d hd
        rw [wSs_cons]; generalize hN : wSs _ _ _ _ _ _ _ = N1; try bv_omega
        cases hv : dval (rSeen x 4002) (x 4002) with
        | none =>
          dsimp only [Option.isSome]
          rw [if_neg (by decide)]
          subst hN
          exact hd _ _
        | some v =>
          dsimp only [Option.isSome]
          rw [if_pos rfl]
          try rw [hsl]
          try bv_omega
          try rw [if_neg (by omega)]
          subst hN
          exact hd _ _
      rcases rep_or x 5000 with ⟨i, n, hn5, hr⟩ | hno2
      · have hla := big _ fun y6 y7 => last 4002 i n y6 y7 (rSeen x 4002) hr
        rw [wSs_cons]; generalize hN : wSs _ _ _ _ _ _ _ = N1; try bv_omega
        refine hAs _ _ _ _ ⟨_, _, rfl, rfl, rfl, askQ _ rfl (fun Q' E' q => cd_ok r hs hn (by omega) (n := n) hn5 (by rw [hx]; exact hr) q) ?_⟩
        try bv_omega
        subst hN
        exact hla
      · have hst : ∀ (z : Str) (y6 y7 : Option D), wSs Γ sub kind base E U03_2_6 P [x0, some (.cell 1), some (ruleD k w t), x3, some (tI xs), some (.cell c3.length), y6, y7, some (.str z), x9, x10] (c3 ++ [.dW (rSeen x 4002)]) := fun z y6 y7 => by
          rw [wSs_cons, isin_str rfl]
          simp only [wSs]
          exact hP _ _ _ _ _ _ (hdrd _)
        have hla := big (.str "!large") (hst _)
        clear hst
        rw [wSs_cons]; generalize hN : wSs _ _ _ _ _ _ _ = N1; try bv_omega
        refine hAs _ _ _ _ ⟨_, _, rfl, rfl, rfl, askE _ _ kS4 eR4 (fun Q' E' e => cd_big r hs hn (by omega) (by rw [hx]; exact hno2) e) ?_⟩
        try bv_omega
        subst hN
        exact hla
  rw [wSs_cons]; generalize hN : wSs _ _ _ _ _ _ _ = N1; try bv_omega
  refine for_rg (I := fun j σ c' => j ≤ 4001 ∧ NoRep x j ∧ c' = c3 ++ [.dW (rSeen x j)] ∧ ∃ y7, σ = [x0, some (.cell 1), some (ruleD k w t), x3, some (tI xs), some (.cell c3.length), some (tI (x j)), y7, x8, x9, x10]) ⟨by omega, fun a b h1 h2 => by omega, rfl, x7, by rw [← es]⟩ ?_ ?_
  · rintro σ c' ⟨h, _⟩
    omega
  · rintro j σ c' R hj ⟨hj4, hno, rfl, y7, rfl⟩ hR
    refine ⟨trivial, ?_⟩
    rw [q_ani]
    simp only [List.set_cons_succ, List.set_cons_zero]
    rw [L03_0]
    have hsl := rSeen_len x j
    by_cases hrep : ∃ i, i < j ∧ x j = x i
    · obtain ⟨i, hi, e⟩ := hrep
      have hr : Rep1st x i j := ⟨hi, e, hno⟩
      have hat := rSeen_at hr
      have hre := rest j (some (.int j)) (.inl ⟨⟨i, hr⟩, hj4⟩)
      bv_omega
      rw [hat]
      dsimp only [Option.isSome]
      rw [if_pos rfl]
      subst hN
      exact hre
    · have hno1 : NoRep x (j + 1) := fun a b h1 h2 => by
        by_cases hb : b = j
        · subst hb
          exact fun z => hrep ⟨a, h1, z.symm⟩
        · exact hno a b h1 (by omega)
      have hnew := rSeen_new hno1
      have hput := rSeen_put hno1
      obtain ⟨o1, o2, o3⟩ := ok2 j
      bv_omega
      rw [hnew]
      dsimp only [Option.isSome]
      rw [if_neg (by decide)]
      try bv_omega
      rw [hput]
      refine hRg _ _ _ _ ⟨k, w, t, x j, rfl, r, o1, o2, by omega, ?_⟩
      rw [xn2]
      try bv_omega
      by_cases hj5 : 4000 < j
      · rw [if_pos (by omega)]
        have : j = 4001 := by omega
        subst this
        subst hN
        exact rest 4002 (some (.int (4001 : Nat))) (.inr ⟨rfl, hno1⟩)
      · rw [if_neg (by omega)]
        exact hR _ _ ⟨by omega, hno1, rfl, _, rfl⟩
end
variable (hD : ∀ ds c Q E, spDraws ds c Q E → Γ "_law_draws" ds c Q E) (hM : ∀ ds c Q E, spMore ds c Q E → Γ "_law_more" ds c Q E) (hNx : ∀ ds c Q E, spNext ds c Q E → Γ "_law_next" ds c Q E) (hRu : ∀ ds c Q E, spRule ds c Q E → Γ "_law_rule" ds c Q E)
    (hWd : ∀ ds c Q E, spWord ds c Q E → Γ "_law_word" ds c Q E) (hRg : ∀ ds c Q E, spRing ds c Q E → Γ "_law_ring" ds c Q E) (hRA : ∀ ds c Q E, spRAfter ds c Q E → Γ "ring_after" ds c Q E) (hRn : ∀ ds c Q E, spRnd ds c Q E → Γ "ring_round" ds c Q E) (hAs : ∀ ds c Q E, spAsked03 ds c Q E → Γ "_law_asked" ds c Q E)
include hD hM hNx hRu hWd hRg hRA hRn hAs
theorem pu_law03 : ∀ ds c Q E, spLaw ds c Q E → wFn Γ sub kind ir03_law ds c Q E := by
  refine law_pre (by decide) (by decide) (by decide) hD hM ?_
  intro ns c E N B C R hl hdr hR
  have e1 : Rl 2 2 [0, 1, 1, 0] := isR_iff.mp (by decide +kernel)
  have e3 : Rl 2 3 [0, 1, 1, 0, 1, 0, 0, 1] := isR_iff.mp (by decide +kernel)
  have e4 : Rl 2 4 [0, 1, 1, 0, 1, 0, 0, 1, 0, 1, 1, 0, 1, 0, 0, 1] := isR_iff.mp (by decide +kernel)
  have i1 : St 2 [0, 0, 1] := inR_st.mp (by decide)
  have i3 : St 2 [0] := inR_st.mp (by decide)
  have i4 : St 2 (List.replicate 22 0 ++ [1]) := inR_st.mp (by decide)
  have q1 : Rep1st (fun n => raft 2 2 [0, 1, 1, 0] n [0, 0, 1]) 1 4 := ⟨by decide, by decide +kernel, by
    intro a b h1 h2
    have : (a = 0 ∧ b = 1) ∨ (a = 0 ∧ b = 2) ∨ (a = 0 ∧ b = 3) ∨ (a = 1 ∧ b = 2) ∨ (a = 1 ∧ b = 3) ∨ (a = 2 ∧ b = 3) := by omega
    rcases this with ⟨rfl, rfl⟩ | ⟨rfl, rfl⟩ | ⟨rfl, rfl⟩ | ⟨rfl, rfl⟩ | ⟨rfl, rfl⟩ | ⟨rfl, rfl⟩ <;> decide +kernel⟩
  have q3 : Rep1st (fun n => raft 2 3 [0, 1, 1, 0, 1, 0, 0, 1] n [0]) 0 1 := ⟨by decide, by decide +kernel, fun a b h1 h2 => by omega⟩
  rw [wSs_cons]; generalize hN : wSs _ _ _ _ _ _ _ = N1; try bv_omega
  refine hRn _ _ _ _ (cd_ok (k := 2) (w := 2) e1 i1 (by decide) (by decide) (n := 4) (by decide) q1 ?_)
  have s0 : D.sh (.tup [.int 1, .int 3]) := by simp only [D.sh, D.shs]; decide
  have d0 : D.dp (.tup [.int 1, .int 3]) ≤ 60 := by simp only [D.dp, D.dps]; decide
  have w0 : D.wt (.tup [.int 1, .int 3]) ≤ 1000000 := by simp only [D.wt, D.wts]; decide
  rw [show (((4 : Nat) : Int) - ((1 : Nat) : Int)) = 3 by decide, show (((1 : Nat) : Int)) = 1 by decide]
  try bv_omega
  subst hN; try dsimp only
  rw [wSs_cons]; generalize hN : wSs _ _ _ _ _ _ _ = N1; try bv_omega
  refine hRu _ _ _ _ ⟨1, 64, rfl, by omega, by omega, hdr, fun k w t c3 hr hle hw4 hd3 => ?_⟩
  have hdr3 := hd3.dr hdr.lt
  try bv_omega
  subst hN; try dsimp only
  rw [wSs_cons]; generalize hN : wSs _ _ _ _ _ _ _ = N1; try bv_omega
  refine for_rg (I := fun j σ c' => Dr 1 c' ∧ ∃ (y3 y4 y5 y6 y7 y8 : Option D), σ = [some (.scr (ns.map .int)), some (.cell 1), some (ruleD k w t), y3, y4, y5, y6, y7, y8, none, none]) ⟨hdr3, _, _, _, _, _, _, rfl⟩ ?_ ?_
  · rintro σ c' ⟨hdr', y3, y4, y5, y6, y7, y8, rfl⟩
    refine ⟨trivial, ?_⟩
    try dsimp only
    subst hN; try dsimp only
    have hbad : isR 2 1 [0, 2] = false := by decide +kernel
    have lt : t.length ≤ 100000 := by have := hr.len; have := hr.big; omega
    have h9 : inR (k : Int) [9] = false := by have := hr.k4; simp [inR]; omega
    rw [wSs_cons]; generalize hN : wSs _ _ _ _ _ _ _ = N1; try bv_omega
    subst hN; try dsimp only
    rw [wSs_cons]; generalize hN : wSs _ _ _ _ _ _ _ = N1; try bv_omega
    have last : ∀ c'', wSs Γ sub kind 0 E T03_8 ⟨N, R, B, C⟩ [some (.scr (ns.map .int)), some (.cell 1), some (ruleD k w t), y3, y4, y5, y6, y7, y8, some (ruleD 2 1 [0, 2]), some (ruleD 2 3 [0, 1, 1, 0, 1, 0, 0, 1])] c'' := by
      intro c''
      rw [wSs_cons]; generalize hN : wSs _ _ _ _ _ _ _ = N1; try bv_omega
      refine hAs _ _ _ _ ⟨_, _, rfl, rfl, rfl, askE _ _ kS1 eR1 (fun Q' E' e => cd_B1 (xs := []) hbad (by decide) (by decide) e) ?_⟩
      try bv_omega
      refine hAs _ _ _ _ ⟨_, _, rfl, rfl, rfl, askE _ _ kS2 eR2 (fun Q' E' e => cd_B2 (xs := []) hr.isR (.inr rfl) lt (by decide) e) ?_⟩
      try bv_omega
      refine hAs _ _ _ _ ⟨_, _, rfl, rfl, rfl, askE _ _ kS2 eR2 (fun Q' E' e => cd_B2 (xs := [9]) hr.isR (.inl h9) lt (by decide) e) ?_⟩
      try bv_omega
      refine hAs _ _ _ _ ⟨_, _, rfl, rfl, rfl, askQ _ rfl (fun Q' E' q => cd_ok (k := 2) (w := 3) e3 i3 (by decide) (by decide) (n := 1) (by decide) q3 q) ?_⟩
      rw [show (((1 : Nat) : Int) - ((0 : Nat) : Int)) = 1 by decide, show (((0 : Nat)) : Int) = 0 by decide]
      try bv_omega
      exact hR _
    subst hN; try dsimp only
    rw [wSs_cons]; generalize hN : wSs _ _ _ _ _ _ _ = N1; try bv_omega
    refine hNx _ _ _ _ ⟨1, rfl, hdr', fun i c4 i0 i1 hd4 => ?_⟩
    try bv_omega
    by_cases h5 : i % 12 = 5
    · rw [if_pos h5]
      have hz : (List.replicate 22 (0 : Int) ++ [1]) ≠ [] := by decide
      rcases rep_or (fun n => raft 2 4 [0, 1, 1, 0, 1, 0, 0, 1, 0, 1, 1, 0, 1, 0, 0, 1] n (List.replicate 22 0 ++ [1])) 5000 with ⟨a, n, hn5, hr5⟩ | hno5
      · rw [rept (by decide) (by decide) (by decide)]
        try bv_omega
        refine hAs _ _ _ _ ⟨_, _, rfl, rfl, rfl, askQ _ rfl (fun Q' E' q => cd_ok (k := 2) (w := 4) e4 i4 hz (by decide) (n := n) hn5 hr5 q) ?_⟩
        refine eq_ts (p := .tuple [.int _, .int _]) rfl rfl (by decide +kernel) rfl ?_
        try bv_omega
        subst hN
        exact last _
      · rw [rept (by decide) (by decide) (by decide)]
        try bv_omega
        refine hAs _ _ _ _ ⟨_, _, rfl, rfl, rfl, askE _ _ kS4 eR4 (fun Q' E' e => cd_big (k := 2) (w := 4) e4 i4 hz (by decide) hno5 e) ?_⟩
        try bv_omega
        subst hN
        exact last _
    · rw [if_neg h5]
      try bv_omega
      subst hN
      exact last _
  · rintro j σ c' R' hj ⟨hdr', y3, y4, y5, y6, y7, y8, rfl⟩ hR'
    refine ⟨trivial, ?_⟩
    rw [q_ani]
    simp only [List.set_cons_succ, List.set_cons_zero]
    exact body03 hNx hWd hRg hRA hAs hr hdr' fun y4 y5 y6 y7 y8 c2 hd2 => hR' _ _ ⟨hd2, _, _, _, _, _, _, rfl⟩
end
end Ev

set_option pp.maxSteps 400
set_option pp.deepTerms false
namespace Ev
open PySem PySem.Spec PyProof.Rows L2
def top (i : Nat) : Stmt := PySem.Challenge.pw_evercells_k03_rounds_of_rings.main.body.getD i (.Pass ⟨0, 0, 0, 0⟩)
def csT : List (Str × Int) := [("FEWEST", 2), ("MOST", 4), ("MOST_ENTRIES", 256), ("MOST_TURNS", 1000), ("MOST_ROUND", 5000)]
def xsT : List Str := ["CellError", "NotRule", "NotWord", "BadNumber", "TooLarge"]
def ksT : List Str := ["_law_kind"]
def ysT : List Str := ["NotRule", "NotWord", "BadNumber", "TooLarge"]
def subT : Str → Str → Option Bool := fun y x => if x = "CellError" ∧ y ∈ ysT then some true else none
def kindT : Str → Str → D := kdD (kindF "none" ysT)
theorem gam_at {T : List Tab} {t : Tab} (ht : t ∈ T) (hl : ∀ ds c Q E, t.sp ds c Q E → ds.length = t.ps.length) : ∀ ds c Q E, t.sp ds c Q E → gam T t.name ds c Q E := fun _ _ _ _ h => ⟨t, ht, rfl, hl _ _ _ _ h, h⟩
def tb_0 : List Tab := []
abbrev st_law_kind : Stmt := top 36
abbrev st_entries_for : Stmt := top 16
def N_entries_for : List Str := ["k", "w", "entries", "_"]
def P_entries_for : List Str := ["k", "w"]
theorem sc_entries_for : FnScope N_entries_for P_entries_for (defScope st_entries_for) := ⟨rfl, rfl, rfl, by decide +kernel, rfl, by decide +kernel, by decide +kernel⟩
theorem ar_entries_for : ArgsOk "entries_for" P_entries_for st_entries_for := fun _ _ _ _ _ _ us hl => match us, hl with | [_, _], _ => rfl
theorem ln_entries_for : ∀ ds c Q E, spEntries ds c Q E → ds.length = P_entries_for.length := fun ds c Q E h => by
  obtain ⟨_, _, rfl, _⟩ := h
  rfl
def tb_1 : List Tab := ⟨"entries_for", P_entries_for, spEntries⟩ :: tb_0
theorem ok_entries_for : DefOk tb_0 csT xsT ksT subT kindT "entries_for" st_entries_for N_entries_for P_entries_for ir_entries_for spEntries := ⟨sc_entries_for, ar_entries_for, rfl, rfl, by decide +kernel, pu_entries⟩
abbrev st_is_rule : Stmt := top 17
def N_is_rule : List Str := ["rule", "k", "w", "table", "state"]
def P_is_rule : List Str := ["rule"]
theorem sc_is_rule : FnScope N_is_rule P_is_rule (defScope st_is_rule) := ⟨rfl, rfl, rfl, by decide +kernel, rfl, by decide +kernel, by decide +kernel⟩
theorem ar_is_rule : ArgsOk "is_rule" P_is_rule st_is_rule := fun _ _ _ _ _ _ us hl => match us, hl with | [_], _ => rfl
theorem ln_is_rule : ∀ ds c Q E, spIsRule ds c Q E → ds.length = P_is_rule.length := fun ds c Q E h => by
  obtain ⟨_, _, _, rfl, _⟩ := h
  rfl
def tb_2 : List Tab := ⟨"is_rule", P_is_rule, spIsRule⟩ :: tb_1
theorem ok_is_rule : DefOk tb_1 csT xsT ksT subT kindT "is_rule" st_is_rule N_is_rule P_is_rule ir_is_rule spIsRule := ⟨sc_is_rule, ar_is_rule, rfl, rfl, by decide +kernel, pu_is_rule (gam_at (T := tb_1) (t := ⟨"entries_for", P_entries_for, spEntries⟩) (.head _) ln_entries_for)⟩
abbrev st_check_rule : Stmt := top 18
def N_check_rule : List Str := ["rule"]
def P_check_rule : List Str := ["rule"]
theorem sc_check_rule : FnScope N_check_rule P_check_rule (defScope st_check_rule) := ⟨rfl, rfl, rfl, by decide +kernel, rfl, by decide +kernel, by decide +kernel⟩
theorem ar_check_rule : ArgsOk "check_rule" P_check_rule st_check_rule := fun _ _ _ _ _ _ us hl => match us, hl with | [_], _ => rfl
theorem ln_check_rule : ∀ ds c Q E, spCheckRule ds c Q E → ds.length = P_check_rule.length := fun ds c Q E h => by
  obtain ⟨_, _, _, rfl, _⟩ := h
  rfl
def tb_3 : List Tab := ⟨"check_rule", P_check_rule, spCheckRule⟩ :: tb_2
theorem ok_check_rule : DefOk tb_2 csT xsT ksT subT kindT "check_rule" st_check_rule N_check_rule P_check_rule ir_check_rule spCheckRule := ⟨sc_check_rule, ar_check_rule, rfl, rfl, by decide +kernel, pu_check_rule (gam_at (T := tb_2) (t := ⟨"is_rule", P_is_rule, spIsRule⟩) (.head _) ln_is_rule)⟩
abbrev st_is_of : Stmt := top 19
def N_is_of : List Str := ["k", "word", "state"]
def P_is_of : List Str := ["k", "word"]
theorem sc_is_of : FnScope N_is_of P_is_of (defScope st_is_of) := ⟨rfl, rfl, rfl, by decide +kernel, rfl, by decide +kernel, by decide +kernel⟩
theorem ar_is_of : ArgsOk "is_of" P_is_of st_is_of := fun _ _ _ _ _ _ us hl => match us, hl with | [_, _], _ => rfl
theorem ln_is_of : ∀ ds c Q E, spIsOf ds c Q E → ds.length = P_is_of.length := fun ds c Q E h => by
  obtain ⟨_, _, rfl, _⟩ := h
  rfl
def tb_4 : List Tab := ⟨"is_of", P_is_of, spIsOf⟩ :: tb_3
theorem ok_is_of : DefOk tb_3 csT xsT ksT subT kindT "is_of" st_is_of N_is_of P_is_of ir_is_of spIsOf := ⟨sc_is_of, ar_is_of, rfl, rfl, by decide +kernel, pu_is_of⟩
abbrev st_is_word : Stmt := top 20
def N_is_word : List Str := ["rule", "word"]
def P_is_word : List Str := ["rule", "word"]
theorem sc_is_word : FnScope N_is_word P_is_word (defScope st_is_word) := ⟨rfl, rfl, rfl, by decide +kernel, rfl, by decide +kernel, by decide +kernel⟩
theorem ar_is_word : ArgsOk "is_word" P_is_word st_is_word := fun _ _ _ _ _ _ us hl => match us, hl with | [_, _], _ => rfl
theorem ln_is_word : ∀ ds c Q E, spIsWord ds c Q E → ds.length = P_is_word.length := fun ds c Q E h => by
  obtain ⟨_, _, _, _, rfl, _⟩ := h
  rfl
def tb_5 : List Tab := ⟨"is_word", P_is_word, spIsWord⟩ :: tb_4
theorem ok_is_word : DefOk tb_4 csT xsT ksT subT kindT "is_word" st_is_word N_is_word P_is_word ir_is_word spIsWord := ⟨sc_is_word, ar_is_word, rfl, rfl, by decide +kernel, pu_is_word (gam_at (T := tb_4) (t := ⟨"check_rule", P_check_rule, spCheckRule⟩) (.tail _ (.head _)) ln_check_rule) (gam_at (T := tb_4) (t := ⟨"is_of", P_is_of, spIsOf⟩) (.head _) ln_is_of)⟩
abbrev st_check_word : Stmt := top 21
def N_check_word : List Str := ["rule", "word"]
def P_check_word : List Str := ["rule", "word"]
theorem sc_check_word : FnScope N_check_word P_check_word (defScope st_check_word) := ⟨rfl, rfl, rfl, by decide +kernel, rfl, by decide +kernel, by decide +kernel⟩
theorem ar_check_word : ArgsOk "check_word" P_check_word st_check_word := fun _ _ _ _ _ _ us hl => match us, hl with | [_, _], _ => rfl
theorem ln_check_word : ∀ ds c Q E, spCheckWord ds c Q E → ds.length = P_check_word.length := fun ds c Q E h => by
  obtain ⟨_, _, _, _, rfl, _⟩ := h
  rfl
def tb_6 : List Tab := ⟨"check_word", P_check_word, spCheckWord⟩ :: tb_5
theorem ok_check_word : DefOk tb_5 csT xsT ksT subT kindT "check_word" st_check_word N_check_word P_check_word ir_check_word spCheckWord := ⟨sc_check_word, ar_check_word, rfl, rfl, by decide +kernel, pu_check_word (gam_at (T := tb_5) (t := ⟨"is_word", P_is_word, spIsWord⟩) (.head _) ln_is_word)⟩
abbrev st_check_ring : Stmt := top 22
def N_check_ring : List Str := ["rule", "ring"]
def P_check_ring : List Str := ["rule", "ring"]
theorem sc_check_ring : FnScope N_check_ring P_check_ring (defScope st_check_ring) := ⟨rfl, rfl, rfl, by decide +kernel, rfl, by decide +kernel, by decide +kernel⟩
theorem ar_check_ring : ArgsOk "check_ring" P_check_ring st_check_ring := fun _ _ _ _ _ _ us hl => match us, hl with | [_, _], _ => rfl
theorem ln_check_ring : ∀ ds c Q E, spCheckRing ds c Q E → ds.length = P_check_ring.length := fun ds c Q E h => by
  obtain ⟨_, _, _, _, rfl, _⟩ := h
  rfl
def tb_7 : List Tab := ⟨"check_ring", P_check_ring, spCheckRing⟩ :: tb_6
theorem ok_check_ring : DefOk tb_6 csT xsT ksT subT kindT "check_ring" st_check_ring N_check_ring P_check_ring ir_check_ring spCheckRing := ⟨sc_check_ring, ar_check_ring, rfl, rfl, by decide +kernel, pu_check_ring (gam_at (T := tb_6) (t := ⟨"check_word", P_check_word, spCheckWord⟩) (.head _) ln_check_word)⟩
abbrev st_number_of : Stmt := top 23
def N_number_of : List Str := ["k", "word", "number", "state"]
def P_number_of : List Str := ["k", "word"]
theorem sc_number_of : FnScope N_number_of P_number_of (defScope st_number_of) := ⟨rfl, rfl, rfl, by decide +kernel, rfl, by decide +kernel, by decide +kernel⟩
theorem ar_number_of : ArgsOk "number_of" P_number_of st_number_of := fun _ _ _ _ _ _ us hl => match us, hl with | [_, _], _ => rfl
theorem ln_number_of : ∀ ds c Q E, spIndex ds c Q E → ds.length = P_number_of.length := fun ds c Q E h => by
  obtain ⟨_, _, rfl, _⟩ := h
  rfl
def tb_8 : List Tab := ⟨"number_of", P_number_of, spIndex⟩ :: tb_7
theorem ok_number_of : DefOk tb_7 csT xsT ksT subT kindT "number_of" st_number_of N_number_of P_number_of ir_law_index spIndex := ⟨sc_number_of, ar_number_of, rfl, rfl, by decide +kernel, pu_index⟩
abbrev st_value_of : Stmt := top 24
def N_value_of : List Str := ["rule", "block"]
def P_value_of : List Str := ["rule", "block"]
theorem sc_value_of : FnScope N_value_of P_value_of (defScope st_value_of) := ⟨rfl, rfl, rfl, by decide +kernel, rfl, by decide +kernel, by decide +kernel⟩
theorem ar_value_of : ArgsOk "value_of" P_value_of st_value_of := fun _ _ _ _ _ _ us hl => match us, hl with | [_, _], _ => rfl
theorem ln_value_of : ∀ ds c Q E, spValueOf ds c Q E → ds.length = P_value_of.length := fun ds c Q E h => by
  obtain ⟨_, _, _, _, rfl, _⟩ := h
  rfl
def tb_9 : List Tab := ⟨"value_of", P_value_of, spValueOf⟩ :: tb_8
theorem ok_value_of : DefOk tb_8 csT xsT ksT subT kindT "value_of" st_value_of N_value_of P_value_of ir_value_of spValueOf := ⟨sc_value_of, ar_value_of, rfl, rfl, by decide +kernel, pu_value_of (gam_at (T := tb_8) (t := ⟨"number_of", P_number_of, spIndex⟩) (.head _) ln_number_of)⟩
abbrev st_image_of : Stmt := top 25
def N_image_of : List Str := ["rule", "word", "w", "at"]
def P_image_of : List Str := ["rule", "word"]
theorem sc_image_of : FnScope N_image_of P_image_of (defScope st_image_of) := ⟨rfl, rfl, rfl, by decide +kernel, rfl, by decide +kernel, by decide +kernel⟩
theorem ar_image_of : ArgsOk "image_of" P_image_of st_image_of := fun _ _ _ _ _ _ us hl => match us, hl with | [_, _], _ => rfl
theorem ln_image_of : ∀ ds c Q E, spImage ds c Q E → ds.length = P_image_of.length := fun ds c Q E h => by
  obtain ⟨_, _, _, _, rfl, _⟩ := h
  rfl
def tb_10 : List Tab := ⟨"image_of", P_image_of, spImage⟩ :: tb_9
theorem ok_image_of : DefOk tb_9 csT xsT ksT subT kindT "image_of" st_image_of N_image_of P_image_of ir_image_of spImage := ⟨sc_image_of, ar_image_of, rfl, rfl, by decide +kernel, pu_image_of (gam_at (T := tb_9) (t := ⟨"value_of", P_value_of, spValueOf⟩) (.head _) ln_value_of)⟩
abbrev st_ring_image_of : Stmt := top 26
def N_ring_image_of : List Str := ["rule", "ring", "longer"]
def P_ring_image_of : List Str := ["rule", "ring"]
theorem sc_ring_image_of : FnScope N_ring_image_of P_ring_image_of (defScope st_ring_image_of) := ⟨rfl, rfl, rfl, by decide +kernel, rfl, by decide +kernel, by decide +kernel⟩
theorem ar_ring_image_of : ArgsOk "ring_image_of" P_ring_image_of st_ring_image_of := fun _ _ _ _ _ _ us hl => match us, hl with | [_, _], _ => rfl
theorem ln_ring_image_of : ∀ ds c Q E, spRing ds c Q E → ds.length = P_ring_image_of.length := fun ds c Q E h => by
  obtain ⟨_, _, _, _, rfl, _⟩ := h
  rfl
def tb_11 : List Tab := ⟨"ring_image_of", P_ring_image_of, spRing⟩ :: tb_10
theorem ok_ring_image_of : DefOk tb_10 csT xsT ksT subT kindT "ring_image_of" st_ring_image_of N_ring_image_of P_ring_image_of ir_ring_image_of spRing := ⟨sc_ring_image_of, ar_ring_image_of, rfl, rfl, by decide +kernel, pu_ring_of (gam_at (T := tb_10) (t := ⟨"image_of", P_image_of, spImage⟩) (.head _) ln_image_of)⟩
abbrev st_check_turns : Stmt := top 27
def N_check_turns : List Str := ["t"]
def P_check_turns : List Str := ["t"]
theorem sc_check_turns : FnScope N_check_turns P_check_turns (defScope st_check_turns) := ⟨rfl, rfl, rfl, by decide +kernel, rfl, by decide +kernel, by decide +kernel⟩
theorem ar_check_turns : ArgsOk "check_turns" P_check_turns st_check_turns := fun _ _ _ _ _ _ us hl => match us, hl with | [_], _ => rfl
theorem ln_check_turns : ∀ ds c Q E, spTurns ds c Q E → ds.length = P_check_turns.length := fun ds c Q E h => by
  obtain ⟨_, rfl, _⟩ := h
  rfl
def tb_12 : List Tab := ⟨"check_turns", P_check_turns, spTurns⟩ :: tb_11
theorem ok_check_turns : DefOk tb_11 csT xsT ksT subT kindT "check_turns" st_check_turns N_check_turns P_check_turns ir_check_turns spTurns := ⟨sc_check_turns, ar_check_turns, rfl, rfl, by decide +kernel, pu_turns⟩
abbrev st_ring_after : Stmt := top 28
def N_ring_after : List Str := ["rule", "ring", "t", "here", "_"]
def P_ring_after : List Str := ["rule", "ring", "t"]
theorem sc_ring_after : FnScope N_ring_after P_ring_after (defScope st_ring_after) := ⟨rfl, rfl, rfl, by decide +kernel, rfl, by decide +kernel, by decide +kernel⟩
theorem ar_ring_after : ArgsOk "ring_after" P_ring_after st_ring_after := fun _ _ _ _ _ _ us hl => match us, hl with | [_, _, _], _ => rfl
theorem ln_ring_after : ∀ ds c Q E, spRAfter ds c Q E → ds.length = P_ring_after.length := fun ds c Q E h => by
  obtain ⟨_, _, _, _, _, rfl, _⟩ := h
  rfl
def tb_13 : List Tab := ⟨"ring_after", P_ring_after, spRAfter⟩ :: tb_12
theorem ok_ring_after : DefOk tb_12 csT xsT ksT subT kindT "ring_after" st_ring_after N_ring_after P_ring_after ir_ring_after spRAfter := ⟨sc_ring_after, ar_ring_after, rfl, rfl, by decide +kernel, pu_rafter (gam_at (T := tb_12) (t := ⟨"check_ring", P_check_ring, spCheckRing⟩) (.tail _ (.tail _ (.tail _ (.tail _ (.tail _ (.head _)))))) ln_check_ring) (gam_at (T := tb_12) (t := ⟨"check_turns", P_check_turns, spTurns⟩) (.head _) ln_check_turns) (gam_at (T := tb_12) (t := ⟨"ring_image_of", P_ring_image_of, spRing⟩) (.tail _ (.head _)) ln_ring_image_of)⟩
abbrev st_ring_round : Stmt := top 29
def N_ring_round : List Str := ["rule", "ring", "here", "seen"]
def P_ring_round : List Str := ["rule", "ring"]
theorem sc_ring_round : FnScope N_ring_round P_ring_round (defScope st_ring_round) := ⟨rfl, rfl, rfl, by decide +kernel, rfl, by decide +kernel, by decide +kernel⟩
theorem ar_ring_round : ArgsOk "ring_round" P_ring_round st_ring_round := fun _ _ _ _ _ _ us hl => match us, hl with | [_, _], _ => rfl
theorem ln_ring_round : ∀ ds c Q E, spRnd ds c Q E → ds.length = P_ring_round.length := fun ds c Q E h => by
  obtain ⟨_, _, _, _, rfl, _⟩ := h
  rfl
def tb_14 : List Tab := ⟨"ring_round", P_ring_round, spRnd⟩ :: tb_13
theorem ok_ring_round : DefOk tb_13 csT xsT ksT subT kindT "ring_round" st_ring_round N_ring_round P_ring_round ir03_ring_round spRnd := ⟨sc_ring_round, ar_ring_round, rfl, rfl, by decide +kernel, pu_ring_round (gam_at (T := tb_13) (t := ⟨"check_ring", P_check_ring, spCheckRing⟩) (.tail _ (.tail _ (.tail _ (.tail _ (.tail _ (.tail _ (.head _))))))) ln_check_ring) (gam_at (T := tb_13) (t := ⟨"ring_image_of", P_ring_image_of, spRing⟩) (.tail _ (.tail _ (.head _))) ln_ring_image_of)⟩
abbrev st_law_number : Stmt := top 31
def N_law_number : List Str := ["cell"]
def P_law_number : List Str := ["cell"]
theorem sc_law_number : FnScope N_law_number P_law_number (defScope st_law_number) := ⟨rfl, rfl, rfl, by decide +kernel, rfl, by decide +kernel, by decide +kernel⟩
theorem ar_law_number : ArgsOk "_law_number" P_law_number st_law_number := fun _ _ _ _ _ _ us hl => match us, hl with | [_], _ => rfl
theorem ln_law_number : ∀ ds c Q E, spNumber ds c Q E → ds.length = P_law_number.length := fun ds c Q E h => by
  obtain ⟨_, rfl, _⟩ := h
  rfl
def tb_15 : List Tab := ⟨"_law_number", P_law_number, spNumber⟩ :: tb_14
theorem ok_law_number : DefOk tb_14 csT xsT ksT subT kindT "_law_number" st_law_number N_law_number P_law_number ir_law_number spNumber := ⟨sc_law_number, ar_law_number, rfl, rfl, by decide +kernel, pu_number⟩
abbrev st_law_draws : Stmt := top 32
def N_law_draws : List Str := ["script", "draws", "cell", "rest", "k", "once", "twice"]
def P_law_draws : List Str := ["script"]
theorem sc_law_draws : FnScope N_law_draws P_law_draws (defScope st_law_draws) := ⟨rfl, rfl, rfl, by decide +kernel, rfl, by decide +kernel, by decide +kernel⟩
theorem ar_law_draws : ArgsOk "_law_draws" P_law_draws st_law_draws := fun _ _ _ _ _ _ us hl => match us, hl with | [_], _ => rfl
theorem ln_law_draws : ∀ ds c Q E, spDraws ds c Q E → ds.length = P_law_draws.length := fun ds c Q E h => by
  obtain ⟨_, rfl, _⟩ := h
  rfl
def tb_16 : List Tab := ⟨"_law_draws", P_law_draws, spDraws⟩ :: tb_15
theorem ok_law_draws : DefOk tb_15 csT xsT ksT subT kindT "_law_draws" st_law_draws N_law_draws P_law_draws ir_law_draws spDraws := ⟨sc_law_draws, ar_law_draws, rfl, rfl, by decide +kernel, pu_draws (gam_at (T := tb_15) (t := ⟨"_law_number", P_law_number, spNumber⟩) (.head _) ln_law_number)⟩
abbrev st_law_next : Stmt := top 33
def N_law_next : List Str := ["draws"]
def P_law_next : List Str := ["draws"]
theorem sc_law_next : FnScope N_law_next P_law_next (defScope st_law_next) := ⟨rfl, rfl, rfl, by decide +kernel, rfl, by decide +kernel, by decide +kernel⟩
theorem ar_law_next : ArgsOk "_law_next" P_law_next st_law_next := fun _ _ _ _ _ _ us hl => match us, hl with | [_], _ => rfl
theorem ln_law_next : ∀ ds c Q E, spNext ds c Q E → ds.length = P_law_next.length := fun ds c Q E h => by
  obtain ⟨_, rfl, _⟩ := h
  rfl
def tb_17 : List Tab := ⟨"_law_next", P_law_next, spNext⟩ :: tb_16
theorem ok_law_next : DefOk tb_16 csT xsT ksT subT kindT "_law_next" st_law_next N_law_next P_law_next ir_law_next spNext := ⟨sc_law_next, ar_law_next, rfl, rfl, by decide +kernel, pu_next⟩
abbrev st_law_more : Stmt := top 34
def N_law_more : List Str := ["draws", "many", "seed", "more", "k"]
def P_law_more : List Str := ["draws", "many"]
theorem sc_law_more : FnScope N_law_more P_law_more (defScope st_law_more) := ⟨rfl, rfl, rfl, by decide +kernel, rfl, by decide +kernel, by decide +kernel⟩
theorem ar_law_more : ArgsOk "_law_more" P_law_more st_law_more := fun _ _ _ _ _ _ us hl => match us, hl with | [_, _], _ => rfl
theorem ln_law_more : ∀ ds c Q E, spMore ds c Q E → ds.length = P_law_more.length := fun ds c Q E h => by
  obtain ⟨_, _, _, rfl, _⟩ := h
  rfl
def tb_18 : List Tab := ⟨"_law_more", P_law_more, spMore⟩ :: tb_17
theorem ok_law_more : DefOk tb_17 csT xsT ksT subT kindT "_law_more" st_law_more N_law_more P_law_more ir_law_more spMore := ⟨sc_law_more, ar_law_more, rfl, rfl, by decide +kernel, pu_more (gam_at (T := tb_17) (t := ⟨"_law_next", P_law_next, spNext⟩) (.head _) ln_law_next)⟩
abbrev st_law_pick : Stmt := top 35
def N_law_pick : List Str := ["draws", "some"]
def P_law_pick : List Str := ["draws", "some"]
theorem sc_law_pick : FnScope N_law_pick P_law_pick (defScope st_law_pick) := ⟨rfl, rfl, rfl, by decide +kernel, rfl, by decide +kernel, by decide +kernel⟩
theorem ar_law_pick : ArgsOk "_law_pick" P_law_pick st_law_pick := fun _ _ _ _ _ _ us hl => match us, hl with | [_, _], _ => rfl
theorem ln_law_pick : ∀ ds c Q E, spPick ds c Q E → ds.length = P_law_pick.length := fun ds c Q E h => by
  obtain ⟨_, _, _, rfl, _⟩ := h
  rfl
def tb_19 : List Tab := ⟨"_law_pick", P_law_pick, spPick⟩ :: tb_18
theorem ok_law_pick : DefOk tb_18 csT xsT ksT subT kindT "_law_pick" st_law_pick N_law_pick P_law_pick ir_law_pick spPick := ⟨sc_law_pick, ar_law_pick, rfl, rfl, by decide +kernel, pu_pick (gam_at (T := tb_18) (t := ⟨"_law_next", P_law_next, spNext⟩) (.tail _ (.head _)) ln_law_next)⟩
abbrev st_law_words : Stmt := top 37
def N_law_words : List Str := ["k", "n", "found", "at", "longer", "word", "state"]
def P_law_words : List Str := ["k", "n"]
theorem sc_law_words : FnScope N_law_words P_law_words (defScope st_law_words) := ⟨rfl, rfl, rfl, by decide +kernel, rfl, by decide +kernel, by decide +kernel⟩
theorem ar_law_words : ArgsOk "_law_words" P_law_words st_law_words := fun _ _ _ _ _ _ us hl => match us, hl with | [_, _], _ => rfl
theorem ln_law_words : ∀ ds c Q E, spWords ds c Q E → ds.length = P_law_words.length := fun ds c Q E h => by
  obtain ⟨_, _, rfl, _⟩ := h
  rfl
def tb_20 : List Tab := ⟨"_law_words", P_law_words, spWords⟩ :: tb_19
theorem ok_law_words : DefOk tb_19 csT xsT ksT subT kindT "_law_words" st_law_words N_law_words P_law_words ir_law_words spWords := ⟨sc_law_words, ar_law_words, rfl, rfl, by decide +kernel, pu_words⟩
abbrev st_law_index : Stmt := top 38
def N_law_index : List Str := ["k", "word", "index", "state"]
def P_law_index : List Str := ["k", "word"]
theorem sc_law_index : FnScope N_law_index P_law_index (defScope st_law_index) := ⟨rfl, rfl, rfl, by decide +kernel, rfl, by decide +kernel, by decide +kernel⟩
theorem ar_law_index : ArgsOk "_law_index" P_law_index st_law_index := fun _ _ _ _ _ _ us hl => match us, hl with | [_, _], _ => rfl
theorem ln_law_index : ∀ ds c Q E, spIndex ds c Q E → ds.length = P_law_index.length := fun ds c Q E h => by
  obtain ⟨_, _, rfl, _⟩ := h
  rfl
def tb_21 : List Tab := ⟨"_law_index", P_law_index, spIndex⟩ :: tb_20
theorem ok_law_index : DefOk tb_20 csT xsT ksT subT kindT "_law_index" st_law_index N_law_index P_law_index ir_law_index spIndex := ⟨sc_law_index, ar_law_index, rfl, rfl, by decide +kernel, pu_index⟩
abbrev st_law_image : Stmt := top 39
def N_law_image : List Str := ["rule", "word", "k", "w", "table", "at"]
def P_law_image : List Str := ["rule", "word"]
theorem sc_law_image : FnScope N_law_image P_law_image (defScope st_law_image) := ⟨rfl, rfl, rfl, by decide +kernel, rfl, by decide +kernel, by decide +kernel⟩
theorem ar_law_image : ArgsOk "_law_image" P_law_image st_law_image := fun _ _ _ _ _ _ us hl => match us, hl with | [_, _], _ => rfl
theorem ln_law_image : ∀ ds c Q E, spImage ds c Q E → ds.length = P_law_image.length := fun ds c Q E h => by
  obtain ⟨_, _, _, _, rfl, _⟩ := h
  rfl
def tb_22 : List Tab := ⟨"_law_image", P_law_image, spImage⟩ :: tb_21
theorem ok_law_image : DefOk tb_21 csT xsT ksT subT kindT "_law_image" st_law_image N_law_image P_law_image ir_law_image spImage := ⟨sc_law_image, ar_law_image, rfl, rfl, by decide +kernel, pu_image (gam_at (T := tb_21) (t := ⟨"_law_index", P_law_index, spIndex⟩) (.head _) ln_law_index)⟩
abbrev st_law_ring : Stmt := top 40
def N_law_ring : List Str := ["rule", "ring", "longer", "turn"]
def P_law_ring : List Str := ["rule", "ring"]
theorem sc_law_ring : FnScope N_law_ring P_law_ring (defScope st_law_ring) := ⟨rfl, rfl, rfl, by decide +kernel, rfl, by decide +kernel, by decide +kernel⟩
theorem ar_law_ring : ArgsOk "_law_ring" P_law_ring st_law_ring := fun _ _ _ _ _ _ us hl => match us, hl with | [_, _], _ => rfl
theorem ln_law_ring : ∀ ds c Q E, spRing ds c Q E → ds.length = P_law_ring.length := fun ds c Q E h => by
  obtain ⟨_, _, _, _, rfl, _⟩ := h
  rfl
def tb_23 : List Tab := ⟨"_law_ring", P_law_ring, spRing⟩ :: tb_22
theorem ok_law_ring : DefOk tb_22 csT xsT ksT subT kindT "_law_ring" st_law_ring N_law_ring P_law_ring ir_law_ring spRing := ⟨sc_law_ring, ar_law_ring, rfl, rfl, by decide +kernel, pu_ring (gam_at (T := tb_22) (t := ⟨"_law_image", P_law_image, spImage⟩) (.head _) ln_law_image)⟩
abbrev st_law_wide : Stmt := top 41
def N_law_wide : List Str := ["draws", "k", "w", "word"]
def P_law_wide : List Str := ["draws", "k", "w"]
theorem sc_law_wide : FnScope N_law_wide P_law_wide (defScope st_law_wide) := ⟨rfl, rfl, rfl, by decide +kernel, rfl, by decide +kernel, by decide +kernel⟩
theorem ar_law_wide : ArgsOk "_law_wide" P_law_wide st_law_wide := fun _ _ _ _ _ _ us hl => match us, hl with | [_, _, _], _ => rfl
theorem ln_law_wide : ∀ ds c Q E, spWide ds c Q E → ds.length = P_law_wide.length := fun ds c Q E h => by
  obtain ⟨_, _, _, rfl, _⟩ := h
  rfl
def tb_24 : List Tab := ⟨"_law_wide", P_law_wide, spWide⟩ :: tb_23
theorem ok_law_wide : DefOk tb_23 csT xsT ksT subT kindT "_law_wide" st_law_wide N_law_wide P_law_wide ir_law_wide spWide := ⟨sc_law_wide, ar_law_wide, rfl, rfl, by decide +kernel, pu_wide (gam_at (T := tb_23) (t := ⟨"_law_next", P_law_next, spNext⟩) (.tail _ (.tail _ (.tail _ (.tail _ (.tail _ (.tail _ (.head _))))))) ln_law_next) (gam_at (T := tb_23) (t := ⟨"_law_words", P_law_words, spWords⟩) (.tail _ (.tail _ (.tail _ (.head _)))) ln_law_words)⟩
abbrev st_law_adding : Stmt := top 42
def N_law_adding : List Str := ["draws", "k", "w", "factors", "at", "rest", "word"]
def P_law_adding : List Str := ["draws", "k", "w"]
theorem sc_law_adding : FnScope N_law_adding P_law_adding (defScope st_law_adding) := ⟨rfl, rfl, rfl, by decide +kernel, rfl, by decide +kernel, by decide +kernel⟩
theorem ar_law_adding : ArgsOk "_law_adding" P_law_adding st_law_adding := fun _ _ _ _ _ _ us hl => match us, hl with | [_, _, _], _ => rfl
theorem ln_law_adding : ∀ ds c Q E, spWide ds c Q E → ds.length = P_law_adding.length := fun ds c Q E h => by
  obtain ⟨_, _, _, rfl, _⟩ := h
  rfl
def tb_25 : List Tab := ⟨"_law_adding", P_law_adding, spWide⟩ :: tb_24
theorem ok_law_adding : DefOk tb_24 csT xsT ksT subT kindT "_law_adding" st_law_adding N_law_adding P_law_adding ir_law_adding spWide := ⟨sc_law_adding, ar_law_adding, rfl, rfl, by decide +kernel, pu_adding (gam_at (T := tb_24) (t := ⟨"_law_next", P_law_next, spNext⟩) (.tail _ (.tail _ (.tail _ (.tail _ (.tail _ (.tail _ (.tail _ (.head _)))))))) ln_law_next) (gam_at (T := tb_24) (t := ⟨"_law_words", P_law_words, spWords⟩) (.tail _ (.tail _ (.tail _ (.tail _ (.head _))))) ln_law_words)⟩
abbrev st_law_permuting : Stmt := top 43
def N_law_permuting : List Str := ["draws", "k", "w", "last", "turns", "table", "word", "inner", "state"]
def P_law_permuting : List Str := ["draws", "k", "w"]
theorem sc_law_permuting : FnScope N_law_permuting P_law_permuting (defScope st_law_permuting) := ⟨rfl, rfl, rfl, by decide +kernel, rfl, by decide +kernel, by decide +kernel⟩
theorem ar_law_permuting : ArgsOk "_law_permuting" P_law_permuting st_law_permuting := fun _ _ _ _ _ _ us hl => match us, hl with | [_, _, _], _ => rfl
theorem ln_law_permuting : ∀ ds c Q E, spWide ds c Q E → ds.length = P_law_permuting.length := fun ds c Q E h => by
  obtain ⟨_, _, _, rfl, _⟩ := h
  rfl
def tb_26 : List Tab := ⟨"_law_permuting", P_law_permuting, spWide⟩ :: tb_25
theorem ok_law_permuting : DefOk tb_25 csT xsT ksT subT kindT "_law_permuting" st_law_permuting N_law_permuting P_law_permuting ir_law_permuting spWide := ⟨sc_law_permuting, ar_law_permuting, rfl, rfl, by decide +kernel, pu_permuting (gam_at (T := tb_25) (t := ⟨"_law_next", P_law_next, spNext⟩) (.tail _ (.tail _ (.tail _ (.tail _ (.tail _ (.tail _ (.tail _ (.tail _ (.head _))))))))) ln_law_next) (gam_at (T := tb_25) (t := ⟨"_law_words", P_law_words, spWords⟩) (.tail _ (.tail _ (.tail _ (.tail _ (.tail _ (.head _)))))) ln_law_words) (gam_at (T := tb_25) (t := ⟨"_law_index", P_law_index, spIndex⟩) (.tail _ (.tail _ (.tail _ (.tail _ (.head _))))) ln_law_index)⟩
abbrev st_law_rule : Stmt := top 44
def N_law_rule : List Str := ["draws", "most", "k", "w", "turn", "kind", "at", "names", "state", "word", "known"]
def P_law_rule : List Str := ["draws", "most"]
theorem sc_law_rule : FnScope N_law_rule P_law_rule (defScope st_law_rule) := ⟨rfl, rfl, rfl, by decide +kernel, rfl, by decide +kernel, by decide +kernel⟩
theorem ar_law_rule : ArgsOk "_law_rule" P_law_rule st_law_rule := fun _ _ _ _ _ _ us hl => match us, hl with | [_, _], _ => rfl
theorem ln_law_rule : ∀ ds c Q E, spRule ds c Q E → ds.length = P_law_rule.length := fun ds c Q E h => by
  obtain ⟨_, _, rfl, _⟩ := h
  rfl
def tb_27 : List Tab := ⟨"_law_rule", P_law_rule, spRule⟩ :: tb_26
theorem ok_law_rule : DefOk tb_26 csT xsT ksT subT kindT "_law_rule" st_law_rule N_law_rule P_law_rule ir_law_rule spRule := ⟨sc_law_rule, ar_law_rule, rfl, rfl, by decide +kernel, pu_rule (gam_at (T := tb_26) (t := ⟨"_law_next", P_law_next, spNext⟩) (.tail _ (.tail _ (.tail _ (.tail _ (.tail _ (.tail _ (.tail _ (.tail _ (.tail _ (.head _)))))))))) ln_law_next) (gam_at (T := tb_26) (t := ⟨"_law_pick", P_law_pick, spPick⟩) (.tail _ (.tail _ (.tail _ (.tail _ (.tail _ (.tail _ (.tail _ (.head _)))))))) ln_law_pick) (gam_at (T := tb_26) (t := ⟨"_law_words", P_law_words, spWords⟩) (.tail _ (.tail _ (.tail _ (.tail _ (.tail _ (.tail _ (.head _))))))) ln_law_words) (gam_at (T := tb_26) (t := ⟨"_law_wide", P_law_wide, spWide⟩) (.tail _ (.tail _ (.head _))) ln_law_wide) (gam_at (T := tb_26) (t := ⟨"_law_adding", P_law_adding, spWide⟩) (.tail _ (.head _)) ln_law_adding) (gam_at (T := tb_26) (t := ⟨"_law_permuting", P_law_permuting, spWide⟩) (.head _) ln_law_permuting)⟩
abbrev st_law_word : Stmt := top 45
def N_law_word : List Str := ["draws", "k", "n", "at"]
def P_law_word : List Str := ["draws", "k", "n"]
theorem sc_law_word : FnScope N_law_word P_law_word (defScope st_law_word) := ⟨rfl, rfl, rfl, by decide +kernel, rfl, by decide +kernel, by decide +kernel⟩
theorem ar_law_word : ArgsOk "_law_word" P_law_word st_law_word := fun _ _ _ _ _ _ us hl => match us, hl with | [_, _, _], _ => rfl
theorem ln_law_word : ∀ ds c Q E, spWord ds c Q E → ds.length = P_law_word.length := fun ds c Q E h => by
  obtain ⟨_, _, _, rfl, _⟩ := h
  rfl
def tb_28 : List Tab := ⟨"_law_word", P_law_word, spWord⟩ :: tb_27
theorem ok_law_word : DefOk tb_27 csT xsT ksT subT kindT "_law_word" st_law_word N_law_word P_law_word ir_law_word spWord := ⟨sc_law_word, ar_law_word, rfl, rfl, by decide +kernel, pu_word (gam_at (T := tb_27) (t := ⟨"_law_next", P_law_next, spNext⟩) (.tail _ (.tail _ (.tail _ (.tail _ (.tail _ (.tail _ (.tail _ (.tail _ (.tail _ (.tail _ (.head _))))))))))) ln_law_next)⟩
abbrev st_law_asked : Stmt := top 46
def N_law_asked : List Str := ["rule", "ring", "error"]
def P_law_asked : List Str := ["rule", "ring"]
theorem sc_law_asked : FnScope N_law_asked P_law_asked (defScope st_law_asked) := ⟨rfl, rfl, rfl, by decide +kernel, rfl, by decide +kernel, by decide +kernel⟩
theorem ar_law_asked : ArgsOk "_law_asked" P_law_asked st_law_asked := fun _ _ _ _ _ _ us hl => match us, hl with | [_, _], _ => rfl
theorem ln_law_asked : ∀ ds c Q E, spAsked03 ds c Q E → ds.length = P_law_asked.length := fun ds c Q E h => by
  obtain ⟨_, _, rfl, _⟩ := h
  rfl
def tb_29 : List Tab := ⟨"_law_asked", P_law_asked, spAsked03⟩ :: tb_28
theorem ok_law_asked : DefOk tb_28 csT xsT ksT subT kindT "_law_asked" st_law_asked N_law_asked P_law_asked ir03_law_asked spAsked03 := ⟨sc_law_asked, ar_law_asked, rfl, rfl, by decide +kernel, pu_asked03 (gam_at (T := tb_28) (t := ⟨"ring_round", P_ring_round, spRnd⟩) (.tail _ (.tail _ (.tail _ (.tail _ (.tail _ (.tail _ (.tail _ (.tail _ (.tail _ (.tail _ (.tail _ (.tail _ (.tail _ (.tail _ (.head _))))))))))))))) ln_ring_round) (by decide +kernel) (by intro n hn; simp only [eRW, List.mem_cons, List.not_mem_nil, or_false] at hn; rcases hn with rfl | rfl | rfl | rfl <;> first | rfl | decide +kernel)⟩
abbrev st_law : Stmt := top 47
def N_law : List Str := ["script", "draws", "rule", "turn", "ring", "seen", "here", "step", "told", "bad", "counting"]
def P_law : List Str := ["script"]
theorem sc_law : FnScope N_law P_law (defScope st_law) := ⟨rfl, rfl, rfl, by decide +kernel, rfl, by decide +kernel, by decide +kernel⟩
theorem ar_law : ArgsOk "law" P_law st_law := fun _ _ _ _ _ _ us hl => match us, hl with | [_], _ => rfl
theorem ln_law : ∀ ds c Q E, spLaw ds c Q E → ds.length = P_law.length := fun ds c Q E h => by
  obtain ⟨_, rfl, _⟩ := h
  rfl
def tb_30 : List Tab := ⟨"law", P_law, spLaw⟩ :: tb_29
theorem ok_law : DefOk tb_29 csT xsT ksT subT kindT "law" st_law N_law P_law ir03_law spLaw := ⟨sc_law, ar_law, rfl, rfl, by decide +kernel, pu_law03 (gam_at (T := tb_29) (t := ⟨"_law_draws", P_law_draws, spDraws⟩) (.tail _ (.tail _ (.tail _ (.tail _ (.tail _ (.tail _ (.tail _ (.tail _ (.tail _ (.tail _ (.tail _ (.tail _ (.tail _ (.head _)))))))))))))) ln_law_draws) (gam_at (T := tb_29) (t := ⟨"_law_more", P_law_more, spMore⟩) (.tail _ (.tail _ (.tail _ (.tail _ (.tail _ (.tail _ (.tail _ (.tail _ (.tail _ (.tail _ (.tail _ (.head _)))))))))))) ln_law_more) (gam_at (T := tb_29) (t := ⟨"_law_next", P_law_next, spNext⟩) (.tail _ (.tail _ (.tail _ (.tail _ (.tail _ (.tail _ (.tail _ (.tail _ (.tail _ (.tail _ (.tail _ (.tail _ (.head _))))))))))))) ln_law_next) (gam_at (T := tb_29) (t := ⟨"_law_rule", P_law_rule, spRule⟩) (.tail _ (.tail _ (.head _))) ln_law_rule) (gam_at (T := tb_29) (t := ⟨"_law_word", P_law_word, spWord⟩) (.tail _ (.head _)) ln_law_word) (gam_at (T := tb_29) (t := ⟨"_law_ring", P_law_ring, spRing⟩) (.tail _ (.tail _ (.tail _ (.tail _ (.tail _ (.tail _ (.head _))))))) ln_law_ring) (gam_at (T := tb_29) (t := ⟨"ring_after", P_ring_after, spRAfter⟩) (.tail _ (.tail _ (.tail _ (.tail _ (.tail _ (.tail _ (.tail _ (.tail _ (.tail _ (.tail _ (.tail _ (.tail _ (.tail _ (.tail _ (.tail _ (.tail _ (.head _))))))))))))))))) ln_ring_after) (gam_at (T := tb_29) (t := ⟨"ring_round", P_ring_round, spRnd⟩) (.tail _ (.tail _ (.tail _ (.tail _ (.tail _ (.tail _ (.tail _ (.tail _ (.tail _ (.tail _ (.tail _ (.tail _ (.tail _ (.tail _ (.tail _ (.head _)))))))))))))))) ln_ring_round) (gam_at (T := tb_29) (t := ⟨"_law_asked", P_law_asked, spAsked03⟩) (.head _) ln_law_asked)⟩
def N_law_kind : List Str := ["error", "names", "found"]
theorem sc_law_kind : FnScope N_law_kind ["error"] (defScope st_law_kind) := ⟨rfl, rfl, rfl, by decide +kernel, rfl, by decide +kernel, by decide +kernel⟩
section
variable {P : Program} {w : World} {K : PySem.W.Frag} {mg : Str → Option Value} {base : Heap} {f : Addr} {fd : FuncData} {C : Str → Addr} {ys : List Str}
theorem kd_body (kf : KF K mg C ys) (F : L2.Fun K "_law_kind" "_law_kind" st_law_kind f fd) : FnK P w K mg base 1 f fd "error" (kindF "none" ys) := by
  obtain ⟨oc, od, kV, doc, pm, an, cdv, ct, osl, hfd, lk, hcd⟩ := F.ex
  subst hfd
  refine fnk_of lk hcd sc_law_kind fun A outer s H Q E a oe y D z hg hr hz hf hy hk fin => ?_
  obtain ⟨hys, hyk, hzz⟩ := kind_in hk
  obtain ⟨i, hi, hfi, hcnt, hix, hno⟩ := kfacts y hyk
  have hz' := hzz i hfi
  have hD : D = C y := by
    have e := hy.symm.trans (kf.cls y hyk)
    cases e
    rfl
  subst hD
  have isE : ∀ (zc : Str) (hzc : zc ∈ kcls) (p p1 p2 pos : Pos) (hg : Gl (cxOf (L2.CX P w) P w K mg base N_law_kind "_law_kind" (defScope st_law_kind) f cdv A outer s H E) zc) (hzd : (zc == ("__debug__" : Str)) = false),
      PE (cxK P w K mg base N_law_kind "_law_kind" (defScope st_law_kind) f cdv A outer s H E a oe) (.Call (.Name "isinstance" p) [.Name "error" p1, .Name zc p2] [] pos) fun σ H Q => σ[0]? = some (some (.ref a)) ∧ Q (.bl (decide (y = zc))) H := by
    intro zc hzc p p1 p2 pos hgz hzd
    exact pe_isE (X := cxOf (L2.CX P w) P w K mg base N_law_kind "_law_kind" (defScope st_law_kind) f cdv A outer s H E) (kf.exc y hys) hz hf rfl (Or.inl rfl) (by decide) (by decide) rfl kf.ins hgz (kf.cls zc hzc) hzd (kf.is y hys zc hzc)
  refine ⟨_, pss_cons (ps_set (i := 1) sc_law_kind.nd rfl (Or.inl rfl) (pe_lst (pa_cons pe_str (pa_cons pe_str (pa_cons pe_str (pa_cons pe_str (pa_cons pe_str (pa_cons pe_str (pa_cons pe_str (pa_cons pe_str pa_nil)))))))))) (pss_cons (ps_set (i := 2) sc_law_kind.nd rfl (Or.inl rfl) (pe_lst (pa_cons (isE "NotRule" (by decide +kernel) _ _ _ _ rfl (by decide)) (pa_cons (isE "NotWord" (by decide +kernel) _ _ _ _ rfl (by decide)) (pa_cons (isE "NotSum" (by decide +kernel) _ _ _ _ rfl (by decide)) (pa_cons (isE "NotRowSet" (by decide +kernel) _ _ _ _ rfl (by decide)) pa_nil)))))) (pss_cons (ps_set (i := 2) sc_law_kind.nd rfl (Or.inl rfl) (pe_op op_cat (pv 2) (pe_lst (pa_cons (isE "NotPaper" (by decide +kernel) _ _ _ _ rfl (by decide)) (pa_cons (isE "BadNumber" (by decide +kernel) _ _ _ _ rfl (by decide)) (pa_cons (isE "NoAnswer" (by decide +kernel) _ _ _ _ rfl (by decide)) (pa_cons (isE "TooLarge" (by decide +kernel) _ _ _ _ rfl (by decide)) pa_nil))))))) (pss_one (ps_ret (pe_ifExp (pt_cmpR op_eq (pe_bm PySem.F.plainAttrs_list PySem.F.slot_list_count PySem.F.type_list_count mt_cnt (pv 2) (pa_cons pe_bl pa_nil)) pe_int rfl) (pe_op op_add_str pe_str (pe_ix ix_list (pv 1) (pe_bm PySem.F.plainAttrs_list PySem.F.slot_list_index PySem.F.type_list_index mt_index (pv 2) (pa_cons pe_bl pa_nil)) (plain_ix rfl))) pe_str))))), ?_⟩
  have s4 : 4 ≤ sizeLine := by decide
  have s8 : 8 ≤ sizeLine := by decide
  refine ⟨s8, fun q1 h1 => ⟨rfl, rfl, rfl, rfl, s4, fun q2 h2 => ⟨.ref q2, rfl, rfl, rfl, rfl, rfl, s4, fun q3 h3 => ⟨q2, q3, _, _, rfl, rfl, Eq.trans (upd_ne ?_) upd_same, upd_same, s8, fun q4 h4 => ?_⟩⟩⟩⟩
  · rintro rfl
    rw [upd_same] at h3
    cases h3
  have ne3 : q1 ≠ q2 := by rintro rfl; rw [upd_same] at h2; cases h2
  have ne4 : q1 ≠ q3 := by rintro rfl; rw [upd_ne ne3, upd_same] at h3; cases h3
  have ne5 : q1 ≠ q4 := by rintro rfl; rw [upd_ne ne4, upd_ne ne3, upd_same] at h4; cases h4
  have n1 : Grow H (upd H q1 (.lst ((knam "none").map V.str))) := fun b o e => by rw [upd_ne (ne_of_none e h1)]; exact e
  refine ⟨.ref q4, rfl, .inl ⟨rfl, _, SqL.of upd_same⟩, q4, (kbs y).map V.bl, .bl true, rfl, rfl, SqL.of upd_same, rfl, rfl, rfl, _, rfl, ?_⟩
  rw [hcnt]
  refine Eq.mpr (if_pos (by decide)) ?_
  refine ⟨.ref q1, rfl, .ref q4, rfl, .inl ⟨rfl, _, SqL.of upd_same⟩, q4, (kbs y).map V.bl, .bl true, i, .bl true, rfl, rfl, SqL.of upd_same, rfl, rfl, by rw [List.getElem?_map, hix]; rfl, rfl, fun m z' hm hz' => ?_, q1, (knam "none").map V.str, (i : Nat), .str ((knam "none").getD i ""), rfl, rfl, SqL.of ?_, ?_, "!", _, rfl, rfl, ?_, ?_⟩
  · rw [List.getElem?_map, hno m hm] at hz'
    cases hz'
    rfl
  · rw [upd_ne ne5, upd_ne ne4, upd_ne ne3, upd_same]
    rfl
  · have : i = 0 ∨ i = 1 ∨ i = 2 ∨ i = 3 ∨ i = 4 ∨ i = 5 ∨ i = 6 ∨ i = 7 := by omega
    rcases this with rfl | rfl | rfl | rfl | rfl | rfl | rfl | rfl <;> rfl
  · have : i = 0 ∨ i = 1 ∨ i = 2 ∨ i = 3 ∨ i = 4 ∨ i = 5 ∨ i = 6 ∨ i = 7 := by omega
    rcases this with rfl | rfl | rfl | rfl | rfl | rfl | rfl | rfl <;> decide +kernel
  · rw [← hz']
    refine fin _ fun b o e => ?_
    have g1 := n1 b o e
    have g2 := ne_of_none g1 h2
    have e2 : upd (upd H q1 (.lst ((knam "none").map V.str))) q2 (.lst ((kbs y).map V.bl |>.take 4)) b = some o := (upd_ne g2).trans g1
    have g3 := ne_of_none e2 h3
    have e3 : upd (upd (upd H q1 (.lst ((knam "none").map V.str))) q2 (.lst ((kbs y).map V.bl |>.take 4))) q3 (.lst ((kbs y).map V.bl |>.drop 4)) b = some o := (upd_ne g3).trans e2
    have g4 := ne_of_none e3 h4
    exact (upd_ne g4).trans e3

end

theorem law_step {P : Program} {w : World} {K : PySem.W.Frag} {mg : Str → Option Value} {base : Heap} {k : Nat} {T : List Tab} {sub : Str → Str → Option Bool} {kind : Str → Str → D} {cs : List (Str × Int)} {xs ks : List Str} {x : Str} {st : Stmt} {N ps : List Str} {ir : Fn} {sp : DSp} {f : Addr} {fd : FuncData}
    (g : Gnd P w K mg base cs xs ks sub kind) (hF : L2.Fun K x x st f fd) (o : DefOk T cs xs ks sub kind x st N ps ir sp) (hk : 1 ≤ k) (tb : TabOk P w K mg base k T) : FnG P w K mg base (k + 1) f fd ps (spD K mg ps.length sp) := by
  obtain ⟨oc, od, kV, doc, pm, an, cdv, ct, osl, hfd, lk, hcd⟩ := hF.ex
  subst hfd
  exact fng_chk (G := ⟨T.map (·.name), cs, xs, ks⟩) lk hcd o.sc ⟨g.pr.cs, g.pr.xs, g.pr.blt, g.pr.more, g.pr.sb, g.pr.ks⟩ (fun f hf => by obtain ⟨t, a, b⟩ := List.mem_map.mp hf; exact ⟨t, a, b⟩) tb (g.kd.mono hk) ir o.arity o.size o.chk o.run
def adr (mg : Str → Option Value) (x : Str) : Addr := match mg x with
  | some (.ref a) => a
  | _ => 0
theorem adr_of {mg : Str → Option Value} {x : Str} {a : Addr} (h : mg x = some (.ref a)) : adr mg x = a := by
  unfold adr
  rw [h]
theorem asm {P : Program} {w : World} {K : PySem.W.Frag} {h : Heap} {mg : Str → Option Value} {fa : Addr} {C0 C1 C2 C3 C4 C5 C6 C7 C8 : Addr} (X : K.In h) (G : h.Ns mainGlobals mg) (hfa : mg "law" = some (.ref fa))
    (d_entries_for : DefAt K mg "entries_for" st_entries_for)
    (d_is_rule : DefAt K mg "is_rule" st_is_rule)
    (d_check_rule : DefAt K mg "check_rule" st_check_rule)
    (d_is_of : DefAt K mg "is_of" st_is_of)
    (d_is_word : DefAt K mg "is_word" st_is_word)
    (d_check_word : DefAt K mg "check_word" st_check_word)
    (d_check_ring : DefAt K mg "check_ring" st_check_ring)
    (d_number_of : DefAt K mg "number_of" st_number_of)
    (d_value_of : DefAt K mg "value_of" st_value_of)
    (d_image_of : DefAt K mg "image_of" st_image_of)
    (d_ring_image_of : DefAt K mg "ring_image_of" st_ring_image_of)
    (d_check_turns : DefAt K mg "check_turns" st_check_turns)
    (d_ring_after : DefAt K mg "ring_after" st_ring_after)
    (d_ring_round : DefAt K mg "ring_round" st_ring_round)
    (d_law_number : DefAt K mg "_law_number" st_law_number)
    (d_law_draws : DefAt K mg "_law_draws" st_law_draws)
    (d_law_next : DefAt K mg "_law_next" st_law_next)
    (d_law_more : DefAt K mg "_law_more" st_law_more)
    (d_law_pick : DefAt K mg "_law_pick" st_law_pick)
    (d_law_words : DefAt K mg "_law_words" st_law_words)
    (d_law_index : DefAt K mg "_law_index" st_law_index)
    (d_law_image : DefAt K mg "_law_image" st_law_image)
    (d_law_ring : DefAt K mg "_law_ring" st_law_ring)
    (d_law_wide : DefAt K mg "_law_wide" st_law_wide)
    (d_law_adding : DefAt K mg "_law_adding" st_law_adding)
    (d_law_permuting : DefAt K mg "_law_permuting" st_law_permuting)
    (d_law_rule : DefAt K mg "_law_rule" st_law_rule)
    (d_law_word : DefAt K mg "_law_word" st_law_word)
    (d_law_asked : DefAt K mg "_law_asked" st_law_asked)
    (d_law : DefAt K mg "law" st_law)
    (d_law_kind : DefAt K mg "_law_kind" st_law_kind)
    (e0 : ErrAt K mg "CellError" C0)
    (e1 : ErrAt K mg "NotRule" C1)
    (e2 : ErrAt K mg "NotWord" C2)
    (e3 : ErrAt K mg "NotSum" C3)
    (e4 : ErrAt K mg "NotRowSet" C4)
    (e5 : ErrAt K mg "NotPaper" C5)
    (e6 : ErrAt K mg "BadNumber" C6)
    (e7 : ErrAt K mg "NoAnswer" C7)
    (e8 : ErrAt K mg "TooLarge" C8)
    (x1 : ExcC K C1)
    (x2 : ExcC K C2)
    (x6 : ExcC K C6)
    (x8 : ExcC K C8)
    (c_FEWEST : ∃ t, mg "FEWEST" = some (.int 2 t))
    (c_MOST : ∃ t, mg "MOST" = some (.int 4 t))
    (c_MOST_ENTRIES : ∃ t, mg "MOST_ENTRIES" = some (.int 256 t))
    (c_MOST_TURNS : ∃ t, mg "MOST_TURNS" = some (.int 1000 t))
    (c_MOST_ROUND : ∃ t, mg "MOST_ROUND" = some (.int 5000 t))
    (i_1_1 : PySem.W.kitOne K (.ref C1) (.ref C1) = some true)
    (i_1_2 : PySem.W.kitOne K (.ref C1) (.ref C2) = some false)
    (i_1_3 : PySem.W.kitOne K (.ref C1) (.ref C3) = some false)
    (i_1_4 : PySem.W.kitOne K (.ref C1) (.ref C4) = some false)
    (i_1_5 : PySem.W.kitOne K (.ref C1) (.ref C5) = some false)
    (i_1_6 : PySem.W.kitOne K (.ref C1) (.ref C6) = some false)
    (i_1_7 : PySem.W.kitOne K (.ref C1) (.ref C7) = some false)
    (i_1_8 : PySem.W.kitOne K (.ref C1) (.ref C8) = some false)
    (s_1 : PySem.W.exmOne K (.ref C1) (.ref C0) = some true)
    (i_2_1 : PySem.W.kitOne K (.ref C2) (.ref C1) = some false)
    (i_2_2 : PySem.W.kitOne K (.ref C2) (.ref C2) = some true)
    (i_2_3 : PySem.W.kitOne K (.ref C2) (.ref C3) = some false)
    (i_2_4 : PySem.W.kitOne K (.ref C2) (.ref C4) = some false)
    (i_2_5 : PySem.W.kitOne K (.ref C2) (.ref C5) = some false)
    (i_2_6 : PySem.W.kitOne K (.ref C2) (.ref C6) = some false)
    (i_2_7 : PySem.W.kitOne K (.ref C2) (.ref C7) = some false)
    (i_2_8 : PySem.W.kitOne K (.ref C2) (.ref C8) = some false)
    (s_2 : PySem.W.exmOne K (.ref C2) (.ref C0) = some true)
    (i_6_1 : PySem.W.kitOne K (.ref C6) (.ref C1) = some false)
    (i_6_2 : PySem.W.kitOne K (.ref C6) (.ref C2) = some false)
    (i_6_3 : PySem.W.kitOne K (.ref C6) (.ref C3) = some false)
    (i_6_4 : PySem.W.kitOne K (.ref C6) (.ref C4) = some false)
    (i_6_5 : PySem.W.kitOne K (.ref C6) (.ref C5) = some false)
    (i_6_6 : PySem.W.kitOne K (.ref C6) (.ref C6) = some true)
    (i_6_7 : PySem.W.kitOne K (.ref C6) (.ref C7) = some false)
    (i_6_8 : PySem.W.kitOne K (.ref C6) (.ref C8) = some false)
    (s_6 : PySem.W.exmOne K (.ref C6) (.ref C0) = some true)
    (i_8_1 : PySem.W.kitOne K (.ref C8) (.ref C1) = some false)
    (i_8_2 : PySem.W.kitOne K (.ref C8) (.ref C2) = some false)
    (i_8_3 : PySem.W.kitOne K (.ref C8) (.ref C3) = some false)
    (i_8_4 : PySem.W.kitOne K (.ref C8) (.ref C4) = some false)
    (i_8_5 : PySem.W.kitOne K (.ref C8) (.ref C5) = some false)
    (i_8_6 : PySem.W.kitOne K (.ref C8) (.ref C6) = some false)
    (i_8_7 : PySem.W.kitOne K (.ref C8) (.ref C7) = some false)
    (i_8_8 : PySem.W.kitOne K (.ref C8) (.ref C8) = some true)
    (s_8 : PySem.W.exmOne K (.ref C8) (.ref C0) = some true)
    (b_len : mg "len" = none)
    (b_int : mg "int" = none)
    (b_abs : mg "abs" = none)
    (b_min : mg "min" = none)
    (b_max : mg "max" = none)
    (b_sum : mg "sum" = none)
    (b_any : mg "any" = none)
    (b_all : mg "all" = none)
    (b_tuple : mg "tuple" = none)
    (b_list : mg "list" = none)
    (b_repr : mg "repr" = none)
    (b_range : mg "range" = none)
    (b_isinstance : mg "isinstance" = none)
    (b_enumerate : mg "enumerate" = none)
    (b_zip : mg "zip" = none)
    (b_reversed : mg "reversed" = none)
    (b_str : mg "str" = none) :
    ∃ fd : FuncData, (∀ (s : Shared) (u : Value), BindsTo s fd ⟨[u], []⟩ [("script", u)]) ∧ ∀ base : Heap, K.In base → base.Ns mainGlobals mg → FnG P w K mg base 31 fa fd ["script"] (spD K mg 1 spLaw) := by
  obtain ⟨f, fd, hF, hm⟩ := d_law
  have ef : f = fa := by
    have e := hm.symm.trans hfa
    cases e
    rfl
  subst ef
  obtain ⟨fk, fdk, hFk, hmk⟩ := d_law_kind
  have pr : Prg P w K mg ⟨[], csT, xsT, ksT⟩ subT kindT := by
    refine ⟨fun p hp => ?_, fun x hx => ?_, fun b => ?_, fun x hx => ?_, fun y x b C D hs hy hx => ?_, fun kf hk x y hs => ?_⟩
    · simp only [csT, List.mem_cons, List.not_mem_nil, or_false] at hp
      rcases hp with rfl | rfl | rfl | rfl | rfl
      · exact c_FEWEST
      · exact c_MOST
      · exact c_MOST_ENTRIES
      · exact c_MOST_TURNS
      · exact c_MOST_ROUND
    · simp only [xsT, List.mem_cons, List.not_mem_nil, or_false] at hx
      rcases hx with rfl | rfl | rfl | rfl | rfl
      · exact ⟨C0, e0.at_, e0.ex, e0.kp, e0.sb, e0.ty⟩
      · exact ⟨C1, e1.at_, e1.ex, e1.kp, e1.sb, e1.ty⟩
      · exact ⟨C2, e2.at_, e2.ex, e2.kp, e2.sb, e2.ty⟩
      · exact ⟨C6, e6.at_, e6.ex, e6.kp, e6.sb, e6.ty⟩
      · exact ⟨C8, e8.at_, e8.ex, e8.kp, e8.sb, e8.ty⟩
    · cases b
      · exact b_len
      · exact b_int
      · exact b_abs
      · exact b_min
      · exact b_max
      · exact b_sum
      · exact b_any
      · exact b_all
      · exact b_tuple
      · exact b_list
      · exact b_repr
    · simp only [moreB, List.mem_cons, List.not_mem_nil, or_false] at hx
      rcases hx with rfl | rfl | rfl | rfl | rfl | rfl | rfl | rfl | rfl
      · exact b_range
      · exact b_isinstance
      · exact b_enumerate
      · exact b_zip
      · exact b_reversed
      · exact b_int
      · exact b_str
      · exact b_tuple
      · exact b_list
    · unfold subT at hs
      split at hs
      · rename_i q
        obtain ⟨rfl, q⟩ := q
        cases hs
        rw [e0.at_] at hx
        cases hx
        simp only [ysT, List.mem_cons, List.not_mem_nil, or_false] at q
        rcases q with rfl | rfl | rfl | rfl
        · rw [e1.at_] at hy
          cases hy
          exact s_1
        · rw [e2.at_] at hy
          cases hy
          exact s_2
        · rw [e6.at_] at hy
          cases hy
          exact s_6
        · rw [e8.at_] at hy
          cases hy
          exact s_8
      · cases hs
    · unfold subT at hs
      split at hs
      · rename_i q
        obtain ⟨_, q⟩ := q
        simp only [ysT, List.mem_cons, List.not_mem_nil, or_false] at q
        rcases q with rfl | rfl | rfl | rfl <;> exact ⟨_, rfl⟩
      · cases hs
  have kf : KF K mg (adr mg) ysT := by
    refine ⟨fun z hz => ?_, fun y hy => ?_, fun y hy z hz => ?_, b_isinstance⟩
    · simp only [kcls, List.mem_cons, List.not_mem_nil, or_false] at hz
      rcases hz with rfl | rfl | rfl | rfl | rfl | rfl | rfl | rfl
      · rw [adr_of e1.at_]; exact e1.at_
      · rw [adr_of e2.at_]; exact e2.at_
      · rw [adr_of e3.at_]; exact e3.at_
      · rw [adr_of e4.at_]; exact e4.at_
      · rw [adr_of e5.at_]; exact e5.at_
      · rw [adr_of e6.at_]; exact e6.at_
      · rw [adr_of e7.at_]; exact e7.at_
      · rw [adr_of e8.at_]; exact e8.at_
    · simp only [ysT, List.mem_cons, List.not_mem_nil, or_false] at hy
      rcases hy with rfl | rfl | rfl | rfl
      · rw [adr_of e1.at_]; exact x1
      · rw [adr_of e2.at_]; exact x2
      · rw [adr_of e6.at_]; exact x6
      · rw [adr_of e8.at_]; exact x8
    · simp only [ysT, List.mem_cons, List.not_mem_nil, or_false] at hy
      simp only [kcls, List.mem_cons, List.not_mem_nil, or_false] at hz
      rcases hy with rfl | rfl | rfl | rfl <;> rcases hz with rfl | rfl | rfl | rfl | rfl | rfl | rfl | rfl
      · rw [adr_of e1.at_]; exact i_1_1
      · rw [adr_of e1.at_, adr_of e2.at_]; exact i_1_2
      · rw [adr_of e1.at_, adr_of e3.at_]; exact i_1_3
      · rw [adr_of e1.at_, adr_of e4.at_]; exact i_1_4
      · rw [adr_of e1.at_, adr_of e5.at_]; exact i_1_5
      · rw [adr_of e1.at_, adr_of e6.at_]; exact i_1_6
      · rw [adr_of e1.at_, adr_of e7.at_]; exact i_1_7
      · rw [adr_of e1.at_, adr_of e8.at_]; exact i_1_8
      · rw [adr_of e2.at_, adr_of e1.at_]; exact i_2_1
      · rw [adr_of e2.at_]; exact i_2_2
      · rw [adr_of e2.at_, adr_of e3.at_]; exact i_2_3
      · rw [adr_of e2.at_, adr_of e4.at_]; exact i_2_4
      · rw [adr_of e2.at_, adr_of e5.at_]; exact i_2_5
      · rw [adr_of e2.at_, adr_of e6.at_]; exact i_2_6
      · rw [adr_of e2.at_, adr_of e7.at_]; exact i_2_7
      · rw [adr_of e2.at_, adr_of e8.at_]; exact i_2_8
      · rw [adr_of e6.at_, adr_of e1.at_]; exact i_6_1
      · rw [adr_of e6.at_, adr_of e2.at_]; exact i_6_2
      · rw [adr_of e6.at_, adr_of e3.at_]; exact i_6_3
      · rw [adr_of e6.at_, adr_of e4.at_]; exact i_6_4
      · rw [adr_of e6.at_, adr_of e5.at_]; exact i_6_5
      · rw [adr_of e6.at_]; exact i_6_6
      · rw [adr_of e6.at_, adr_of e7.at_]; exact i_6_7
      · rw [adr_of e6.at_, adr_of e8.at_]; exact i_6_8
      · rw [adr_of e8.at_, adr_of e1.at_]; exact i_8_1
      · rw [adr_of e8.at_, adr_of e2.at_]; exact i_8_2
      · rw [adr_of e8.at_, adr_of e3.at_]; exact i_8_3
      · rw [adr_of e8.at_, adr_of e4.at_]; exact i_8_4
      · rw [adr_of e8.at_, adr_of e5.at_]; exact i_8_5
      · rw [adr_of e8.at_, adr_of e6.at_]; exact i_8_6
      · rw [adr_of e8.at_, adr_of e7.at_]; exact i_8_7
      · rw [adr_of e8.at_]; exact i_8_8
  refine ⟨fd, fun s u => ?_, fun base X2 G2 => ?_⟩
  · obtain ⟨oc, od, kV, doc, pm, an, cdv, ct, osl, hfd, lk, hcd⟩ := hF.ex
    subst hfd
    exact .of_eq (ar_law kV doc pm an cdv ct [u] rfl)
  · have g : Gnd P w K mg base csT xsT ksT subT kindT := ⟨pr, knd_of (kd_body kf hFk) hmk hFk.kp (hFk.binds (ps := ["error"]) fun _ _ _ _ _ _ us hl => match us, hl with | [_], _ => rfl)⟩
    have t0 : TabOk P w K mg base 1 tb_0 := tab_nil
    have t1 : TabOk P w K mg base 2 tb_1 := tab_step g d_entries_for ok_entries_for (by decide) t0
    have t2 : TabOk P w K mg base 3 tb_2 := tab_step g d_is_rule ok_is_rule (by decide) t1
    have t3 : TabOk P w K mg base 4 tb_3 := tab_step g d_check_rule ok_check_rule (by decide) t2
    have t4 : TabOk P w K mg base 5 tb_4 := tab_step g d_is_of ok_is_of (by decide) t3
    have t5 : TabOk P w K mg base 6 tb_5 := tab_step g d_is_word ok_is_word (by decide) t4
    have t6 : TabOk P w K mg base 7 tb_6 := tab_step g d_check_word ok_check_word (by decide) t5
    have t7 : TabOk P w K mg base 8 tb_7 := tab_step g d_check_ring ok_check_ring (by decide) t6
    have t8 : TabOk P w K mg base 9 tb_8 := tab_step g d_number_of ok_number_of (by decide) t7
    have t9 : TabOk P w K mg base 10 tb_9 := tab_step g d_value_of ok_value_of (by decide) t8
    have t10 : TabOk P w K mg base 11 tb_10 := tab_step g d_image_of ok_image_of (by decide) t9
    have t11 : TabOk P w K mg base 12 tb_11 := tab_step g d_ring_image_of ok_ring_image_of (by decide) t10
    have t12 : TabOk P w K mg base 13 tb_12 := tab_step g d_check_turns ok_check_turns (by decide) t11
    have t13 : TabOk P w K mg base 14 tb_13 := tab_step g d_ring_after ok_ring_after (by decide) t12
    have t14 : TabOk P w K mg base 15 tb_14 := tab_step g d_ring_round ok_ring_round (by decide) t13
    have t15 : TabOk P w K mg base 16 tb_15 := tab_step g d_law_number ok_law_number (by decide) t14
    have t16 : TabOk P w K mg base 17 tb_16 := tab_step g d_law_draws ok_law_draws (by decide) t15
    have t17 : TabOk P w K mg base 18 tb_17 := tab_step g d_law_next ok_law_next (by decide) t16
    have t18 : TabOk P w K mg base 19 tb_18 := tab_step g d_law_more ok_law_more (by decide) t17
    have t19 : TabOk P w K mg base 20 tb_19 := tab_step g d_law_pick ok_law_pick (by decide) t18
    have t20 : TabOk P w K mg base 21 tb_20 := tab_step g d_law_words ok_law_words (by decide) t19
    have t21 : TabOk P w K mg base 22 tb_21 := tab_step g d_law_index ok_law_index (by decide) t20
    have t22 : TabOk P w K mg base 23 tb_22 := tab_step g d_law_image ok_law_image (by decide) t21
    have t23 : TabOk P w K mg base 24 tb_23 := tab_step g d_law_ring ok_law_ring (by decide) t22
    have t24 : TabOk P w K mg base 25 tb_24 := tab_step g d_law_wide ok_law_wide (by decide) t23
    have t25 : TabOk P w K mg base 26 tb_25 := tab_step g d_law_adding ok_law_adding (by decide) t24
    have t26 : TabOk P w K mg base 27 tb_26 := tab_step g d_law_permuting ok_law_permuting (by decide) t25
    have t27 : TabOk P w K mg base 28 tb_27 := tab_step g d_law_rule ok_law_rule (by decide) t26
    have t28 : TabOk P w K mg base 29 tb_28 := tab_step g d_law_word ok_law_word (by decide) t27
    have t29 : TabOk P w K mg base 30 tb_29 := tab_step g d_law_asked ok_law_asked (by decide) t28
    exact law_step g hF ok_law (by decide) t29
end Ev
open PySem PySem.W PyProof.Rows in
set_option maxHeartbeats 0 in
theorem PySem.Challenge.cw_evercells_k03_rounds_of_rings_holds : PySem.Challenge.rw_evercells_k03_rounds_of_rings.Holds := by
  w_on; o_law; k_head; (case hw => w_witness2)
  k_fill
  refine Ev.walkG (l := PySem.Challenge.rw_evercells_k03_rounds_of_rings) (k := 31) (x := "script") rfl rfl ⟨rfl, by decide, by decide⟩ (fun w h Y => PySem.W.kIn_of Y) ?F
  case F =>
    intro w mg fa h KX G hmg
    refine' Ev.asm KX G hmg ?d_entries_for ?d_is_rule ?d_check_rule ?d_is_of ?d_is_word ?d_check_word ?d_check_ring ?d_number_of ?d_value_of ?d_image_of ?d_ring_image_of ?d_check_turns ?d_ring_after ?d_ring_round ?d_law_number ?d_law_draws ?d_law_next ?d_law_more ?d_law_pick ?d_law_words ?d_law_index ?d_law_image ?d_law_ring ?d_law_wide ?d_law_adding ?d_law_permuting ?d_law_rule ?d_law_word ?d_law_asked ?d_law ?d_law_kind ?e0 ?e1 ?e2 ?e3 ?e4 ?e5 ?e6 ?e7 ?e8 ?x1 ?x2 ?x6 ?x8 ?c_FEWEST ?c_MOST ?c_MOST_ENTRIES ?c_MOST_TURNS ?c_MOST_ROUND ?i_1_1 ?i_1_2 ?i_1_3 ?i_1_4 ?i_1_5 ?i_1_6 ?i_1_7 ?i_1_8 ?s_1 ?i_2_1 ?i_2_2 ?i_2_3 ?i_2_4 ?i_2_5 ?i_2_6 ?i_2_7 ?i_2_8 ?s_2 ?i_6_1 ?i_6_2 ?i_6_3 ?i_6_4 ?i_6_5 ?i_6_6 ?i_6_7 ?i_6_8 ?s_6 ?i_8_1 ?i_8_2 ?i_8_3 ?i_8_4 ?i_8_5 ?i_8_6 ?i_8_7 ?i_8_8 ?s_8 ?b_len ?b_int ?b_abs ?b_min ?b_max ?b_sum ?b_any ?b_all ?b_tuple ?b_list ?b_repr ?b_range ?b_isinstance ?b_enumerate ?b_zip ?b_reversed ?b_str
    (case d_entries_for => refine' Ev.defAt_mk KX G ?a ?l ?c ?k; (case a => k_is); (case l => k_is); (case c => k_is); (case k => k_is))
    (case d_is_rule => refine' Ev.defAt_mk KX G ?a ?l ?c ?k; (case a => k_is); (case l => k_is); (case c => k_is); (case k => k_is))
    (case d_check_rule => refine' Ev.defAt_mk KX G ?a ?l ?c ?k; (case a => k_is); (case l => k_is); (case c => k_is); (case k => k_is))
    (case d_is_of => refine' Ev.defAt_mk KX G ?a ?l ?c ?k; (case a => k_is); (case l => k_is); (case c => k_is); (case k => k_is))
    (case d_is_word => refine' Ev.defAt_mk KX G ?a ?l ?c ?k; (case a => k_is); (case l => k_is); (case c => k_is); (case k => k_is))
    (case d_check_word => refine' Ev.defAt_mk KX G ?a ?l ?c ?k; (case a => k_is); (case l => k_is); (case c => k_is); (case k => k_is))
    (case d_check_ring => refine' Ev.defAt_mk KX G ?a ?l ?c ?k; (case a => k_is); (case l => k_is); (case c => k_is); (case k => k_is))
    (case d_number_of => refine' Ev.defAt_mk KX G ?a ?l ?c ?k; (case a => k_is); (case l => k_is); (case c => k_is); (case k => k_is))
    (case d_value_of => refine' Ev.defAt_mk KX G ?a ?l ?c ?k; (case a => k_is); (case l => k_is); (case c => k_is); (case k => k_is))
    (case d_image_of => refine' Ev.defAt_mk KX G ?a ?l ?c ?k; (case a => k_is); (case l => k_is); (case c => k_is); (case k => k_is))
    (case d_ring_image_of => refine' Ev.defAt_mk KX G ?a ?l ?c ?k; (case a => k_is); (case l => k_is); (case c => k_is); (case k => k_is))
    (case d_check_turns => refine' Ev.defAt_mk KX G ?a ?l ?c ?k; (case a => k_is); (case l => k_is); (case c => k_is); (case k => k_is))
    (case d_ring_after => refine' Ev.defAt_mk KX G ?a ?l ?c ?k; (case a => k_is); (case l => k_is); (case c => k_is); (case k => k_is))
    (case d_ring_round => refine' Ev.defAt_mk KX G ?a ?l ?c ?k; (case a => k_is); (case l => k_is); (case c => k_is); (case k => k_is))
    (case d_law_number => refine' Ev.defAt_mk KX G ?a ?l ?c ?k; (case a => k_is); (case l => k_is); (case c => k_is); (case k => k_is))
    (case d_law_draws => refine' Ev.defAt_mk KX G ?a ?l ?c ?k; (case a => k_is); (case l => k_is); (case c => k_is); (case k => k_is))
    (case d_law_next => refine' Ev.defAt_mk KX G ?a ?l ?c ?k; (case a => k_is); (case l => k_is); (case c => k_is); (case k => k_is))
    (case d_law_more => refine' Ev.defAt_mk KX G ?a ?l ?c ?k; (case a => k_is); (case l => k_is); (case c => k_is); (case k => k_is))
    (case d_law_pick => refine' Ev.defAt_mk KX G ?a ?l ?c ?k; (case a => k_is); (case l => k_is); (case c => k_is); (case k => k_is))
    (case d_law_words => refine' Ev.defAt_mk KX G ?a ?l ?c ?k; (case a => k_is); (case l => k_is); (case c => k_is); (case k => k_is))
    (case d_law_index => refine' Ev.defAt_mk KX G ?a ?l ?c ?k; (case a => k_is); (case l => k_is); (case c => k_is); (case k => k_is))
    (case d_law_image => refine' Ev.defAt_mk KX G ?a ?l ?c ?k; (case a => k_is); (case l => k_is); (case c => k_is); (case k => k_is))
    (case d_law_ring => refine' Ev.defAt_mk KX G ?a ?l ?c ?k; (case a => k_is); (case l => k_is); (case c => k_is); (case k => k_is))
    (case d_law_wide => refine' Ev.defAt_mk KX G ?a ?l ?c ?k; (case a => k_is); (case l => k_is); (case c => k_is); (case k => k_is))
    (case d_law_adding => refine' Ev.defAt_mk KX G ?a ?l ?c ?k; (case a => k_is); (case l => k_is); (case c => k_is); (case k => k_is))
    (case d_law_permuting => refine' Ev.defAt_mk KX G ?a ?l ?c ?k; (case a => k_is); (case l => k_is); (case c => k_is); (case k => k_is))
    (case d_law_rule => refine' Ev.defAt_mk KX G ?a ?l ?c ?k; (case a => k_is); (case l => k_is); (case c => k_is); (case k => k_is))
    (case d_law_word => refine' Ev.defAt_mk KX G ?a ?l ?c ?k; (case a => k_is); (case l => k_is); (case c => k_is); (case k => k_is))
    (case d_law_asked => refine' Ev.defAt_mk KX G ?a ?l ?c ?k; (case a => k_is); (case l => k_is); (case c => k_is); (case k => k_is))
    (case d_law => refine' Ev.defAt_mk KX G ?a ?l ?c ?k; (case a => k_is); (case l => k_is); (case c => k_is); (case k => k_is))
    (case d_law_kind => refine' Ev.defAt_mk KX G ?a ?l ?c ?k; (case a => k_is); (case l => k_is); (case c => k_is); (case k => k_is))
    (case e0 => refine' Ev.errAt_mk KX G ?a ?b ?c ?d ?e; (case a => k_is); (case b => k_exc); (case c => k_is); (case d => k_is); (case e => k_is))
    (case e1 => refine' Ev.errAt_mk KX G ?a ?b ?c ?d ?e; (case a => k_is); (case b => k_exc); (case c => k_is); (case d => k_is); (case e => k_is))
    (case e2 => refine' Ev.errAt_mk KX G ?a ?b ?c ?d ?e; (case a => k_is); (case b => k_exc); (case c => k_is); (case d => k_is); (case e => k_is))
    (case e3 => refine' Ev.errAt_mk KX G ?a ?b ?c ?d ?e; (case a => k_is); (case b => k_exc); (case c => k_is); (case d => k_is); (case e => k_is))
    (case e4 => refine' Ev.errAt_mk KX G ?a ?b ?c ?d ?e; (case a => k_is); (case b => k_exc); (case c => k_is); (case d => k_is); (case e => k_is))
    (case e5 => refine' Ev.errAt_mk KX G ?a ?b ?c ?d ?e; (case a => k_is); (case b => k_exc); (case c => k_is); (case d => k_is); (case e => k_is))
    (case e6 => refine' Ev.errAt_mk KX G ?a ?b ?c ?d ?e; (case a => k_is); (case b => k_exc); (case c => k_is); (case d => k_is); (case e => k_is))
    (case e7 => refine' Ev.errAt_mk KX G ?a ?b ?c ?d ?e; (case a => k_is); (case b => k_exc); (case c => k_is); (case d => k_is); (case e => k_is))
    (case e8 => refine' Ev.errAt_mk KX G ?a ?b ?c ?d ?e; (case a => k_is); (case b => k_exc); (case c => k_is); (case d => k_is); (case e => k_is))
    (case x1 => refine' ⟨?g1, ?g2, ?g3, ?g4, ?g5, ?g6, ?g7, ?g8⟩; (case g1 => k_is); (case g2 => k_is); (case g3 => k_is); (case g4 => k_is); (case g5 => k_is); (case g6 => k_is); (case g7 => k_is); (case g8 => k_is))
    (case x2 => refine' ⟨?g1, ?g2, ?g3, ?g4, ?g5, ?g6, ?g7, ?g8⟩; (case g1 => k_is); (case g2 => k_is); (case g3 => k_is); (case g4 => k_is); (case g5 => k_is); (case g6 => k_is); (case g7 => k_is); (case g8 => k_is))
    (case x6 => refine' ⟨?g1, ?g2, ?g3, ?g4, ?g5, ?g6, ?g7, ?g8⟩; (case g1 => k_is); (case g2 => k_is); (case g3 => k_is); (case g4 => k_is); (case g5 => k_is); (case g6 => k_is); (case g7 => k_is); (case g8 => k_is))
    (case x8 => refine' ⟨?g1, ?g2, ?g3, ?g4, ?g5, ?g6, ?g7, ?g8⟩; (case g1 => k_is); (case g2 => k_is); (case g3 => k_is); (case g4 => k_is); (case g5 => k_is); (case g6 => k_is); (case g7 => k_is); (case g8 => k_is))
    (case c_FEWEST => refine' ⟨_, Eq.trans (PySem.W.mg_of KX G ?a) ?b⟩; (case a => k_is); (case b => rfl))
    (case c_MOST => refine' ⟨_, Eq.trans (PySem.W.mg_of KX G ?a) ?b⟩; (case a => k_is); (case b => rfl))
    (case c_MOST_ENTRIES => refine' ⟨_, Eq.trans (PySem.W.mg_of KX G ?a) ?b⟩; (case a => k_is); (case b => rfl))
    (case c_MOST_TURNS => refine' ⟨_, Eq.trans (PySem.W.mg_of KX G ?a) ?b⟩; (case a => k_is); (case b => rfl))
    (case c_MOST_ROUND => refine' ⟨_, Eq.trans (PySem.W.mg_of KX G ?a) ?b⟩; (case a => k_is); (case b => rfl))
    (case i_1_1 => refine' Ev.kit_mk ?a ?b ?c ?d; (case a => k_is); (case b => k_is); (case c => k_is); (case d => first | exact fun _ => rfl | exact fun e => absurd e (by decide)))
    (case i_1_2 => refine' Ev.kit_mk ?a ?b ?c ?d; (case a => k_is); (case b => k_is); (case c => k_is); (case d => first | exact fun _ => rfl | exact fun e => absurd e (by decide)))
    (case i_1_3 => refine' Ev.kit_mk ?a ?b ?c ?d; (case a => k_is); (case b => k_is); (case c => k_is); (case d => first | exact fun _ => rfl | exact fun e => absurd e (by decide)))
    (case i_1_4 => refine' Ev.kit_mk ?a ?b ?c ?d; (case a => k_is); (case b => k_is); (case c => k_is); (case d => first | exact fun _ => rfl | exact fun e => absurd e (by decide)))
    (case i_1_5 => refine' Ev.kit_mk ?a ?b ?c ?d; (case a => k_is); (case b => k_is); (case c => k_is); (case d => first | exact fun _ => rfl | exact fun e => absurd e (by decide)))
    (case i_1_6 => refine' Ev.kit_mk ?a ?b ?c ?d; (case a => k_is); (case b => k_is); (case c => k_is); (case d => first | exact fun _ => rfl | exact fun e => absurd e (by decide)))
    (case i_1_7 => refine' Ev.kit_mk ?a ?b ?c ?d; (case a => k_is); (case b => k_is); (case c => k_is); (case d => first | exact fun _ => rfl | exact fun e => absurd e (by decide)))
    (case i_1_8 => refine' Ev.kit_mk ?a ?b ?c ?d; (case a => k_is); (case b => k_is); (case c => k_is); (case d => first | exact fun _ => rfl | exact fun e => absurd e (by decide)))
    (case s_1 => refine' PySem.W.exm_ref ?a ?b ?c ?d; (case a => k_is); (case b => k_is); (case c => k_is); (case d => k_is))
    (case i_2_1 => refine' Ev.kit_mk ?a ?b ?c ?d; (case a => k_is); (case b => k_is); (case c => k_is); (case d => first | exact fun _ => rfl | exact fun e => absurd e (by decide)))
    (case i_2_2 => refine' Ev.kit_mk ?a ?b ?c ?d; (case a => k_is); (case b => k_is); (case c => k_is); (case d => first | exact fun _ => rfl | exact fun e => absurd e (by decide)))
    (case i_2_3 => refine' Ev.kit_mk ?a ?b ?c ?d; (case a => k_is); (case b => k_is); (case c => k_is); (case d => first | exact fun _ => rfl | exact fun e => absurd e (by decide)))
    (case i_2_4 => refine' Ev.kit_mk ?a ?b ?c ?d; (case a => k_is); (case b => k_is); (case c => k_is); (case d => first | exact fun _ => rfl | exact fun e => absurd e (by decide)))
    (case i_2_5 => refine' Ev.kit_mk ?a ?b ?c ?d; (case a => k_is); (case b => k_is); (case c => k_is); (case d => first | exact fun _ => rfl | exact fun e => absurd e (by decide)))
    (case i_2_6 => refine' Ev.kit_mk ?a ?b ?c ?d; (case a => k_is); (case b => k_is); (case c => k_is); (case d => first | exact fun _ => rfl | exact fun e => absurd e (by decide)))
    (case i_2_7 => refine' Ev.kit_mk ?a ?b ?c ?d; (case a => k_is); (case b => k_is); (case c => k_is); (case d => first | exact fun _ => rfl | exact fun e => absurd e (by decide)))
    (case i_2_8 => refine' Ev.kit_mk ?a ?b ?c ?d; (case a => k_is); (case b => k_is); (case c => k_is); (case d => first | exact fun _ => rfl | exact fun e => absurd e (by decide)))
    (case s_2 => refine' PySem.W.exm_ref ?a ?b ?c ?d; (case a => k_is); (case b => k_is); (case c => k_is); (case d => k_is))
    (case i_6_1 => refine' Ev.kit_mk ?a ?b ?c ?d; (case a => k_is); (case b => k_is); (case c => k_is); (case d => first | exact fun _ => rfl | exact fun e => absurd e (by decide)))
    (case i_6_2 => refine' Ev.kit_mk ?a ?b ?c ?d; (case a => k_is); (case b => k_is); (case c => k_is); (case d => first | exact fun _ => rfl | exact fun e => absurd e (by decide)))
    (case i_6_3 => refine' Ev.kit_mk ?a ?b ?c ?d; (case a => k_is); (case b => k_is); (case c => k_is); (case d => first | exact fun _ => rfl | exact fun e => absurd e (by decide)))
    (case i_6_4 => refine' Ev.kit_mk ?a ?b ?c ?d; (case a => k_is); (case b => k_is); (case c => k_is); (case d => first | exact fun _ => rfl | exact fun e => absurd e (by decide)))
    (case i_6_5 => refine' Ev.kit_mk ?a ?b ?c ?d; (case a => k_is); (case b => k_is); (case c => k_is); (case d => first | exact fun _ => rfl | exact fun e => absurd e (by decide)))
    (case i_6_6 => refine' Ev.kit_mk ?a ?b ?c ?d; (case a => k_is); (case b => k_is); (case c => k_is); (case d => first | exact fun _ => rfl | exact fun e => absurd e (by decide)))
    (case i_6_7 => refine' Ev.kit_mk ?a ?b ?c ?d; (case a => k_is); (case b => k_is); (case c => k_is); (case d => first | exact fun _ => rfl | exact fun e => absurd e (by decide)))
    (case i_6_8 => refine' Ev.kit_mk ?a ?b ?c ?d; (case a => k_is); (case b => k_is); (case c => k_is); (case d => first | exact fun _ => rfl | exact fun e => absurd e (by decide)))
    (case s_6 => refine' PySem.W.exm_ref ?a ?b ?c ?d; (case a => k_is); (case b => k_is); (case c => k_is); (case d => k_is))
    (case i_8_1 => refine' Ev.kit_mk ?a ?b ?c ?d; (case a => k_is); (case b => k_is); (case c => k_is); (case d => first | exact fun _ => rfl | exact fun e => absurd e (by decide)))
    (case i_8_2 => refine' Ev.kit_mk ?a ?b ?c ?d; (case a => k_is); (case b => k_is); (case c => k_is); (case d => first | exact fun _ => rfl | exact fun e => absurd e (by decide)))
    (case i_8_3 => refine' Ev.kit_mk ?a ?b ?c ?d; (case a => k_is); (case b => k_is); (case c => k_is); (case d => first | exact fun _ => rfl | exact fun e => absurd e (by decide)))
    (case i_8_4 => refine' Ev.kit_mk ?a ?b ?c ?d; (case a => k_is); (case b => k_is); (case c => k_is); (case d => first | exact fun _ => rfl | exact fun e => absurd e (by decide)))
    (case i_8_5 => refine' Ev.kit_mk ?a ?b ?c ?d; (case a => k_is); (case b => k_is); (case c => k_is); (case d => first | exact fun _ => rfl | exact fun e => absurd e (by decide)))
    (case i_8_6 => refine' Ev.kit_mk ?a ?b ?c ?d; (case a => k_is); (case b => k_is); (case c => k_is); (case d => first | exact fun _ => rfl | exact fun e => absurd e (by decide)))
    (case i_8_7 => refine' Ev.kit_mk ?a ?b ?c ?d; (case a => k_is); (case b => k_is); (case c => k_is); (case d => first | exact fun _ => rfl | exact fun e => absurd e (by decide)))
    (case i_8_8 => refine' Ev.kit_mk ?a ?b ?c ?d; (case a => k_is); (case b => k_is); (case c => k_is); (case d => first | exact fun _ => rfl | exact fun e => absurd e (by decide)))
    (case s_8 => refine' PySem.W.exm_ref ?a ?b ?c ?d; (case a => k_is); (case b => k_is); (case c => k_is); (case d => k_is))
    (case b_len => refine' PySem.W.mg_none_of KX G ?a; (case a => k_is))
    (case b_int => refine' PySem.W.mg_none_of KX G ?a; (case a => k_is))
    (case b_abs => refine' PySem.W.mg_none_of KX G ?a; (case a => k_is))
    (case b_min => refine' PySem.W.mg_none_of KX G ?a; (case a => k_is))
    (case b_max => refine' PySem.W.mg_none_of KX G ?a; (case a => k_is))
    (case b_sum => refine' PySem.W.mg_none_of KX G ?a; (case a => k_is))
    (case b_any => refine' PySem.W.mg_none_of KX G ?a; (case a => k_is))
    (case b_all => refine' PySem.W.mg_none_of KX G ?a; (case a => k_is))
    (case b_tuple => refine' PySem.W.mg_none_of KX G ?a; (case a => k_is))
    (case b_list => refine' PySem.W.mg_none_of KX G ?a; (case a => k_is))
    (case b_repr => refine' PySem.W.mg_none_of KX G ?a; (case a => k_is))
    (case b_range => refine' PySem.W.mg_none_of KX G ?a; (case a => k_is))
    (case b_isinstance => refine' PySem.W.mg_none_of KX G ?a; (case a => k_is))
    (case b_enumerate => refine' PySem.W.mg_none_of KX G ?a; (case a => k_is))
    (case b_zip => refine' PySem.W.mg_none_of KX G ?a; (case a => k_is))
    (case b_reversed => refine' PySem.W.mg_none_of KX G ?a; (case a => k_is))
    (case b_str => refine' PySem.W.mg_none_of KX G ?a; (case a => k_is))
#print axioms PySem.Challenge.cw_evercells_k03_rounds_of_rings_holds

