import PyProof.Rows.All
import Wide.All
import OpenK.AllK
import Wide.FinOn
import HandS.ForMost
import HandS.ForExc
import HandS.Wide
import HandS.WideBits
import HandS.TupAny
import HandS.TupMul
import HandS.StrMore
import KE.DataMinMax
import KE.DataCmp
import HandS.IsInst
import KE.KTupSum
import PyProof.Rows.StrCut
import KE.GoesMore
import KE.GoesEnum
import PyProof.EnumMake
import HandS.Zip
import HandS.Rev
import HandS.ExcOwn
import HandS.Flow
import HandS.Lambda
import HandS.NoneIn
import HandS.Style
import HandS.Defaults
import HandS.WordsExc
import KE.KStateDown
import Lean
import HandS.More
import HandS.Head0
import HandS.Head1
import HandS.Head2
import HandS.HeadEnd
import HandS.HeadHook1
import HandS.HeadHook2
import PySem.Challenge.RW_psaltery_k51_whole_codes_of_steps
section
set_option linter.all false
/-! MP: a small language of values: its syntax and what it computes. -/
namespace MP
open PySem (Operator CmpOp)

inductive D where
  | non | bl (b : Bool) | int (i : Int) | str (s : List Nat) | tup (xs : List D) | lst (xs : List D) | scr (xs : List D) | ref (k : Nat) | err (c : String) (d : D)
  deriving Inhabited
inductive Key where
  | fn (x : String) | mt (c m : String)
  deriving DecidableEq
inductive Cell where
  | lst (xs : List D) | ins (c : String) (fs : List (String × D))
abbrev Store := List Cell
abbrev Env := List (Option D)
inductive R (α : Type) where
  | ok (a : α) (st : Store) | exc (c : String) (d : D) (st : Store) | stuck
def R.bind {α β : Type} (r : R α) (f : α → Store → R β) : R β := match r with
  | .ok a st => f a st
  | .exc c d st => .exc c d st
  | .stuck => .stuck
inductive RS where
  | nx (ρ : Env) (st : Store) | rt (d : D) (st : Store) | bk (ρ : Env) (st : Store) | ct (ρ : Env) (st : Store) | exc (c : String) (d : D) (ρ : Env) (st : Store) | stuck
def R.bindS {α : Type} (r : R α) (ρ : Env) (f : α → Store → RS) : RS := match r with
  | .ok a st => f a st
  | .exc c d st => .exc c d ρ st
  | .stuck => .stuck
/-- nothing may be on its way -/
def R.bindN {α β : Type} (r : R α) (f : α → Store → R β) : R β := match r with
  | .ok a st => f a st
  | _ => .stuck
def R.of {α : Type} (o : Option α) (st : Store) : R α := match o with
  | some a => .ok a st
  | none => .stuck

/-! ### values -/
abbrev line : Nat := 16777216
def codes (s : String) : List Nat := s.toList.map Char.toNat
mutual
def eqD : D → D → Bool
  | .non, .non => true
  | .bl a, .bl b => a == b
  | .bl a, .int j => (if a then 1 else 0) == j
  | .int i, .bl b => i == (if b then 1 else 0)
  | .int i, .int j => i == j
  | .str x, .str y => x == y
  | .lst xs, .lst ys => eqDs xs ys
  | .tup xs, .tup ys => eqDs xs ys
  | _, _ => false
def eqDs : List D → List D → Bool
  | [], [] => true
  | x :: xs, y :: ys => eqD x y && eqDs xs ys
  | _, _ => false
end
/-- data alone, of a depth -/
def dat : Nat → D → Bool
  | _, .non | _, .bl _ | _, .int _ => true
  | _, .str s => s.all fun c => decide (c < 1114112)
  | n + 1, .tup xs | n + 1, .lst xs => xs.all (dat n)
  | _, _ => false
def isNon (d : D) : Bool := match d with
  | .non => true
  | _ => false
def flat : D → Bool
  | .non | .bl _ | .int _ | .str _ => true
  | _ => false
/-- what stands behind a reference to a list -/
def dl (st : Store) (d : D) : D := match d with
  | .ref k => (match st[k]? with
    | some (.lst xs) => .lst xs
    | _ => d)
  | _ => d
def seq (st : Store) (d : D) : Option (List D) := match dl st d with
  | .tup xs => some xs
  | .lst xs => some xs
  | .scr xs => some xs
  | _ => none
def signs (s : List Nat) : List D := s.map fun c => .str [c]
def walked (st : Store) (d : D) : Option (List D) := match dl st d with
  | .tup xs => some xs
  | .lst xs => some xs
  | .scr xs => some xs
  | .str s => some (signs s)
  | _ => none
def intsD : List D → Option (List Int)
  | [] => some []
  | .int i :: r => (match intsD r with
    | some is => some (i :: is)
    | none => none)
  | _ :: _ => none
def blsD : List D → Option (List Bool)
  | [] => some []
  | .bl b :: r => (match blsD r with
    | some bs => some (b :: bs)
    | none => none)
  | _ :: _ => none
def strsD : List D → Option (List (List Nat))
  | [] => some []
  | .str b :: r => (match strsD r with
    | some bs => some (b :: bs)
    | none => none)
  | _ :: _ => none
def truD (st : Store) (d : D) : Option Bool := match dl st d with
  | .non => some false
  | .bl b => some b
  | .int i => some (i != 0)
  | .str s => some (!s.isEmpty)
  | .tup xs => some (!xs.isEmpty)
  | .lst xs => some (!xs.isEmpty)
  | _ => none
def ixn (n : Nat) (i : Int) : Option Nat := if 0 ≤ i then (if i < n then some i.toNat else none) else if -(n : Int) ≤ i then some (i + n).toNat else none
/-- a slice's end: n the length, d where it is left out -/
def sx (n d : Nat) (o : Option Int) : Nat := match o with
  | none => d
  | some i => if i < 0 then (i + n).toNat else if i < n then i.toNat else n
def cut {α : Type} (xs : List α) (lo hi : Option Int) : List α := (xs.drop (sx xs.length 0 lo)).take (sx xs.length xs.length hi - sx xs.length 0 lo)
/-- a new list: a cell or a value -/
def newL (m : Bool) (xs : List D) (st : Store) : R D := match m with
  | true => .ok (.ref st.length) (st ++ [.lst xs])
  | false => .ok (.lst xs) st
def b2i (b : Bool) : Int := if b then 1 else 0

/-! ### operators -/
def mulOk (i j : Int) : Prop := (-(2 ^ 64) < i ∧ i < 2 ^ 64) ∨ (-(2 ^ 64) < j ∧ j < 2 ^ 64) ∨ i.natAbs.log2 + j.natAbs.log2 < 1000000
instance (i j : Int) : Decidable (mulOk i j) := by unfold mulOk; infer_instance
def divOk (j : Int) : Prop := 0 < j ∧ j.natAbs.log2 < 9000
instance (j : Int) : Decidable (divOk j) := by unfold divOk; infer_instance
def powOk (i j : Int) : Prop := 0 ≤ j ∧ j ≤ 1000000 ∧ i.natAbs < 2 ^ 64
instance (i j : Int) : Decidable (powOk i j) := by unfold powOk; infer_instance
def shlOk (i j : Int) : Prop := 0 ≤ j ∧ (i.natAbs.log2 : Int) + j ≤ 100000000
instance (i j : Int) : Decidable (shlOk i j) := by unfold shlOk; infer_instance
/-- i and j, j from 0 on -/
def andI (i j : Int) : Int := if 0 ≤ i then ((i.toNat &&& j.toNat : Nat) : Int) else j - ((j.toNat &&& (-i - 1).toNat : Nat) : Int)
def bitD (f : Nat → Nat → Nat) (i j : Int) : Option Int := if 0 ≤ i ∧ 0 ≤ j then some (f i.toNat j.toNat : Nat) else none
def binI (op : Operator) (i j : Int) : Option Int := match op with
  | .Add => some (i + j)
  | .Sub => some (i - j)
  | .Mult => if mulOk i j then some (i * j) else none
  | .FloorDiv => if divOk j then some (i / j) else none
  | .Mod => if 0 < j then some (i % j) else none
  | .Pow => if powOk i j then some (i ^ j.toNat) else none
  | .LShift => if shlOk i j then some (i * 2 ^ j.toNat) else none
  | .RShift => if 0 ≤ j then some (i / 2 ^ j.toNat) else none
  | .BitAnd => if 0 ≤ j then some (andI i j) else none
  | .BitOr => bitD (· ||| ·) i j
  | .BitXor => bitD (· ^^^ ·) i j
  | _ => none
def reps {α : Type} (k : Int) (xs : List α) : List α := (List.replicate k.toNat xs).flatten
def binD (m : Bool) (op : Operator) (a b : D) (st : Store) : R D :=
  match a, b with
  | .int i, .int j => .of ((binI op i j).map .int) st
  | .bl x, .bl y => (match op with
    | .Sub => .ok (.int (b2i x - b2i y)) st
    | _ => .stuck)
  | .str x, .str y => (match op with
    | .Add => if x.length + y.length ≤ line then .ok (.str (x ++ y)) st else .stuck
    | _ => .stuck)
  | .str x, .int k => (match op with
    | .Mult => if -(2 ^ 62) ≤ k ∧ k < 2 ^ 62 ∧ x.length * k.toNat ≤ line then .ok (.str (reps k x)) st else .stuck
    | _ => .stuck)
  | .tup x, .tup y => (match op with
    | .Add => if x.length + y.length ≤ line then .ok (.tup (x ++ y)) st else .stuck
    | _ => .stuck)
  | .tup x, .int k => (match op with
    | .Mult => if -1000 ≤ k ∧ k ≤ 1000 ∧ x.length ≤ 1000 then .ok (.tup (reps k x)) st else .stuck
    | _ => .stuck)
  | _, _ => (match dl st a, op with
    | .lst x, .Add => (match dl st b with
      | .lst y => if x.length + y.length ≤ line then newL m (x ++ y) st else .stuck
      | _ => .stuck)
    | .lst x, .Mult => (match b with
      | .int k => if -(2 ^ 62) ≤ k ∧ k < 2 ^ 62 ∧ x.length * k.toNat ≤ line then newL m (reps k x) st else .stuck
      | _ => .stuck)
    | _, _ => .stuck)
def isIn (x : D) (xs : List D) : Bool := xs.any fun y => eqD x y
def cmpI (op : CmpOp) (i j : Int) : Option Bool := match op with
  | .Lt => some (decide (i < j))
  | .LtE => some (decide (i ≤ j))
  | .Gt => some (decide (j < i))
  | .GtE => some (decide (j ≤ i))
  | .Eq => some (i == j)
  | .NotEq => some (i != j)
  | _ => none
def eqO (a b : D) : Option Bool := match a, b with
  | .int i, .int j => some (i == j)
  | .str x, .str y => some (x == y)
  | a, b => if dat 8 a = true ∧ dat 8 b = true then some (eqD a b) else none
def cmpD (op : CmpOp) (a b : D) (st : Store) : Option Bool := match op with
  | .Eq => eqO (dl st a) (dl st b)
  | .NotEq => (eqO (dl st a) (dl st b)).map fun k => !k
  | .In => (match seq st b with
    | some xs => if flat a = true ∧ xs.all flat = true then some (isIn a xs) else none
    | none => none)
  | .NotIn => (match seq st b with
    | some xs => if flat a = true ∧ xs.all flat = true then some (!isIn a xs) else none
    | none => none)
  | _ => (match a, b with
    | .int i, .int j => cmpI op i j
    | _, _ => none)
def idxD (a i : D) (st : Store) : Option D := match dl st a, i with
  | .tup xs, .int k => (ixn xs.length k).bind fun j => xs[j]?
  | .lst xs, .int k => (ixn xs.length k).bind fun j => xs[j]?
  | .scr xs, .int k => (ixn xs.length k).bind fun j => xs[j]?
  | .str s, .int k => (ixn s.length k).bind fun j => (s[j]?).map fun c => .str [c]
  | _, _ => none
def sliceD (m : Bool) (a : D) (lo hi : Option Int) (st : Store) : R D := match dl st a with
  | .tup xs => .ok (.tup (cut xs lo hi)) st
  | .lst xs => newL m (cut xs lo hi) st
  | .str s => .ok (.str (cut s lo hi)) st
  | _ => .stuck

/-! ### built-ins -/
inductive Blt where
  | len | abs | int1 | int2 | min2 | max2 | min1 | max1 | sum1 | all1 | any1 | tuple1 | list1 (m : Bool) | sorted1 (m : Bool)
  deriving DecidableEq
inductive Ty where
  | int | bool | str | tuple | list
  deriving DecidableEq
inductive BM where
  | join | index | count | bitlen | rstrip | append | extend
  deriving DecidableEq
def minL : List Int → Int
  | [] => 0
  | a :: r => r.foldl min a
def maxL : List Int → Int
  | [] => 0
  | a :: r => r.foldl max a
def bltD (b : Blt) (ds : List D) (st : Store) : R D := match b, ds with
  | .len, [d] => (match dl st d with
    | .tup xs => .ok (.int xs.length) st
    | .lst xs => .ok (.int xs.length) st
    | .scr xs => .ok (.int xs.length) st
    | .str s => .ok (.int s.length) st
    | _ => .stuck)
  | .abs, [.int i] => .ok (.int i.natAbs) st
  | .int1, [.int i] => .ok (.int i) st
  | .int1, [.bl b] => .ok (.int (b2i b)) st
  | .min2, [.int i, .int j] => .ok (.int (min i j)) st
  | .max2, [.int i, .int j] => .ok (.int (max i j)) st
  | .min1, [d] => (match (seq st d).bind intsD with
    | some (i :: is) => .ok (.int (minL (i :: is))) st
    | _ => .stuck)
  | .max1, [d] => (match (seq st d).bind intsD with
    | some (i :: is) => .ok (.int (maxL (i :: is))) st
    | _ => .stuck)
  | .sum1, [d] => (match (seq st d).bind intsD with
    | some is => .ok (.int is.sum) st
    | _ => .stuck)
  | .all1, [d] => (match (match dl st d with | .lst xs => blsD xs | _ => none) with
    | some bs => .ok (.bl (bs.all id)) st
    | _ => .stuck)
  | .any1, [d] => (match (match dl st d with | .lst xs => blsD xs | _ => none) with
    | some bs => .ok (.bl (bs.any id)) st
    | _ => .stuck)
  | .tuple1, [d] => (match seq st d with
    | some xs => .ok (.tup xs) st
    | none => .stuck)
  | .list1 m, [d] => (match seq st d with
    | some xs => newL m xs st
    | none => .stuck)
  | _, _ => .stuck
def isTy (st : Store) (d : D) : Ty → Bool
  | .int => (match d with
    | .int _ | .bl _ => true
    | _ => false)
  | .bool => (match d with
    | .bl _ => true
    | _ => false)
  | .str => (match d with
    | .str _ => true
    | _ => false)
  | .tuple => (match d with
    | .tup _ => true
    | _ => false)
  | .list => (match dl st d with
    | .lst _ => true
    | _ => false)
/-- which things are asked by isinstance: no instances -/
def isPlain (st : Store) (d : D) : Bool := match dl st d with
  | .ref _ | .err _ _ | .scr _ => false
  | _ => true
def joinL (sep : List Nat) : List (List Nat) → List Nat
  | [] => []
  | [a] => a
  | a :: r => a ++ sep ++ joinL sep r
def bitLen (i : Int) : Nat := if i = 0 then 0 else i.natAbs.log2 + 1
def rstripL (cs s : List Nat) : List Nat := (s.reverse.dropWhile fun c => cs.contains c).reverse
def bmD (b : BM) (o : D) (ds : List D) (st : Store) : R D := match b, o, ds with
  | .join, .str sep, [d] => (match (seq st d).bind strsD with
    | some ss => if (ss.map (·.length)).sum + ss.length * sep.length ≤ line then .ok (.str (joinL sep ss)) st else .stuck
    | none => .stuck)
  | .bitlen, .int i, [] => .ok (.int (bitLen i)) st
  | .rstrip, .str s, [.str cs] => .ok (.str (rstripL cs s)) st
  | .append, .ref k, [d] => (match st[k]? with
    | some (.lst xs) => if xs.length < line then .ok .non (st.set k (.lst (xs ++ [d]))) else .stuck
    | _ => .stuck)
  | .extend, .ref k, [d] => (match st[k]?, dl st d with
    | some (.lst xs), .lst ys => if xs.length + ys.length ≤ line then .ok .non (st.set k (.lst (xs ++ ys))) else .stuck
    | _, _ => .stuck)
  | _, _, _ => .stuck

def isLst (o : D) (st : Store) : Bool := match o with
  | .ref k => (match st[k]? with
    | some (.lst _) => true
    | _ => false)
  | _ => false
/-- of which kind the object of a method must be -/
def bmOk (b : BM) (o : D) (st : Store) : Bool := match b with
  | .join | .rstrip => (match o with
    | .str _ => true
    | _ => false)
  | .bitlen => (match o with
    | .int _ => true
    | _ => false)
  | .append | .extend => isLst o st
  | _ => false

/-! ### fields -/
def getF (f : String) (fs : List (String × D)) : Option D := fs.lookup f
def setF (f : String) (d : D) : List (String × D) → List (String × D)
  | [] => [(f, d)]
  | (g, e) :: r => if g = f then (g, d) :: r else (g, e) :: setF f d r

/-! ### syntax -/
mutual
inductive Ex where
  | var (i : Nat) | non | bl (b : Bool) | int (i : Int) | str (s : String) | cst (x : String)
  | bin (m : Bool) (op : Operator) (a b : Ex) | neg (a : Ex)
  | cmp (op : CmpOp) (a b : Ex) | chain (o1 o2 : CmpOp) (a b c : Ex) | isN (a : Ex) | notN (a : Ex)
  | not (a : Ex) | and (a r : Ex) | and1 (a : Ex) | or (a r : Ex) | or1 (a : Ex) | ife (c : Te) (a b : Ex)
  | tup (es : Exs) | lst (m : Bool) (es : Exs) | idx (a i : Ex) | slice (m : Bool) (a : Ex) (lo hi : Exs)
  | fld (a : Ex) (f : String) | efld (i : Nat) (f : String)
  | call (f : String) (es : Exs) | make (c : String) (es : Exs) | meth (o : Ex) (f : String) (es : Exs)
  | blt (b : Blt) (es : Exs) | isi (a : Ex) (t : Ty) | bm (b : BM) (o : Ex) (es : Exs)
  | comp (m : Bool) (tg : List Nat) (sg : Bool) (it : It) (cs : Tes) (e : Ex)
inductive Exs where
  | nil | cons (e : Ex) (es : Exs)
inductive It where
  | seq (e : Ex) | rng (es : Exs) | enum (e : Ex) | zip (a b : Ex) | rev (e : Ex)
inductive Te where
  | val (e : Ex) | cmp (op : CmpOp) (a b : Ex) | chain (o1 o2 : CmpOp) (a b c : Ex) | isN (a : Ex) | notN (a : Ex)
  | not (t : Te) | and (t r : Te) | and1 (t : Te) | or (t r : Te) | or1 (t : Te)
inductive Tes where
  | nil | cons (t : Te) (ts : Tes)
end

def exsLen : Exs → Nat
  | .nil => 0
  | .cons _ es => exsLen es + 1

/-! ### what is walked -/
/-- lo, lo + c, .. -/
def rngN (lo hi c : Int) : Nat := if 0 < c then (if lo < hi then ((hi - lo - 1) / c + 1).toNat else 0) else (if hi < lo then ((lo - hi - 1) / (-c) + 1).toNat else 0)
def rngL (lo c : Int) (n : Nat) : List D := (List.range n).map fun (i : Nat) => .int (lo + (i : Int) * c)
def rngOk (i : Int) : Prop := -(2 ^ 62) ≤ i ∧ i < 2 ^ 62
instance (i : Int) : Decidable (rngOk i) := by unfold rngOk; infer_instance
def rngD (ds : List D) : Option (List D) := match ds with
  | [.int j] => if rngOk j then some (rngL 0 1 j.toNat) else none
  | [.int i, .int j] => if rngOk i ∧ rngOk j then some (rngL i 1 (j - i).toNat) else none
  | [.int i, .int j, .int c] => if rngOk i ∧ rngOk j ∧ c ≠ 0 ∧ -1000000 < c ∧ c < 1000000 then some (rngL i c (rngN i j c)) else none
  | _ => none
def enumL (xs : List D) : List D := (List.range xs.length).zipWith (fun (i : Nat) x => .tup [.int (i : Int), x]) xs
def zipL (xs ys : List D) : List D := xs.zipWith (fun x y => .tup [x, y]) ys
/-- what is walked still stands -/
def Still (st : Store) (src : D) (xs : List D) : Prop := match src with
  | .ref k => st[k]? = some (.lst xs)
  | _ => True
open Classical in
noncomputable def still (st : Store) (src : D) (xs : List D) : Bool := decide (Still st src xs)

/-- the module's constants; which class has which method -/
structure Gb where
  cst : String → Option D
  has : String → String → Bool
section
variable (Φ : Key → List D → Store → R D) (G : Gb)
def getFld (d : D) (f : String) (st : Store) : Option D := match d with
  | .ref k => (match st[k]? with
    | some (.ins _ fs) => getF f fs
    | _ => none)
  | _ => none
/-- the class of an instance that has no field of the name -/
def clsOf (m : String) (d : D) (st : Store) : Option String := match d with
  | .ref k => (match st[k]? with
    | some (.ins c fs) => if (getF m fs).isNone = true ∧ G.has c m = true then some c else none
    | _ => none)
  | _ => none
def setAll (ρ : Env) : List Nat → List D → Option Env
  | [], [] => some ρ
  | i :: is, d :: ds => setAll (ρ.set i (some d)) is ds
  | _, _ => none
/-- the target of a loop: one name, or some -/
def bindT (tg : List Nat) (sg : Bool) (d : D) (ρ : Env) : Option Env := match sg with
  | true => setAll ρ tg [d]
  | false => (match d with
    | .tup ds => setAll ρ tg ds
    | _ => none)
def partI : List D → Option (Option Int)
  | [] => some none
  | [.int i] => some (some i)
  | _ => none
/-- a comprehension's turns -/
noncomputable def compL (src : D) (all : List D) (bnd : D → Option Env) (c : Env → Store → R Bool) (e : Env → Store → R D) : List D → List D → Store → R (List D)
  | [], acc, st => if still st src all then .ok acc st else .stuck
  | x :: xs, acc, st => if still st src all then (match bnd x with
    | none => .stuck
    | some ρ => (c ρ st).bindN fun b st => match b with
      | true => (e ρ st).bindN fun d st => if acc.length < line then compL src all bnd c e xs (acc ++ [d]) st else .stuck
      | false => compL src all bnd c e xs acc st) else .stuck
def makeD (c : String) (ds : List D) (st : Store) : R D := (Φ (.mt c "__init__") (.ref st.length :: ds) (st ++ [.ins c []])).bind fun d st' => match d with
  | .non => .ok (.ref st.length) st'
  | _ => .stuck
mutual
noncomputable def evE : Ex → Env → Store → R D
  | .var i => fun ρ st => match ρ[i]? with
    | some (some (.err _ _)) => .stuck
    | some (some d) => .ok d st
    | _ => .stuck
  | .non => fun _ st => .ok .non st
  | .bl b => fun _ st => .ok (.bl b) st
  | .int i => fun _ st => .ok (.int i) st
  | .str s => fun _ st => .ok (.str (codes s)) st
  | .cst x => fun _ st => .of (G.cst x) st
  | .bin m op a b => fun ρ st => (evE a ρ st).bind fun x st => (evE b ρ st).bind fun y st => binD m op x y st
  | .neg a => fun ρ st => (evE a ρ st).bind fun x st => match x with
    | .int i => .ok (.int (-i)) st
    | _ => .stuck
  | .cmp op a b => fun ρ st => (evE a ρ st).bind fun x st => (evE b ρ st).bind fun y st => .of ((cmpD op x y st).map .bl) st
  | .chain o1 o2 a b c => fun ρ st => (evE a ρ st).bind fun x st => (evE b ρ st).bind fun y st => (R.of (cmpD o1 x y st) st).bind fun k st => match k with
    | true => (evE c ρ st).bind fun z st => .of ((cmpD o2 y z st).map .bl) st
    | false => .ok (.bl false) st
  | .isN a => fun ρ st => (evE a ρ st).bind fun x st => .ok (.bl (isNon x)) st
  | .notN a => fun ρ st => (evE a ρ st).bind fun x st => .ok (.bl (!isNon x)) st
  | .not a => fun ρ st => (evE a ρ st).bind fun x st => .of ((truD st x).map fun b => .bl (!b)) st
  | .and a r => fun ρ st => (evE a ρ st).bind fun x st => (R.of (truD st x) st).bind fun k st => match k with
    | true => evE r ρ st
    | false => .ok x st
  | .and1 a => evE a
  | .or a r => fun ρ st => (evE a ρ st).bind fun x st => (R.of (truD st x) st).bind fun k st => match k with
    | true => .ok x st
    | false => evE r ρ st
  | .or1 a => evE a
  | .ife c a b => fun ρ st => (evT c ρ st).bind fun k st => match k with
    | true => evE a ρ st
    | false => evE b ρ st
  | .tup es => fun ρ st => (evEs es ρ st).bind fun ds st => .ok (.tup ds) st
  | .lst m es => fun ρ st => (evEs es ρ st).bind fun ds st => newL m ds st
  | .idx a i => fun ρ st => (evE a ρ st).bind fun x st => (evE i ρ st).bind fun y st => .of (idxD x y st) st
  | .slice m a lo hi => fun ρ st => (evE a ρ st).bind fun x st => ((evEs lo ρ st).bind fun l st => .of (partI l) st).bind fun l st => ((evEs hi ρ st).bind fun h st => .of (partI h) st).bind fun h st => sliceD m x l h st
  | .fld a f => fun ρ st => (evE a ρ st).bind fun x st => .of (getFld x f st) st
  | .efld i f => fun ρ st => match ρ[i]? with
    | some (some (.err _ d)) => .ok d st
    | _ => .stuck
  | .call f es => fun ρ st => (evEs es ρ st).bind fun ds st => Φ (.fn f) ds st
  | .make c es => fun ρ st => (evEs es ρ st).bind fun ds st => makeD Φ c ds st
  | .meth o m es => fun ρ st => (evE o ρ st).bind fun x st => (R.of (clsOf G m x st) st).bind fun c st => (evEs es ρ st).bind fun ds st => Φ (.mt c m) (x :: ds) st
  | .blt b es => fun ρ st => (evEs es ρ st).bind fun ds st => bltD b ds st
  | .isi a t => fun ρ st => (evE a ρ st).bind fun x st => if isPlain st x = true then .ok (.bl (isTy st x t)) st else .stuck
  | .bm b o es => fun ρ st => (evE o ρ st).bind fun x st => if bmOk b x st = true then (evEs es ρ st).bind fun ds st => bmD b x ds st else .stuck
  | .comp m tg sg it cs e => fun ρ st => (evIt it ρ st).bind fun w st => (compL w.1 w.2.1 (fun x => bindT tg sg x ρ) (evTs cs) (evE e) w.2.2 [] st).bind fun ds st => newL m ds st
noncomputable def evEs : Exs → Env → Store → R (List D)
  | .nil => fun _ st => .ok [] st
  | .cons e es => fun ρ st => (evE e ρ st).bind fun d st => (evEs es ρ st).bind fun ds st => .ok (d :: ds) st
noncomputable def evIt : It → Env → Store → R (D × List D × List D)
  | .seq e => fun ρ st => (evE e ρ st).bind fun d st => .of ((walked st d).map fun xs => (d, xs, xs)) st
  | .rng es => fun ρ st => (evEs es ρ st).bind fun ds st => .of ((rngD ds).map fun xs => (.non, [], xs)) st
  | .enum e => fun ρ st => (evE e ρ st).bind fun d st => .of ((seq st d).map fun xs => (d, xs, enumL xs)) st
  | .zip a b => fun ρ st => (evE a ρ st).bind fun x st => (evE b ρ st).bind fun y st => match x, y with
    | .tup xs, .tup ys => .ok (.non, [], zipL xs ys) st
    | .lst xs, .lst ys => .ok (.non, [], zipL xs ys) st
    | _, _ => .stuck
  | .rev e => fun ρ st => (evE e ρ st).bind fun d st => match d with
    | .tup xs => .ok (.non, [], xs.reverse) st
    | _ => .stuck
noncomputable def evT : Te → Env → Store → R Bool
  | .val e => fun ρ st => (evE e ρ st).bind fun x st => .of (truD st x) st
  | .cmp op a b => fun ρ st => (evE a ρ st).bind fun x st => (evE b ρ st).bind fun y st => .of (cmpD op x y st) st
  | .chain o1 o2 a b c => fun ρ st => (evE a ρ st).bind fun x st => (evE b ρ st).bind fun y st => (R.of (cmpD o1 x y st) st).bind fun k st => match k with
    | true => (evE c ρ st).bind fun z st => .of (cmpD o2 y z st) st
    | false => .ok false st
  | .isN a => fun ρ st => (evE a ρ st).bind fun x st => .ok (isNon x) st
  | .notN a => fun ρ st => (evE a ρ st).bind fun x st => .ok (!isNon x) st
  | .not t => fun ρ st => (evT t ρ st).bind fun k st => .ok (!k) st
  | .and t r => fun ρ st => (evT t ρ st).bind fun k st => match k with
    | true => evT r ρ st
    | false => .ok false st
  | .and1 t => evT t
  | .or t r => fun ρ st => (evT t ρ st).bind fun k st => match k with
    | true => .ok true st
    | false => evT r ρ st
  | .or1 t => evT t
noncomputable def evTs : Tes → Env → Store → R Bool
  | .nil => fun _ st => .ok true st
  | .cons t ts => fun ρ st => (evT t ρ st).bind fun k st => match k with
    | true => evTs ts ρ st
    | false => .ok false st
end
end

/-! ### statements -/
inductive Tg where
  | name (i : Nat) | sub (o i : Ex) | fld (o : Ex) (f : String)
mutual
inductive Sm where
  | asg (t : Tg) (e : Ex) | unp (ts : List Tg) (e : Ex) | par (is : List Nat) (es : Exs)
  | aug (i : Nat) (op : Operator) (e : Ex) | augF (o : Ex) (f : String) (op : Operator) (e : Ex) | augS (o i : Ex) (op : Operator) (e : Ex)
  | expr (e : Ex) | ret (e : Ex) | retN | ife (c : Te) (a b : Sms) | whl (c : Te) (b : Sms) (kill : List Nat)
  | fr (tg : List Nat) (sg : Bool) (it : It) (b : Sms) (kill : List Nat) | brk | cont | pass
  | rse (c : String) (es : Exs) | tr (b : Sms) (hs : List (List String × Option Nat)) (bs : Smss)
inductive Sms where
  | nil | cons (s : Sm) (r : Sms)
inductive Smss where
  | nil | cons (b : Sms) (r : Smss)
end
def clsN (d : D) (st : Store) : Option String := match d with
  | .ref k => (match st[k]? with
    | some (.ins c _) => some c
    | _ => none)
  | _ => none
/-- op= on ints -/
def augD (op : Operator) (x y : D) : Option D := match x, y with
  | .int i, .int j => (match op with
    | .Add => some (.int (i + j))
    | .Sub => some (.int (i - j))
    | .Mult => if mulOk i j then some (.int (i * j)) else none
    | _ => none)
  | _, _ => none
section
variable (Φ : Key → List D → Store → R D) (G : Gb)
def setSub (o i v : D) (st : Store) : Option Store := match o, i with
  | .ref k, .int j => (match st[k]? with
    | some (.lst xs) => (ixn xs.length j).map fun n => st.set k (.lst (xs.set n v))
    | _ => none)
  | _, _ => none
def setFld (o : D) (f : String) (v : D) (st : Store) : Option Store := match o with
  | .ref k => (match st[k]? with
    | some (.ins c fs) => if fs.length < 1000 then some (st.set k (.ins c (setF f v fs))) else none
    | _ => none)
  | _ => none
noncomputable def asgT (t : Tg) (v : D) (ρ : Env) (st : Store) : RS := match t with
  | .name i => .nx (ρ.set i (some v)) st
  | .sub o i => (evE Φ G o ρ st).bindS ρ fun x st => (evE Φ G i ρ st).bindS ρ fun y st => match setSub x y v st with
    | some st => .nx ρ st
    | none => .stuck
  | .fld o f => (evE Φ G o ρ st).bindS ρ fun x st => match setFld x f v st with
    | some st => .nx ρ st
    | none => .stuck
def RS.then (r : RS) (f : Env → Store → RS) : RS := match r with
  | .nx ρ st => f ρ st
  | r => r
noncomputable def asgTs : List Tg → List D → Env → Store → RS
  | [], [], ρ, st => .nx ρ st
  | t :: ts, v :: vs, ρ, st => (asgT Φ G t v ρ st).then fun ρ st => asgTs ts vs ρ st
  | _, _, _, _ => .stuck
def killL (ks : List Nat) (ρ : Env) : Env := ks.foldl (fun ρ k => ρ.set k none) ρ
/-- a while loop's turns, n at most -/
def whN (c : Env → Store → R Bool) (b : Env → Store → RS) : Nat → Env → Store → RS
  | 0, _, _ => .stuck
  | n + 1, ρ, st => (c ρ st).bindS ρ fun k st => match k with
    | false => .nx ρ st
    | true => (match b ρ st with
      | .nx ρ st => whN c b n ρ st
      | .ct ρ st => whN c b n ρ st
      | .bk ρ st => .nx ρ st
      | r => r)
open Classical in
noncomputable def wh (c : Env → Store → R Bool) (b : Env → Store → RS) (ρ : Env) (st : Store) : RS :=
  if h : ∃ n, whN c b n ρ st ≠ .stuck then whN c b (Classical.choose h) ρ st else .stuck
def killS (ks : List Nat) (r : RS) : RS := match r with
  | .nx ρ st => .nx (killL ks ρ) st
  | .ct ρ st => .ct (killL ks ρ) st
  | .bk ρ st => .bk (killL ks ρ) st
  | r => r
/-- a for loop's turns -/
noncomputable def frL (src : D) (all : List D) (bnd : D → Env → Option Env) (b : Env → Store → RS) : List D → Env → Store → RS
  | [], ρ, st => if still st src all then .nx ρ st else .stuck
  | x :: xs, ρ, st => if still st src all then (match bnd x ρ with
      | none => .stuck
      | some ρ => (match b ρ st with
        | .nx ρ st => frL src all bnd b xs ρ st
        | .ct ρ st => frL src all bnd b xs ρ st
        | .bk ρ st => .nx ρ st
        | r => r)) else .stuck
def findH (c : String) : List (List String × Option Nat) → List (Env → Store → RS) → Option (Option Nat × (Env → Store → RS))
  | (cs, n) :: hs, b :: bs => if cs.contains c then some (n, b) else findH c hs bs
  | _, _ => none
mutual
noncomputable def evS : Sm → Env → Store → RS
  | .asg t e => fun ρ st => (evE Φ G e ρ st).bindS ρ fun v st => asgT Φ G t v ρ st
  | .unp ts e => fun ρ st => (evE Φ G e ρ st).bindS ρ fun v st => match seq st v with
    | some vs => if vs.length = ts.length then asgTs Φ G ts vs ρ st else .stuck
    | none => .stuck
  | .par is es => fun ρ st => (evEs Φ G es ρ st).bindS ρ fun vs st => match setAll ρ is vs with
    | some ρ => .nx ρ st
    | none => .stuck
  | .aug i op e => fun ρ st => (evE Φ G (.var i) ρ st).bindS ρ fun x st => (evE Φ G e ρ st).bindS ρ fun y st => (R.of (augD op x y) st).bindS ρ fun z st => .nx (ρ.set i (some z)) st
  | .augF o f op e => fun ρ st => (evE Φ G o ρ st).bindS ρ fun x st => (R.of (getFld x f st) st).bindS ρ fun w st0 => (evE Φ G e ρ st0).bindS ρ fun y st => (R.of (augD op w y) st).bindS ρ fun z st =>
      if clsN x st0 = clsN x st then (match setFld x f z st with
      | some st => .nx ρ st
      | none => .stuck) else .stuck
  | .augS o i op e => fun ρ st => (evE Φ G o ρ st).bindS ρ fun x st => (evE Φ G i ρ st).bindS ρ fun n st => (if isLst x st = true then R.of (idxD x n st) st else .stuck).bindS ρ fun w st => (evE Φ G e ρ st).bindS ρ fun y st =>
      (R.of (augD op w y) st).bindS ρ fun z st => match setSub x n z st with
      | some st => .nx ρ st
      | none => .stuck
  | .expr e => fun ρ st => (evE Φ G e ρ st).bindS ρ fun _ st => .nx ρ st
  | .ret e => fun ρ st => (evE Φ G e ρ st).bindS ρ fun v st => .rt v st
  | .retN => fun _ st => .rt .non st
  | .ife c a b => fun ρ st => (evT Φ G c ρ st).bindS ρ fun k st => match k with
    | true => evSs a ρ st
    | false => evSs b ρ st
  | .whl c b ks => fun ρ st => wh (evT Φ G c) (fun ρ st => killS ks (evSs b ρ st)) ρ st
  | .fr tg sg it b ks => fun ρ st => (evIt Φ G it ρ st).bindS ρ fun w st => frL w.1 w.2.1 (bindT tg sg) (fun ρ st => killS ks (evSs b ρ st)) w.2.2 ρ st
  | .brk => fun ρ st => .bk ρ st
  | .cont => fun ρ st => .ct ρ st
  | .pass => fun ρ st => .nx ρ st
  | .rse c es => fun ρ st => (evEs Φ G es ρ st).bindS ρ fun ds st => match ds with
    | [d] => .exc c d ρ st
    | _ => .stuck
  | .tr b hs bs => fun ρ st => match evSs b ρ st with
    | .exc c d ρ st => (match findH c hs (evSss bs) with
      | some (none, h) => h ρ st
      | some (some n, h) => (match h (ρ.set n (some (.err c d))) st with
        | .nx ρ st => .nx (ρ.set n none) st
        | .bk ρ st => .bk (ρ.set n none) st
        | .ct ρ st => .ct (ρ.set n none) st
        | .exc c d ρ st => .exc c d (ρ.set n none) st
        | r => r)
      | none => .exc c d ρ st)
    | r => r
noncomputable def evSs : Sms → Env → Store → RS
  | .nil => fun ρ st => .nx ρ st
  | .cons s r => fun ρ st => (evS s ρ st).then fun ρ st => evSs r ρ st
noncomputable def evSss : Smss → List (Env → Store → RS)
  | .nil => []
  | .cons b r => evSs b :: evSss r
end
end

/-! ### functions -/
structure Fn where
  key : Key
  ps : List String
  own : List String
  body : Sms
/-- references lowR n alone -/
def lowR (n : Nat) : Nat → D → Bool
  | _, .ref k => decide (k < n)
  | m + 1, .tup xs | m + 1, .lst xs => xs.all (lowR n m)
  | 0, .tup _ | 0, .lst _ => false
  | _, .err _ _ | _, .scr _ => false
  | _, _ => true
def cellBelow (n : Nat) : Cell → Bool
  | .lst xs => xs.all (lowR n 8)
  | .ins _ fs => fs.all fun p => lowR n 8 p.2
/-- the lists behind the n-th cell are values from now on -/
def fz (n : Nat) (st : Store) : Nat → D → Option D
  | _, .ref k => if k < n then some (.ref k) else (match st[k]? with
    | some (.lst xs) => if xs.all (lowR n 8) then some (.lst xs) else none
    | _ => none)
  | m + 1, .tup xs => (xs.mapM (fz n st m)).map .tup
  | m + 1, .lst xs => (xs.mapM (fz n st m)).map .lst
  | 0, .tup _ => none
  | 0, .lst _ => none
  | _, .err _ _ => none
  | _, .scr _ => none
  | _, d => some d
/-- the first n cells as they were, or without references to later ones -/
def olds (n : Nat) (s0 st : Store) : Prop := n ≤ st.length ∧ ∀ k, k < n → ∃ c, st[k]? = some c ∧ (s0[k]? = some c ∨ cellBelow n c = true)
open Classical in
noncomputable def trunc (s0 : Store) (d : D) (st : Store) : D × Store :=
  if olds s0.length s0 st then (match fz s0.length st 8 d with
    | some d' => (d', st.take s0.length)
    | none => (d, st)) else (d, st)
noncomputable def callRes (s0 : Store) (r : RS) : R D := match r with
  | .rt d st => .ok (trunc s0 d st).1 (trunc s0 d st).2
  | .nx _ st => .ok (trunc s0 .non st).1 (trunc s0 .non st).2
  | .exc c d _ st => .exc c (trunc s0 d st).1 (trunc s0 d st).2
  | _ => .stuck
def startE (fd : Fn) (args : List D) : Env := args.map some ++ List.replicate (fd.own.length) none
section
variable (T : Key → Option Fn) (G : Gb)
noncomputable def Phi : Nat → Key → List D → Store → R D
  | 0, _, _, _ => .stuck
  | k + 1, f, args, st => match T f with
    | none => .stuck
    | some fd => if args.length = fd.ps.length then callRes st (evSs (Phi k) G fd.body (startE fd args) st) else .stuck
end
end MP
end
section
set_option linter.all false
set_option Elab.async false
set_option maxRecDepth 100000
/-! MP: how the small language's values stand in the abstract heap. -/
namespace MP
open PySem PySem.Spec PyProof.Rows L2

def sO (l : List Nat) : Str := ⟨l.toArray⟩
theorem sO_inj {a b : List Nat} (h : sO a = sO b) : a = b := by
  have : a.toArray = b.toArray := congrArg Str.cps h
  simpa using this
theorem ofString_codes (s : String) : Str.ofString s = sO (codes s) := by rw [Str.ofString_eq_toList]; rfl
theorem charNat_inj : ∀ {a b : Char}, a.toNat = b.toNat → a = b := fun {a b} h => by
  apply Char.ext
  apply UInt32.toNat.inj
  exact h
theorem codes_inj {s t : String} (h : codes s = codes t) : s = t := by
  have h2 : s.toList = t.toList := by
    unfold codes at h
    have inj : ∀ (l m : List Char), l.map Char.toNat = m.map Char.toNat → l = m := by
      intro l
      induction l with
      | nil => intro m e; cases m with
        | nil => rfl
        | cons _ _ => simp at e
      | cons a r ih => intro m e; cases m with
        | nil => simp at e
        | cons b q =>
          rw [List.map_cons, List.map_cons] at e
          injection e with e1 e2
          rw [charNat_inj e1, ih _ e2]
    exact inj _ _ h
  have := congrArg String.ofList h2
  simpa using this
theorem ofString_inj {s t : String} (h : Str.ofString s = Str.ofString t) : s = t := codes_inj (sO_inj (by rw [← ofString_codes, ← ofString_codes]; exact h))

abbrev Fr := PySem.W.Frag
/-- the classes' addresses; what stands in the heap for others alone -/
structure Cf where
  ca : String → Option Addr
  P : Hp
mutual
/-- the value v is d, in the frozen heap F; as: the cells' addresses -/
inductive RepD (K : Fr) (F : Hp) (as : List Addr) : D → V → Prop
  | non : RepD K F as .non .non
  | bl (b : Bool) : RepD K F as (.bl b) (.bl b)
  | int (i : Int) : RepD K F as (.int i) (.int i)
  | str {s : List Nat} : s.length ≤ line → RepD K F as (.str s) (.str (sO s))
  | tup {ds : List D} {a : Addr} {xs : List V} : SqT K F a xs → RepDs K F as ds xs → RepD K F as (.tup ds) (.ref a)
  | lst {ds : List D} {a : Addr} {xs : List V} : F a = some (.lst xs) → RepDs K F as ds xs → RepD K F as (.lst ds) (.ref a)
  | scr {ds : List D} {a : Addr} {xs : List V} : SqL K F a xs → RepDs K F as ds xs → RepD K F as (.scr ds) (.ref a)
  | ref {k : Nat} {a : Addr} : as[k]? = some a → RepD K F as (.ref k) (.ref a)
inductive RepDs (K : Fr) (F : Hp) (as : List Addr) : List D → List V → Prop
  | nil : RepDs K F as [] []
  | cons {d : D} {v : V} {ds : List D} {vs : List V} : RepD K F as d v → RepDs K F as ds vs → RepDs K F as (d :: ds) (v :: vs)
end

theorem Same.sqT {K : Fr} {F F' : Hp} {a : Addr} {xs : List V} (e : Same F F') (h : SqT K F a xs) : SqT K F' a xs := by
  rcases h with (h | ⟨o, h⟩) | h
  · exact .inl (.inl (e _ _ h))
  · exact .inl (.inr ⟨o, e _ _ h⟩)
  · exact .inr h
theorem get_app {α : Type} {l m : List α} {k : Nat} {a : α} (h : l[k]? = some a) : (l ++ m)[k]? = some a := by
  rw [List.getElem?_append_left (List.getElem?_eq_some_iff.mp h).1]; exact h
section
variable {K : Fr} {F F' : Hp} {as bs : List Addr}
mutual
theorem RepD.mono (e : Same F F') : ∀ {d : D} {v : V}, RepD K F as d v → RepD K F' (as ++ bs) d v
  | _, _, .non => .non
  | _, _, .bl b => .bl b
  | _, _, .int i => .int i
  | _, _, .str h => .str h
  | _, _, .tup h r => .tup (Same.sqT e h) (RepDs.mono e r)
  | _, _, .lst h r => .lst (e _ _ h) (RepDs.mono e r)
  | _, _, .scr h r => .scr (e.seq h) (RepDs.mono e r)
  | _, _, .ref h => .ref (get_app h)
theorem RepDs.mono (e : Same F F') : ∀ {ds : List D} {vs : List V}, RepDs K F as ds vs → RepDs K F' (as ++ bs) ds vs
  | _, _, .nil => .nil
  | _, _, .cons r t => .cons (RepD.mono e r) (RepDs.mono e t)
end
theorem RepDs.length : ∀ {ds : List D} {vs : List V}, RepDs K F as ds vs → ds.length = vs.length
  | _, _, .nil => rfl
  | _, _, .cons _ t => by rw [List.length_cons, List.length_cons, t.length]
theorem RepDs.get : ∀ {ds : List D} {vs : List V} {i : Nat} {d : D}, RepDs K F as ds vs → ds[i]? = some d → ∃ v, vs[i]? = some v ∧ RepD K F as d v
  | _, _, _, _, .nil, e => by simp at e
  | _, _, 0, _, .cons r _, e => by simp at e; subst e; exact ⟨_, rfl, r⟩
  | _, _, i + 1, d, .cons _ t, e => by
    obtain ⟨v, h1, h2⟩ := RepDs.get (i := i) (d := d) t (by simpa using e)
    exact ⟨v, by simpa using h1, h2⟩
theorem RepDs.getV : ∀ {ds : List D} {vs : List V} {i : Nat} {v : V}, RepDs K F as ds vs → vs[i]? = some v → ∃ d, ds[i]? = some d ∧ RepD K F as d v
  | _, _, _, _, .nil, e => by simp at e
  | _, _, 0, _, .cons r _, e => by simp at e; subst e; exact ⟨_, rfl, r⟩
  | _, _, i + 1, d, .cons _ t, e => by
    obtain ⟨v, h1, h2⟩ := RepDs.getV (i := i) (v := d) t (by simpa using e)
    exact ⟨v, by simpa using h1, h2⟩
theorem RepDs.append : ∀ {ds es : List D} {vs ws : List V}, RepDs K F as ds vs → RepDs K F as es ws → RepDs K F as (ds ++ es) (vs ++ ws)
  | _, _, _, _, .nil, s => s
  | _, _, _, _, .cons r t, s => .cons r (RepDs.append t s)
theorem RepDs.take : ∀ {ds : List D} {vs : List V} (n : Nat), RepDs K F as ds vs → RepDs K F as (ds.take n) (vs.take n)
  | _, _, 0, _ => .nil
  | _, _, _ + 1, .nil => .nil
  | _, _, n + 1, .cons r t => .cons r (RepDs.take n t)
theorem RepDs.drop : ∀ {ds : List D} {vs : List V} (n : Nat), RepDs K F as ds vs → RepDs K F as (ds.drop n) (vs.drop n)
  | _, _, 0, r => r
  | _, _, _ + 1, .nil => .nil
  | _, _, n + 1, .cons _ t => RepDs.drop n t
theorem RepDs.set {d : D} {v : V} (r : RepD K F as d v) : ∀ {ds : List D} {vs : List V} (i : Nat), RepDs K F as ds vs → RepDs K F as (ds.set i d) (vs.set i v)
  | _, _, _, .nil => .nil
  | _, _, 0, .cons _ t => .cons r t
  | _, _, i + 1, .cons q t => .cons q (RepDs.set r i t)
theorem RepDs.rep {ds : List D} {vs : List V} (r : RepDs K F as ds vs) : ∀ k : Nat, RepDs K F as (List.replicate k ds).flatten (List.replicate k vs).flatten
  | 0 => .nil
  | k + 1 => by
    rw [List.replicate_succ, List.replicate_succ, List.flatten_cons, List.flatten_cons]
    exact RepDs.append r (RepDs.rep r k)
theorem RepDs.reverse : ∀ {ds : List D} {vs : List V}, RepDs K F as ds vs → RepDs K F as ds.reverse vs.reverse
  | _, _, .nil => .nil
  | _, _, .cons r t => by rw [List.reverse_cons, List.reverse_cons]; exact RepDs.append t.reverse (.cons r .nil)
theorem RepDs.intsD : ∀ {ds : List D} {vs : List V} {is : List Int}, RepDs K F as ds vs → intsD ds = some is → vs = is.map V.int
  | _, _, _, .nil, h => by cases h; rfl
  | d :: ds, v :: vs, is, .cons r t, h => by
    cases d with
    | int i =>
      unfold MP.intsD at h
      cases e : MP.intsD ds with
      | none => rw [e] at h; cases h
      | some js =>
        rw [e] at h
        cases h
        cases r
        rw [List.map_cons, t.intsD e]
    | _ => cases h
theorem RepDs.blsD : ∀ {ds : List D} {vs : List V} {is : List Bool}, RepDs K F as ds vs → blsD ds = some is → vs = is.map V.bl
  | _, _, _, .nil, h => by cases h; rfl
  | d :: ds, v :: vs, is, .cons r t, h => by
    cases d with
    | bl i =>
      unfold MP.blsD at h
      cases e : MP.blsD ds with
      | none => rw [e] at h; cases h
      | some js =>
        rw [e] at h
        cases h
        cases r
        rw [List.map_cons, t.blsD e]
    | _ => cases h
theorem RepDs.strsD : ∀ {ds : List D} {vs : List V} {is : List (List Nat)}, RepDs K F as ds vs → strsD ds = some is → vs = is.map fun s => V.str (sO s)
  | _, _, _, .nil, h => by cases h; rfl
  | d :: ds, v :: vs, is, .cons r t, h => by
    cases d with
    | str i =>
      unfold MP.strsD at h
      cases e : MP.strsD ds with
      | none => rw [e] at h; cases h
      | some js =>
        rw [e] at h
        cases h
        cases r
        rw [List.map_cons, t.strsD e]
    | _ => cases h
theorem RepDs.ofInts (is : List Int) : RepDs K F as (is.map D.int) (is.map V.int) := by
  induction is with
  | nil => exact .nil
  | cons i r ih => exact .cons (.int i) ih
theorem RepDs.one {d : D} {vs : List V} (r : RepDs K F as [d] vs) : ∃ v, vs = [v] ∧ RepD K F as d v := by
  cases r with
  | cons r t => cases t; exact ⟨_, rfl, r⟩
theorem RepDs.two {d e : D} {vs : List V} (r : RepDs K F as [d, e] vs) : ∃ v w, vs = [v, w] ∧ RepD K F as d v ∧ RepD K F as e w := by
  cases r with
  | cons r t => obtain ⟨w, rfl, q⟩ := t.one; exact ⟨_, w, rfl, r, q⟩
theorem RepDs.three {d e f : D} {vs : List V} (r : RepDs K F as [d, e, f] vs) : ∃ v w u, vs = [v, w, u] ∧ RepD K F as d v ∧ RepD K F as e w ∧ RepD K F as f u := by
  cases r with
  | cons r t => obtain ⟨w, u, rfl, q, q2⟩ := t.two; exact ⟨_, w, u, rfl, r, q, q2⟩
theorem RepDs.zero {vs : List V} (r : RepDs K F as [] vs) : vs = [] := by cases r; rfl
/-- references lowR n alone: they lean on the first n cells -/
theorem RepD.back {n : Nat} : ∀ {m : Nat} {d : D} {v : V}, RepD K F as d v → lowR n m d = true → RepD K F (as.take n) d v := by
  have all : ∀ (m : Nat), (∀ {d : D} {v : V}, RepD K F as d v → lowR n m d = true → RepD K F (as.take n) d v) → ∀ {ds : List D} {vs : List V}, RepDs K F as ds vs → ds.all (lowR n m) = true → RepDs K F (as.take n) ds vs := by
    intro m ih ds vs r
    induction ds generalizing vs with
    | nil => intro _; cases r; exact .nil
    | cons d ds ihd =>
      intro h
      cases r with
      | cons r t =>
        rw [List.all_cons, Bool.and_eq_true] at h
        exact .cons (ih r h.1) (ihd t h.2)
  intro m
  induction m with
  | zero =>
    intro d v r h
    cases r with
    | non => exact .non
    | bl b => exact .bl b
    | int i => exact .int i
    | str h' => exact .str h'
    | tup _ _ => cases h
    | lst _ _ => cases h
    | scr _ _ => cases h
    | ref q =>
      have hk := of_decide_eq_true h
      exact .ref (by rw [List.getElem?_take_of_lt hk]; exact q)
  | succ m ih =>
    intro d v r h
    cases r with
    | non => exact .non
    | bl b => exact .bl b
    | int i => exact .int i
    | str h' => exact .str h'
    | tup s r => exact .tup s (all m ih r h)
    | lst s r => exact .lst s (all m ih r h)
    | scr _ _ => cases h
    | ref q =>
      have hk := of_decide_eq_true h
      exact .ref (by rw [List.getElem?_take_of_lt hk]; exact q)
end

inductive FldR (K : Fr) (F : Hp) (as : List Addr) : List (String × D) → List (Str × V) → Prop
  | nil : FldR K F as [] []
  | cons {f : String} {d : D} {v : V} {fs : List (String × D)} {vs : List (Str × V)} : RepD K F as d v → FldR K F as fs vs → FldR K F as ((f, d) :: fs) ((Str.ofString f, v) :: vs)
section
variable {K : Fr} {F F' : Hp} {as bs : List Addr} {H H' : Hp} {CA : Cf}
theorem FldR.mono (e : Same F F') : ∀ {fs : List (String × D)} {vs : List (Str × V)}, FldR K F as fs vs → FldR K F' (as ++ bs) fs vs
  | _, _, .nil => .nil
  | _, _, .cons r t => .cons (r.mono e) (t.mono e)
theorem FldR.length : ∀ {fs : List (String × D)} {vs : List (Str × V)}, FldR K F as fs vs → fs.length = vs.length
  | _, _, .nil => rfl
  | _, _, .cons _ t => by rw [List.length_cons, List.length_cons, t.length]
theorem FldR.get : ∀ {fs : List (String × D)} {vs : List (Str × V)} {f : String}, FldR K F as fs vs → (∀ d, getF f fs = some d → ∃ v, vs.lookup (Str.ofString f) = some v ∧ RepD K F as d v) ∧ (getF f fs = none → vs.lookup (Str.ofString f) = none)
  | _, _, _, .nil => ⟨fun d h => (by cases h), fun _ => rfl⟩
  | (g, e) :: fs, (_, v) :: vs, f, .cons r t => by
    obtain ⟨h1, h2⟩ := FldR.get (f := f) t
    unfold getF at h1 h2 ⊢
    by_cases q : f = g
    · subst q
      have b1 : (f == f) = true := beq_self_eq_true f
      have b2 : (Str.ofString f == Str.ofString f) = true := beq_self_eq_true _
      constructor
      · intro d h
        simp only [List.lookup, b1] at h
        cases h
        exact ⟨v, by simp only [List.lookup, b2], r⟩
      · intro h
        simp only [List.lookup, b1] at h
        cases h
    · have b1 : (f == g) = false := beq_eq_false_iff_ne.mpr q
      have b2 : (Str.ofString f == Str.ofString g) = false := beq_eq_false_iff_ne.mpr fun z => q (ofString_inj z)
      constructor
      · intro d h
        simp only [List.lookup, b1] at h
        obtain ⟨w, e1, e2⟩ := h1 d h
        exact ⟨w, by simp only [List.lookup, b2]; exact e1, e2⟩
      · intro h
        simp only [List.lookup, b1] at h
        simp only [List.lookup, b2]
        exact h2 h
theorem FldR.set {d : D} {v : V} {f : String} (r : RepD K F as d v) : ∀ {fs : List (String × D)} {vs : List (Str × V)}, FldR K F as fs vs → FldR K F as (setF f d fs) (putF (Str.ofString f) v vs)
  | _, _, .nil => .cons r .nil
  | (g, e) :: fs, (_, w) :: vs, .cons q t => by
    show FldR K F as (if g = f then (g, d) :: fs else (g, e) :: setF f d fs) (if Str.ofString g = Str.ofString f then (Str.ofString g, v) :: vs else (Str.ofString g, w) :: putF (Str.ofString f) v vs)
    by_cases z : g = f
    · rw [if_pos z, if_pos (by rw [z])]; exact .cons r t
    · rw [if_neg z, if_neg fun y => z (ofString_inj y)]; exact .cons q (FldR.set r t)
theorem FldR.back {n : Nat} : ∀ {fs : List (String × D)} {vs : List (Str × V)}, FldR K F as fs vs → (fs.all fun p => lowR n 8 p.2) = true → FldR K F (as.take n) fs vs
  | _, _, .nil, _ => .nil
  | _, _, .cons r t, h => by
    rw [List.all_cons, Bool.and_eq_true] at h
    exact .cons (r.back h.1) (t.back h.2)

/-- a cell at an address -/
inductive CellR (K : Fr) (CA : Cf) (F : Hp) (as : List Addr) (H : Hp) (a : Addr) : Cell → Prop
  | lst {ds : List D} {xs : List V} : H a = some (.lst xs) → RepDs K F as ds xs → CellR K CA F as H a (.lst ds)
  | ins {c : String} {fs : List (String × D)} {C dx : Addr} {vs : List (Str × V)} : CA.ca c = some C → H a = some (.ins C dx vs) → FldR K F as fs vs → CellR K CA F as H a (.ins c fs)
theorem CellR.mono {a : Addr} {c : Cell} (e : Same F F') (h : H' a = H a) : CellR K CA F as H a c → CellR K CA F' (as ++ bs) H' a c
  | .lst q r => .lst (h.trans q) (r.mono e)
  | .ins c q r => .ins c (h.trans q) (r.mono e)
theorem CellR.there {a : Addr} {c : Cell} : CellR K CA F as H a c → ∃ o, H a = some o
  | .lst q _ => ⟨_, q⟩
  | .ins _ q _ => ⟨_, q⟩
theorem all_back {n m : Nat} : ∀ {ds : List D} {vs : List V}, RepDs K F as ds vs → ds.all (lowR n m) = true → RepDs K F (as.take n) ds vs
  | _, _, .nil, _ => .nil
  | _, _, .cons r t, h => by
    rw [List.all_cons, Bool.and_eq_true] at h
    exact .cons (r.back h.1) (all_back t h.2)
theorem CellR.back {n : Nat} {a : Addr} {c : Cell} (h : cellBelow n c = true) : CellR K CA F as H a c → CellR K CA F (as.take n) H a c
  | .lst q r => .lst q (all_back r h)
  | .ins c q r => .ins c q (r.back h)
end

theorem ndIx {l : List Addr} (hN : l.Nodup) {i j : Nat} {x : Addr} (a : l[i]? = some x) (b : l[j]? = some x) : i = j := by
  obtain ⟨h1, e1⟩ := List.getElem?_eq_some_iff.mp a
  obtain ⟨h2, e2⟩ := List.getElem?_eq_some_iff.mp b
  exact (List.getElem_inj hN).mp (e1.trans e2.symm)
structure StR (K : Fr) (CA : Cf) (F : Hp) (as : List Addr) (st : Store) (H : Hp) : Prop where
  sub : Same F H
  len : as.length = st.length
  nd : as.Nodup
  dis : ∀ a ∈ as, F a = none
  cell : ∀ (k : Nat) (a : Addr) (c : Cell), as[k]? = some a → st[k]? = some c → CellR K CA F as H a c
  prv : ∀ a o, CA.P a = some o → H a = some o ∧ F a = none ∧ a ∉ as

structure Ext (F : Hp) (as : List Addr) (F' : Hp) (as' : List Addr) : Prop where
  same : Same F F'
  more : ∃ bs, as' = as ++ bs
section
variable {K : Fr} {CA : Cf} {F F' F'' : Hp} {as as' as'' : List Addr} {st st' : Store} {H H' : Hp}
theorem Ext.refl : Ext F as F as := ⟨Same.refl _, [], (List.append_nil _).symm⟩
theorem Ext.trans (a : Ext F as F' as') (b : Ext F' as' F'' as'') : Ext F as F'' as'' := ⟨a.same.trans b.same, by
  obtain ⟨x, rfl⟩ := a.more
  obtain ⟨y, rfl⟩ := b.more
  exact ⟨x ++ y, List.append_assoc _ _ _⟩⟩
theorem RepD.ext (e : Ext F as F' as') {d : D} {v : V} (r : RepD K F as d v) : RepD K F' as' d v := by
  obtain ⟨x, rfl⟩ := e.more
  exact r.mono e.same
theorem RepDs.ext (e : Ext F as F' as') {d : List D} {v : List V} (r : RepDs K F as d v) : RepDs K F' as' d v := by
  obtain ⟨x, rfl⟩ := e.more
  exact r.mono e.same
theorem FldR.ext (e : Ext F as F' as') {d : List (String × D)} {v : List (Str × V)} (r : FldR K F as d v) : FldR K F' as' d v := by
  obtain ⟨x, rfl⟩ := e.more
  exact r.mono e.same
theorem StR.at_ (s : StR K CA F as st H) {k : Nat} {a : Addr} (h : as[k]? = some a) : ∃ c, st[k]? = some c ∧ CellR K CA F as H a c := by
  have hk := (List.getElem?_eq_some_iff.mp h).1
  have e : st[k]? = some (st[k]'(by rw [← s.len]; exact hk)) := List.getElem?_eq_getElem _
  exact ⟨_, e, s.cell k a _ h e⟩
theorem StR.addr (s : StR K CA F as st H) {k : Nat} {c : Cell} (h : st[k]? = some c) : ∃ a, as[k]? = some a ∧ CellR K CA F as H a c := by
  have hk := (List.getElem?_eq_some_iff.mp h).1
  have e : as[k]? = some (as[k]'(by rw [s.len]; exact hk)) := List.getElem?_eq_getElem _
  exact ⟨_, e, s.cell k _ c e h⟩
theorem StR.there (s : StR K CA F as st H) {a : Addr} (h : a ∈ as) : ∃ o, H a = some o := by
  obtain ⟨k, hk⟩ := List.getElem?_of_mem h
  obtain ⟨c, _, r⟩ := s.at_ hk
  exact r.there
/-- a new object that is known, not a cell -/
theorem StR.froze (s : StR K CA F as st H) {p : Addr} {o : HO} (hp : H p = none) : StR K CA (upd F p o) as st (upd H p o) ∧ Ext F as (upd F p o) as := by
  have hF : F p = none := by
    cases q : F p with
    | none => rfl
    | some o => rw [s.sub _ _ q] at hp; cases hp
  have sm : Same F (upd F p o) := fun b u e => by rw [upd_ne (ne_of_none e hF)]; exact e
  have na : ∀ a ∈ as, a ≠ p := fun a h z => by
    obtain ⟨u, e⟩ := s.there h
    rw [z, hp] at e; cases e
  refine ⟨⟨fun b u e => ?_, s.len, s.nd, fun a h => ?_, fun k a c h1 h2 => ?_, fun a u e => ?_⟩, sm, [], (List.append_nil _).symm⟩
  · by_cases z : b = p
    · subst z; rw [upd_same] at e ⊢; exact e
    · rw [upd_ne z] at e ⊢; exact s.sub _ _ e
  · rw [upd_ne (na a h)]; exact s.dis a h
  · have := CellR.mono (bs := []) sm (H' := upd H p o) (upd_ne (na a (List.mem_of_getElem? h1))) (s.cell k a c h1 h2)
    rw [List.append_nil] at this
    exact this
  · obtain ⟨h1, h2, h3⟩ := s.prv a u e
    have hne : a ≠ p := ne_of_none h1 hp
    exact ⟨by rw [upd_ne hne]; exact h1, by rw [upd_ne hne]; exact h2, h3⟩
/-- a new object that is a cell -/
theorem StR.newCell (s : StR K CA F as st H) {p : Addr} {o : HO} {c : Cell} (hp : H p = none) (hc : CellR K CA F as (upd H p o) p c) : StR K CA F (as ++ [p]) (st ++ [c]) (upd H p o) ∧ Ext F as F (as ++ [p]) := by
  have na : ∀ a ∈ as, a ≠ p := fun a h z => by
    obtain ⟨u, e⟩ := s.there h
    rw [z, hp] at e; cases e
  have hF : F p = none := by
    cases q : F p with
    | none => rfl
    | some o => rw [s.sub _ _ q] at hp; cases hp
  refine ⟨⟨fun b u e => ?_, ?_, ?_, fun a h => ?_, fun k a d h1 h2 => ?_, fun a u e => ?_⟩, Same.refl _, [p], rfl⟩
  · rw [upd_ne (ne_of_none e hF)]; exact s.sub _ _ e
  · rw [List.length_append, List.length_append, s.len]; rfl
  · refine List.nodup_append.mpr ⟨s.nd, List.nodup_cons.mpr ⟨by simp, List.nodup_nil⟩, fun a ha b hb => ?_⟩
    rw [List.mem_singleton] at hb
    rw [hb]
    exact na a ha
  · rcases List.mem_append.mp h with h | h
    · exact s.dis a h
    · rw [List.mem_singleton] at h; rw [h]; exact hF
  · by_cases hk : k < as.length
    · rw [List.getElem?_append_left hk] at h1
      rw [List.getElem?_append_left (by rw [← s.len]; exact hk)] at h2
      exact CellR.mono (Same.refl _) (upd_ne (na a (List.mem_of_getElem? h1))) (s.cell k a d h1 h2)
    · rw [List.getElem?_append_right (by omega)] at h1
      rw [List.getElem?_append_right (by rw [← s.len]; omega)] at h2
      rw [← s.len] at h2
      have e0 : k - as.length = 0 := by
        have := (List.getElem?_eq_some_iff.mp h1).1
        simp at this
        exact this
      rw [e0] at h1 h2
      have e1 : p = a := Option.some.inj h1
      have e2 : c = d := Option.some.inj h2
      subst e1 e2
      exact CellR.mono (Same.refl _) rfl hc
  · obtain ⟨h1, h2, h3⟩ := s.prv a u e
    have hne : a ≠ p := ne_of_none h1 hp
    refine ⟨by rw [upd_ne hne]; exact h1, h2, fun z => ?_⟩
    rcases List.mem_append.mp z with z | z
    · exact h3 z
    · exact hne (List.mem_singleton.mp z)
/-- a cell is written -/
theorem StR.setCell (s : StR K CA F as st H) {k : Nat} {a : Addr} {o : HO} {c : Cell} (ha : as[k]? = some a) (hc : CellR K CA F as (upd H a o) a c) : StR K CA F as (st.set k c) (upd H a o) := by
  refine ⟨fun b u e => ?_, by rw [List.length_set]; exact s.len, s.nd, s.dis, fun j b d h1 h2 => ?_, fun b u e => ?_⟩
  · have : b ≠ a := fun z => by
      rw [z, s.dis a (List.mem_of_getElem? ha)] at e; cases e
    rw [upd_ne this]; exact s.sub _ _ e
  · by_cases hj : j = k
    · subst hj
      rw [ha] at h1
      cases h1
      have hl : j < st.length := by rw [← s.len]; exact (List.getElem?_eq_some_iff.mp ha).1
      rw [List.getElem?_set_self hl] at h2
      cases h2
      exact hc
    · rw [List.getElem?_set_ne (Ne.symm hj)] at h2
      have hne : b ≠ a := fun z => hj (ndIx s.nd (z ▸ h1) ha)
      have := CellR.mono (bs := []) (Same.refl F) (H' := upd H a o) (upd_ne hne) (s.cell j b d h1 h2)
      rw [List.append_nil] at this
      exact this
  · obtain ⟨h1, h2, h3⟩ := s.prv b u e
    have hne : b ≠ a := fun z => h3 (by rw [z]; exact List.mem_of_getElem? ha)
    exact ⟨by rw [upd_ne hne]; exact h1, h2, h3⟩
theorem RepD.seqT (s : StR K CA F as st H) {ds : List D} {v : V} (r : RepD K F as (.tup ds) v) : ∃ a xs, v = .ref a ∧ SqT K H a xs ∧ RepDs K F as ds xs := by
  cases r with
  | tup h q => exact ⟨_, _, rfl, Same.sqT s.sub h, q⟩
/-- what is a list behind the references -/
theorem RepD.lstAt (s : StR K CA F as st H) {d : D} {ds : List D} {v : V} (r : RepD K F as d v) (h : dl st d = .lst ds) : ∃ a xs, v = .ref a ∧ H a = some (.lst xs) ∧ RepDs K F as ds xs := by
  cases r with
  | lst q t => cases h; exact ⟨_, _, rfl, s.sub _ _ q, t⟩
  | ref q =>
    rename_i k a
    obtain ⟨c, hc, cr⟩ := s.at_ q
    simp only [dl, hc] at h
    cases cr with
    | lst e t => cases h; exact ⟨a, _, rfl, e, t⟩
    | ins _ e t => cases h
  | _ => cases h
theorem dl_tup {d : D} {ds : List D} (e : dl st d = .tup ds) : d = .tup ds := by
  cases d with
  | ref k =>
    simp only [dl] at e
    cases q : st[k]? with
    | none => simp only [q] at e; cases e
    | some c => simp only [q] at e; cases c <;> cases e
  | _ => first | exact e | cases e
theorem dl_str {d : D} {x : List Nat} (e : dl st d = .str x) : d = .str x := by
  cases d with
  | ref k =>
    simp only [dl] at e
    cases q : st[k]? with
    | none => simp only [q] at e; cases e
    | some c => simp only [q] at e; cases c <;> cases e
  | _ => first | exact e | cases e
theorem dl_scr {d : D} {ds : List D} (e : dl st d = .scr ds) : d = .scr ds := by
  cases d with
  | ref k =>
    simp only [dl] at e
    cases q : st[k]? with
    | none => simp only [q] at e; cases e
    | some c => simp only [q] at e; cases c <;> cases e
  | _ => first | exact e | cases e
/-- how a sequence stands -/
theorem RepD.seqV (s : StR K CA F as st H) {d e : D} {v : V} (r : RepD K F as d v) (h : dl st d = e) : match e with
    | .tup ds => ∃ a xs, v = .ref a ∧ SqT K H a xs ∧ RepDs K F as ds xs
    | .lst ds => ∃ a xs, v = .ref a ∧ H a = some (.lst xs) ∧ RepDs K F as ds xs
    | .scr ds => ∃ a xs, v = .ref a ∧ SqL K H a xs ∧ RepDs K F as ds xs
    | .str x => v = .str (sO x) ∧ x.length ≤ line
    | .int i => v = .int i
    | .bl b => v = .bl b
    | .non => v = .non
    | _ => True := by
  cases e with
  | tup ds => rw [dl_tup h] at r; exact r.seqT s
  | lst ds => exact r.lstAt s h
  | scr ds =>
    rw [dl_scr h] at r
    cases r with
    | scr h q => exact ⟨_, _, rfl, s.sub.seq h, q⟩
  | str x =>
    rw [dl_str h] at r
    cases r with
    | str h => exact ⟨rfl, h⟩
  | int i =>
    have : d = .int i := by
      cases d with
      | ref k =>
        simp only [dl] at h
        cases q : st[k]? with
        | none => simp only [q] at h; cases h
        | some c => simp only [q] at h; cases c <;> cases h
      | _ => first | exact h | cases h
    subst this; cases r; rfl
  | bl i =>
    have : d = .bl i := by
      cases d with
      | ref k =>
        simp only [dl] at h
        cases q : st[k]? with
        | none => simp only [q] at h; cases h
        | some c => simp only [q] at h; cases c <;> cases h
      | _ => first | exact h | cases h
    subst this; cases r; rfl
  | non =>
    have : d = .non := by
      cases d with
      | ref k =>
        simp only [dl] at h
        cases q : st[k]? with
        | none => simp only [q] at h; cases h
        | some c => simp only [q] at h; cases c <;> cases h
      | _ => first | exact h | cases h
    subst this; cases r; rfl
  | _ => trivial
theorem RepD.seqOf (s : StR K CA F as st H) {d : D} {ds : List D} {v : V} (r : RepD K F as d v) (h : seq st d = some ds) : ∃ a xs, v = .ref a ∧ (SqL K H a xs ∨ SqT K H a xs) ∧ RepDs K F as ds xs := by
  unfold MP.seq at h
  cases e : dl st d with
  | lst es =>
    rw [e] at h
    cases h
    obtain ⟨a, xs, h1, h2, h3⟩ := r.seqV s e
    exact ⟨a, xs, h1, .inl (SqL.of h2), h3⟩
  | scr es =>
    rw [e] at h
    cases h
    obtain ⟨a, xs, h1, h2, h3⟩ := r.seqV s e
    exact ⟨a, xs, h1, .inl h2, h3⟩
  | tup es =>
    rw [e] at h
    cases h
    obtain ⟨a, xs, h1, h2, h3⟩ := r.seqV s e
    exact ⟨a, xs, h1, .inr h2, h3⟩
  | _ => rw [e] at h; cases h
end
end MP
end
section
set_option linter.all false
set_option Elab.async false
set_option maxRecDepth 100000
set_option maxHeartbeats 2000000
/-! MP: operators by value, as the model runs them. -/
namespace MP
open PySem PySem.Spec PyProof.Rows L2

/-- what is wanted where an exception is on its way -/
abbrev EW := String → D → Store → Hp → List Addr → Hp → Prop
abbrev KW (α : Type) := α → Store → Hp → List Addr → Hp → Prop
def Post (K : Fr) (CA : Cf) (E : EW) {α : Type} (F : Hp) (as : List Addr) (r : R α) (k : KW α) : Prop := match r with
  | .ok a st' => ∀ F' as' H', Ext F as F' as' → StR K CA F' as' st' H' → k a st' F' as' H'
  | .exc c d st' => ∀ F' as' H', Ext F as F' as' → StR K CA F' as' st' H' → E c d st' F' as' H'
  | .stuck => False
/-- a value is handed on -/
def kV1 (K : Fr) (Q : VK) : KW D := fun d _ F' as' H' => ∀ v, RepD K F' as' d v → Q v H'
def kVs (K : Fr) (Q : List V → Hp → Prop) : KW (List D) := fun d _ F' as' H' => ∀ v, RepDs K F' as' d v → Q v H'
def kB (Q : Bool → Hp → Prop) : KW Bool := fun b _ _ _ H' => Q b H'
section
variable {K : Fr} {CA : Cf} {E : EW} {α β : Type} {F F' : Hp} {as as' : List Addr} {st : Store} {H : Hp}
theorem Post.imp {r : R α} {k k' : KW α} (h : Post K CA E F as r k) (i : ∀ a st' F' as' H', Ext F as F' as' → StR K CA F' as' st' H' → k a st' F' as' H' → k' a st' F' as' H') : Post K CA E F as r k' := by
  cases r with
  | ok a st' => exact fun F' as' H' e s => i _ _ _ _ _ e s (h F' as' H' e s)
  | exc c d st' => exact h
  | stuck => exact h
theorem Post.ext {r : R α} {k : KW α} (e : Ext F as F' as') (h : Post K CA E F as r k) : Post K CA E F' as' r k := by
  cases r with
  | ok a st' => exact fun F2 as2 H2 e2 s => h F2 as2 H2 (e.trans e2) s
  | exc c d st' => exact fun F2 as2 H2 e2 s => h F2 as2 H2 (e.trans e2) s
  | stuck => exact h
theorem Post.bind {r : R α} {f : α → Store → R β} {k : KW β} (h : Post K CA E F as (r.bind f) k) : Post K CA E F as r fun a st' F' as' _ => Post K CA E F' as' (f a st') k := by
  cases r with
  | ok a st' => exact fun F' as' H' e s => Post.ext e (show Post K CA E F as (f a st') k from h)
  | exc c d st' => exact h
  | stuck => exact h
theorem Post.of {o : Option α} {k : KW α} (s : StR K CA F as st H) (h : Post K CA E F as (R.of o st) k) : ∃ a, o = some a ∧ k a st F as H := by
  cases o with
  | none => exact h.elim
  | some a => exact ⟨a, rfl, h F as H Ext.refl s⟩
theorem Post.ok {a : α} {k : KW α} (s : StR K CA F as st H) (h : Post K CA E F as (.ok a st) k) : k a st F as H := h F as H Ext.refl s
theorem Post.okB {b : Bool} {Q : Bool → Hp → Prop} (s : StR K CA F as st H) (h : Post K CA E F as (.ok b st) (kB Q)) : Q b H := h F as H Ext.refl s
/-- a new tuple -/
theorem Post.tup {ds : List D} {xs : List V} {Q : VK} (s : StR K CA F as st H) (r : RepDs K F as ds xs) (h : Post K CA E F as (.ok (.tup ds) st) (kV1 K Q)) {p : Addr} (hp : H p = none) : Q (.ref p) (upd H p (.tup xs)) := by
  obtain ⟨s', e⟩ := s.froze (o := .tup xs) hp
  exact h _ _ _ e s' _ (.tup (SqT.of upd_same) (r.ext e))
theorem Post.newL {m : Bool} {ds : List D} {xs : List V} {Q : VK} (s : StR K CA F as st H) (r : RepDs K F as ds xs) (h : Post K CA E F as (newL m ds st) (kV1 K Q)) {p : Addr} (hp : H p = none) : Q (.ref p) (upd H p (.lst xs)) := by
  cases m with
  | false =>
    obtain ⟨s', e⟩ := s.froze (o := .lst xs) hp
    exact h _ _ _ e s' _ (.lst upd_same (r.ext e))
  | true =>
    obtain ⟨s', e⟩ := s.newCell (o := .lst xs) (c := .lst ds) hp (.lst upd_same r)
    refine h _ _ _ e s' _ (.ref ?_)
    rw [← s.len, List.getElem?_append_right (Nat.le_refl _), Nat.sub_self]
    rfl
theorem Post.newT {ds : List D} {xs : List V} {Q : VK} (s : StR K CA F as st H) (r : RepDs K F as ds xs) (h : Post K CA E F as (.ok (.tup ds) st) (kV1 K Q)) : ∀ p, H p = none → Q (.ref p) (upd H p (.tup xs)) := fun _ hp => h.tup s r hp
end

section
variable {X : Cx}
theorem intBits_le_log (i : Int) : Builtin.Int.intBits i ≤ i.natAbs.log2 + 1 := by
  unfold Builtin.Int.intBits
  split <;> omega
theorem log_bits {i : Int} : Builtin.Int.intBits i = bitLen i := by
  unfold Builtin.Int.intBits bitLen
  by_cases h : i = 0
  · rw [if_pos (by simpa using h), if_pos h]
  · rw [if_neg (by simpa using h), if_neg h]
theorem mulOk_ok {i j : Int} (h : mulOk i j) : IntMulOk i j := by
  rcases h with h | h | h
  · exact CMul.ok (.inl h)
  · exact CMul.ok (.inr h)
  · exact CMulW.ok h
theorem op_mulA : OpR X (binaryOp .Mult) (rI mulOk fun i j => .int (i * j)) := opI fun _ _ _ _ _ _ _ hc q => mul_int q (mulOk_ok hc)
theorem op_shlA : OpR X (binaryOp .LShift) (rI shlOk fun i j => .int (i * 2 ^ j.toNat)) := opI fun i j _ _ _ _ _ hc q => lshift_int hc.1 (by
  have h1 := intBits_le_log i
  have h2 := hc.2
  have e : (2 : Int) ^ 27 = 134217728 := by decide
  rw [e]
  omega) q
theorem andI_ok {i j : Int} (h : 0 ≤ j) : Builtin.bitAnd i j = andI i j := by
  unfold andI
  by_cases hi : 0 ≤ i
  · rw [if_pos hi, bitAnd_pp hi h]
  · rw [if_neg hi, bitAnd_np hi h]
    rfl

/-- two ints by an operator -/
theorem binI_ok {op : Operator} {i j n : Int} (h : binI op i j = some n) : OpR X (binaryOp op) (fun x y H Q => x = .int i ∧ y = .int j ∧ Q (.int n) H) := by
  intro pins s σ H x y v u Q I rx ry ⟨hx, hy, q⟩
  unfold binI at h
  cases op with
  | Add => cases h; exact op_add pins s σ H x y v u Q I rx ry ⟨i, j, hx, hy, q⟩
  | Sub => cases h; exact op_sub pins s σ H x y v u Q I rx ry ⟨i, j, hx, hy, q⟩
  | Mult =>
    simp only at h
    split at h
    · cases h; rename_i c; exact op_mulA pins s σ H x y v u Q I rx ry ⟨i, j, hx, hy, c, q⟩
    · cases h
  | FloorDiv =>
    simp only at h
    split at h
    · cases h; rename_i c; exact op_fdivW pins s σ H x y v u Q I rx ry ⟨i, j, hx, hy, c, q⟩
    · cases h
  | Mod =>
    simp only at h
    split at h
    · cases h; rename_i c; exact op_mod pins s σ H x y v u Q I rx ry ⟨i, j, hx, hy, c, q⟩
    · cases h
  | Pow =>
    simp only at h
    split at h
    · cases h; rename_i c; exact op_pow pins s σ H x y v u Q I rx ry ⟨i, j, hx, hy, c, q⟩
    · cases h
  | LShift =>
    simp only at h
    split at h
    · cases h; rename_i c; exact op_shlA pins s σ H x y v u Q I rx ry ⟨i, j, hx, hy, c, q⟩
    · cases h
  | RShift =>
    simp only at h
    split at h
    · cases h; rename_i c; exact op_shr pins s σ H x y v u Q I rx ry ⟨i, j, hx, hy, c, q⟩
    · cases h
  | BitAnd =>
    simp only at h
    split at h
    · cases h; rename_i c; exact op_and pins s σ H x y v u Q I rx ry ⟨i, j, hx, hy, by show Q (.int (Builtin.bitAnd i j)) H; rw [andI_ok c]; exact q⟩
    · cases h
  | BitOr =>
    simp only [bitD] at h
    split at h
    · cases h; rename_i c; exact op_or pins s σ H x y v u Q I rx ry ⟨i, j, hx, hy, by show Q (.int (Builtin.bitOr i j)) H; rw [Bits.bitOr_pp c.1 c.2]; exact q⟩
    · cases h
  | BitXor =>
    simp only [bitD] at h
    split at h
    · cases h; rename_i c; exact op_xor pins s σ H x y v u Q I rx ry ⟨i, j, hx, hy, by show Q (.int (Builtin.bitXor i j)) H; rw [Bits.bitXor_pp c.1 c.2]; exact q⟩
    · cases h
  | _ => cases h

theorem sizeLine_line : sizeLine = line := sizeLine_eq
theorem sO_len (x : List Nat) : (sO x).length = x.length := by show x.toArray.size = _; simp
theorem sO_app (x y : List Nat) : sO x ++ sO y = sO (x ++ y) := by
  show Str.append (sO x) (sO y) = _
  unfold Str.append sO
  simp
theorem reps_zero {α : Type} {k : Int} {xs : List α} (h : k ≤ 0) : reps k xs = [] := by
  unfold reps
  rw [show k.toNat = 0 by omega]
  rfl
theorem reps_one {α : Type} {xs : List α} : reps 1 xs = xs := by
  unfold reps
  simp
theorem reps_nil {α : Type} {k : Int} : reps k ([] : List α) = [] := by
  unfold reps
  simp
theorem foldl_app {α : Type} (its : Array α) : ∀ (k : Nat) (acc : Array α), (List.replicate k its).foldl (· ++ ·) acc = acc ++ ((List.replicate k its.toList).flatten).toArray
  | 0, acc => by simp
  | k + 1, acc => by
    rw [List.replicate_succ, List.foldl_cons, foldl_app its k, List.replicate_succ, List.flatten_cons]
    apply Array.toList_inj.mp
    simp
theorem reps_len {α : Type} (k : Int) (xs : List α) : (reps k xs).length = k.toNat * xs.length := by
  unfold reps
  rw [PyProof.Rows.lm_len_rep_flat]
/-- a text times a number -/
theorem op_mulS : OpR X (binaryOp .Mult) (fun x y H Q => ∃ (z : List Nat) (k : Int), x = .str (sO z) ∧ y = .int k ∧ -(2 ^ 62) ≤ k ∧ k < 2 ^ 62 ∧ z.length * k.toNat ≤ line ∧ z.length ≤ line ∧ Q (.str (sO (reps k z))) H) := by
  intro pins s σ H x y v u Q I rx ry h
  obtain ⟨z, k, rfl, rfl, h1, h2, h3, h4, q⟩ := h
  obtain ⟨t, rfl⟩ := rx
  obtain ⟨t', rfl⟩ := ry
  refine PySem.P.mul_str ?_ ?_ ?_ ?_
  · rw [decide_eq_false (by omega), decide_eq_false (by omega)]; rfl
  · intro hk hn e
    rw [Bool.or_eq_false_iff] at hn
    rw [sO_len] at e
    have e2 : ((z.length : Nat) : Int) * k ≤ line := by
      have : ((z.length * k.toNat : Nat) : Int) ≤ (line : Nat) := by exact_mod_cast h3
      rw [Int.natCast_mul, show ((k.toNat : Nat) : Int) = k by omega] at this
      exact this
    have e3 : (z.length : Int) * k > (2 ^ 63 - 1) - k := by
      have d := Int.lt_ediv_add_one_mul_self (2 ^ 63 - 1) (show (0 : Int) < k by omega)
      have m : ((2 ^ 63 - 1) / k + 1) * k ≤ (z.length : Int) * k := Int.mul_le_mul_of_nonneg_right (by omega) (by omega)
      have : ((2 ^ 63 - 1) / k + 1) * k = (2 ^ 63 - 1) / k * k + k := by rw [Int.add_mul, Int.one_mul]
      omega
    have : (line : Int) = 16777216 := rfl
    omega
  · intro hk hn
    rw [sO_len]
    unfold PySem.Builtin.Str.tooLong
    have : sizeLine = line := sizeLine_eq
    exact decide_eq_false (by omega)
  · by_cases c : k < 1
    · rw [if_pos c]
      rw [reps_zero (show k ≤ 0 by omega)] at q
      exact ⟨Nat.zero_le _, ⟨.str _, H, I.tok _, ⟨_, rfl⟩, q⟩⟩
    · rw [if_neg c]
      by_cases c2 : (k == 1 || (sO z).length == 0) = true
      · rw [if_pos c2]
        have e : reps k z = z := by
          rw [Bool.or_eq_true] at c2
          rcases c2 with c2 | c2
          · rw [beq_iff_eq.mp c2]; exact reps_one
          · have : z.length = 0 := by rw [← sO_len]; exact beq_iff_eq.mp c2
            rw [List.eq_nil_of_length_eq_zero this]; exact reps_nil
        rw [e] at q
        exact ⟨.str _, H, I, ⟨_, rfl⟩, q⟩
      · rw [if_neg c2]
        have e : (⟨(List.replicate k.toNat (sO z).cps).foldl (· ++ ·) #[]⟩ : Str) = sO (reps k z) := by
          rw [foldl_app]
          unfold sO reps
          simp
        rw [e]
        refine ⟨?_, ⟨.str _, H, I.tok _, ⟨_, rfl⟩, q⟩⟩
        rw [sO_len, reps_len, Nat.mul_comm, sizeLine_line]
        exact h3

theorem op_subB : OpR X (binaryOp .Sub) (fun x y H Q => ∃ a b, x = .bl a ∧ y = .bl b ∧ Q (.int (b2i a - b2i b)) H) := by
  intro pins s σ H x y v u Q I rx ry h
  obtain ⟨a, b, rfl, rfl, q⟩ := h
  cases rx
  cases ry
  exact PyProof.Rows.sub_bool ⟨.int _, H, I.tok _, ⟨_, rfl⟩, q⟩
end
theorem tuple_mul1 (l : Addr) (items : Array Value) (n : Nat) (dd : Option Addr) (sl : Array (Option Value)) (x : Int) (u : Tok) (c0 : (decide (x < -(2 ^ 63)) || decide (x ≥ 2 ^ 63)) = false) (c1 : (items.isEmpty || x == 1) = true) :
    Meets (Builtin.«tuple.__mul__» ⟨[.ref l, .int x u], []⟩) (fun _ R s => s.heap.get? l = some { cls := .type "tuple", dict := dd, data := .seq items n, slots := sl } ∧
      R (.ok (.ret (Value.ref l))) s) :=
  .of_wp fun prog w A R s h => by
    obtain ⟨hp, g, d, tk, os⟩ := s
    obtain ⟨hl, h⟩ := h
    have f1 := AutoSeq1.idx_int
    wp_walk using wpAny_loadPart' hl
    repeat (first
      | (refine wpAny_ite_false (decide_eq_false (by rw [c0]; exact Bool.false_ne_true)) ?_; wp_walk using wpAny_loadPart' hl)
      | (refine wpAny_ite_true (decide_eq_true c1) ?_; wp_walk using wpAny_loadPart' hl))
    exact ⟨_, rfl, h⟩
theorem tuple_mul0 (l : Addr) (items : Array Value) (n : Nat) (dd : Option Addr) (sl : Array (Option Value)) (x : Int) (u : Tok) (c0 : (decide (x < -(2 ^ 63)) || decide (x ≥ 2 ^ 63)) = false) (c1 : (items.isEmpty || x == 1) = false) (c2 : (decide (x ≤ 0) || items.isEmpty) = true) :
    Meets (Builtin.«tuple.__mul__» ⟨[.ref l, .int x u], []⟩) (fun _ R s => s.heap.get? l = some { cls := .type "tuple", dict := dd, data := .seq items n, slots := sl } ∧
      R (.ok (.ret (Value.ref s.heap.objs.size))) { s with heap := s.heap.push { cls := Value.type "tuple", data := Data.seq #[] }, toks := s.toks }) :=
  .of_wp fun prog w A R s h => by
    obtain ⟨hp, g, d, tk, os⟩ := s
    obtain ⟨hl, h⟩ := h
    have f1 := AutoSeq1.idx_int
    wp_walk using wpAny_loadPart' hl
    repeat (first
      | (refine wpAny_ite_false (decide_eq_false (by rw [c0]; exact Bool.false_ne_true)) ?_; wp_walk using wpAny_loadPart' hl)
      | (refine wpAny_ite_false (decide_eq_false (by rw [c1]; exact Bool.false_ne_true)) ?_; wp_walk using wpAny_loadPart' hl)
      | (refine wpAny_ite_true (decide_eq_true c2) ?_; wp_walk using wpAny_loadPart' hl))
    exact ⟨_, rfl, h⟩

section
variable {X : Cx}
/-- a tuple times a number -/
theorem op_mulT : OpR X (binaryOp .Mult) (fun x y H Q => ∃ (a : Addr) (k : Int) (xs : List V), x = .ref a ∧ y = .int k ∧ SqT X.K H a xs ∧ -1000 ≤ k ∧ k ≤ 1000 ∧ xs.length ≤ 1000 ∧
    ((xs = [] ∨ k = 1) → Q (.ref a) H) ∧ (¬ (xs = [] ∨ k = 1) → ∀ p, H p = none → Q (.ref p) (upd H p (.tup (reps k xs))))) := by
  intro pins s σ H x y v u Q I rx ry h
  obtain ⟨a, k, xs, rfl, rfl, hT, h1, h2, hz, q1, q2⟩ := h
  by_cases hk : xs ≠ [] ∧ 2 ≤ k
  · refine op_repT pins s σ H _ _ v u Q I rx ry ⟨a, k, xs, rfl, rfl, hT, hk.1, hk.2, h2, hz, fun p hp => ?_⟩
    exact q2 (fun z => z.elim hk.1 fun z => by omega) p hp
  · cases rx
    obtain ⟨t, rfl⟩ := ry
    obtain ⟨its, r, ⟨⟨cls, dd, data, sl⟩, ho, hc, n, hd⟩, hs⟩ := I.tuple hT
    simp only at hc hd
    subst hc hd
    have hle : its.length = xs.length := r.length.symm
    have c0 : (decide (k < -(2 ^ 63)) || decide (k ≥ 2 ^ 63)) = false := by
      rw [decide_eq_false (by omega), decide_eq_false (by omega)]
      rfl
    have he : its.toArray.isEmpty = true ↔ xs = [] := by
      cases r with
      | nil => simp
      | cons _ _ => simp
    by_cases c1 : (its.toArray.isEmpty || k == 1) = true
    · refine wpAny_binaryOp_repeat_ref (T := "tuple") (U := "int") (by decide) ⟨_, ho, rfl⟩ (fun s' => typeIs_int s' k t) noFill_tuple_mul F.fills_int_mul F.slot_int_rmul repeat_tuple F.slot_int_index.lookup
        (call_meets F.slot_int_rmul (typeIs_int s k t) F.entry_int_rmul (F.args_int_rmul_2 _ _) (int_rmul_tuple k t a its.toArray n dd sl)
          ⟨ho, rfl, ⟨_, ho, rfl⟩, call_meets F.slot_tuple_mul ⟨_, ho, rfl⟩ F.entry_tuple_mul (F.args_tuple_mul_2 _ _) (tuple_mul1 a its.toArray n dd sl k t c0 c1) ⟨ho, ?_⟩⟩)
      refine ⟨.ref a, H, I, rfl, q1 ?_⟩
      rw [Bool.or_eq_true] at c1
      rcases c1 with c1 | c1
      · exact .inl (he.mp c1)
      · exact .inr (beq_iff_eq.mp c1)
    · have c1' : (its.toArray.isEmpty || k == 1) = false := by
        cases q : (its.toArray.isEmpty || k == 1) with
        | true => exact absurd q c1
        | false => rfl
      have nq : ¬ (xs = [] ∨ k = 1) := by
        intro z
        rw [Bool.or_eq_false_iff] at c1'
        rcases z with z | z
        · rw [he.mpr z] at c1'; exact Bool.noConfusion c1'.1
        · rw [z] at c1'; exact Bool.noConfusion c1'.2
      have hk0 : k ≤ 0 := by
        rcases Classical.em (xs = []) with z | z
        · exact absurd (.inl z) nq
        · have : ¬ 2 ≤ k := fun y => hk ⟨z, y⟩
          have : k ≠ 1 := fun y => nq (.inr y)
          omega
      have c2 : (decide (k ≤ 0) || its.toArray.isEmpty) = true := by rw [decide_eq_true hk0]; rfl
      refine wpAny_binaryOp_repeat_ref (T := "tuple") (U := "int") (by decide) ⟨_, ho, rfl⟩ (fun s' => typeIs_int s' k t) noFill_tuple_mul F.fills_int_mul F.slot_int_rmul repeat_tuple F.slot_int_index.lookup
        (call_meets F.slot_int_rmul (typeIs_int s k t) F.entry_int_rmul (F.args_int_rmul_2 _ _) (int_rmul_tuple k t a its.toArray n dd sl)
          ⟨ho, rfl, ⟨_, ho, rfl⟩, call_meets F.slot_tuple_mul ⟨_, ho, rfl⟩ F.entry_tuple_mul (F.args_tuple_mul_2 _ _) (tuple_mul0 a its.toArray n dd sl k t c0 c1' c2) ⟨ho, ?_⟩⟩)
      have q := q2 nq s.heap.objs.size (I.hok.fresh (Nat.le_refl _))
      rw [reps_zero hk0] at q
      refine ⟨.ref s.heap.objs.size, _, I.laid (t' := s.toks) (o := .tup []) (fun b ob q => Heap.get?_push_of_some _ q) (Nat.le_refl _) ?_, rfl, q⟩
      exact ⟨Nat.zero_le _, [], .nil, IsTup.new _ _⟩
end
end MP
end
section
set_option linter.all false
set_option Elab.async false
set_option maxRecDepth 100000
set_option maxHeartbeats 2000000
namespace MP
open PySem PySem.Spec PyProof.Rows L2
section
variable {X : Cx}
/-- what an operation asks: the values stand for data, and what is reckoned from these is wanted -/
def rBin (K : Fr) (f : D → D → Store → R D) : R2 := fun x y H Q => ∃ (CA : Cf) (E : EW) (F : Hp) (as : List Addr) (st : Store) (d e : D), StR K CA F as st H ∧ RepD K F as d x ∧ RepD K F as e y ∧ Post K CA E F as (f d e st) (kV1 K Q)
theorem b2i_eq (b : Bool) : MP.b2i b = if b = true then 1 else 0 := rfl
theorem op_binD {m : Bool} {op : Operator} : OpR X (binaryOp op) (rBin X.K (binD m op)) := by
  intro pins s σ H x y v u Q I rx ry ⟨CA, E, F, as, st, d, e, S, rd, re, h⟩
  unfold binD at h
  split at h
  · cases rd
    cases re
    obtain ⟨z, hz, k⟩ := Post.of S h
    rename_i i j
    cases hb : binI op i j with
    | none => rw [hb] at hz; cases hz
    | some n =>
      rw [hb] at hz
      cases hz
      exact binI_ok hb pins s σ H _ _ v u Q I rx ry ⟨rfl, rfl, k _ (.int n)⟩
  · cases rd
    cases re
    split at h
    · exact op_subB pins s σ H _ _ v u Q I rx ry ⟨_, _, rfl, rfl, Post.ok S h _ (.int _)⟩
    · exact h.elim
  · cases rd with
    | str l1 =>
      cases re with
      | str l2 =>
        split at h
        · split at h
          · rename_i c
            refine op_add_str pins s σ H _ _ v u Q I rx ry ⟨_, _, rfl, rfl, by rw [sO_len, sO_len, sizeLine_line]; exact c, ?_⟩
            rw [sO_app]
            exact Post.ok S h _ (.str (by rw [List.length_append]; exact c))
          · exact h.elim
        · exact h.elim
  · cases rd with
    | str l1 =>
      cases re
      split at h
      · split at h
        · rename_i c
          refine op_mulS pins s σ H _ _ v u Q I rx ry ⟨_, _, rfl, rfl, c.1, c.2.1, c.2.2, l1, ?_⟩
          exact Post.ok S h _ (.str (by rw [reps_len, Nat.mul_comm]; exact c.2.2))
        · exact h.elim
      · exact h.elim
  · obtain ⟨a, xs, rfl, t1, r1⟩ := rd.seqT S
    obtain ⟨b, ys, rfl, t2, r2⟩ := re.seqT S
    split at h
    · split at h
      · rename_i c
        refine op_catA pins s σ H _ _ v u Q I rx ry ⟨_, _, _, _, rfl, rfl, t1, t2, by rw [← r1.length, ← r2.length, sizeLine_line]; exact c, fun z => ?_, fun _ z => ?_, fun _ _ p hp => h.tup S (r1.append r2) hp⟩
        · subst z
          cases r1
          exact Post.ok S h _ re
        · subst z
          cases r2
          rw [List.append_nil] at h
          exact Post.ok S h _ rd
      · exact h.elim
    · exact h.elim
  · obtain ⟨a, xs, rfl, t1, r1⟩ := rd.seqT S
    cases re
    split at h
    · split at h
      · rename_i c
        refine op_mulT pins s σ H _ _ v u Q I rx ry ⟨_, _, _, rfl, rfl, t1, c.1, c.2.1, by rw [← r1.length]; exact c.2.2, fun z => ?_, fun z p hp => h.tup S (r1.rep _) hp⟩
        rcases z with z | z
        · subst z
          cases r1
          rw [reps_nil] at h
          exact Post.ok S h _ rd
        · rw [z, reps_one] at h
          exact Post.ok S h _ rd
      · exact h.elim
    · exact h.elim
  · split at h
    · rename_i hd
      split at h
      · rename_i he
        split at h
        · rename_i c
          obtain ⟨a, xs, rfl, t1, r1⟩ := rd.lstAt S hd
          obtain ⟨b, ys, rfl, t2, r2⟩ := re.lstAt S he
          exact op_cat pins s σ H _ _ v u Q I rx ry ⟨_, _, _, _, rfl, rfl, t1, t2, by rw [← r1.length, ← r2.length, sizeLine_line]; exact c, fun p hp => h.newL S (r1.append r2) hp⟩
        · exact h.elim
      · exact h.elim
    · rename_i hd
      split at h
      · split at h
        · rename_i c
          obtain ⟨a, xs, rfl, t1, r1⟩ := rd.lstAt S hd
          cases re
          exact op_rep pins s σ H _ _ v u Q I rx ry ⟨_, _, _, rfl, rfl, t1, by omega, by omega, by rw [← r1.length, sizeLine_line]; exact c.2.2, fun p hp => h.newL S (r1.rep _) hp⟩
        · exact h.elim
      · exact h.elim
    · exact h.elim
end

/-! ### data alone -/
mutual
def toPy : D → PyData
  | .bl b => .bool b
  | .int i => .int i
  | .str s => .str (sO s)
  | .tup xs => .tuple (toPys xs)
  | .lst xs => .list (toPys xs)
  | _ => .none
def toPys : List D → List PyData
  | [] => []
  | x :: xs => toPy x :: toPys xs
end
theorem sO_beq (x y : List Nat) : (sO x == sO y) = (x == y) := by
  rw [Bool.eq_iff_iff, beq_iff_eq, beq_iff_eq]
  exact ⟨sO_inj, fun e => by rw [e]⟩
mutual
theorem eqv_toPy : ∀ (n : Nat) (d e : D), dat n d = true → dat n e = true → PyData.eqv (toPy d) (toPy e) = eqD d e
  | n, .non, e, _, he => by cases e <;> first | rfl | (cases n <;> cases he)
  | n, .bl a, e, _, he => by cases e <;> first | rfl | (cases n <;> cases he)
  | n, .int a, e, _, he => by cases e <;> first | rfl | (cases n <;> cases he)
  | n, .str a, e, _, he => by cases e <;> first | exact sO_beq _ _ | rfl | (cases n <;> cases he)
  | 0, .tup xs, _, hd, _ => by cases hd
  | 0, .lst xs, _, hd, _ => by cases hd
  | n + 1, .tup xs, e, hd, he => by
    cases e with
    | tup ys => exact eqv_toPys n xs ys hd he
    | _ => first | rfl | cases he
  | n + 1, .lst xs, e, hd, he => by
    cases e with
    | lst ys => exact eqv_toPys n xs ys hd he
    | _ => first | rfl | cases he
  | n, .scr _, _, hd, _ => by cases n <;> cases hd
  | n, .ref _, _, hd, _ => by cases n <;> cases hd
  | n, .err _ _, _, hd, _ => by cases n <;> cases hd
theorem eqv_toPys : ∀ (n : Nat) (ds es : List D), ds.all (dat n) = true → es.all (dat n) = true → PyData.eqvAll (toPys ds) (toPys es) = eqDs ds es
  | _, [], [], _, _ => rfl
  | _, [], _ :: _, _, _ => rfl
  | _, _ :: _, [], _, _ => rfl
  | n, d :: ds, e :: es, hd, he => by
    rw [List.all_cons, Bool.and_eq_true] at hd he
    show (PyData.eqv (toPy d) (toPy e) && PyData.eqvAll (toPys ds) (toPys es)) = (eqD d e && eqDs ds es)
    rw [eqv_toPy n d e hd.1 he.1, eqv_toPys n ds es hd.2 he.2]
end
theorem strOk_of {s : List Nat} (h : (s.all fun c => decide (c < 1114112)) = true) : (sO s).cps.all (· < 0x110000) = true := by
  unfold sO
  rw [List.all_toArray]
  exact h
mutual
theorem lay_toPy : ∀ (n : Nat) (d : D), dat n d = true → (toPy d).canLay0 = true ∧ (toPy d).depth ≤ n
  | n, .non, _ => ⟨rfl, Nat.zero_le _⟩
  | n, .bl a, _ => ⟨rfl, Nat.zero_le _⟩
  | n, .int a, _ => ⟨rfl, Nat.zero_le _⟩
  | n, .str a, h => ⟨strOk_of (by cases n <;> exact h), Nat.zero_le _⟩
  | 0, .tup xs, hd => by cases hd
  | 0, .lst xs, hd => by cases hd
  | n + 1, .tup xs, hd => by
    obtain ⟨h1, h2⟩ := lay_toPys n xs hd
    exact ⟨h1, Nat.succ_le_succ h2⟩
  | n + 1, .lst xs, hd => by
    obtain ⟨h1, h2⟩ := lay_toPys n xs hd
    exact ⟨h1, Nat.succ_le_succ h2⟩
  | n, .scr _, hd => by cases n <;> cases hd
  | n, .ref _, hd => by cases n <;> cases hd
  | n, .err _ _, hd => by cases n <;> cases hd
theorem lay_toPys : ∀ (n : Nat) (ds : List D), ds.all (dat n) = true → PyData.canLayAll0 (toPys ds) = true ∧ PyData.depthAll (toPys ds) ≤ n
  | _, [], _ => ⟨rfl, Nat.zero_le _⟩
  | n, d :: ds, hd => by
    rw [List.all_cons, Bool.and_eq_true] at hd
    obtain ⟨h1, h2⟩ := lay_toPy n d hd.1
    obtain ⟨h3, h4⟩ := lay_toPys n ds hd.2
    refine ⟨?_, Nat.max_le.mpr ⟨h2, h4⟩⟩
    show (PyData.canLay0 (toPy d) && PyData.canLayAll0 (toPys ds)) = true
    rw [h1, h3]
    rfl
end
section
variable {K : Fr} {CA : Cf} {F : Hp} {as : List Addr} {st : Store} {H : Hp}
mutual
theorem dp_of (S : Same F H) : ∀ {n : Nat} {d : D} {v : V}, RepD K F as d v → dat n d = true → Dp K H v (toPy d)
  | _, _, _, .non, _ => .non
  | _, _, _, .bl b, _ => .bl b
  | _, _, _, .int b, _ => .int b
  | _, _, _, .str h, _ => .str _
  | 0, _, _, .tup _ _, h => by cases h
  | 0, _, _, .lst _ _, h => by cases h
  | n + 1, _, _, .tup t r, h => .tup (Same.sqT S t) (dps_of S r h)
  | n + 1, _, _, .lst t r, h => .lst (SqL.of (S _ _ t)) (dps_of S r h)
  | n, _, _, .scr _ _, h => by cases n <;> cases h
  | n, _, _, .ref _, h => by cases n <;> cases h
theorem dps_of (S : Same F H) : ∀ {n : Nat} {ds : List D} {vs : List V}, RepDs K F as ds vs → ds.all (dat n) = true → DpAll K H vs (toPys ds)
  | _, _, _, .nil, _ => .nil
  | n, _, _, .cons r t, h => by
    rw [List.all_cons, Bool.and_eq_true] at h
    exact .cons (dp_of S r h.1) (dps_of S t h.2)
end
theorem shaped_of {d : D} (h : dat 8 d = true) : SeqAt.shaped (toPy d) = true := by
  obtain ⟨h1, h2⟩ := lay_toPy 8 d h
  unfold SeqAt.shaped
  rw [h1, decide_eq_true (by omega)]
  rfl
/-- what a dereferenced thing is as data -/
theorem dp_dl (S : StR K CA F as st H) {n : Nat} {d : D} {v : V} (r : RepD K F as d v) (h : dat n (dl st d) = true) : Dp K H v (toPy (dl st d)) := by
  cases e : dl st d with
  | lst ds =>
    rw [e] at h
    obtain ⟨a, xs, rfl, t, q⟩ := r.lstAt S e
    cases n with
    | zero => cases h
    | succ n => exact .lst (SqL.of t) (dps_of S.sub q h)
  | ref k => rw [e] at h; cases n <;> cases h
  | err _ _ => rw [e] at h; cases n <;> cases h
  | scr _ => rw [e] at h; cases n <;> cases h
  | tup ds => rw [e] at h; rw [dl_tup e] at r; exact dp_of S.sub r h
  | str ds => rw [e] at h; rw [dl_str e] at r; exact dp_of S.sub r h
  | int i =>
    have q : v = .int i := r.seqV S e
    rw [q]; exact .int i
  | bl i =>
    have q : v = .bl i := r.seqV S e
    rw [q]; exact .bl i
  | non =>
    have q : v = .non := r.seqV S e
    rw [q]; exact .non
end
end MP
end
section
set_option linter.all false
set_option Elab.async false
set_option maxRecDepth 100000
set_option maxHeartbeats 2000000
namespace MP
open PySem PySem.Spec PyProof.Rows L2
section
variable {X : Cx} {CA : Cf}
/-! ### comparisons -/
def rCmp (K : Fr) (op : CmpOp) : R2 := fun x y H Q => ∃ (CA : Cf) (F : Hp) (as : List Addr) (st : Store) (d e : D) (k : Bool), StR K CA F as st H ∧ RepD K F as d x ∧ RepD K F as e y ∧ cmpD op d e st = some k ∧ Q (.bl k) H
theorem flat_rep {K : Fr} {F : Hp} {as : List Addr} {d : D} {v : V} (r : RepD K F as d v) (h : flat d = true) : flatV v = true := by
  cases r <;> first | rfl | (cases h; done)
theorem eqV_rep {K : Fr} {F : Hp} {as : List Addr} {d e : D} {v w : V} (r : RepD K F as d v) (q : RepD K F as e w) (h : flat d = true) (h' : flat e = true) : eqV w v = eqD e d := by
  cases r <;> cases q <;> first | rfl | exact sO_beq _ _ | (cases h; done) | (cases h'; done)
theorem flats_rep {K : Fr} {F : Hp} {as : List Addr} : ∀ {ds : List D} {vs : List V}, RepDs K F as ds vs → ds.all flat = true → vs.all flatV = true
  | _, _, .nil, _ => rfl
  | _, _, .cons r t, h => by
    rw [List.all_cons, Bool.and_eq_true] at h ⊢
    exact ⟨flat_rep r h.1, flats_rep t h.2⟩
theorem eqD_comm : ∀ {d e : D}, flat d = true → flat e = true → eqD d e = eqD e d := by
  intro d e h h'
  cases d <;> cases e <;> first | rfl | exact Bool.beq_comm | exact BEq.comm | (cases h; done) | (cases h'; done)
theorem inV_rep {K : Fr} {F : Hp} {as : List Addr} {d : D} {v : V} (r : RepD K F as d v) (h : flat d = true) : ∀ {ds : List D} {vs : List V}, RepDs K F as ds vs → ds.all flat = true → inV v vs = isIn d ds
  | _, _, .nil, _ => rfl
  | e :: ds, _, .cons q t, h2 => by
    rw [List.all_cons, Bool.and_eq_true] at h2
    have ih := inV_rep r h t h2.2
    unfold inV isIn at ih ⊢
    rw [List.any_cons, List.any_cons, ih, eqV_rep r q h h2.1, eqD_comm h2.1 h]
theorem eqO_ok {F : Hp} {as : List Addr} {st : Store} {H : Hp} {d e : D} {x y : V} {k : Bool} (hu : X.A.units + 64 < cLine) (S : StR X.K CA F as st H) (rd : RepD X.K F as d x) (re : RepD X.K F as e y) (h : eqO (dl st d) (dl st e) = some k) :
    (rEq x y H fun v H' => v = .bl k ∧ H' = H) ∨ (rEqD X.K x y H fun v H' => v = .bl k ∧ H' = H) := by
  unfold eqO at h
  split at h
  · rename_i i j h1 h2
    have e1 : x = .int i := rd.seqV S h1
    have e2 : y = .int j := re.seqV S h2
    subst e1 e2
    cases h
    refine .inl ⟨rfl, ?_, rfl⟩
    rw [dec_int]
  · rename_i i j h1 h2
    have e1 := (rd.seqV S h1 : x = .str (sO i) ∧ _).1
    have e2 := (re.seqV S h2 : y = .str (sO j) ∧ _).1
    subst e1 e2
    cases h
    refine .inl ⟨rfl, ?_, rfl⟩
    rw [dec_str, sO_beq]
  · split at h
    · rename_i c
      cases h
      refine .inr ⟨toPy (dl st d), toPy (dl st e), dp_dl S rd c.1, dp_dl S re c.2, shaped_of c.1, shaped_of c.2, ?_, rfl⟩
      rw [eqv_toPy 8 _ _ c.1 c.2]
    · cases h
theorem op_cmpD {op : CmpOp} (hu : X.A.units + 64 < cLine) : OpR X (compareOp op) (rCmp X.K op) := by
  intro pins s σ H x y v u Q I rx ry ⟨CA, F, as, st, d, e, k, S, rd, re, h, q⟩
  unfold cmpD at h
  split at h
  · rcases eqO_ok hu S rd re h with z | z
    · obtain ⟨z1, z2, z3⟩ := z
      exact op_eq pins s σ H x y v u Q I rx ry ⟨z1, by rw [z2]; exact q⟩
    · obtain ⟨a, b, z1, z2, z3, z4, z5, _⟩ := z
      exact op_eqD hu pins s σ H x y v u Q I rx ry ⟨a, b, z1, z2, z3, z4, by rw [z5]; exact q⟩
  · cases h1 : eqO (dl st d) (dl st e) with
    | none => rw [h1] at h; cases h
    | some b =>
      rw [h1] at h
      cases h
      rcases eqO_ok hu S rd re h1 with z | z
      · obtain ⟨z1, z2, z3⟩ := z
        refine op_ne pins s σ H x y v u Q I rx ry ⟨z1, ?_⟩
        rw [show decide (x = y) = b by injection z2]
        exact q
      · obtain ⟨a, c, z1, z2, z3, z4, z5, _⟩ := z
        refine op_neD hu pins s σ H x y v u Q I rx ry ⟨a, c, z1, z2, z3, z4, ?_⟩
        rw [show PyData.eqv a c = b by injection z5]
        exact q
  · split at h
    · rename_i xs hs
      split at h
      · rename_i c
        cases h
        obtain ⟨a, vs, rfl, t, r⟩ := re.seqOf S hs
        refine op_in_seq pins s σ H _ _ v u Q I rx ry ⟨a, vs, rfl, t, flat_rep rd c.1, flats_rep r c.2, ?_⟩
        rw [inV_rep rd c.1 r c.2]
        exact q
      · cases h
    · cases h
  · split at h
    · rename_i xs hs
      split at h
      · rename_i c
        cases h
        obtain ⟨a, vs, rfl, t, r⟩ := re.seqOf S hs
        refine op_notIn_seq pins s σ H _ _ v u Q I rx ry ⟨a, vs, rfl, t, flat_rep rd c.1, flats_rep r c.2, ?_⟩
        rw [inV_rep rd c.1 r c.2]
        exact q
      · cases h
    · cases h
  · split at h
    · cases rd
      cases re
      rename_i i j
      unfold cmpI at h
      cases op with
      | Lt => cases h; exact op_lt pins s σ H _ _ v u Q I rx ry ⟨i, j, rfl, rfl, q⟩
      | LtE => cases h; exact op_le pins s σ H _ _ v u Q I rx ry ⟨i, j, rfl, rfl, q⟩
      | Gt => cases h; exact op_gt pins s σ H _ _ v u Q I rx ry ⟨i, j, rfl, rfl, q⟩
      | GtE => cases h; exact op_ge pins s σ H _ _ v u Q I rx ry ⟨i, j, rfl, rfl, q⟩
      | Eq => rename_i h1 _ _ _; exact absurd rfl h1
      | NotEq => rename_i _ h1 _ _; exact absurd rfl h1
      | _ => cases h
    · cases h

/-! ### items, slices -/
theorem atI_rep {K : Fr} {F : Hp} {as : List Addr} {ds : List D} {vs : List V} {k : Int} {z : D} (r : RepDs K F as ds vs) (h : (ixn ds.length k).bind (fun j => ds[j]?) = some z) : ∃ v, atI vs k = some v ∧ RepD K F as z v := by
  unfold atI
  rw [← r.length, show ixN ds.length k = ixn ds.length k from rfl]
  cases e : ixn ds.length k with
  | none => rw [e] at h; cases h
  | some j =>
    rw [e] at h
    exact r.get h
def rIdx (K : Fr) : R2 := fun x y H Q => ∃ (CA : Cf) (F : Hp) (as : List Addr) (st : Store) (d e z : D), StR K CA F as st H ∧ RepD K F as d x ∧ RepD K F as e y ∧ idxD d e st = some z ∧ ∀ v, RepD K F as z v → Q v H
theorem ix_idx : IxR X (rIdx X.K) := by
  intro value slice pins s σ H x y v u Q I rx ry ⟨CA, F, as, st, d, e, z, S, rd, re, h, q⟩ hs
  unfold idxD at h
  split at h
  · rename_i hd
    cases re
    obtain ⟨a, xs, rfl, t, r⟩ := rd.seqV S hd
    obtain ⟨w, h1, h2⟩ := atI_rep r h
    exact ix_tup value slice pins s σ H _ _ v u Q I rx ry ⟨a, xs, _, w, rfl, rfl, t, h1, q w h2⟩ hs
  · rename_i hd
    cases re
    obtain ⟨a, xs, rfl, t, r⟩ := rd.seqV S hd
    obtain ⟨w, h1, h2⟩ := atI_rep r h
    exact ix_list value slice pins s σ H _ _ v u Q I rx ry ⟨a, xs, _, w, rfl, rfl, SqL.of t, h1, q w h2⟩ hs
  · rename_i hd
    cases re
    obtain ⟨a, xs, rfl, t, r⟩ := rd.seqV S hd
    obtain ⟨w, h1, h2⟩ := atI_rep r h
    exact ix_list value slice pins s σ H _ _ v u Q I rx ry ⟨a, xs, _, w, rfl, rfl, t, h1, q w h2⟩ hs
  · rename_i x' k hd
    cases re
    obtain ⟨rfl, hl⟩ := (rd.seqV S hd : x = .str (sO x') ∧ x'.length ≤ line)
    cases e1 : ixn x'.length k with
    | none => rw [e1] at h; cases h
    | some j =>
      rw [e1] at h
      cases e2 : x'[j]? with
      | none => simp [e2] at h
      | some c =>
        simp only [Option.bind_some, e2, Option.map_some, Option.some.injEq] at h
        subst h
        refine ix_str value slice pins s σ H _ _ v u Q I rx ry ⟨sO x', k, c, rfl, rfl, by rw [sO_len, sizeLine_line]; exact hl, ?_, q _ (.str (show 1 ≤ line by decide))⟩ hs
        unfold atI sO
        rw [show ixN x'.toArray.toList.length k = ixn x'.length k from rfl, e1]
        exact e2
  · cases h
theorem sx_sIx (n d : Nat) (o : Option Int) : sx n d o = HT.sIx n d o := by
  cases o with
  | none => rfl
  | some i =>
    show (if i < 0 then (i + n).toNat else if i < n then i.toNat else n) = if i < 0 then (i + (n : Int)).toNat else min i.toNat n
    by_cases h : i < 0
    · rw [if_pos h, if_pos h]
    · rw [if_neg h, if_neg h]
      by_cases h2 : i < n
      · rw [if_pos h2]; omega
      · rw [if_neg h2]; omega
theorem cut_rep {K : Fr} {F : Hp} {as : List Addr} {ds : List D} {vs : List V} (r : RepDs K F as ds vs) (lo hi : Option Int) : RepDs K F as (cut ds lo hi) (cutV vs lo hi) := by
  unfold cut cutV
  rw [r.length, sx_sIx, sx_sIx]
  exact (r.drop _).take _
theorem cut_len {α : Type} (xs : List α) (lo hi : Option Int) : (cut xs lo hi).length ≤ xs.length := by
  unfold cut
  rw [List.length_take, List.length_drop]
  omega
theorem cut_whole {α : Type} {xs : List α} {lo hi : Option Int} (h : HT.sIx xs.length 0 lo = 0 ∧ HT.sIx xs.length xs.length hi = xs.length) : cut xs lo hi = xs := by
  unfold cut
  rw [sx_sIx, sx_sIx, h.1, h.2]
  simp
def rSli (K : Fr) (m : Bool) : V → Option Int → Option Int → Hp → VK → Prop := fun x lo hi H Q => ∃ (CA : Cf) (E : EW) (F : Hp) (as : List Addr) (st : Store) (d : D), StR K CA F as st H ∧ RepD K F as d x ∧ Post K CA E F as (sliceD m d lo hi st) (kV1 K Q)
theorem sl_slice {m : Bool} : SlR X (rSli X.K m) := by
  intro pins s σ H x v vl vu lo hi sl Q I rx hs pl pu ⟨CA, E, F, as, st, d, S, rd, h⟩
  unfold sliceD at h
  split at h
  · rename_i hd
    obtain ⟨a, xs, rfl, t, r⟩ := rd.seqV S hd
    refine sl_tupA pins s σ H _ v vl vu lo hi sl Q I rx hs pl pu ⟨a, xs, rfl, t, fun z => ?_, fun z p hp => h.tup S (cut_rep r lo hi) hp⟩
    rw [cut_whole (by rw [r.length]; exact z)] at h
    rw [dl_tup hd] at rd
    exact Post.ok S h _ rd
  · rename_i hd
    obtain ⟨a, xs, rfl, t, r⟩ := rd.seqV S hd
    exact sl_list pins s σ H _ v vl vu lo hi sl Q I rx hs pl pu ⟨a, xs, rfl, SqL.of t, fun p hp => h.newL S (cut_rep r lo hi) hp⟩
  · rename_i x' hd
    obtain ⟨rfl, hl⟩ := (rd.seqV S hd : x = .str (sO x') ∧ x'.length ≤ line)
    refine sl_str pins s σ H _ v vl vu lo hi sl Q I rx hs pl pu ⟨sO x', rfl, by rw [sO_len, sizeLine_line]; exact hl, ?_⟩
    have e : cutS (sO x') lo hi = sO (cut x' lo hi) := by
      unfold cutS cut
      rw [sO_len, sx_sIx, sx_sIx]
      unfold sO
      simp
    rw [e]
    exact Post.ok S h _ (.str (Nat.le_trans (cut_len _ _ _) hl))
  · exact h.elim
end
end MP
end
section
set_option linter.all false
set_option Elab.async false
set_option maxRecDepth 100000
set_option maxHeartbeats 2000000
namespace MP
open PySem PySem.Spec PyProof.Rows L2 PySem.W
section
variable {X : Cx} {CA : Cf}
def rBlt (K : Fr) (b : Blt) : List V → Hp → VK → Prop := fun vs H Q => ∃ (CA : Cf) (E : EW) (F : Hp) (as : List Addr) (st : Store) (ds : List D), StR K CA F as st H ∧ RepDs K F as ds vs ∧ Post K CA E F as (bltD b ds st) (kV1 K Q)
theorem blt_len : CallR X (.builtin "len") (rBlt X.K .len) := by
  intro pins s σ H vs us Q I rv ⟨CA, E, F, as, st, ds, S, r, h⟩
  unfold bltD at h
  split at h <;> rename_i hb <;> first | (cases hb; done) | skip
  · rename_i d
    obtain ⟨v, rfl, rd⟩ := r.one
    split at h
    · rename_i hd
      obtain ⟨a, xs, rfl, t, q⟩ := rd.seqV S hd
      refine call_len_seq pins s σ H _ us Q I rv ⟨a, xs, rfl, .inr t, ?_⟩
      rw [← q.length]
      exact Post.ok S h _ (.int _)
    · rename_i hd
      obtain ⟨a, xs, rfl, t, q⟩ := rd.seqV S hd
      refine call_len_seq pins s σ H _ us Q I rv ⟨a, xs, rfl, .inl (SqL.of t), ?_⟩
      rw [← q.length]
      exact Post.ok S h _ (.int _)
    · rename_i hd
      obtain ⟨a, xs, rfl, t, q⟩ := rd.seqV S hd
      refine call_len_seq pins s σ H _ us Q I rv ⟨a, xs, rfl, .inl t, ?_⟩
      rw [← q.length]
      exact Post.ok S h _ (.int _)
    · rename_i z hd
      obtain ⟨rfl, hl⟩ := (rd.seqV S hd : v = .str (sO z) ∧ z.length ≤ line)
      refine call_len_str pins s σ H _ us Q I rv ⟨sO z, rfl, by rw [sO_len, sizeLine_line]; exact hl, ?_⟩
      rw [sO_len]
      exact Post.ok S h _ (.int _)
    · exact h.elim
  · exact h.elim
theorem natAbs_if (i : Int) : (if i < 0 then -i else i) = (i.natAbs : Int) := by split <;> omega
theorem blt_abs : CallR X (.builtin "abs") (rBlt X.K .abs) := by
  intro pins s σ H vs us Q I rv ⟨CA, E, F, as, st, ds, S, r, h⟩
  unfold bltD at h
  split at h <;> rename_i hb <;> first | (cases hb; done) | skip
  · obtain ⟨v, rfl, rd⟩ := r.one
    cases rd
    refine call_abs pins s σ H _ us Q I rv ⟨_, rfl, ?_⟩
    rw [natAbs_if]
    exact Post.ok S h _ (.int _)
  · exact h.elim
theorem blt_int1 : CallR X (.type "int") (rBlt X.K .int1) := by
  intro pins s σ H vs us Q I rv ⟨CA, E, F, as, st, ds, S, r, h⟩
  unfold bltD at h
  split at h <;> rename_i hb <;> first | (cases hb; done) | skip
  · obtain ⟨v, rfl, rd⟩ := r.one
    cases rd
    exact call_int1 pins s σ H _ us Q I rv (.inl ⟨_, rfl, Post.ok S h _ (.int _)⟩)
  · obtain ⟨v, rfl, rd⟩ := r.one
    cases rd
    exact call_int1 pins s σ H _ us Q I rv (.inr ⟨_, rfl, Post.ok S h _ (.int _)⟩)
  · exact h.elim
theorem blt_min2 (hc : X.calm = true) : CallR X (.builtin "min") (rBlt X.K .min2) := by
  intro pins s σ H vs us Q I rv ⟨CA, E, F, as, st, ds, S, r, h⟩
  unfold bltD at h
  split at h <;> rename_i hb <;> first | (cases hb; done) | skip
  · rename_i i j
    obtain ⟨v, w, rfl, rd, re⟩ := r.two
    cases rd
    cases re
    refine call_min2 hc pins s σ H _ us Q I rv ⟨i, j, rfl, ?_⟩
    rw [show (if j < i then j else i) = min i j by omega]
    exact Post.ok S h _ (.int _)
  · exact h.elim
theorem blt_max2 (hc : X.calm = true) : CallR X (.builtin "max") (rBlt X.K .max2) := by
  intro pins s σ H vs us Q I rv ⟨CA, E, F, as, st, ds, S, r, h⟩
  unfold bltD at h
  split at h <;> rename_i hb <;> first | (cases hb; done) | skip
  · rename_i i j
    obtain ⟨v, w, rfl, rd, re⟩ := r.two
    cases rd
    cases re
    refine call_max2 hc pins s σ H _ us Q I rv ⟨i, j, rfl, ?_⟩
    rw [show (if j > i then j else i) = max i j by omega]
    exact Post.ok S h _ (.int _)
  · exact h.elim
/-- a list or a tuple of ints, in the model's heap -/
theorem ints_of {F : Hp} {as : List Addr} {st : Store} {H : Hp} {d : D} {v : V} {is : List Int} (S : StR X.K CA F as st H) (r : RepD X.K F as d v) (h : (seq st d).bind intsD = some is) :
    ∃ a, v = .ref a ∧ (SqL X.K H a (is.map V.int) ∨ SqT X.K H a (is.map V.int)) := by
  cases e : seq st d with
  | none => rw [e] at h; cases h
  | some ds =>
    rw [e] at h
    obtain ⟨a, xs, rfl, t, q⟩ := r.seqOf S e
    rw [q.intsD h] at t
    exact ⟨a, rfl, t⟩
theorem blt_sum1 (hc : X.calm = true) : CallR X (.builtin "sum") (rBlt X.K .sum1) := by
  intro pins s σ H vs us Q I rv ⟨CA, E, F, as, st, ds, S, r, h⟩
  unfold bltD at h
  split at h <;> rename_i hb <;> first | (cases hb; done) | skip
  · obtain ⟨v, rfl, rd⟩ := r.one
    split at h
    · rename_i is hs
      obtain ⟨a, rfl, t⟩ := ints_of S rd hs
      have k := Post.ok S h _ (.int _)
      rcases t with t | t
      · exact cr_sum hc pins s σ H _ us Q I rv ⟨a, is, rfl, t, k⟩
      · obtain ⟨its, r1, pl, hz⟩ := I.tuple t
        rw [Vals.ref1 rv]
        have hi := r1.ints
        obtain ⟨xs, e⟩ := hi.allInts.items
        have hn : numsOf (intItems xs).toList = is := by rw [← e]; exact hi.numsOf
        rw [nums_intItems] at hn
        rw [e] at pl
        refine PySem.W.ktm_sumG (I.ok.hd hc) pl fun h' tk t' hk => ⟨.int is.sum, H, I.kept hk, ⟨t', ?_⟩, k⟩
        rw [preSum_eq, List.take_of_length_le (by simp), hn]
    · exact h.elim
  · exact h.elim
theorem reads_ints {h : Heap} : ∀ {us : List Value} {is : List Int}, Vals (is.map V.int) us → ReadsAll h us (is.map PyData.int) []
  | [], [], _ => ReadsAll.nil
  | [], _ :: _, r => by cases r
  | _ :: _, [], r => by cases r
  | u :: us, i :: is, r => by
    cases r with
    | cons r t =>
      obtain ⟨tk, rfl⟩ := r
      exact ReadsAll.cons (as := []) (bs := []) (Reads.int i tk) (reads_ints t)
theorem alike_ints (is : List Int) : AlikeAll (is.map PyData.int) := by
  constructor
  · intro x hx y hy
    obtain ⟨i, _, rfl⟩ := List.mem_map.mp hx
    obtain ⟨j, _, rfl⟩ := List.mem_map.mp hy
    rfl
  · intro x hx
    obtain ⟨i, _, rfl⟩ := List.mem_map.mp hx
    exact fun z => by cases z
theorem depth_ints : ∀ is : List Int, PyData.depthAll (is.map PyData.int) = 0
  | [] => rfl
  | i :: is => by
    show max 0 (PyData.depthAll (is.map PyData.int)) = 0
    rw [depth_ints is]
    rfl
theorem reads_int_inv {h : Heap} {v : Value} {n : Int} {bs : List Addr} (r : Reads h v (.int n) bs) : ∃ t, v = .int n t := by
  cases r
  exact ⟨_, rfl⟩
theorem blt_min1 (hc : X.calm = true) (hu : X.A.units + 64 < cLine) : CallR X (.builtin "min") (rBlt X.K .min1) := by
  intro pins s σ H vs us Q I rv ⟨CA, E, F, as, st, ds, S, r, h⟩
  unfold bltD at h
  split at h <;> rename_i hb <;> first | (cases hb; done) | skip
  · obtain ⟨v, rfl, rd⟩ := r.one
    split at h
    · rename_i i is hs
      obtain ⟨a, rfl, t⟩ := ints_of S rd hs
      have k := Post.ok S h _ (.int _)
      rw [Vals.ref1 rv]
      have fin : ∀ (v : Value) (bs : List Addr) (h' : Heap) (tk : Nat), Reads h' v (minD (.int i) (is.map PyData.int)) bs → (∀ b o, s.heap.get? b = some o → h'.get? b = some o) → EP X pins σ Q v { s with heap := h', toks := tk } := by
        intro v bs h' tk rr hk
        rw [minD_ints] at rr
        obtain ⟨t', rfl⟩ := reads_int_inv rr
        exact ⟨.int _, H, I.kept hk, ⟨t', rfl⟩, k⟩
      rcases t with t | t
      · obtain ⟨its, r1, pl, hz⟩ := I.list t
        exact min_list_data (I.ok.hd hc) pl.isList (reads_ints r1) (alike_ints (i :: is)) (by rw [show (PyData.int i :: is.map PyData.int) = (i :: is).map PyData.int from rfl, depth_ints]; omega) fun _ v h' tk bs _ rr hk => fin v bs h' tk rr hk
      · obtain ⟨its, r1, pl, hz⟩ := I.tuple t
        exact min_tuple_data (I.ok.hd hc) pl (reads_ints r1) (alike_ints (i :: is)) (by rw [show (PyData.int i :: is.map PyData.int) = (i :: is).map PyData.int from rfl, depth_ints]; omega) fun _ v h' tk bs _ rr hk => fin v bs h' tk rr hk
    · exact h.elim
  · exact h.elim
theorem blt_max1 (hc : X.calm = true) (hu : X.A.units + 64 < cLine) : CallR X (.builtin "max") (rBlt X.K .max1) := by
  intro pins s σ H vs us Q I rv ⟨CA, E, F, as, st, ds, S, r, h⟩
  unfold bltD at h
  split at h <;> rename_i hb <;> first | (cases hb; done) | skip
  · obtain ⟨v, rfl, rd⟩ := r.one
    split at h
    · rename_i i is hs
      obtain ⟨a, rfl, t⟩ := ints_of S rd hs
      have k := Post.ok S h _ (.int _)
      rw [Vals.ref1 rv]
      have fin : ∀ (v : Value) (bs : List Addr) (h' : Heap) (tk : Nat), Reads h' v (maxD (.int i) (is.map PyData.int)) bs → (∀ b o, s.heap.get? b = some o → h'.get? b = some o) → EP X pins σ Q v { s with heap := h', toks := tk } := by
        intro v bs h' tk rr hk
        rw [maxD_ints] at rr
        obtain ⟨t', rfl⟩ := reads_int_inv rr
        exact ⟨.int _, H, I.kept hk, ⟨t', rfl⟩, k⟩
      rcases t with t | t
      · obtain ⟨its, r1, pl, hz⟩ := I.list t
        exact max_list_data (I.ok.hd hc) pl.isList (reads_ints r1) (alike_ints (i :: is)) (by rw [show (PyData.int i :: is.map PyData.int) = (i :: is).map PyData.int from rfl, depth_ints]; omega) fun _ v h' tk bs _ rr hk => fin v bs h' tk rr hk
      · obtain ⟨its, r1, pl, hz⟩ := I.tuple t
        exact max_tuple_data (I.ok.hd hc) pl (reads_ints r1) (alike_ints (i :: is)) (by rw [show (PyData.int i :: is.map PyData.int) = (i :: is).map PyData.int from rfl, depth_ints]; omega) fun _ v h' tk bs _ rr hk => fin v bs h' tk rr hk
    · exact h.elim
  · exact h.elim
theorem bls_of {F : Hp} {as : List Addr} {st : Store} {H : Hp} {d : D} {v : V} {is : List Bool} (S : StR X.K CA F as st H) (r : RepD X.K F as d v) (h : (match dl st d with | .lst xs => blsD xs | _ => none) = some is) :
    ∃ a, v = .ref a ∧ SqL X.K H a (is.map V.bl) := by
  cases e : dl st d with
  | lst ds =>
    rw [e] at h
    obtain ⟨a, xs, rfl, t, q⟩ := r.seqV S e
    rw [q.blsD h] at t
    exact ⟨a, rfl, SqL.of t⟩
  | _ => rw [e] at h; cases h
theorem blt_all1 (hc : X.calm = true) : CallR X (.builtin "all") (rBlt X.K .all1) := by
  intro pins s σ H vs us Q I rv ⟨CA, E, F, as, st, ds, S, r, h⟩
  unfold bltD at h
  split at h <;> rename_i hb <;> first | (cases hb; done) | skip
  · obtain ⟨v, rfl, rd⟩ := r.one
    split at h
    · rename_i is hs
      obtain ⟨a, rfl, t⟩ := bls_of S rd hs
      exact cr_all hc pins s σ H _ us Q I rv ⟨a, is, rfl, t, Post.ok S h _ (.bl _)⟩
    · exact h.elim
  · exact h.elim
theorem blt_any1 (hc : X.calm = true) : CallR X (.builtin "any") (rBlt X.K .any1) := by
  intro pins s σ H vs us Q I rv ⟨CA, E, F, as, st, ds, S, r, h⟩
  unfold bltD at h
  split at h <;> rename_i hb <;> first | (cases hb; done) | skip
  · obtain ⟨v, rfl, rd⟩ := r.one
    split at h
    · rename_i is hs
      obtain ⟨a, rfl, t⟩ := bls_of S rd hs
      exact cr_any hc pins s σ H _ us Q I rv ⟨a, is, rfl, t, Post.ok S h _ (.bl _)⟩
    · exact h.elim
  · exact h.elim
theorem blt_tuple1 : CallR X (.type "tuple") (rBlt X.K .tuple1) := by
  intro pins s σ H vs us Q I rv ⟨CA, E, F, as, st, ds, S, r, h⟩
  unfold bltD at h
  split at h <;> rename_i hb <;> first | (cases hb; done) | skip
  · rename_i d
    obtain ⟨v, rfl, rd⟩ := r.one
    split at h
    · rename_i xs hs
      unfold MP.seq at hs
      split at hs
      · rename_i hd
        cases hs
        obtain ⟨a, ys, rfl, t, q⟩ := rd.seqV S hd
        rw [dl_tup hd] at rd
        exact call_tuple_of pins s σ H _ us Q I rv ⟨a, ys, rfl, .inr ⟨t, Post.ok S h _ rd⟩⟩
      · rename_i hd
        cases hs
        obtain ⟨a, ys, rfl, t, q⟩ := rd.seqV S hd
        exact call_tuple_of pins s σ H _ us Q I rv ⟨a, ys, rfl, .inl ⟨SqL.of t, fun p hp => h.tup S q hp⟩⟩
      · rename_i hd
        cases hs
        obtain ⟨a, ys, rfl, t, q⟩ := rd.seqV S hd
        exact call_tuple_of pins s σ H _ us Q I rv ⟨a, ys, rfl, .inl ⟨t, fun p hp => h.tup S q hp⟩⟩
      · cases hs
    · exact h.elim
  · exact h.elim
theorem blt_list1 {m : Bool} : CallR X (.type "list") (rBlt X.K (.list1 m)) := by
  intro pins s σ H vs us Q I rv ⟨CA, E, F, as, st, ds, S, r, h⟩
  unfold bltD at h
  split at h <;> rename_i hb <;> first | (cases hb; done) | skip
  · rename_i m' d
    cases hb
    obtain ⟨v, rfl, rd⟩ := r.one
    split at h
    · rename_i xs hs
      obtain ⟨a, ys, rfl, t, q⟩ := rd.seqOf S hs
      exact call_list_of pins s σ H _ us Q I rv ⟨a, ys, rfl, t, fun p hp => h.newL S q hp⟩
    · exact h.elim
  · exact h.elim
end
end MP
end
section
set_option linter.all false
set_option Elab.async false
set_option maxRecDepth 100000
set_option maxHeartbeats 2000000
namespace MP
open PySem PySem.Spec PyProof.Rows L2 PySem.W
theorem sO_nil : sO [] = Str.empty := rfl
theorem join_sO (sep : List Nat) : ∀ ss : List (List Nat), Txt.join (sO sep) (ss.map sO) = sO (joinL sep ss)
  | [] => by
    show Builtin.Str.glued _ _ = _
    rw [PySem.StrLaws.glued_eq_join]
    rfl
  | [a] => by
    show Builtin.Str.glued _ _ = _
    rw [PySem.StrLaws.glued_eq_join]
    rfl
  | a :: b :: r => by
    have ih := join_sO sep (b :: r)
    have e1 : Txt.join (sO sep) ((b :: r).map sO) = Str.join (sO sep) ((b :: r).map sO) := PySem.StrLaws.glued_eq_join _ _
    have e2 : Txt.join (sO sep) ((a :: b :: r).map sO) = Str.join (sO sep) ((a :: b :: r).map sO) := PySem.StrLaws.glued_eq_join _ _
    rw [e2]
    show sO a ++ sO sep ++ Str.join (sO sep) ((b :: r).map sO) = _
    rw [← e1, ih, sO_app, sO_app]
    rfl
theorem sum_len (ss : List (List Nat)) : ((ss.map sO).map (·.length)).sum = (ss.map (·.length)).sum := by
  rw [List.map_map]
  have e : (fun x => (fun x : Str => x.length) (sO x)) = fun x : List Nat => x.length := funext sO_len
  exact congrArg (fun f => (List.map f ss).sum) e
theorem joinL_len (sep : List Nat) : ∀ ss : List (List Nat), (joinL sep ss).length ≤ (ss.map (·.length)).sum + ss.length * sep.length
  | [] => Nat.zero_le _
  | [a] => by show a.length ≤ _; simp only [List.map_cons, List.map_nil, List.sum_cons, List.sum_nil]; omega
  | a :: b :: r => by
    have ih := joinL_len sep (b :: r)
    show (a ++ sep ++ joinL sep (b :: r)).length ≤ _
    rw [List.length_append, List.length_append, List.map_cons, List.sum_cons, List.length_cons, Nat.succ_mul]
    omega
section
variable {X : Cx} {CA : Cf}
def rBM (K : Fr) (b : BM) : V → List V → Hp → VK → Prop := fun x vs H Q => ∃ (CA : Cf) (E : EW) (F : Hp) (as : List Addr) (st : Store) (d : D) (ds : List D), StR K CA F as st H ∧ RepD K F as d x ∧ RepDs K F as ds vs ∧ Post K CA E F as (bmD b d ds st) (kV1 K Q)
theorem bm_join : MtR X "str.join" (rBM X.K .join) := by
  intro pins s σ H x vs v us Q I rx rv ⟨CA, E, F, as, st, d, ds, S, rd, r, h⟩
  unfold bmD at h
  split at h <;> rename_i hb <;> first | (cases hb; done) | skip
  · rename_i sep d'
    obtain ⟨w, rfl, re⟩ := r.one
    cases rd
    split at h
    · rename_i ss hs
      split at h
      · rename_i c
        cases e : seq st d' with
        | none => rw [e] at hs; cases hs
        | some es =>
          rw [e] at hs
          obtain ⟨a, xs, rfl, t, q⟩ := re.seqOf S e
          rw [q.strsD hs] at t
          have em : (ss.map fun s => V.str (sO s)) = (ss.map sO).map V.str := by rw [List.map_map]; rfl
          rw [em] at t
          refine mt_join pins s σ H _ _ v us Q I rx rv ⟨sO sep, a, ss.map sO, rfl, rfl, t, by rw [sum_len, List.length_map, sO_len]; exact c, ?_⟩
          rw [join_sO]
          exact Post.ok S h _ (.str (Nat.le_trans (joinL_len sep ss) c))
      · exact h.elim
    · exact h.elim
  · exact h.elim
theorem bm_append : MtR X "list.append" (rBM X.K .append) := by
  intro pins s σ H x vs v us Q I rx rv ⟨CA, E, F, as, st, d, ds, S, rd, r, h⟩
  unfold bmD at h
  split at h <;> rename_i hb <;> first | (cases hb; done) | skip
  · rename_i k d'
    obtain ⟨w, rfl, re⟩ := r.one
    split at h
    · rename_i xs hs
      split at h
      · rename_i c
        cases rd with
        | ref ha =>
          rename_i a
          have cr := S.cell k a _ ha hs
          cases cr with
          | lst hl q =>
            rename_i vs
            refine mt_append pins s σ H _ _ v us Q I rx rv ⟨a, vs, w, rfl, rfl, hl, by rw [← q.length, sizeLine_line]; exact c, ?_⟩
            exact h F as _ Ext.refl (S.setCell ha (.lst upd_same (q.append (.cons re .nil)))) _ .non
      · exact h.elim
    · exact h.elim
  · exact h.elim
theorem bm_extend : MtR X "list.extend" (rBM X.K .extend) := by
  intro pins s σ H x vs v us Q I rx rv ⟨CA, E, F, as, st, d, ds, S, rd, r, h⟩
  unfold bmD at h
  split at h <;> rename_i hb <;> first | (cases hb; done) | skip
  · rename_i k d'
    obtain ⟨w, rfl, re⟩ := r.one
    split at h
    · rename_i xs ys hs he
      split at h
      · rename_i c
        cases rd with
        | ref ha =>
          rename_i a
          have cr := S.cell k a _ ha hs
          obtain ⟨b, zs, rfl, hb2, q2⟩ := re.lstAt S he
          cases cr with
          | lst hl q =>
            rename_i vs
            refine mt_extend pins s σ H _ _ v us Q I rx rv ⟨a, b, vs, zs, rfl, rfl, hl, hb2, by rw [← q.length, ← q2.length, sizeLine_line]; exact c, ?_⟩
            exact h F as _ Ext.refl (S.setCell ha (.lst upd_same (q.append q2))) _ .non
      · exact h.elim
    · exact h.elim
  · exact h.elim
/-- the kind of a method's object -/
def bmTy : BM → String
  | .join | .rstrip => "str"
  | .bitlen => "int"
  | _ => "list"
theorem bm_lst {F : Hp} {as : List Addr} {st : Store} {H : Hp} {d : D} {x : V} (S : StR X.K CA F as st H) (r : RepD X.K F as d x) (h : isLst d st = true) : tyV X.K "list" x H := by
  cases r with
  | ref ha =>
    rename_i k a
    obtain ⟨c, hc, cr⟩ := S.at_ ha
    simp only [isLst, hc] at h
    cases cr with
    | lst hl _ => exact .inl ⟨rfl, _, SqL.of hl⟩
    | ins _ _ _ => cases h
  | _ => cases h
theorem bm_ty {F : Hp} {as : List Addr} {st : Store} {H : Hp} {b : BM} {d : D} {x : V} (S : StR X.K CA F as st H) (r : RepD X.K F as d x) (h : bmOk b d st = true) : tyV X.K (bmTy b) x H := by
  cases b with
  | join => cases r <;> first | rfl | (cases h; done)
  | rstrip => cases r <;> first | rfl | (cases h; done)
  | bitlen => cases r <;> first | rfl | (cases h; done)
  | append => exact bm_lst S r h
  | extend => exact bm_lst S r h
  | _ => cases h
def rBits : V → Hp → VK → Prop := fun x H Q => ∃ i, x = .int i ∧ Q (.int (bitLen i)) H
/-! ### isinstance -/
def tyName : Ty → String
  | .int => "int" | .bool => "bool" | .str => "str" | .tuple => "tuple" | .list => "list"
theorem kit_tuple (t : Ty) : kitB "tuple" (tyName t) = some (decide (t = .tuple)) := by cases t <;> decide +kernel
theorem kit_list (t : Ty) : kitB "list" (tyName t) = some (decide (t = .list)) := by cases t <;> decide +kernel
theorem kit_str (t : Ty) : kitB "str" (tyName t) = some (decide (t = .str)) := by cases t <;> decide +kernel
theorem kit_int (t : Ty) : kitB "int" (tyName t) = some (decide (t = .int)) := by cases t <;> decide +kernel
theorem kit_bool (t : Ty) : kitB "bool" (tyName t) = some (decide (t = .bool) || decide (t = .int)) := by cases t <;> decide +kernel
theorem kit_non (t : Ty) : kitB "NoneType" (tyName t) = some false := by cases t <;> decide +kernel
theorem isi_ty {F : Hp} {as : List Addr} {st : Store} {H : Hp} {d : D} {x : V} {t : Ty} (S : StR X.K CA F as st H) (r : RepD X.K F as d x) (h : isPlain st d = true) :
    ∃ T : Value, TyX X.K H x T ∧ PySem.W.kitOne X.K T (.type (tyName t)) = some (isTy st d t) := by
  have sq : ∀ {a : Addr} {xs : List V}, SqT X.K H a xs → TyX X.K H (.ref a) (.type "tuple") := by
    intro a xs q
    rcases q with (q | ⟨o, q⟩) | ⟨o, its, n, q, hc, _⟩
    · exact .base (.tup q)
    · exact .fTuple q
    · exact .kTuple q hc
  cases e : dl st d with
  | tup ds =>
    obtain ⟨a, xs, rfl, q, _⟩ := r.seqV S e
    refine ⟨_, sq q, ?_⟩
    rw [dl_tup e]
    refine kit_ty ((kit_tuple t).trans ?_)
    cases t <;> rfl
  | lst ds =>
    obtain ⟨a, xs, rfl, q, _⟩ := r.seqV S e
    refine ⟨_, .base (.lst q), ?_⟩
    have hd : ∀ t, isTy st d t = decide (t = .list) := by
      intro t
      cases t with
      | list => unfold isTy; rw [e]; rfl
      | _ => cases d <;> first | rfl | (cases e; done)
    rw [hd]
    exact kit_ty (kit_list t)
  | str z =>
    obtain ⟨rfl, _⟩ := (r.seqV S e : x = .str (sO z) ∧ z.length ≤ line)
    refine ⟨_, .base (.str _), ?_⟩
    rw [dl_str e]
    refine kit_ty ((kit_str t).trans ?_)
    cases t <;> rfl
  | int i =>
    have q : x = .int i := r.seqV S e
    subst q
    refine ⟨_, .base (.int _), ?_⟩
    have hd : d = .int i := by cases r <;> first | rfl | (cases e; done)
    rw [hd]
    refine kit_ty ((kit_int t).trans ?_)
    cases t <;> rfl
  | bl i =>
    have q : x = .bl i := r.seqV S e
    subst q
    refine ⟨_, .base (.bl _), ?_⟩
    have hd : d = .bl i := by cases r <;> first | rfl | (cases e; done)
    rw [hd]
    refine kit_ty ((kit_bool t).trans ?_)
    cases t <;> rfl
  | non =>
    have q : x = .non := r.seqV S e
    subst q
    refine ⟨_, .base .non, ?_⟩
    have hd : d = .non := by cases r <;> first | rfl | (cases e; done)
    rw [hd]
    refine kit_ty ((kit_non t).trans ?_)
    cases t <;> rfl
  | scr _ => unfold isPlain at h; rw [e] at h; cases h
  | ref _ => unfold isPlain at h; rw [e] at h; cases h
  | err _ _ => unfold isPlain at h; rw [e] at h; cases h
end
end MP
end
section
set_option linter.all false
set_option Elab.async false
set_option maxRecDepth 100000
set_option maxHeartbeats 2000000
namespace MP
open PySem PySem.Spec PyProof.Rows L2 PySem.W
theorem rstripL_take (cs s : List Nat) : rstripL cs s = s.take (s.length - (s.reverse.takeWhile fun c => cs.contains c).length) := by
  unfold rstripL
  have h := List.takeWhile_append_dropWhile (p := fun c => cs.contains c) (l := s.reverse)
  have h2 : s = (s.reverse.dropWhile fun c => cs.contains c).reverse ++ (s.reverse.takeWhile fun c => cs.contains c).reverse := by
    rw [← List.reverse_append, h, List.reverse_reverse]
  have hl : (s.reverse.dropWhile fun c => cs.contains c).reverse.length = s.length - (s.reverse.takeWhile fun c => cs.contains c).length := by
    have := congrArg List.length h
    rw [List.length_append, List.length_reverse] at this
    rw [List.length_reverse]
    omega
  conv => rhs; rw [← hl]
  conv => rhs; arg 2; rw [h2]
  rw [List.take_left]
theorem rstrip_sO (a b : List Nat) : Txt.rstripChars (sO a) (sO b) = sO (rstripL b a) := by
  unfold Txt.rstripChars
  rw [PyProof.Rows.stripBy_eq, rstripL_take]
  show (⟨(a.toArray).extract 0 (stripHi _ true (sO a) 0)⟩ : Str) = _
  have e : stripHi (fun c => (sO b).cps.contains c) true (sO a) 0 = a.length - (a.reverse.takeWhile fun c => b.contains c).length := by
    unfold stripHi
    rw [if_pos rfl, sO_len]
    have : (sO a).cps.toList = a := rfl
    rw [this, List.drop_zero]
    have q : (fun c => (sO b).cps.contains c) = fun c => b.contains c := by funext c; simp [sO]
    rw [q]
  rw [e]
  unfold sO
  congr 1
  simp
section
variable {X : Cx} {CA : Cf}
theorem rstripL_len (cs s : List Nat) : (rstripL cs s).length ≤ s.length := by
  rw [rstripL_take, List.length_take]
  omega
theorem bm_rstrip : MtR X "str.rstrip" (rBM X.K .rstrip) := by
  intro pins s σ H x vs v us Q I rx rv ⟨CA, E, F, as, st, d, ds, S, rd, r, h⟩
  unfold bmD at h
  split at h <;> rename_i hb <;> first | (cases hb; done) | skip
  · rename_i z cs
    obtain ⟨w, rfl, re⟩ := r.one
    cases rd with
    | str hl =>
      cases re with
      | str hl2 =>
        refine mt_rstripChars pins s σ H _ _ v us Q I rx rv ⟨_, _, rfl, rfl, by rw [sO_len, sizeLine_line]; exact hl, ?_⟩
        rw [rstrip_sO]
        exact Post.ok S h _ (.str (Nat.le_trans (rstripL_len _ _) hl))
  · exact h.elim
end
end MP
end
section
set_option linter.all false
set_option Elab.async false
set_option maxRecDepth 100000
namespace MP
open PySem PySem.Spec PyProof.Rows L2
set_option maxHeartbeats 1000000 in
theorem meets_enumerate_newT (l : Addr) (items : Array Value) (n : Nat) (dct : Option Addr) (sl : Array (Option Value)) :
    Meets (Builtin.«enumerate.__new__» ⟨[.type "enumerate", .ref l], []⟩) (fun _ R s => s.heap.get? l = some { cls := .type "tuple", dict := dct, data := .seq items n, slots := sl } ∧
      R (.ok (.ret (.ref (s.heap.push { cls := .type "tuple_iterator", data := .fields #[.ref l, .int 0 0] }).objs.size)))
        { s with heap := (s.heap.push { cls := .type "tuple_iterator", data := .fields #[.ref l, .int 0 0] }).push { cls := .type "enumerate", data := .fields #[.none, .bool false, .ref s.heap.objs.size, rawInt 0, .none, .none] } }) :=
  .of_wp fun prog w A R s h => by
    obtain ⟨hp, g, d, tk, os⟩ := s
    obtain ⟨hl, h⟩ := h
    have hL : Heap.IsTuple hp l items := ⟨_, hl, rfl, n, rfl⟩
    have hsub := sub_enumerate
    wp_walk using wpAny_loadPart' hl, wpAny_pyIter_tuple hL
    refine wpAny_stack_any fun st => wpAny_pure ?_
    split
    · rename_i c _ _ _ _ _
      cases (c == Value.type "enumerate")
      · wp_walk using wpAny_loadPart' hl, wpAny_pyIter_tuple hL
        exact ⟨_, rfl, h⟩
      · wp_walk using wpAny_loadPart' hl, wpAny_pyIter_tuple hL
        exact ⟨_, rfl, h⟩
    · wp_walk using wpAny_loadPart' hl, wpAny_pyIter_tuple hL
      exact ⟨_, rfl, h⟩

section
variable {prog : Program} {w : World} {A : Around} {E : Value → Shared → Prop} {s : Shared}
theorem call_enumerate_tuple {l : Addr} {items : Array Value} {Q : Value → Shared → Prop} (hL : s.heap.IsTuple l items)
    (h : ∀ h', IsEnum h' (s.heap.objs.size + 1) s.heap.objs.size 0 .none → h'.IsTupleIter s.heap.objs.size l 0 → h'.objs.size = s.heap.objs.size + 2 →
      (∀ b o, s.heap.get? b = some o → h'.get? b = some o) → Q (.ref (s.heap.objs.size + 1)) { s with heap := h' }) :
    wpAny (model prog w) A (call (.type "enumerate") [.ref l]) Q E s := by
  obtain ⟨⟨c, dct, dt, sl⟩, hl, hc, n, hd⟩ := hL
  replace hc : c = .type "tuple" := hc
  replace hd : dt = .seq items n := hd
  subst hc hd
  refine callType_new F.called_enumerate (by decide) (F.typeCall_enumerate_1 _) (F.newCall_enumerate_1 _) (fun obj => F.args_object_init_2 obj _) F.entry_enumerate_new
    (meets_enumerate_newT l items n dct sl) ⟨hl, ?_⟩
  have hz : (s.heap.push { cls := .type "tuple_iterator", data := .fields #[.ref l, .int 0 0] }).objs.size = s.heap.objs.size + 1 := Heap.size_push ..
  show _ ∧ _
  rw [hz]
  have he : IsEnum ((s.heap.push { cls := .type "tuple_iterator", data := .fields #[.ref l, .int 0 0] }).push
      { cls := .type "enumerate", data := .fields #[.none, .bool false, .ref s.heap.objs.size, rawInt 0, .none, .none] }) (s.heap.objs.size + 1) s.heap.objs.size 0 .none := by
    have := Heap.get?_push_size (s.heap.push { cls := .type "tuple_iterator", data := .fields #[.ref l, .int 0 0] })
      (o := { cls := .type "enumerate", data := .fields #[.none, .bool false, .ref s.heap.objs.size, rawInt 0, .none, .none] }) rfl
    rw [hz] at this; exact this
  refine ⟨⟨_, he, rfl⟩, h _ he ⟨_, Heap.get?_push_of_some _ (Heap.get?_push_size _ rfl), rfl, rfl⟩ (by rw [Heap.size_push, hz]) fun b o x => Heap.get?_push_of_some _ (Heap.get?_push_of_some _ x)⟩
end

/-- the tuple at a, each item in a new pair -/
def IteT (K : PySem.W.Frag) (a : Addr) : L2.It :=
  ⟨fun i H => ∃ (xs : List V) (x : V), SqT K H a xs ∧ xs[i]? = some x, fun i H v H' => ∃ T x, v = .ref T ∧ H T = none ∧ H' = upd H T (.tup [.int (i : Nat), x]) ∧ ∀ xs, SqT K H a xs → xs[i]? = some x, fun i H => ∃ xs : List V, SqT K H a xs ∧ xs.length = i⟩
theorem turn_enumT {P : Program} {w : World} {K : PySem.W.Frag} {elts : List Expr} {kk : Nat} {tpos : Pos} (a e it : Addr) (vs : Array Value) (hae : a ≠ e) (hai : a ≠ it) :
    Turn P w K (.Tuple elts kk tpos) (IteT K a) [e, it] e (fun i h => (∃ old, IsEnum h e it ((i : Nat) : Int) old) ∧ h.IsTupleIter it a i ∧ e ≠ it) where
  mem := by simp
  obj := fun i h st b hb => by
    obtain ⟨⟨old, he⟩, ⟨o, ho, hc, hd⟩, _⟩ := st
    have e' : b = e ∨ b = it := by simpa using hb
    rcases e' with z | z
    · rw [z]; exact ⟨_, he, fun v q => nomatch q⟩
    · rw [z]; exact ⟨o, ho, fun v q => by rw [hd] at q; cases q⟩
  keep := fun i h h' st k => let ⟨⟨old, he⟩, hi, hne⟩ := st; ⟨⟨old, k e (by simp) _ he⟩, hi.at fun o q => k it (by simp) o q, hne⟩
  item := by
    intro X hP hw hK hc i pins s σ H E I hf st hg
    subst hP hw hK
    obtain ⟨⟨old, he⟩, hit, hne⟩ := st
    obtain ⟨xs, x, hq, hx⟩ := hg
    obtain ⟨its, rv, p, hz⟩ := I.tuple hq
    obtain ⟨u, hu, ru⟩ := rv.get hx
    have hel : e < s.heap.objs.size := Heap.lt_size he
    have hil : it < s.heap.objs.size := by obtain ⟨_, q, _⟩ := hit; exact Heap.lt_size q
    have D := Draws.tuple (prog := X.prog) (w := X.w) (A := X.A.in1) (I.ok.hd hc) it a hai its.toArray
    have hlt : i < its.toArray.size := by
      rw [List.size_toArray]
      exact (List.getElem?_eq_some_iff.mp hu).1
    refine wpAny_pyNext_enum_itemD D he ⟨hit, p⟩ hlt hne (by simp only [List.mem_cons, List.not_mem_nil, or_false, not_or]; exact ⟨hne, fun z => hae z.symm⟩) fun x' h' tk hPx ho hst' hT hsz hk => ?_
    have ex : x' = u := by
      have q : its.toArray[i]? = some u := by simpa using hu
      rw [hPx] at q
      exact Option.some.inj q
    subst ex
    refine ⟨_, rfl, wpAny_letOwnedTupleGo_enum (s := { s with heap := h', toks := tk + 1 }) ho fun h'' he' sb => ?_⟩
    have hT2 : h''.get? s.heap.objs.size = some { cls := .type "tuple", data := .seq #[.int i tk, x'] } := (sb.2 _ (Nat.ne_of_gt hel)).trans hT
    have new : ObjOk X.prog X.w (upd H s.heap.objs.size (.tup [.int (i : Nat), x])) h'' s.heap.objs.size (.tup [.int (i : Nat), x]) :=
      ⟨by show 2 ≤ sizeLine; decide, [.int i tk, x'], .cons ⟨_, rfl⟩ (.cons ru .nil), ⟨_, hT2, rfl, _, rfl⟩⟩
    have I1 : Inv X pins σ (upd H s.heap.objs.size (.tup [.int (i : Nat), x])) { s with heap := h'', toks := tk + 1 } :=
      I.turnedNew (ch := [e, it]) (fun b ob hb q => (sb.2 b (fun z => hb (by simp [z]))).trans (hk b ob (fun z => hb (by simp [z])) (fun z => hb (by simp [z])) q)) hf (Nat.le_refl _) new
    refine ⟨.ref s.heap.objs.size, _, I1, rfl, ⟨_, x, rfl, I.hok.fresh (Nat.le_refl _), rfl, fun ys hy => by rw [I.tuple_inj hy hq]; exact hx⟩, ⟨⟨x', ?_⟩, hst'.1.at fun o q => (sb.2 it (Ne.symm hne)).trans q, hne⟩, fun b hb => ?_⟩
    · have e1 : ((i + 1 : Nat) : Int) = (i : Int) + 1 := by omega
      rw [e1]; exact he'
    · have hb' : b < s.heap.objs.size := by
        have e' : b = e ∨ b = it := by simpa using hb
        rcases e' with z | z
        · rw [z]; exact hel
        · rw [z]; exact hil
      rw [upd_ne (Nat.ne_of_lt hb')]
      exact (hf b hb).1
  done := by
    intro X hP hw hK hc i pins s σ H E I hf st hg
    subst hP hw hK
    obtain ⟨⟨old, he⟩, hit, hne⟩ := st
    obtain ⟨xs, hq, hx⟩ := hg
    obtain ⟨its, rv, p, hz⟩ := I.tuple hq
    obtain ⟨f0, f1, f2, f3, f4, f5⟩ := hf it (by simp)
    have hl := rv.length
    have D := Draws.tuple (prog := X.prog) (w := X.w) (A := X.A.in1) (I.ok.hd hc) it a hai its.toArray
    have ei : i = its.toArray.size := by rw [List.size_toArray]; omega
    subst ei
    exact wpAny_pyNext_enum_endD D he ⟨hit, p⟩ fun h' eb => ⟨rfl, I.turned (t' := s.toks) (fun b o hb q => eb b o hb q) f0 f1 f3 f4 f5⟩
  self := fun A i s Q E st h => let ⟨⟨_, he⟩, _⟩ := st; wpAny_pyIter_enum he h
def iEnumA (K : PySem.W.Frag) (ta : TA) : TI := fun σ H R => ta σ H fun vs H1 => ∃ a xs, vs = [.ref a] ∧ ((SqL K H1 a xs ∧ R (Ite K a) H1) ∨ (SqT K H1 a xs ∧ R (IteT K a) H1))
theorem pi_enumA {X : Cx} {e : Expr} {ta : TA} {p pos tpos : Pos} {elts : List Expr} {kk : Nat} (hg : Gl X "enumerate") (hm : X.mg "enumerate" = none) (ha : PA X [e] ta) (hs : starEach [e] X.env = [(false, eval e X.env)] := by rfl) :
    PI X (.Tuple elts kk tpos) (.Call (.Name "enumerate" p) [e] [] pos) (iEnumA X.K ta) := by
  refine ⟨fun pins s σ H R I h => ?_⟩
  refine Call_ (ld_blt I hg hm boot_enumerate (PyProof.Rows.callWith_type1 (thn (ha.run pos pins s σ H _ I h) fun us s1 ⟨vs, H1, I1, r1, q1⟩ => ?_) hs rfl))
  obtain ⟨a, xs, ex, hq⟩ := q1
  subst ex
  cases r1 with
  | cons r rr =>
    cases rr
    cases r
    rcases hq with ⟨hq, q⟩ | ⟨hq, q⟩
    · obtain ⟨its, rv, p', hz⟩ := I1.list hq
      refine call_enumerate_list p'.isList fun h' he hit hsz hk => wpAny_pyIter_enum he ?_
      have I2 : Inv X pins σ H1 { s1 with heap := h' } := I1.kept (t' := s1.toks) hk
      refine ⟨s1.heap.objs.size + 1, [s1.heap.objs.size + 1, s1.heap.objs.size], _, _, H1, rfl, I2, turn_enum a (s1.heap.objs.size + 1) s1.heap.objs.size, ⟨⟨.none, he⟩, hit, Nat.succ_ne_self _⟩, fun b hb => ?_, q⟩
      have e' : b = s1.heap.objs.size + 1 ∨ b = s1.heap.objs.size := by simpa using hb
      have hle : s1.heap.objs.size ≤ b := by
        rcases e' with z | z
        · rw [z]; exact Nat.le_add_right _ _
        · rw [z]; exact Nat.le_refl _
      exact I1.fpOk hle (I1.hok.fresh hle)
    · obtain ⟨its, rv, p', hz⟩ := I1.tuple hq
      have hal : a < s1.heap.objs.size := p'.lt
      refine call_enumerate_tuple (show s1.heap.IsTuple a its.toArray from p') fun h' he hit hsz hk => wpAny_pyIter_enum he ?_
      have I2 : Inv X pins σ H1 { s1 with heap := h' } := I1.kept (t' := s1.toks) hk
      refine ⟨s1.heap.objs.size + 1, [s1.heap.objs.size + 1, s1.heap.objs.size], _, _, H1, rfl, I2, turn_enumT a (s1.heap.objs.size + 1) s1.heap.objs.size its.toArray (Nat.ne_of_lt (Nat.lt_succ_of_lt hal)) (Nat.ne_of_lt hal), ⟨⟨.none, he⟩, hit, Nat.succ_ne_self _⟩, fun b hb => ?_, q⟩
      have e' : b = s1.heap.objs.size + 1 ∨ b = s1.heap.objs.size := by simpa using hb
      have hle : s1.heap.objs.size ≤ b := by
        rcases e' with z | z
        · rw [z]; exact Nat.le_add_right _ _
        · rw [z]; exact Nat.le_refl _
      exact I1.fpOk hle (I1.hok.fresh hle)
end MP
end
section
set_option linter.all false
set_option Elab.async false
set_option maxRecDepth 100000
set_option maxHeartbeats 2000000
namespace MP
open PySem PySem.Spec PyProof.Rows L2 PySem.W
/-- an iterator of the model walks the items xs (of src, which stands still) -/
def JOk (K : Fr) (CA : Cf) (F1 : Hp) (as1 : List Addr) (src : D) (bs xs : List D) (J : L2.It) : Prop :=
  ∀ (i : Nat) (F : Hp) (as : List Addr) (st : Store) (H : Hp), Ext F1 as1 F as → StR K CA F as st H → Still st src bs →
    (i < xs.length → J.go i H ∧ ∀ x H', J.yld i H x H' → ∃ F' as', Ext F as F' as' ∧ StR K CA F' as' st H' ∧ ∀ z, xs[i]? = some z → RepD K F' as' z x) ∧ (xs.length = i → J.stop i H)
section
variable {K : Fr} {CA : Cf} {F1 : Hp} {as1 : List Addr} {st1 : Store} {H1 : Hp}
theorem lt_get {ds : List D} {vs : List V} {F : Hp} {as : List Addr} (r : RepDs K F as ds vs) {i : Nat} (h : i < ds.length) : ∃ v, vs[i]? = some v := by
  rw [r.length] at h
  exact ⟨_, List.getElem?_eq_getElem h⟩
theorem j_tup {ds : List D} {a : Addr} {vs : List V} (t : SqT K F1 a vs) (r : RepDs K F1 as1 ds vs) {src : D} {bs : List D} : JOk K CA F1 as1 src bs ds (Itt K a) := by
  intro i F as st H e S _
  have t2 : SqT K H a vs := Same.sqT S.sub (Same.sqT e.same t)
  have r2 := r.ext e
  refine ⟨fun hi => ?_, fun hi => ⟨vs, t2, by rw [← r.length]; omega⟩⟩
  obtain ⟨v, hv⟩ := lt_get r hi
  refine ⟨⟨vs, v, t2, hv⟩, fun x H' ⟨h1, h2⟩ => ?_⟩
  subst h1
  refine ⟨F, as, Ext.refl, S, fun z hz => ?_⟩
  obtain ⟨w, hw, rw'⟩ := r2.get hz
  have := h2 vs t2
  rw [hw] at this
  cases this
  exact rw'
theorem j_lst {ds bs : List D} {a : Addr} {src : D} (q : ∀ F as st H, Ext F1 as1 F as → StR K CA F as st H → Still st src bs → ∃ vs, SqL K H a vs ∧ RepDs K F as ds vs) : JOk K CA F1 as1 src bs ds (Itl K a) := by
  intro i F as st H e S hs
  obtain ⟨vs, t2, r2⟩ := q F as st H e S hs
  refine ⟨fun hi => ?_, fun hi => ⟨vs, t2, by rw [← r2.length]; omega⟩⟩
  obtain ⟨v, hv⟩ := lt_get r2 hi
  refine ⟨⟨vs, v, t2, hv⟩, fun x H' ⟨h1, h2⟩ => ?_⟩
  subst h1
  refine ⟨F, as, Ext.refl, S, fun z hz => ?_⟩
  obtain ⟨w, hw, rw'⟩ := r2.get hz
  have := h2 vs t2
  rw [hw] at this
  cases this
  exact rw'
/-- a list behind a reference or a value, as it stands later -/
theorem lst_later {d : D} {ds : List D} {v : V} (r : RepD K F1 as1 d v) (h : dl st1 d = .lst ds) :
    ∃ a, v = .ref a ∧ ∀ (CA : Cf) F as st H, Ext F1 as1 F as → StR K CA F as st H → Still st d ds → ∃ vs, SqL K H a vs ∧ RepDs K F as ds vs := by
  cases r with
  | lst q t =>
    cases h
    exact ⟨_, rfl, fun CA F as st H e S _ => ⟨_, SqL.of (S.sub _ _ (e.same _ _ q)), t.ext e⟩⟩
  | ref q =>
    rename_i k a
    refine ⟨a, rfl, fun CA F as st H e S hs => ?_⟩
    have hs : st[k]? = some (.lst ds) := hs
    obtain ⟨bs, eb⟩ := e.more
    have ha : as[k]? = some a := by rw [eb]; exact get_app q
    cases S.cell k a _ ha hs with
    | lst q2 t => exact ⟨_, SqL.of q2, t⟩
  | _ => cases h
theorem j_str {s : List Nat} (hl : s.length ≤ line) {src : D} {bs : List D} : JOk K CA F1 as1 src bs (signs s) (Its (sO s)) := by
  intro i F as st H e S _
  have hsz : (sO s).cps.size = s.length := sO_len s
  have hln : (signs s).length = s.length := by unfold signs; rw [List.length_map]
  refine ⟨fun hi => ⟨by show i < (sO s).cps.size; omega, fun x H' ⟨h1, c, h2, h3⟩ => ?_⟩, fun hi => by show (sO s).cps.size ≤ i; omega⟩
  subst h1 h3
  refine ⟨F, as, Ext.refl, S, fun z hz => ?_⟩
  unfold signs at hz
  rw [List.getElem?_map] at hz
  have h2' : s[i]? = some c := by simpa [sO] using h2
  rw [h2'] at hz
  cases hz
  exact .str (show 1 ≤ line by decide)
theorem j_rngC {lo c : Int} {n : Nat} {src : D} {bs : List D} : JOk K CA F1 as1 src bs (rngL lo c n) (Itc lo c n) := by
  intro i F as st H e S _
  have hln : (rngL lo c n).length = n := by unfold rngL; rw [List.length_map, List.length_range]
  refine ⟨fun hi => ⟨by show i < n; omega, fun x H' ⟨h1, h2⟩ => ?_⟩, fun hi => by show n ≤ i; omega⟩
  subst h1 h2
  refine ⟨F, as, Ext.refl, S, fun z hz => ?_⟩
  unfold rngL at hz
  rw [List.getElem?_map, List.getElem?_range (by omega)] at hz
  cases hz
  exact .int _
theorem j_rng {lo : Int} {n : Nat} {src : D} {bs : List D} : JOk K CA F1 as1 src bs (rngL lo 1 n) (Itr lo n) := by
  intro i F as st H e S _
  have hln : (rngL lo 1 n).length = n := by unfold rngL; rw [List.length_map, List.length_range]
  refine ⟨fun hi => ⟨by show i < n; omega, fun x H' ⟨h1, h2⟩ => ?_⟩, fun hi => by show n ≤ i; omega⟩
  subst h1 h2
  refine ⟨F, as, Ext.refl, S, fun z hz => ?_⟩
  unfold rngL at hz
  rw [List.getElem?_map, List.getElem?_range (by omega)] at hz
  cases hz
  show RepD K F as (.int (lo + (i : Int) * 1)) (.int (lo + (i : Int)))
  rw [Int.mul_one]
  exact .int _
theorem enumL_get {ds : List D} {i : Nat} {z : D} (h : (enumL ds)[i]? = some z) : ∃ d, ds[i]? = some d ∧ z = .tup [.int (i : Nat), d] := by
  unfold enumL at h
  rw [List.getElem?_zipWith] at h
  cases e : ds[i]? with
  | none =>
    rw [e] at h
    cases q : (List.range ds.length)[i]? <;> rw [q] at h <;> cases h
  | some d =>
    have hi := (List.getElem?_eq_some_iff.mp e).1
    rw [e, List.getElem?_range hi] at h
    cases h
    exact ⟨d, rfl, rfl⟩
theorem enumL_len (ds : List D) : (enumL ds).length = ds.length := by
  unfold enumL
  rw [List.length_zipWith, List.length_range, Nat.min_self]
theorem pair_new {F : Hp} {as : List Addr} {st : Store} {H H' : Hp} {T : Addr} {d e : D} {v w : V} (S : StR K CA F as st H) (hT : H T = none) (rd : RepD K F as d v) (re : RepD K F as e w) (h : H' = upd H T (.tup [v, w])) :
    ∃ F' as', Ext F as F' as' ∧ StR K CA F' as' st H' ∧ RepD K F' as' (.tup [d, e]) (.ref T) := by
  subst h
  obtain ⟨S', x⟩ := S.froze (o := .tup [v, w]) hT
  exact ⟨_, _, x, S', .tup (SqT.of upd_same) (.cons (rd.ext x) (.cons (re.ext x) .nil))⟩
theorem j_enumT {ds : List D} {a : Addr} {vs : List V} (t : SqT K F1 a vs) (r : RepDs K F1 as1 ds vs) {src : D} {bs : List D} : JOk K CA F1 as1 src bs (enumL ds) (IteT K a) := by
  intro i F as st H e S _
  have t2 : SqT K H a vs := Same.sqT S.sub (Same.sqT e.same t)
  have r2 := r.ext e
  rw [enumL_len]
  refine ⟨fun hi => ?_, fun hi => ⟨vs, t2, by rw [← r.length]; exact hi⟩⟩
  obtain ⟨v, hv⟩ := lt_get r hi
  refine ⟨⟨vs, v, t2, hv⟩, fun x H' ⟨T, y, h1, h2, h3, h4⟩ => ?_⟩
  subst h1
  obtain ⟨d, hd⟩ : ∃ d, ds[i]? = some d := ⟨_, List.getElem?_eq_getElem hi⟩
  obtain ⟨w, hw, rw'⟩ := r2.get hd
  have := h4 vs t2
  rw [hw] at this
  cases this
  obtain ⟨F', as', x1, x2, x3⟩ := pair_new S h2 (.int (i : Nat)) rw' h3
  refine ⟨F', as', x1, x2, fun z hz => ?_⟩
  obtain ⟨d', hd', rfl⟩ := enumL_get hz
  rw [hd] at hd'
  cases hd'
  exact x3
theorem j_enumL {ds bs : List D} {a : Addr} {src : D} (q : ∀ F as st H, Ext F1 as1 F as → StR K CA F as st H → Still st src bs → ∃ vs, SqL K H a vs ∧ RepDs K F as ds vs) : JOk K CA F1 as1 src bs (enumL ds) (Ite K a) := by
  intro i F as st H e S hs
  obtain ⟨vs, t2, r2⟩ := q F as st H e S hs
  rw [enumL_len]
  refine ⟨fun hi => ?_, fun hi => ⟨vs, t2, by rw [← r2.length]; omega⟩⟩
  obtain ⟨v, hv⟩ := lt_get r2 hi
  refine ⟨⟨vs, v, t2, hv⟩, fun x H' ⟨T, y, h1, h2, h3, h4⟩ => ?_⟩
  subst h1
  obtain ⟨d, hd⟩ : ∃ d, ds[i]? = some d := ⟨_, List.getElem?_eq_getElem hi⟩
  obtain ⟨w, hw, rw'⟩ := r2.get hd
  have := h4 vs t2
  rw [hw] at this
  cases this
  obtain ⟨F', as', x1, x2, x3⟩ := pair_new S h2 (.int (i : Nat)) rw' h3
  refine ⟨F', as', x1, x2, fun z hz => ?_⟩
  obtain ⟨d', hd', rfl⟩ := enumL_get hz
  rw [hd] at hd'
  cases hd'
  exact x3
theorem zipL_get {ds es : List D} {i : Nat} {z : D} (h : (zipL ds es)[i]? = some z) : ∃ d e, ds[i]? = some d ∧ es[i]? = some e ∧ z = .tup [d, e] := by
  unfold zipL at h
  rw [List.getElem?_zipWith] at h
  cases e1 : ds[i]? with
  | none => rw [e1] at h; cases h
  | some d =>
    cases e2 : es[i]? with
    | none => rw [e1, e2] at h; cases h
    | some e => rw [e1, e2] at h; cases h; exact ⟨d, e, rfl, rfl, rfl⟩
theorem zipL_len (ds es : List D) : (zipL ds es).length = min ds.length es.length := by
  unfold zipL
  rw [List.length_zipWith]
theorem j_zipT {ds es : List D} {a b : Addr} {vs ws : List V} (t : SqT K F1 a vs) (r : RepDs K F1 as1 ds vs) (t' : SqT K F1 b ws) (r' : RepDs K F1 as1 es ws) {src : D} {bs : List D} : JOk K CA F1 as1 src bs (zipL ds es) (RZ.ItzT K a b) := by
  intro i F as st H e S _
  have t2 : SqT K H a vs := Same.sqT S.sub (Same.sqT e.same t)
  have r2 := r.ext e
  have t2' : SqT K H b ws := Same.sqT S.sub (Same.sqT e.same t')
  have r2' := r'.ext e
  rw [zipL_len]
  refine ⟨fun hi => ?_, fun hi => ⟨vs, ws, t2, t2', by rw [← r.length, ← r'.length]; omega⟩⟩
  obtain ⟨v, hv⟩ := lt_get r (i := i) (by omega)
  obtain ⟨w, hw⟩ := lt_get r' (i := i) (by omega)
  refine ⟨⟨vs, ws, v, w, t2, t2', hv, hw⟩, fun x H' ⟨T, y, y', h1, h2, h3, h4, h5⟩ => ?_⟩
  subst h1
  obtain ⟨d, hd, rd⟩ := r2.getV hv
  obtain ⟨d', hd', rd'⟩ := r2'.getV hw
  have e1 := h4 vs t2
  have e2 := h5 ws t2'
  rw [hv] at e1
  rw [hw] at e2
  cases e1
  cases e2
  obtain ⟨F', as', x1, x2, x3⟩ := pair_new S h2 rd rd' h3
  refine ⟨F', as', x1, x2, fun z hz => ?_⟩
  obtain ⟨c, c', hc, hc', rfl⟩ := zipL_get hz
  rw [hd] at hc
  rw [hd'] at hc'
  cases hc
  cases hc'
  exact x3
theorem j_zipL {ds es : List D} {a b : Addr} {vs ws : List V} (t : F1 a = some (.lst vs)) (r : RepDs K F1 as1 ds vs) (t' : F1 b = some (.lst ws)) (r' : RepDs K F1 as1 es ws) {src : D} {bs : List D} : JOk K CA F1 as1 src bs (zipL ds es) (Itz K a b) := by
  intro i F as st H e S _
  have t2 : SqL K H a vs := SqL.of (S.sub _ _ (e.same _ _ t))
  have r2 := r.ext e
  have t2' : SqL K H b ws := SqL.of (S.sub _ _ (e.same _ _ t'))
  have r2' := r'.ext e
  rw [zipL_len]
  refine ⟨fun hi => ?_, fun hi => ⟨vs, ws, t2, t2', by rw [← r.length, ← r'.length]; omega⟩⟩
  obtain ⟨v, hv⟩ := lt_get r (i := i) (by omega)
  obtain ⟨w, hw⟩ := lt_get r' (i := i) (by omega)
  refine ⟨⟨vs, ws, v, w, t2, t2', hv, hw⟩, fun x H' ⟨T, y, y', h1, h2, h3, h4, h5⟩ => ?_⟩
  subst h1
  obtain ⟨d, hd, rd⟩ := r2.getV hv
  obtain ⟨d', hd', rd'⟩ := r2'.getV hw
  have e1 := h4 vs t2
  have e2 := h5 ws t2'
  rw [hv] at e1
  rw [hw] at e2
  cases e1
  cases e2
  obtain ⟨F', as', x1, x2, x3⟩ := pair_new S h2 rd rd' h3
  refine ⟨F', as', x1, x2, fun z hz => ?_⟩
  obtain ⟨c, c', hc, hc', rfl⟩ := zipL_get hz
  rw [hd] at hc
  rw [hd'] at hc'
  cases hc
  cases hc'
  exact x3
theorem j_revT {ds : List D} {a : Addr} {vs : List V} (t : SqT K F1 a vs) (r : RepDs K F1 as1 ds vs) {src : D} {bs : List D} : JOk K CA F1 as1 src bs ds.reverse (RT.ItvT K a vs.length) := by
  intro i F as st H e S _
  have t2 : SqT K H a vs := Same.sqT S.sub (Same.sqT e.same t)
  have r2 := r.ext e
  rw [List.length_reverse, r.length]
  refine ⟨fun hi => ?_, fun hi => by show vs.length ≤ i; omega⟩
  obtain ⟨v, hv⟩ : ∃ v, vs[vs.length - 1 - i]? = some v := ⟨_, List.getElem?_eq_getElem (by omega)⟩
  refine ⟨⟨hi, vs, v, t2, hv⟩, fun x H' ⟨h1, h2⟩ => ?_⟩
  subst h1
  refine ⟨F, as, Ext.refl, S, fun z hz => ?_⟩
  rw [List.getElem?_reverse (by rw [r.length]; exact hi), r.length] at hz
  obtain ⟨w, hw, rw'⟩ := r2.get hz
  have := h2 vs t2
  rw [hw] at this
  cases this
  exact rw'
end
end MP
end
section
set_option linter.all false
set_option Elab.async false
set_option maxRecDepth 100000
set_option maxHeartbeats 2000000
namespace MP
open PySem PySem.Spec PyProof.Rows L2 PySem.W

/-! ### the slots, the readings -/
structure SlR (K : Fr) (F : Hp) (as : List Addr) (ρ : Env) (σ : L2.St) : Prop where
  len : ρ.length = σ.length
  at_ : ∀ (i : Nat) (d : D), ρ[i]? = some (some d) → (∀ c e, d ≠ .err c e) → ∃ v, σ[i]? = some (some v) ∧ RepD K F as d v
theorem SlR.ext {K : Fr} {F F' : Hp} {as as' : List Addr} {ρ : Env} {σ : L2.St} (h : SlR K F as ρ σ) (e : Ext F as F' as') : SlR K F' as' ρ σ :=
  ⟨h.len, fun i d hd ne => let ⟨v, h1, h2⟩ := h.at_ i d hd ne; ⟨v, h1, h2.ext e⟩⟩
theorem SlR.set {K : Fr} {F : Hp} {as : List Addr} {ρ : Env} {σ : L2.St} (h : SlR K F as ρ σ) (i : Nat) {d : D} {v : V} (r : RepD K F as d v) : SlR K F as (ρ.set i (some d)) (σ.set i (some v)) := by
  refine ⟨by rw [List.length_set, List.length_set]; exact h.len, fun j e he ne => ?_⟩
  by_cases hj : i = j
  · subst hj
    have hi : i < ρ.length := by
      have := (List.getElem?_eq_some_iff.mp he).1
      rw [List.length_set] at this
      exact this
    rw [List.getElem?_set_self hi] at he
    cases he
    exact ⟨v, List.getElem?_set_self (by rw [← h.len]; exact hi), r⟩
  · rw [List.getElem?_set_ne hj] at he
    rw [List.getElem?_set_ne hj]
    exact h.at_ j e he ne
theorem SlR.kill {K : Fr} {F : Hp} {as : List Addr} {ρ : Env} {σ : L2.St} (h : SlR K F as ρ σ) (i : Nat) : SlR K F as (ρ.set i none) σ := by
  refine ⟨by rw [List.length_set]; exact h.len, fun j e he ne => ?_⟩
  by_cases hj : i = j
  · subst hj
    have hi : i < ρ.length := by
      have := (List.getElem?_eq_some_iff.mp he).1
      rw [List.length_set] at this
      exact this
    rw [List.getElem?_set_self hi] at he
    cases he
  · rw [List.getElem?_set_ne hj] at he
    exact h.at_ j e he ne
theorem SlR.killL {K : Fr} {F : Hp} {as : List Addr} {σ : L2.St} : ∀ (ks : List Nat) {ρ : Env}, SlR K F as ρ σ → SlR K F as (killL ks ρ) σ
  | [], _, h => h
  | k :: ks, _, h => SlR.killL ks (h.kill k)

/-- an exception of the class c with d, as it is wished for -/
def ExF (K : Fr) (EF : String → Option (Addr × Str)) (E : XK) : EW := fun c d _ F as H => ∃ C f, EF c = some (C, f) ∧ ∀ dx v, RepD K F as d v → H dx = some (.xd [(f, v)]) → E (.ref C) (some dx) H
abbrev ExW (K : Fr) (EF : String → Option (Addr × Str)) (W : WX) (σ : L2.St) : EW := ExF K EF fun c d H => W c d σ H
structure Tb where
  fns : List String
  cls : List String
  flds : List String
  free : List String
  csts : List String
structure Wd where
  CA : String → Option Addr
  EF : String → Option (Addr × Str)
  Φ : MP.Key → List D → Store → R D
  G : Gb
  tb : Tb
  lv : Nat
/-- what a def promises: its meaning -/
def spM (K : Fr) (CA : String → Option Addr) (EF : String → Option (Addr × Str)) (m : List D → Store → R D) (n : Nat) : Sp := fun vs H Q E => vs.length = n ∧ ∃ P F as st ds, StR K ⟨CA, P⟩ F as st H ∧ RepDs K F as ds vs ∧ Post K ⟨CA, P⟩ (ExF K EF E) F as (m ds st) (kV1 K Q)
def FnM (X : Cx) (Y : Wd) (k : MP.Key) (a : Addr) : Prop := ∃ (fd : FuncData) (ps : List Str), Binds X.K fd ps [] ∧ (∀ ds st, Y.Φ k ds st ≠ .stuck → ds.length = ps.length) ∧ FnOk X.prog X.w X.K X.mg X.base (L2.CX X.prog X.w) Y.lv a fd ps (spM X.K Y.CA Y.EF (Y.Φ k) ps.length)
/-- what is known of the text around -/
structure Sd (X : Cx) (Y : Wd) : Prop where
  calm : X.calm = true
  hr : Room (Y.lv + 1) X.A
  nd : X.N.Nodup
  fn : ∀ f, f ∈ Y.tb.fns → ∃ a, X.mg (Str.ofString f) = some (.ref a) ∧ PySem.W.keepIn X.K (.ref a) = true ∧ FnM X Y (.fn f) a
  mkr : ∀ c, c ∈ Y.tb.cls → ∃ C a, Y.CA c = some C ∧ X.mg (Str.ofString c) = some (.ref C) ∧ Mk X.K C a ∧ FnM X Y (.mt c "__init__") a
  mt : ∀ c C m, Y.CA c = some C → Y.G.has c m = true → ∃ a, Meth X.K C (Str.ofString m) a ∧ FnM X Y (.mt c m) a
  cl : ∀ c C, Y.CA c = some C → Cls X.K C ∧ ∀ f, f ∈ Y.tb.flds → NoAttr X.K C (Str.ofString f)
  free : ∀ b, b ∈ Y.tb.free → X.mg (Str.ofString b) = none
  cst : ∀ x, x ∈ Y.tb.csts → ∃ u v d, X.mg (Str.ofString x) = some u ∧ RelV v u ∧ Y.G.cst x = some d ∧ ∀ F as, RepD X.K F as d v

section
variable (X : Cx) (Y : Wd) (W : WX)
def tE (f : Env → Store → R D) : TE := fun σ H Q => ∃ P F as ρ st, StR X.K ⟨Y.CA, P⟩ F as st H ∧ SlR X.K F as ρ σ ∧ Post X.K ⟨Y.CA, P⟩ (ExW X.K Y.EF W σ) F as (f ρ st) (kV1 X.K Q)
def tT (f : Env → Store → R Bool) : TT := fun σ H Q => ∃ P F as ρ st, StR X.K ⟨Y.CA, P⟩ F as st H ∧ SlR X.K F as ρ σ ∧ Post X.K ⟨Y.CA, P⟩ (ExW X.K Y.EF W σ) F as (f ρ st) (kB Q)
def tA (f : Env → Store → R (List D)) : TA := fun σ H Q => ∃ P F as ρ st, StR X.K ⟨Y.CA, P⟩ F as st H ∧ SlR X.K F as ρ σ ∧ Post X.K ⟨Y.CA, P⟩ (ExW X.K Y.EF W σ) F as (f ρ st) (kVs X.K Q)
def tI (f : Env → Store → R (D × List D × List D)) : TI := fun σ H R => ∃ P F as ρ st, StR X.K ⟨Y.CA, P⟩ F as st H ∧ SlR X.K F as ρ σ ∧ Post X.K ⟨Y.CA, P⟩ (ExW X.K Y.EF W σ) F as (f ρ st) fun w _ F' as' H' => ∀ J, (∀ P, JOk X.K ⟨Y.CA, P⟩ F' as' w.1 w.2.1 w.2.2 J) → R J H'
end
theorem impPE {X : Cx} {e : Expr} {t t' : TE} (h : PE X e t) (i : ∀ σ H Q, t' σ H Q → t σ H Q) : PE X e t' := ⟨fun pins s σ H Q I q => h.run pins s σ H Q I (i _ _ _ q)⟩
theorem impPT {X : Cx} {e : Expr} {t t' : TT} (h : PT X e t) (i : ∀ σ H Q, t' σ H Q → t σ H Q) : PT X e t' := ⟨fun pins s σ H Q I q => h.run pins s σ H Q I (i _ _ _ q)⟩
theorem impPW {X : Cx} {e : Expr} {t t' : TT} (h : PW X e t) (i : ∀ σ H Q, t' σ H Q → t σ H Q) : PW X e t' := ⟨fun wh pins s σ H Q I q => h.run wh pins s σ H Q I (i _ _ _ q)⟩
theorem impPA {X : Cx} {e : List Expr} {t t' : TA} (h : PA X e t) (i : ∀ σ H Q, t' σ H Q → t σ H Q) : PA X e t' := ⟨fun pos pins s σ H Q I q => h.run pos pins s σ H Q I (i _ _ _ q)⟩
theorem impPI {X : Cx} {tg e : Expr} {t t' : TI} (h : PI X tg e t) (i : ∀ σ H Q, t' σ H Q → t σ H Q) : PI X tg e t' := ⟨fun pins s σ H Q I q => h.run pins s σ H Q I (i _ _ _ q)⟩

/-! ### syntax: what is not starred, plain -/
def noStar : Expr → Bool
  | .Starred .. => false
  | _ => true
theorem star_eq {e : Expr} {es : List Expr} {env : PySem.Env} (h : noStar e = true) : starEach (e :: es) env = (false, eval e env) :: starEach es env := by
  cases e <;> first | rfl | (cases h; done)
theorem star_any {env : PySem.Env} {pos : Pos} : ∀ {es : List Expr}, es.all noStar = true → (backTo pos (starEach es env)).any (·.1) = false
  | [], _ => rfl
  | e :: es, h => by
    rw [List.all_cons, Bool.and_eq_true] at h
    rw [star_eq h.1]
    show (false || (backTo pos (starEach es env)).any (·.1)) = false
    rw [star_any h.2]
    rfl
theorem star_all {env : PySem.Env} {pos : Pos} : ∀ {es : List Expr}, es.all noStar = true → (backTo pos (starEach es env)).all (fun x => !x.1) = true
  | [], _ => rfl
  | e :: es, h => by
    rw [List.all_cons, Bool.and_eq_true] at h
    rw [star_eq h.1]
    show (!false && (backTo pos (starEach es env)).all (fun x => !x.1)) = true
    rw [star_all h.2]
    rfl
def okName (x : Str) : Bool := !(x == Str.ofString "__debug__") && !(x == Str.ofString "__classdict__") && !(x == Str.ofString "__name__")
theorem okName_ok {x : Str} (h : okName x = true) : (x == ("__debug__" : Str)) = false ∧ (x == ("__classdict__" : Str)) = false ∧ x ≠ "__name__" := by
  unfold okName at h
  rw [Bool.and_eq_true, Bool.and_eq_true] at h
  obtain ⟨⟨h1, h2⟩, h3⟩ := h
  refine ⟨by simpa using h1, by simpa using h2, fun e => ?_⟩
  rw [e] at h3
  simp at h3
def visB (sc : Scope) (x : Str) : Bool := match sc.names.lookup x with
  | some .local | some .cell | some .free => true
  | _ => false
theorem visB_ok {sc : Scope} {x : Str} (h : visB sc x = true) : Vis sc x := by
  unfold visB at h
  split at h
  · exact .inl (by assumption)
  · exact .inr (.inl (by assumption))
  · exact .inr (.inr (by assumption))
  · cases h
def glB (sc : Scope) (x : Str) : Bool := decide (sc.names.lookup x = some .globalImplicit)
theorem glB_ok {X : Cx} {x : Str} (h : glB X.env.scope x = true) : Gl X x := show X.env.scope.names.lookup x = some .globalImplicit from of_decide_eq_true h
/-- the base of a method's call, of a field -/
def plainBase : Expr → Bool
  | .Call .. => false
  | _ => true
theorem base_ok {o : Expr} {m : Str} {env : PySem.Env} {t : Sem Value} (h : plainBase o = true) : attributeBase o m env t = t := by
  cases o <;> first | rfl | (cases h; done)
def plainIx : Expr → Bool
  | .Slice .. => false
  | _ => true
theorem plainIx_ok {b : Expr} (h : plainIx b = true) : PlainIx b := by
  intro o i
  cases b <;> first | rfl | (cases h; done)
theorem pos_beq {a b : Nat} (h : (a == b) = true) : a = b := beq_iff_eq.mp h

section
variable {X : Cx} {Y : Wd} {W : WX}
/-! ### names, constants -/
theorem s_var {i : Nat} {x : Str} {pos : Pos} (hN : X.N[i]? = some x) (hv : Vis X.env.scope x) (hx : okName x = true) : PE X (.Name x pos) (tE X Y W (evE Y.Φ Y.G (.var i))) := by
  obtain ⟨h1, h2, _⟩ := okName_ok hx
  refine impPE (pe_var (pos := pos) hN hv h1 h2) fun σ H Q ⟨P, F, as, ρ, st, S, L, h⟩ => ?_
  simp only [evE] at h
  split at h
  · exact h.elim
  · rename_i d ne hd
    obtain ⟨v, e, r⟩ := L.at_ i d hd fun c e' z => by exact ne c e' z
    exact ⟨v, e, Post.ok S h v r⟩
  · exact h.elim
theorem s_int {i : Int} {j : Nat} {pos : Pos} : PE X (.Constant (.int i) j pos) (tE X Y W (evE Y.Φ Y.G (.int i))) :=
  impPE pe_int fun σ H Q ⟨P, F, as, ρ, st, S, L, h⟩ => Post.ok S h _ (.int i)
theorem s_bl {i : Bool} {j : Nat} {pos : Pos} : PE X (.Constant (.bool i) j pos) (tE X Y W (evE Y.Φ Y.G (.bl i))) :=
  impPE pe_bl fun σ H Q ⟨P, F, as, ρ, st, S, L, h⟩ => Post.ok S h _ (.bl i)
theorem s_non {j : Nat} {pos : Pos} : PE X (.Constant .none j pos) (tE X Y W (evE Y.Φ Y.G .non)) :=
  impPE pe_non fun σ H Q ⟨P, F, as, ρ, st, S, L, h⟩ => Post.ok S h _ .non
theorem s_str {s : String} {x : Str} {j : Nat} {pos : Pos} (hx : x = Str.ofString s) (hl : (codes s).length ≤ line) : PE X (.Constant (.str x) j pos) (tE X Y W (evE Y.Φ Y.G (.str s))) := by
  subst hx
  refine impPE pe_str fun σ H Q ⟨P, F, as, ρ, st, S, L, h⟩ => ?_
  have k := Post.ok S h _ (.str hl)
  rw [← ofString_codes] at k
  exact k
theorem s_cst (D : Sd X Y) {s : String} {x : Str} {pos : Pos} (hx : x = Str.ofString s) (hs : s ∈ Y.tb.csts) (hg : Gl X x) (hn : okName x = true) : PE X (.Name x pos) (tE X Y W (evE Y.Φ Y.G (.cst s))) := by
  subst hx
  obtain ⟨u, v, d, h1, h2, h3, h4⟩ := D.cst s hs
  refine impPE (pe_glob hg h1 h2 (okName_ok hn).1) fun σ H Q ⟨P, F, as, ρ, st, S, L, h⟩ => ?_
  simp only [evE, h3] at h
  exact Post.ok S h v (h4 F as)

/-! ### operators -/
section
variable {a b c : Expr} {fa fb fc : Env → Store → R D} {pos : Pos}
theorem go2 {r : R2} {k : D → D → Store → R D} (hr : ∀ (CA : Cf) (E : EW) (F : Hp) (as : List Addr) (st : Store) (d e : D) (x y : V) (H : Hp) (Q : VK), StR X.K CA F as st H → RepD X.K F as d x → RepD X.K F as e y → Post X.K CA E F as (k d e st) (kV1 X.K Q) → r x y H Q)
    {σ : L2.St} {H : Hp} {Q : VK} (h : tE X Y W (fun ρ st => (fa ρ st).bind fun x st => (fb ρ st).bind fun y st => k x y st) σ H Q) : tOp r (tE X Y W fa) (tE X Y W fb) σ H Q := by
  obtain ⟨P, F, as, ρ, st, S, L, h⟩ := h
  refine ⟨P, F, as, ρ, st, S, L, (Post.bind h).imp fun d st1 F1 as1 H1 e1 S1 h1 v rv => ?_⟩
  refine ⟨P, F1, as1, ρ, st1, S1, L.ext e1, (Post.bind h1).imp fun e st2 F2 as2 H2 e2 S2 h2 w rw' => ?_⟩
  exact hr _ _ F2 as2 st2 d e v w H2 Q S2 (rv.ext e2) rw' h2
theorem s_bin {m : Bool} {op : Operator} (ha : PE X a (tE X Y W fa)) (hb : PE X b (tE X Y W fb)) : PE X (.BinOp a op b pos) (tE X Y W fun ρ st => (fa ρ st).bind fun x st => (fb ρ st).bind fun y st => binD m op x y st) :=
  impPE (pe_op (op_binD (m := m)) ha hb) fun σ H Q h => go2 (fun CA E F as st d e x y H Q S rd re h => ⟨CA, E, F, as, st, d, e, S, rd, re, h⟩) h
theorem s_neg (ha : PE X a (tE X Y W fa)) : PE X (.UnaryOp .USub a pos) (tE X Y W fun ρ st => (fa ρ st).bind fun x st => match x with
    | .int i => .ok (.int (-i)) st
    | _ => .stuck) := impPE (pe_un un_neg ha) fun σ H Q ⟨P, F, as, ρ, st, S, L, h⟩ => by
  refine ⟨P, F, as, ρ, st, S, L, (Post.bind h).imp fun d st1 F1 as1 H1 e1 S1 h1 v rv => ?_⟩
  split at h1
  · cases rv
    exact ⟨_, rfl, Post.ok S1 h1 _ (.int _)⟩
  · exact h1.elim
theorem cmp_of {CA : Cf} {op : CmpOp} {E : EW} {F : Hp} {as : List Addr} {st : Store} {d e : D} {x y : V} {H : Hp} {Q : VK} (S : StR X.K CA F as st H) (rd : RepD X.K F as d x) (re : RepD X.K F as e y) (h : Post X.K CA E F as (.of ((cmpD op d e st).map .bl) st) (kV1 X.K Q)) : rCmp X.K op x y H Q := by
  obtain ⟨z, hz, k⟩ := Post.of S h
  cases hc : cmpD op d e st with
  | none => rw [hc] at hz; cases hz
  | some c =>
    rw [hc] at hz
    cases hz
    exact ⟨CA, F, as, st, d, e, c, S, rd, re, hc, k _ (.bl c)⟩
theorem hu_of' (D : Sd X Y) : X.A.units + 64 < cLine := D.hr.units
theorem s_cmp (D : Sd X Y) {op : CmpOp} (ha : PE X a (tE X Y W fa)) (hb : PE X b (tE X Y W fb)) (hm : behindInMarks op b = false) : PE X (.Compare a [op] [b] pos) (tE X Y W fun ρ st => (fa ρ st).bind fun x st => (fb ρ st).bind fun y st => .of ((cmpD op x y st).map .bl) st) :=
  impPE (pe_cmpR (op_cmpD (hu_of' D)) ha hb hm) fun σ H Q h => go2 (fun CA E F as st d e x y H Q S rd re h => cmp_of S rd re h) h
theorem go2T {op : CmpOp} {σ : L2.St} {H : Hp} {Q : Bool → Hp → Prop} (h : tT X Y W (fun ρ st => (fa ρ st).bind fun x st => (fb ρ st).bind fun y st => .of (cmpD op x y st) st) σ H Q) : tTest (tOp (rCmp X.K op) (tE X Y W fa) (tE X Y W fb)) σ H Q := by
  obtain ⟨P, F, as, ρ, st, S, L, h⟩ := h
  refine ⟨P, F, as, ρ, st, S, L, (Post.bind h).imp fun d st1 F1 as1 H1 e1 S1 h1 v rv => ?_⟩
  refine ⟨P, F1, as1, ρ, st1, S1, L.ext e1, (Post.bind h1).imp fun e st2 F2 as2 H2 e2 S2 h2 w rw' => ?_⟩
  obtain ⟨c, hc, k⟩ := Post.of S2 h2
  exact ⟨_, F2, as2, st2, d, e, c, S2, rv.ext e2, rw', hc, c, rfl, k⟩
theorem s_cmpT (D : Sd X Y) {op : CmpOp} (ha : PE X a (tE X Y W fa)) (hb : PE X b (tE X Y W fb)) (hm : behindInMarks op b = false) : PT X (.Compare a [op] [b] pos) (tT X Y W fun ρ st => (fa ρ st).bind fun x st => (fb ρ st).bind fun y st => .of (cmpD op x y st) st) :=
  impPT (pt_cmpR (op_cmpD (hu_of' D)) ha hb hm) fun σ H Q h => go2T h
theorem s_chain (D : Sd X Y) {o1 o2 : CmpOp} (ha : PE X a (tE X Y W fa)) (hb : PE X b (tE X Y W fb)) (hc : PE X c (tE X Y W fc)) (hm : lastMarks [o1, o2] [b, c] = false) :
    PE X (.Compare a [o1, o2] [b, c] pos) (tE X Y W fun ρ st => (fa ρ st).bind fun x st => (fb ρ st).bind fun y st => (R.of (cmpD o1 x y st) st).bind fun k st => match k with
      | true => (fc ρ st).bind fun z st => .of ((cmpD o2 y z st).map .bl) st
      | false => .ok (.bl false) st) :=
  impPE (pe_chain (op_cmpD (hu_of' D)) (op_cmpD (hu_of' D)) ha hb hc hm) fun σ H Q ⟨P, F, as, ρ, st, S, L, h⟩ => by
    refine ⟨P, F, as, ρ, st, S, L, (Post.bind h).imp fun d st1 F1 as1 H1 e1 S1 h1 v rv => ?_⟩
    refine ⟨P, F1, as1, ρ, st1, S1, L.ext e1, (Post.bind h1).imp fun e st2 F2 as2 H2 e2 S2 h2 w rw' => ?_⟩
    obtain ⟨k, hk, h3⟩ := Post.of S2 (Post.bind h2)
    refine ⟨_, F2, as2, st2, d, e, k, S2, rv.ext e2, rw', hk, k, rfl, ?_⟩
    cases k with
    | false => exact Post.ok S2 h3 _ (.bl false)
    | true =>
      rw [if_pos rfl]
      refine ⟨P, F2, as2, ρ, st2, S2, (L.ext e1).ext e2, (Post.bind h3).imp fun z st3 F3 as3 H3 e3 S3 h4 u ru => ?_⟩
      exact cmp_of S3 (rw'.ext e3) ru h4
theorem s_chainT (D : Sd X Y) {o1 o2 : CmpOp} (ha : PE X a (tE X Y W fa)) (hb : PE X b (tE X Y W fb)) (hc : PE X c (tE X Y W fc)) (hm : lastMarks [o1, o2] [b, c] = false) :
    PT X (.Compare a [o1, o2] [b, c] pos) (tT X Y W fun ρ st => (fa ρ st).bind fun x st => (fb ρ st).bind fun y st => (R.of (cmpD o1 x y st) st).bind fun k st => match k with
      | true => (fc ρ st).bind fun z st => .of (cmpD o2 y z st) st
      | false => .ok false st) :=
  impPT (pt_chain (op_cmpD (hu_of' D)) (op_cmpD (hu_of' D)) ha hb hc hm) fun σ H Q ⟨P, F, as, ρ, st, S, L, h⟩ => by
    refine ⟨P, F, as, ρ, st, S, L, (Post.bind h).imp fun d st1 F1 as1 H1 e1 S1 h1 v rv => ?_⟩
    refine ⟨P, F1, as1, ρ, st1, S1, L.ext e1, (Post.bind h1).imp fun e st2 F2 as2 H2 e2 S2 h2 w rw' => ?_⟩
    obtain ⟨k, hk, h3⟩ := Post.of S2 (Post.bind h2)
    refine ⟨_, F2, as2, st2, d, e, k, S2, rv.ext e2, rw', hk, k, rfl, ?_⟩
    cases k with
    | false => exact ⟨false, rfl, Post.ok S2 h3⟩
    | true =>
      rw [if_pos rfl]
      refine ⟨P, F2, as2, ρ, st2, S2, (L.ext e1).ext e2, (Post.bind h3).imp fun z st3 F3 as3 H3 e3 S3 h4 u ru => ?_⟩
      obtain ⟨c', hc', k'⟩ := Post.of S3 h4
      exact ⟨_, F3, as3, st3, e, z, c', S3, rw'.ext e3, ru, hc', c', rfl, k'⟩
theorem isN_rep {F : Hp} {as : List Addr} {d : D} {v : V} (r : RepD X.K F as d v) : decide (v = .non) = isNon d := by
  cases r <;> first | rfl | simp
theorem s_isN {j : Nat} {p : Pos} (ha : PE X a (tE X Y W fa)) : PE X (.Compare a [.Is] [.Constant .none j p] pos) (tE X Y W fun ρ st => (fa ρ st).bind fun x st => .ok (.bl (isNon x)) st) := impPE (pe_cmp (pc_isN ha) rfl) fun σ H Q ⟨P, F, as, ρ, st, S, L, h⟩ => by
  refine ⟨P, F, as, ρ, st, S, L, (Post.bind h).imp fun d st1 F1 as1 H1 e1 S1 h1 v rv => ?_⟩
  have k := Post.ok S1 h1 _ (.bl _)
  rw [← isN_rep rv] at k
  exact k
theorem s_isNT {j : Nat} {p : Pos} (ha : PE X a (tE X Y W fa)) : PT X (.Compare a [.Is] [.Constant .none j p] pos) (tT X Y W fun ρ st => (fa ρ st).bind fun x st => .ok (isNon x) st) := impPT (pt_cmp (pc_isN ha) rfl) fun σ H Q ⟨P, F, as, ρ, st, S, L, h⟩ => by
  refine ⟨P, F, as, ρ, st, S, L, (Post.bind h).imp fun d st1 F1 as1 H1 e1 S1 h1 v rv => ?_⟩
  have k := Post.ok S1 h1
  unfold kB at k
  rw [← isN_rep rv] at k
  exact ⟨_, rfl, k⟩
theorem notN_rep {F : Hp} {as : List Addr} {d : D} {v : V} (r : RepD X.K F as d v) : (!decide (v = .non)) = (!isNon d) := by
  cases r <;> first | rfl | simp
theorem s_notN {j : Nat} {p : Pos} (ha : PE X a (tE X Y W fa)) : PE X (.Compare a [.IsNot] [.Constant .none j p] pos) (tE X Y W fun ρ st => (fa ρ st).bind fun x st => .ok (.bl (!isNon x)) st) := impPE (pe_cmp (pc_notN ha) rfl) fun σ H Q ⟨P, F, as, ρ, st, S, L, h⟩ => by
  refine ⟨P, F, as, ρ, st, S, L, (Post.bind h).imp fun d st1 F1 as1 H1 e1 S1 h1 v rv => ?_⟩
  have k := Post.ok S1 h1 _ (.bl _)
  rw [← notN_rep rv] at k
  exact k
theorem s_notNT {j : Nat} {p : Pos} (ha : PE X a (tE X Y W fa)) : PT X (.Compare a [.IsNot] [.Constant .none j p] pos) (tT X Y W fun ρ st => (fa ρ st).bind fun x st => .ok (!isNon x) st) := impPT (pt_cmp (pc_notN ha) rfl) fun σ H Q ⟨P, F, as, ρ, st, S, L, h⟩ => by
  refine ⟨P, F, as, ρ, st, S, L, (Post.bind h).imp fun d st1 F1 as1 H1 e1 S1 h1 v rv => ?_⟩
  have k := Post.ok S1 h1
  unfold kB at k
  rw [← notN_rep rv] at k
  exact ⟨_, rfl, k⟩
/-! ### truth, and, or, not -/
theorem tru_rep {CA : Cf} {F : Hp} {as : List Addr} {st : Store} {H : Hp} {d : D} {v : V} {k : Bool} (S : StR X.K CA F as st H) (r : RepD X.K F as d v) (h : truD st d = some k) : TruV X.K v H k := by
  unfold truD at h
  split at h
  · rename_i e; cases h; have q : v = .non := r.seqV S e; subst q; rfl
  · rename_i e; cases h; have q : v = .bl _ := r.seqV S e; subst q; rfl
  · rename_i e; cases h; have q : v = .int _ := r.seqV S e; subst q; rfl
  · rename_i s e
    cases h
    obtain ⟨rfl, hl⟩ := (r.seqV S e : v = .str (sO s) ∧ s.length ≤ line)
    refine ⟨by rw [sO_len, sizeLine_line]; exact hl, ?_⟩
    rw [sO_len]
    cases s <;> simp
    omega
  · rename_i xs e
    cases h
    obtain ⟨a, vs, rfl, t, q⟩ := r.seqV S e
    refine .inr (.inl ⟨vs, t, ?_⟩)
    cases q <;> rfl
  · rename_i xs e
    cases h
    obtain ⟨a, vs, rfl, t, q⟩ := r.seqV S e
    refine .inl ⟨vs, SqL.of t, ?_⟩
    cases q <;> rfl
  · cases h
theorem s_val (ha : PE X a (tE X Y W fa)) (he : ∀ whole, isTrue a X.env whole = (do let v ← whole; standAt a.pos; holding [v] (truthy v))) : PT X a (tT X Y W fun ρ st => (fa ρ st).bind fun x st => .of (truD st x) st) :=
  impPT (pt_truth ha he) fun σ H Q ⟨P, F, as, ρ, st, S, L, h⟩ => by
    refine ⟨P, F, as, ρ, st, S, L, (Post.bind h).imp fun d st1 F1 as1 H1 e1 S1 h1 v rv => ?_⟩
    obtain ⟨k, hk, q⟩ := Post.of S1 h1
    exact ⟨k, tru_rep S1 rv hk, q⟩
end
end
end MP
end
section
set_option linter.all false
set_option Elab.async false
set_option maxRecDepth 100000
set_option maxHeartbeats 2000000
namespace MP
open PySem PySem.Spec PyProof.Rows L2 PySem.W
section
variable {X : Cx} {Y : Wd} {W : WX} {a b c o e : Expr} {es : List Expr} {fa fb fc fr : Env → Store → R D} {ft fu : Env → Store → R Bool} {fs : Env → Store → R (List D)} {pos apos : Pos}
/-! ### not, and, or -/
theorem s_not (ha : PE X a (tE X Y W fa)) : PE X (.UnaryOp .Not a pos) (tE X Y W fun ρ st => (fa ρ st).bind fun x st => .of ((truD st x).map fun b => .bl (!b)) st) :=
  impPE (pe_notT ha) fun σ H Q ⟨P, F, as, ρ, st, S, L, h⟩ => by
    refine ⟨P, F, as, ρ, st, S, L, (Post.bind h).imp fun d st1 F1 as1 H1 e1 S1 h1 v rv => ?_⟩
    obtain ⟨z, hz, q⟩ := Post.of S1 h1
    cases hk : truD st1 d with
    | none => rw [hk] at hz; cases hz
    | some k =>
      rw [hk] at hz
      cases hz
      exact ⟨k, tru_rep S1 rv hk, q _ (.bl _)⟩
theorem s_and1 {op : BoolOp} (ha : PE X a (tE X Y W fa)) : PE X (.BoolOp op [a] pos) (tE X Y W fa) := pe_one ha
theorem s_and (ha : PE X a (tE X Y W fa)) (hb : PE X (.BoolOp .And (b :: es) pos) (tE X Y W fr)) : PE X (.BoolOp .And (a :: b :: es) pos) (tE X Y W fun ρ st => (fa ρ st).bind fun x st => (R.of (truD st x) st).bind fun k st => match k with
    | true => fr ρ st
    | false => .ok x st) :=
  impPE (pe_andT ha hb) fun σ H Q ⟨P, F, as, ρ, st, S, L, h⟩ => by
    refine ⟨P, F, as, ρ, st, S, L, (Post.bind h).imp fun d st1 F1 as1 H1 e1 S1 h1 v rv => ?_⟩
    obtain ⟨k, hk, q⟩ := Post.of S1 (Post.bind h1)
    refine ⟨k, tru_rep S1 rv hk, ?_⟩
    cases k with
    | true => rw [if_pos rfl]; exact ⟨P, F1, as1, ρ, st1, S1, L.ext e1, q⟩
    | false => rw [if_neg Bool.false_ne_true]; exact Post.ok S1 q _ rv
theorem s_or (ha : PE X a (tE X Y W fa)) (hb : PE X (.BoolOp .Or (b :: es) pos) (tE X Y W fr)) : PE X (.BoolOp .Or (a :: b :: es) pos) (tE X Y W fun ρ st => (fa ρ st).bind fun x st => (R.of (truD st x) st).bind fun k st => match k with
    | true => .ok x st
    | false => fr ρ st) :=
  impPE (pe_orT ha hb) fun σ H Q ⟨P, F, as, ρ, st, S, L, h⟩ => by
    refine ⟨P, F, as, ρ, st, S, L, (Post.bind h).imp fun d st1 F1 as1 H1 e1 S1 h1 v rv => ?_⟩
    obtain ⟨k, hk, q⟩ := Post.of S1 (Post.bind h1)
    refine ⟨k, tru_rep S1 rv hk, ?_⟩
    cases k with
    | true => rw [if_pos rfl]; exact Post.ok S1 q _ rv
    | false => rw [if_neg Bool.false_ne_true]; exact ⟨P, F1, as1, ρ, st1, S1, L.ext e1, q⟩
/-- tests -/
theorem s_notT (ha : PT X a (tT X Y W ft)) : PT X (.UnaryOp .Not a pos) (tT X Y W fun ρ st => (ft ρ st).bind fun k st => .ok (!k) st) :=
  impPT (pt_not ha) fun σ H Q ⟨P, F, as, ρ, st, S, L, h⟩ => by
    refine ⟨P, F, as, ρ, st, S, L, (Post.bind h).imp fun k st1 F1 as1 H1 e1 S1 h1 => ?_⟩
    exact Post.okB S1 h1
theorem s_and1W (ha : PT X a (tT X Y W ft)) : PW X (.BoolOp .And [a] pos) (tT X Y W ft) := pw_and1 ha
theorem s_or1W (ha : PT X a (tT X Y W ft)) : PW X (.BoolOp .Or [a] pos) (tT X Y W ft) := pw_or1 ha
theorem s_andW (ha : PT X a (tT X Y W ft)) (hb : PW X (.BoolOp .And (b :: es) pos) (tT X Y W fu)) : PW X (.BoolOp .And (a :: b :: es) pos) (tT X Y W fun ρ st => (ft ρ st).bind fun k st => match k with
    | true => fu ρ st
    | false => .ok false st) :=
  impPW (pw_and ha hb) fun σ H Q ⟨P, F, as, ρ, st, S, L, h⟩ => by
    refine ⟨P, F, as, ρ, st, S, L, (Post.bind h).imp fun k st1 F1 as1 H1 e1 S1 h1 => ?_⟩
    show if k = true then _ else _
    cases k with
    | true => rw [if_pos rfl]; exact ⟨P, F1, as1, ρ, st1, S1, L.ext e1, h1⟩
    | false => rw [if_neg Bool.false_ne_true]; exact Post.okB S1 h1
theorem s_orW (ha : PT X a (tT X Y W ft)) (hb : PW X (.BoolOp .Or (b :: es) pos) (tT X Y W fu)) : PW X (.BoolOp .Or (a :: b :: es) pos) (tT X Y W fun ρ st => (ft ρ st).bind fun k st => match k with
    | true => .ok true st
    | false => fu ρ st) :=
  impPW (pw_or ha hb) fun σ H Q ⟨P, F, as, ρ, st, S, L, h⟩ => by
    refine ⟨P, F, as, ρ, st, S, L, (Post.bind h).imp fun k st1 F1 as1 H1 e1 S1 h1 => ?_⟩
    show if k = true then _ else _
    cases k with
    | true => rw [if_pos rfl]; exact Post.okB S1 h1
    | false => rw [if_neg Bool.false_ne_true]; exact ⟨P, F1, as1, ρ, st1, S1, L.ext e1, h1⟩
theorem s_ife (hc : PT X c (tT X Y W ft)) (ha : PE X a (tE X Y W fa)) (hb : PE X b (tE X Y W fb)) : PE X (.IfExp c a b pos) (tE X Y W fun ρ st => (ft ρ st).bind fun k st => match k with
    | true => fa ρ st
    | false => fb ρ st) :=
  impPE (pe_ifExp hc ha hb) fun σ H Q ⟨P, F, as, ρ, st, S, L, h⟩ => by
    refine ⟨P, F, as, ρ, st, S, L, (Post.bind h).imp fun k st1 F1 as1 H1 e1 S1 h1 => ?_⟩
    show if k = true then _ else _
    cases k with
    | true => rw [if_pos rfl]; exact ⟨P, F1, as1, ρ, st1, S1, L.ext e1, h1⟩
    | false => rw [if_neg Bool.false_ne_true]; exact ⟨P, F1, as1, ρ, st1, S1, L.ext e1, h1⟩

/-! ### argument lists, displays -/
theorem s_nil : PA X [] (tA X Y W fun _ st => .ok [] st) := impPA pa_nil fun σ H Q ⟨P, F, as, ρ, st, S, L, h⟩ => Post.ok S h _ .nil
theorem s_cons (hn : noStar e = true) (he : PE X e (tE X Y W fa)) (hs : PA X es (tA X Y W fs)) : PA X (e :: es) (tA X Y W fun ρ st => (fa ρ st).bind fun d st => (fs ρ st).bind fun ds st => .ok (d :: ds) st) :=
  impPA (pa_cons he hs (star_eq hn)) fun σ H Q ⟨P, F, as, ρ, st, S, L, h⟩ => by
    refine ⟨P, F, as, ρ, st, S, L, (Post.bind h).imp fun d st1 F1 as1 H1 e1 S1 h1 v rv => ?_⟩
    refine ⟨P, F1, as1, ρ, st1, S1, L.ext e1, (Post.bind h1).imp fun ds st2 F2 as2 H2 e2 S2 h2 vs rvs => ?_⟩
    exact Post.ok S2 h2 _ (.cons (rv.ext e2) rvs)
/-- the values of an argument list are as many as it has -/
theorem evEs_len {Φ : MP.Key → List D → Store → R D} {G : Gb} : ∀ (es : Exs) (ρ : Env) (st st' : Store) (ds : List D), evEs Φ G es ρ st = .ok ds st' → ds.length = exsLen es
  | .nil, ρ, st, st', ds, h => by
    simp only [evEs] at h
    cases h
    rfl
  | .cons e es, ρ, st, st', ds, h => by
    simp only [evEs] at h
    cases h1 : evE Φ G e ρ st with
    | ok d st1 =>
      rw [h1] at h
      simp only [R.bind] at h
      cases h2 : evEs Φ G es ρ st1 with
      | ok ds2 st2 =>
        rw [h2] at h
        simp only at h
        cases h
        rw [List.length_cons, evEs_len es ρ st1 _ ds2 h2]
        rfl
      | exc _ _ _ => rw [h2] at h; cases h
      | stuck => rw [h2] at h; cases h
    | exc _ _ _ => rw [h1] at h; cases h
    | stuck => rw [h1] at h; cases h
theorem Post.len {K : Fr} {CA : Cf} {E : EW} {F : Hp} {as : List Addr} {r : R (List D)} {k : KW (List D)} {n : Nat} (hn : ∀ ds st, r = .ok ds st → ds.length = n) (h : Post K CA E F as r k) : Post K CA E F as r fun ds st F' as' H' => ds.length = n ∧ k ds st F' as' H' := by
  cases r with
  | ok ds st => exact fun F' as' H' e s => ⟨hn ds st rfl, h F' as' H' e s⟩
  | exc _ _ _ => exact h
  | stuck => exact h
theorem s_tup {x1 : Nat} {n : Nat} (hl : n ≤ line) (hn : ∀ ρ st ds st', fs ρ st = .ok ds st' → ds.length = n) (hs : PA X es (tA X Y W fs)) : PE X (.Tuple es x1 pos) (tE X Y W fun ρ st => (fs ρ st).bind fun ds st => .ok (.tup ds) st) :=
  impPE (pe_tup hs) fun σ H Q ⟨P, F, as, ρ, st, S, L, h⟩ => by
    refine ⟨P, F, as, ρ, st, S, L, (Post.len (hn ρ st) (Post.bind h)).imp fun ds st1 F1 as1 H1 e1 S1 h1 vs rvs => ⟨?_, fun p hp => h1.2.tup S1 rvs hp⟩⟩
    rw [← rvs.length, h1.1, sizeLine_line]
    exact hl
theorem s_lst {m : Bool} {n : Nat} (hl : n ≤ line) (hn : ∀ ρ st ds st', fs ρ st = .ok ds st' → ds.length = n) (hs : PA X es (tA X Y W fs)) : PE X (.List es pos) (tE X Y W fun ρ st => (fs ρ st).bind fun ds st => newL m ds st) :=
  impPE (pe_lst hs) fun σ H Q ⟨P, F, as, ρ, st, S, L, h⟩ => by
    refine ⟨P, F, as, ρ, st, S, L, (Post.len (hn ρ st) (Post.bind h)).imp fun ds st1 F1 as1 H1 e1 S1 h1 vs rvs => ⟨?_, fun p hp => h1.2.newL S1 rvs hp⟩⟩
    rw [← rvs.length, h1.1, sizeLine_line]
    exact hl
theorem s_idx (ha : PE X a (tE X Y W fa)) (hb : PE X b (tE X Y W fb)) (hp : plainIx b = true) : PE X (.Subscript a b pos) (tE X Y W fun ρ st => (fa ρ st).bind fun x st => (fb ρ st).bind fun y st => .of (idxD x y st) st) :=
  impPE (pe_ix ix_idx ha hb (plainIx_ok hp)) fun σ H Q h => go2 (fun CA E F as st d e x y H Q S rd re h => by
    obtain ⟨z, hz, q⟩ := Post.of S h
    exact ⟨CA, F, as, st, d, e, z, S, rd, re, hz, q⟩) h
/-! ### slices -/
def tO (X : Cx) (Y : Wd) (W : WX) (f : Env → Store → R (Option Int)) : TO := fun σ H Q => ∃ P F as ρ st, StR X.K ⟨Y.CA, P⟩ F as st H ∧ SlR X.K F as ρ σ ∧ Post X.K ⟨Y.CA, P⟩ (ExW X.K Y.EF W σ) F as (f ρ st) fun o _ F' as' H' => Q o H'
theorem impPO {X : Cx} {e : Option Expr} {t t' : TO} (h : PO X e t) (i : ∀ σ H Q, t' σ H Q → t σ H Q) : PO X e t' := ⟨fun pins s σ H Q I q => h.run pins s σ H Q I (i _ _ _ q)⟩
theorem s_part0 : PO X none (tO X Y W fun _ st => (R.ok ([] : List D) st).bind fun l st => .of (partI l) st) := impPO po_none fun σ H Q ⟨P, F, as, ρ, st, S, L, h⟩ => h F as H Ext.refl S
theorem s_part1 (he : PE X e (tE X Y W fa)) : PO X (some e) (tO X Y W fun ρ st => ((fa ρ st).bind fun d st => (R.ok ([] : List D) st).bind fun ds st => .ok (d :: ds) st).bind fun l st => .of (partI l) st) := impPO (po_some he) fun σ H Q ⟨P, F, as, ρ, st, S, L, h⟩ => by
  refine ⟨P, F, as, ρ, st, S, L, (Post.bind (Post.bind h)).imp fun d st1 F1 as1 H1 e1 S1 h1 v rv => ?_⟩
  have h2 := h1 F1 as1 H1 Ext.refl S1
  obtain ⟨o, ho, q⟩ := Post.of S1 h2
  unfold partI at ho
  split at ho
  · rename_i z; cases z
  · rename_i i z
    cases z
    cases ho
    cases rv
    exact ⟨i, rfl, q⟩
  · cases ho
theorem s_slice {m : Bool} {lo hi : Option Expr} {p2 : Pos} {fl fh : Env → Store → R (Option Int)} (ha : PE X a (tE X Y W fa)) (hl : PO X lo (tO X Y W fl)) (hh : PO X hi (tO X Y W fh)) :
    PE X (.Subscript a (.Slice lo hi none p2) pos) (tE X Y W fun ρ st => (fa ρ st).bind fun x st => (fl ρ st).bind fun l st => (fh ρ st).bind fun h st => sliceD m x l h st) :=
  impPE (pe_slice (sl_slice (m := m)) ha hl hh) fun σ H Q ⟨P, F, as, ρ, st, S, L, h⟩ => by
    refine ⟨P, F, as, ρ, st, S, L, (Post.bind h).imp fun d st1 F1 as1 H1 e1 S1 h1 v rv => ?_⟩
    refine ⟨P, F1, as1, ρ, st1, S1, L.ext e1, (Post.bind h1).imp fun l st2 F2 as2 H2 e2 S2 h2 => ?_⟩
    refine ⟨P, F2, as2, ρ, st2, S2, (L.ext e1).ext e2, (Post.bind h2).imp fun u st3 F3 as3 H3 e3 S3 h3 => ?_⟩
    exact ⟨_, _, F3, as3, st3, d, S3, (rv.ext e2).ext e3, h3⟩
/-! ### fields -/
theorem s_fld (D : Sd X Y) {f : String} {x : Str} (hx : x = Str.ofString f) (hf : f ∈ Y.tb.flds) (ha : PE X a (tE X Y W fa)) (hb : plainBase a = true) : PE X (.Attribute a x pos) (tE X Y W fun ρ st => (fa ρ st).bind fun x st => .of (getFld x f st) st) := by
  subst hx
  refine impPE (pe_fld ha (base_ok hb)) fun σ H Q ⟨P, F, as, ρ, st, S, L, h⟩ => ?_
  refine ⟨P, F, as, ρ, st, S, L, (Post.bind h).imp fun d st1 F1 as1 H1 e1 S1 h1 v rv => ?_⟩
  obtain ⟨z, hz, q⟩ := Post.of S1 h1
  cases rv with
  | ref hk =>
    rename_i k ad
    obtain ⟨c, hc, cr⟩ := S1.at_ hk
    simp only [getFld, hc] at hz
    cases cr with
    | lst _ _ => cases hz
    | ins hca hH hF =>
      obtain ⟨w, hw, rw'⟩ := (FldR.get (f := f) hF).1 z hz
      obtain ⟨c1, c2⟩ := D.cl _ _ hca
      exact ⟨ad, _, _, _, w, rfl, hH, c1, c2 f hf, hw, q w rw'⟩
  | _ => cases hz
/-! ### built-ins -/
theorem s_bltB (D : Sd X Y) {bl : Blt} {id : String} {x : Str} {p : Pos} (hr : CallR X (.builtin id) (rBlt X.K bl)) (hg : Gl X x) (hm : X.mg x = none) (hv : bootBuiltins x = some (.builtin id)) (hn : okName x = true) (hs : (e :: es).all noStar = true) (ha : PA X (e :: es) (tA X Y W fs)) :
    PE X (.Call (.Name x p) (e :: es) [] pos) (tE X Y W fun ρ st => (fs ρ st).bind fun ds st => bltD bl ds st) := by
  obtain ⟨n1, n2, n3⟩ := okName_ok hn
  rw [List.all_cons, Bool.and_eq_true] at hs
  refine impPE (pe_callB hr hg hm hv ha n3 n1 (star_eq hs.1) (star_any hs.2)) fun σ H Q ⟨P, F, as, ρ, st, S, L, h⟩ => ?_
  exact ⟨P, F, as, ρ, st, S, L, (Post.bind h).imp fun ds st1 F1 as1 H1 e1 S1 h1 vs rvs => ⟨_, _, F1, as1, st1, ds, S1, rvs, h1⟩⟩
theorem s_bltT (D : Sd X Y) {bl : Blt} {T : String} {x : Str} {p : Pos} (hr : CallR X (.type T) (rBlt X.K bl)) (hg : Gl X x) (hm : X.mg x = none) (hv : bootBuiltins x = some (.type T)) (hn : okName x = true) (hs : (e :: es).all noStar = true) (ha : PA X (e :: es) (tA X Y W fs)) :
    PE X (.Call (.Name x p) (e :: es) [] pos) (tE X Y W fun ρ st => (fs ρ st).bind fun ds st => bltD bl ds st) := by
  obtain ⟨n1, n2, n3⟩ := okName_ok hn
  rw [List.all_cons, Bool.and_eq_true] at hs
  refine impPE (pe_callTy hr hg hm hv ha n3 n1 (star_eq hs.1) (star_any hs.2)) fun σ H Q ⟨P, F, as, ρ, st, S, L, h⟩ => ?_
  exact ⟨P, F, as, ρ, st, S, L, (Post.bind h).imp fun ds st1 F1 as1 H1 e1 S1 h1 vs rvs => ⟨_, _, F1, as1, st1, ds, S1, rvs, h1⟩⟩
end
end MP
end
section
set_option linter.all false
set_option Elab.async false
set_option maxRecDepth 100000
set_option maxHeartbeats 2000000
namespace MP
open PySem PySem.Spec PyProof.Rows L2 PySem.W
theorem Post.notStuck {K : Fr} {CA : Cf} {E : EW} {α : Type} {F : Hp} {as : List Addr} {r : R α} {k : KW α} (h : Post K CA E F as r k) : r ≠ .stuck := by
  intro e
  subst e
  exact h
/-- a new instance, what is raised being wished for at the caller's slots -/
theorem run_makeS {X : Cx} {k : Nat} {C f : Addr} {fd : FuncData} {ps : List Str} {sp : Sp} {E : L2.St → XK} {pins : List (Addr × Obj)} {σ : L2.St} {H : Hp} {s : Shared} {Q : VK} {us : List Value} {vs : List V} (M : Mk X.K C f) (G : FnOk X.prog X.w X.K X.mg X.base (L2.CX X.prog X.w) k f fd ps sp)
    (hr : Room (k + 1) X.A) (hb : Binds X.K fd ps []) (hx : PassesAt (L2.CX X.prog X.w) X σ (E σ)) (I : Inv X pins σ H s) (r : Vals vs us)
    (h : ∀ x dx, H x = none → H dx = none → dx ≠ x → sp (.ref x :: vs) (upd (upd H dx (.own x)) x (.ins C dx [])) (fun v H2 => v = .non ∧ Q (.ref x) H2) (E σ)) :
    wpAny (model X.prog X.w) X.A (call (.ref C) us) (EP X pins σ Q) X.xe s := by
  have hq := h (s.heap.objs.size + 1) s.heap.objs.size (I.hok.fresh (Nat.le_succ _)) (I.hok.fresh (Nat.le_refl _)) (Nat.ne_of_lt (Nat.lt_succ_self _))
  have I2 := Inv.made (C := C) I
  have r2 : Vals (V.ref (s.heap.objs.size + 1) :: vs) (Value.ref (s.heap.objs.size + 1) :: us) := .cons rfl r
  have hl : (Value.ref (s.heap.objs.size + 1) :: us).length = ps.length := by
    have e := r2.length
    rw [G.len _ _ _ _ hq] at e
    exact e.symm
  have b2 := hb _ (Value.ref (s.heap.objs.size + 1) :: us) I2.kIn (by rw [List.append_nil]; exact hl)
  rw [List.append_nil] at b2
  refine wpAny_call (make_map (f := f) I.kIn M.makes M.init (beq_iff_eq.mp M.fn) (codeAny_mono (G.run _ X.stack _ _ ⟨Value.ref (s.heap.objs.size + 1) :: us, []⟩ (Value.ref (s.heap.objs.size + 1) :: us) _ _ (E σ) (hr.make C us [])
    (I2.env0.make C us []) b2 r2 hq) fun r s' hq' => ?_))
  cases r with
  | error e => exact hx pins _ _ e s' I2 hq'
  | ok fl =>
    cases fl with
    | ret u =>
      obtain ⟨v, H', I3, rv, ev, q3⟩ := I2.after hq'
      subst ev
      exact ⟨rv, ⟨V.ref (s.heap.objs.size + 1), H', I3, rfl, q3⟩⟩
    | next => exact False.elim hq'
    | brk => exact False.elim hq'
    | cont => exact False.elim hq'
section
variable {X : Cx} {Y : Wd} {W : WX} {a b c o e : Expr} {es : List Expr} {fa fb fc fr : Env → Store → R D} {ft fu : Env → Store → R Bool} {fs : Env → Store → R (List D)} {pos apos : Pos}
theorem fnM_spec {X : Cx} {Y : Wd} {P : Hp} {k : MP.Key} {ps : List Str} {E : XK} {F : Hp} {as : List Addr} {st : Store} {H : Hp} {ds : List D} {vs : List V} {Q : VK} (hl : ∀ ds st, Y.Φ k ds st ≠ .stuck → ds.length = ps.length)
    (S : StR X.K ⟨Y.CA, P⟩ F as st H) (r : RepDs X.K F as ds vs) (h : Post X.K ⟨Y.CA, P⟩ (ExF X.K Y.EF E) F as (Y.Φ k ds st) (kV1 X.K Q)) : spM X.K Y.CA Y.EF (Y.Φ k) ps.length vs H Q E :=
  ⟨by rw [← r.length]; exact hl _ _ h.notStuck, P, F, as, st, ds, S, r, h⟩
theorem s_call (D : Sd X Y) (tk : Takes X W) {f : String} {x : Str} {p : Pos} (hx : x = Str.ofString f) (hf : f ∈ Y.tb.fns) (hg : Gl X x) (hn : okName x = true) (hs : (e :: es).all noStar = true) (ha : PA X (e :: es) (tA X Y W fs)) :
    PE X (.Call (.Name x p) (e :: es) [] pos) (tE X Y W fun ρ st => (fs ρ st).bind fun ds st => Y.Φ (.fn f) ds st) := by
  subst hx
  obtain ⟨ad, hm, kp, fd, ps, hb, hl, G⟩ := D.fn f hf
  obtain ⟨n1, n2, n3⟩ := okName_ok hn
  have hr : Room Y.lv X.A := D.hr.mono (Nat.le_succ _)
  refine ⟨fun pins s σ H Q I ⟨P, F, as, ρ, st, S, L, h⟩ => ?_⟩
  have h2 : tA X Y W fs σ H fun vs H1 => spM X.K Y.CA Y.EF (Y.Φ (.fn f)) ps.length vs H1 Q (WE W σ) :=
    ⟨P, F, as, ρ, st, S, L, (Post.bind h).imp fun ds st1 F1 as1 H1 e1 S1 h1 vs rvs => fnM_spec hl S1 rvs h1⟩
  refine wpAny_Call_Name_kw (ld_glob I hg hm ?_ n1)
  rw [List.all_cons, Bool.and_eq_true] at hs
  refine PySem.W.callWith_K (h₀ := X.base) I.ok.mod.kin kp (thn (ha.run pos pins s σ H _ I h2) fun us s1 ⟨vs, H1, I1, r, q⟩ => ⟨I1.kIn, ?_⟩) (star_eq hs.1) (star_any hs.2)
  exact run_fnS G hr hb (passAt tk σ) I1 r q
theorem s_call0 (D : Sd X Y) (tk : Takes X W) {f : String} {x : Str} {p : Pos} (hx : x = Str.ofString f) (hf : f ∈ Y.tb.fns) (hg : Gl X x) (hn : okName x = true) :
    PE X (.Call (.Name x p) [] [] pos) (tE X Y W fun ρ st => (R.ok [] st).bind fun ds st => Y.Φ (.fn f) ds st) := by
  subst hx
  obtain ⟨ad, hm, kp, fd, ps, hb, hl, G⟩ := D.fn f hf
  obtain ⟨n1, n2, n3⟩ := okName_ok hn
  have hr : Room Y.lv X.A := D.hr.mono (Nat.le_succ _)
  refine ⟨fun pins s σ H Q I ⟨P, F, as, ρ, st, S, L, h⟩ => ?_⟩
  refine wpAny_Call_Name_kw (ld_glob I hg hm ?_ n1)
  exact PySem.W.callWith_K0 I.kIn kp (run_fnS (us := []) G hr hb (passAt tk σ) I .nil (fnM_spec hl S .nil h))
/-- a class's instance, by its __init__ -/
theorem made_rep {P : Hp} {σ : L2.St} {F : Hp} {as : List Addr} {st : Store} {H : Hp} {c : String} {C : Addr} {ps : List Str} {ds : List D} {vs : List V} {Q : VK} (hc : Y.CA c = some C) (hl : ∀ ds st, Y.Φ (.mt c "__init__") ds st ≠ .stuck → ds.length = ps.length)
    (S : StR X.K ⟨Y.CA, P⟩ F as st H) (r : RepDs X.K F as ds vs) (h : Post X.K ⟨Y.CA, P⟩ (ExW X.K Y.EF W σ) F as (makeD Y.Φ c ds st) (kV1 X.K Q)) :
    ∀ x dx, H x = none → H dx = none → dx ≠ x → spM X.K Y.CA Y.EF (Y.Φ (.mt c "__init__")) ps.length (.ref x :: vs) (upd (upd H dx (.own x)) x (.ins C dx [])) (fun v H2 => v = .non ∧ Q (.ref x) H2) (WE W σ) := by
  intro x dx hx hdx hne
  obtain ⟨S1, e1⟩ := S.froze (o := .own x) hdx
  have hx1 : upd H dx (.own x) x = none := by rw [upd_ne (Ne.symm hne)]; exact hx
  obtain ⟨S2, e2⟩ := S1.newCell (o := .ins C dx []) (c := .ins c []) hx1 (.ins hc upd_same .nil)
  have hk : (as ++ [x])[st.length]? = some x := by
    rw [← S.len, List.getElem?_append_right (Nat.le_refl _), Nat.sub_self]
    rfl
  have e12 := e1.trans e2
  unfold makeD at h
  have h2 := (Post.bind h).ext e12
  refine fnM_spec hl S2 (.cons (.ref hk) (r.ext e12)) (h2.imp fun d st' F' as' H' e' S' h' v rv => ?_)
  split at h'
  · cases rv
    refine ⟨rfl, Post.ok S' h' _ (.ref ?_)⟩
    obtain ⟨bs, eb⟩ := e'.more
    rw [eb]
    exact get_app hk
  · exact h'.elim
theorem s_make (D : Sd X Y) (tk : Takes X W) {c : String} {x : Str} {p : Pos} (hx : x = Str.ofString c) (hf : c ∈ Y.tb.cls) (hg : Gl X x) (hn : okName x = true) (hs : (e :: es).all noStar = true) (ha : PA X (e :: es) (tA X Y W fs)) :
    PE X (.Call (.Name x p) (e :: es) [] pos) (tE X Y W fun ρ st => (fs ρ st).bind fun ds st => makeD Y.Φ c ds st) := by
  subst hx
  obtain ⟨C, ad, hc, hm, M, fd, ps, hb, hl, G⟩ := D.mkr c hf
  obtain ⟨n1, n2, n3⟩ := okName_ok hn
  refine ⟨fun pins s σ H Q I ⟨P, F, as, ρ, st, S, L, h⟩ => ?_⟩
  have h2 : tA X Y W fs σ H fun vs H1 => ∀ x dx, H1 x = none → H1 dx = none → dx ≠ x → spM X.K Y.CA Y.EF (Y.Φ (.mt c "__init__")) ps.length (.ref x :: vs) (upd (upd H1 dx (.own x)) x (.ins C dx [])) (fun v H2 => v = .non ∧ Q (.ref x) H2) (WE W σ) :=
    ⟨P, F, as, ρ, st, S, L, (Post.bind h).imp fun ds st1 F1 as1 H1 e1 S1 h1 vs rvs => made_rep hc hl S1 rvs h1⟩
  refine wpAny_Call_Name_kw (ld_glob I hg hm ?_ n1)
  rw [List.all_cons, Bool.and_eq_true] at hs
  refine PySem.W.callWith_K (h₀ := X.base) I.ok.mod.kin M.kp (thn (ha.run pos pins s σ H _ I h2) fun us s1 ⟨vs, H1, I1, r, q⟩ => ⟨I1.kIn, ?_⟩) (star_eq hs.1) (star_any hs.2)
  exact run_makeS M G D.hr hb (passAt tk σ) I1 r q
theorem s_make0 (D : Sd X Y) (tk : Takes X W) {c : String} {x : Str} {p : Pos} (hx : x = Str.ofString c) (hf : c ∈ Y.tb.cls) (hg : Gl X x) (hn : okName x = true) :
    PE X (.Call (.Name x p) [] [] pos) (tE X Y W fun ρ st => (R.ok [] st).bind fun ds st => makeD Y.Φ c ds st) := by
  subst hx
  obtain ⟨C, ad, hc, hm, M, fd, ps, hb, hl, G⟩ := D.mkr c hf
  obtain ⟨n1, n2, n3⟩ := okName_ok hn
  refine ⟨fun pins s σ H Q I ⟨P, F, as, ρ, st, S, L, h⟩ => ?_⟩
  refine wpAny_Call_Name_kw (ld_glob I hg hm ?_ n1)
  exact PySem.W.callWith_K0 I.kIn M.kp (run_makeS (us := []) M G D.hr hb (passAt tk σ) I .nil (made_rep hc hl S .nil h))

/-! ### methods -/
theorem meth_ht {m : Str} {args : List Expr} {env : PySem.Env} (hb : plainBase o = true) (hs : args.all noStar = true) (hn : args.length < 29) (hl : (apos.endLine == pos.line) = true) :
    eval (.Call (.Attribute o m apos) args [] pos) env = (do
      let ov ← eval o env
      standAt apos.atName
      let (f, first) ← holding [ov] (getMethod ov m (do return (← importBound o env).getD true))
      callWith pos f first (backTo pos (starEach args env)) (backToKw pos (keywordEach [] env))) := by
  have hf : methodCallForm (args.length + ([] : List Keyword).length) (backTo pos (starEach args env)) (backToKw pos (keywordEach [] env)) = true := by
    unfold methodCallForm
    rw [star_all hs]
    show (true && true && decide (args.length + 0 + 0 < 30)) = true
    rw [decide_eq_true (by omega)]
    rfl
  show (do
    let ov ← attributeBase o m env (eval o env)
    standAt apos.atName
    methodCall o m apos pos env ov (args.length + ([] : List Keyword).length) (backTo pos (starEach args env)) (backToKw pos (keywordEach [] env))) = _
  rw [base_ok hb]
  unfold methodCall methodCallPos calleeOf
  rw [hf, hl]
  rfl
/-- the object of a method's call: an instance of a known class -/
theorem obj_of (D : Sd X Y) {P : Hp} {F : Hp} {as : List Addr} {st : Store} {H : Hp} {d : MP.D} {v : V} {m c : String} (S : StR X.K ⟨Y.CA, P⟩ F as st H) (r : RepD X.K F as d v) (h : clsOf Y.G m d st = some c) :
    ∃ a C dx fs f, v = .ref a ∧ H a = some (.ins C dx fs) ∧ fs.lookup (Str.ofString m) = none ∧ Cls X.K C ∧ Meth X.K C (Str.ofString m) f ∧ FnM X Y (.mt c m) f := by
  cases r with
  | ref hk =>
    rename_i k ad
    obtain ⟨cl, hc, cr⟩ := S.at_ hk
    simp only [clsOf, hc] at h
    cases cr with
    | lst _ _ => cases h
    | ins hca hH hF =>
      simp only at h
      split at h
      · rename_i q
        cases h
        obtain ⟨f, hm, hf⟩ := D.mt _ _ _ hca q.2
        exact ⟨ad, _, _, _, f, rfl, hH, (FldR.get (f := m) hF).2 (by simpa using q.1), (D.cl _ _ hca).1, hm, hf⟩
      · cases h
  | _ => cases h
theorem s_meth (D : Sd X Y) (tk : Takes X W) {m : String} {x : Str} (hx : x = Str.ofString m) (hb : plainBase o = true) (hs : (e :: es).all noStar = true) (hn : (e :: es).length < 29) (hl : (apos.endLine == pos.line) = true)
    (ho : PE X o (tE X Y W fa)) (ha : PA X (e :: es) (tA X Y W fs)) :
    PE X (.Call (.Attribute o x apos) (e :: es) [] pos) (tE X Y W fun ρ st => (fa ρ st).bind fun x st => (R.of (clsOf Y.G m x st) st).bind fun c st => (fs ρ st).bind fun ds st => Y.Φ (.mt c m) (x :: ds) st) := by
  subst hx
  refine ⟨fun pins s σ H Q I ⟨P, F, as, ρ, st, S, L, h⟩ => ?_⟩
  have hr : Room Y.lv X.A := D.hr.mono (Nat.le_succ _)
  have h2 : tE X Y W fa σ H fun v H1 => ∃ P F as ρ st d c, StR X.K ⟨Y.CA, P⟩ F as st H1 ∧ SlR X.K F as ρ σ ∧ RepD X.K F as d v ∧ clsOf Y.G m d st = some c ∧ Post X.K ⟨Y.CA, P⟩ (ExW X.K Y.EF W σ) F as ((fs ρ st).bind fun ds st => Y.Φ (.mt c m) (d :: ds) st) (kV1 X.K Q) := by
    refine ⟨P, F, as, ρ, st, S, L, (Post.bind h).imp fun d st1 F1 as1 H1 e1 S1 h1 v rv => ?_⟩
    obtain ⟨c, hc, q⟩ := Post.of S1 (Post.bind h1)
    exact ⟨P, F1, as1, ρ, st1, d, c, S1, L.ext e1, rv, hc, q⟩
  refine PySem.W.methodCall_KW (thn (ho.run pins s σ H _ I h2) fun u s1 ⟨v, H1, I1, rv, P1, F1, as1, ρ1, st1, d, c, S1, L1, rd, hc, h3⟩ => ?_) (meth_ht hb hs hn hl)
  obtain ⟨a, C, dx, fl, f, rfl, hH, hlk, hcl, hm, fd, ps, hbd, hlen, G⟩ := obj_of D S1 rd hc
  obtain rfl : u = Value.ref a := rv
  refine getmeth_ok I1 hH hcl hm hlk ?_
  have h4 : tA X Y W fs σ H1 fun vs H2 => spM X.K Y.CA Y.EF (Y.Φ (.mt c m)) ps.length (.ref a :: vs) H2 Q (WE W σ) :=
    ⟨P1, F1, as1, ρ1, st1, S1, L1, (Post.bind h3).imp fun ds st2 F2 as2 H2 e2 S2 h5 vs rvs => fnM_spec hlen S2 (.cons (rd.ext e2) rvs) h5⟩
  rw [List.all_cons, Bool.and_eq_true] at hs
  refine PySem.W.callWith_K (first := [.ref a]) (h₀ := X.base) I.ok.mod.kin hm.kp (thn (ha.run pos pins s1 σ H1 _ I1 h4) fun us s2 ⟨vs, H2, I2, r, q2⟩ => ⟨I2.kIn, ?_⟩) (star_eq hs.1) (star_any hs.2)
  exact run_fnS (us := .ref a :: us) (vs := .ref a :: vs) G hr hbd (passAt tk σ) I2 (.cons rfl r) q2
theorem s_meth0 (D : Sd X Y) (tk : Takes X W) {m : String} {x : Str} (hx : x = Str.ofString m) (hb : plainBase o = true) (hl : (apos.endLine == pos.line) = true) (ho : PE X o (tE X Y W fa)) :
    PE X (.Call (.Attribute o x apos) [] [] pos) (tE X Y W fun ρ st => (fa ρ st).bind fun x st => (R.of (clsOf Y.G m x st) st).bind fun c st => (R.ok [] st).bind fun ds st => Y.Φ (.mt c m) (x :: ds) st) := by
  subst hx
  refine ⟨fun pins s σ H Q I ⟨P, F, as, ρ, st, S, L, h⟩ => ?_⟩
  have hr : Room Y.lv X.A := D.hr.mono (Nat.le_succ _)
  have h2 : tE X Y W fa σ H fun v H1 => ∃ P F as st d c, StR X.K ⟨Y.CA, P⟩ F as st H1 ∧ RepD X.K F as d v ∧ clsOf Y.G m d st = some c ∧ Post X.K ⟨Y.CA, P⟩ (ExW X.K Y.EF W σ) F as (Y.Φ (.mt c m) (d :: []) st) (kV1 X.K Q) := by
    refine ⟨P, F, as, ρ, st, S, L, (Post.bind h).imp fun d st1 F1 as1 H1 e1 S1 h1 v rv => ?_⟩
    obtain ⟨c, hc, q⟩ := Post.of S1 (Post.bind h1)
    exact ⟨P, F1, as1, st1, d, c, S1, rv, hc, q⟩
  refine PySem.W.methodCall_KW (thn (ho.run pins s σ H _ I h2) fun u s1 ⟨v, H1, I1, rv, P1, F1, as1, st1, d, c, S1, rd, hc, h3⟩ => ?_) (meth_ht hb (by rfl) (by decide) hl)
  obtain ⟨a, C, dx, fl, f, rfl, hH, hlk, hcl, hm, fd, ps, hbd, hlen, G⟩ := obj_of D S1 rd hc
  obtain rfl : u = Value.ref a := rv
  refine getmeth_ok I1 hH hcl hm hlk ?_
  exact PySem.W.callWith_K0 (first := [.ref a]) I1.kIn hm.kp (run_fnS (us := [.ref a]) (vs := [.ref a]) G hr hbd (passAt tk σ) I1 (.cons rfl .nil) (fnM_spec hlen S1 (.cons rd .nil) h3))
end
end MP
end
section
set_option linter.all false
set_option Elab.async false
set_option maxRecDepth 100000
set_option maxHeartbeats 2000000
namespace MP
open PySem PySem.Spec PyProof.Rows L2 PySem.W
section
variable {X : Cx} {Y : Wd} {W : WX} {a b c o e e1 e2 e3 tg : Expr} {es : List Expr} {fa fb fc fr : Env → Store → R D} {ft fu : Env → Store → R Bool} {fs : Env → Store → R (List D)} {pos apos p p2 : Pos}
/-! ### isinstance -/
theorem boot_ty (t : Ty) : bootBuiltins (Str.ofString (tyName t)) = some (.type (tyName t)) := by cases t <;> decide +kernel
theorem s_isi (hy : Sd X Y) {t : Ty} (hg : Gl X (Str.ofString "isinstance")) (hm : X.mg (Str.ofString "isinstance") = none) (hgt : Gl X (Str.ofString (tyName t))) (hmt : X.mg (Str.ofString (tyName t)) = none) (hn : noStar e = true) (ha : PE X e (tE X Y W fa)) :
    PE X (.Call (.Name (Str.ofString "isinstance") p) [e, .Name (Str.ofString (tyName t)) p2] [] pos) (tE X Y W fun ρ st => (fa ρ st).bind fun x st => if isPlain st x = true then .ok (.bl (isTy st x t)) st else .stuck) := by
  have hN : ∀ t : Ty, Str.ofString (tyName t) ≠ "__name__" := fun t => by cases t <;> decide +kernel
  have hD : ∀ t : Ty, (Str.ofString (tyName t) == ("__debug__" : Str)) = false := fun t => by cases t <;> decide +kernel
  have hT : PE X (.Name (Str.ofString (tyName t)) p2) (tC (.ty (tyName t))) := pe_bltn hgt hmt (boot_ty t) rfl (hN t) (hD t)
  refine impPE (pe_callB call_isi hg hm (by decide +kernel) (pa_cons ha (pa_cons hT pa_nil) (star_eq hn)) (by decide +kernel) (by decide +kernel) (star_eq hn)) fun σ H Q ⟨P, F, as, ρ, st, S, L, h⟩ => ?_
  refine ⟨P, F, as, ρ, st, S, L, (Post.bind h).imp fun d st1 F1 as1 H1 e1 S1 h1 v rv => ?_⟩
  split at h1
  · rename_i hp
    obtain ⟨T, q1, q2⟩ := isi_ty (t := t) S1 rv hp
    exact ⟨v, .ty (tyName t), T, .type (tyName t), _, rfl, .ty _, q1, q2, Post.ok S1 h1 _ (.bl _)⟩
  · exact h1.elim
/-! ### methods of built-in types -/
theorem s_bm (hy : Sd X Y) {bm : BM} {id name : String} (pa : PlainAttrs (bmTy bm)) (slot : Slot (bmTy bm) (Str.ofString name) id) (hty : typeOf (.builtin id) = pure (.type "method_descriptor")) (hm : MtR X id (rBM X.K bm))
    (hb : plainBase o = true) (hs : noStar e = true) (hl : (apos.endLine == pos.line) = true) (ho : PE X o (tE X Y W fa)) (ha : PE X e (tE X Y W fb)) :
    PE X (.Call (.Attribute o (Str.ofString name) apos) [e] [] pos) (tE X Y W fun ρ st => (fa ρ st).bind fun x st => if bmOk bm x st = true then ((fb ρ st).bind fun d st => (R.ok ([] : List D) st).bind fun ds st => .ok (d :: ds) st).bind fun ds st => bmD bm x ds st else .stuck) := by
  have hs' : [e].all noStar = true := by rw [List.all_cons, hs]; rfl
  have hfew : ((backTo pos (starEach [e] X.env)).all (fun x => !x.1) && (backToKw pos (keywordEach [] X.env)).all (fun x => x.1.isSome)
      && decide ([e].length + ([] : List Keyword).length + (if ([] : List Keyword).isEmpty then 0 else 1) < 30)) = true := by
    rw [star_all hs']
    rfl
  refine impPE (pe_bm pa slot hty hm ho (pa_cons ha pa_nil (star_eq hs)) (base_ok hb) hfew hl (star_eq hs) (by rfl)) fun σ H Q ⟨P, F, as, ρ, st, S, L, h⟩ => ?_
  refine ⟨P, F, as, ρ, st, S, L, (Post.bind h).imp fun d st1 F1 as1 H1 e1 S1 h1 v rv => ?_⟩
  split at h1
  · rename_i hk
    refine ⟨bm_ty S1 rv hk, ?_⟩
    refine ⟨P, F1, as1, ρ, st1, S1, L.ext e1, (Post.bind (Post.bind h1)).imp fun d2 st2 F2 as2 H2 e2 S2 h2 w rw' => ?_⟩
    exact ⟨_, _, F2, as2, st2, d, [d2], S2, rv.ext e2, .cons rw' .nil, h2 F2 as2 H2 Ext.refl S2⟩
  · exact h1.elim
theorem s_bits (hy : Sd X Y) (hb : plainBase o = true) (hl : (apos.endLine == pos.line) = true) (ho : PE X o (tE X Y W fa)) :
    PE X (.Call (.Attribute o (Str.ofString "bit_length") apos) [] [] pos) (tE X Y W fun ρ st => (fa ρ st).bind fun x st => if bmOk .bitlen x st = true then (R.ok ([] : List D) st).bind fun ds st => bmD .bitlen x ds st else .stuck) := by
  refine impPE (pe_bits ho (base_ok hb) hl) fun σ H Q ⟨P, F, as, ρ, st, S, L, h⟩ => ?_
  refine ⟨P, F, as, ρ, st, S, L, (Post.bind h).imp fun d st1 F1 as1 H1 e1 S1 h1 v rv => ?_⟩
  split at h1
  · rename_i hk
    cases rv with
    | int i =>
      refine ⟨i, rfl, ?_⟩
      rw [log_bits]
      have h2 : Post X.K ⟨Y.CA, P⟩ (ExW X.K Y.EF W σ) F1 as1 (bmD .bitlen (.int i) [] st1) (kV1 X.K Q) := h1
      exact Post.ok S1 h2 _ (.int _)
    | _ => cases hk
  · exact h1.elim

/-! ### what is walked -/
theorem s_seq (hy : Sd X Y) (he : PE X e (tE X Y W fa)) : PI X tg e (tI X Y W fun ρ st => (fa ρ st).bind fun d st => .of ((walked st d).map fun xs => (d, xs, xs)) st) := by
  refine ⟨fun pins s σ H R I ⟨P, F, as, ρ, st, S, L, h⟩ => ?_⟩
  have h0 := Post.bind h
  cases hf : fa ρ st with
  | stuck => rw [hf] at h0; exact h0.elim
  | exc c d st' =>
    rw [hf] at h0
    refine (pi_list he).run pins s σ H R I ⟨P, F, as, ρ, st, S, L, ?_⟩
    rw [hf]
    exact h0
  | ok d st' =>
    rw [hf] at h0
    have go : ∀ (t : TI), PI X tg e t → (t = iList X.K (tE X Y W fa) ∨ t = iTup X.K (tE X Y W fa) ∨ t = iStr (tE X Y W fa)) → True := fun _ _ _ => trivial
    have pre : ∀ {Q : VK}, (∀ F1 as1 H1, Ext F as F1 as1 → StR X.K ⟨Y.CA, P⟩ F1 as1 st' H1 → Post X.K ⟨Y.CA, P⟩ (ExW X.K Y.EF W σ) F1 as1 (.of ((walked st' d).map fun xs => (d, xs, xs)) st') (fun w _ F' as' H' => ∀ J, (∀ P, JOk X.K ⟨Y.CA, P⟩ F' as' w.1 w.2.1 w.2.2 J) → R J H') → ∀ v, RepD X.K F1 as1 d v → Q v H1) → tE X Y W fa σ H Q := by
      intro Q hq
      refine ⟨P, F, as, ρ, st, S, L, ?_⟩
      rw [hf]
      exact fun F1 as1 H1 e1 S1 v rv => hq F1 as1 H1 e1 S1 (h0 F1 as1 H1 e1 S1) v rv
    cases hd : dl st' d with
    | tup ds =>
      refine (pi_tup he).run pins s σ H R I (pre fun F1 as1 H1 e1 S1 h1 v rv => ?_)
      obtain ⟨w, hw, k⟩ := Post.of S1 h1
      simp only [walked, hd] at hw
      cases hw
      rw [dl_tup hd] at rv
      cases rv with
      | tup t r => exact ⟨_, rfl, ⟨_, Same.sqT S1.sub t⟩, k _ fun _ => j_tup t r⟩
    | lst ds =>
      refine (pi_list he).run pins s σ H R I (pre fun F1 as1 H1 e1 S1 h1 v rv => ?_)
      obtain ⟨w, hw, k⟩ := Post.of S1 h1
      simp only [walked, hd] at hw
      cases hw
      obtain ⟨a, ev, q⟩ := lst_later rv hd
      obtain ⟨a', xs, ev', hx, _⟩ := rv.lstAt S1 hd
      have ea : a = a' := by rw [ev] at ev'; cases ev'; rfl
      subst ea
      exact ⟨a, ev, ⟨xs, SqL.of hx⟩, k _ fun P => j_lst (q ⟨Y.CA, P⟩)⟩
    | scr ds =>
      refine (pi_list he).run pins s σ H R I (pre fun F1 as1 H1 e1 S1 h1 v rv => ?_)
      obtain ⟨w, hw, k⟩ := Post.of S1 h1
      simp only [walked, hd] at hw
      cases hw
      rw [dl_scr hd] at rv
      cases rv with
      | scr t r => exact ⟨_, rfl, ⟨_, S1.sub.seq t⟩, k _ fun P => j_lst fun F as st H e S _ => ⟨_, S.sub.seq (e.same.seq t), r.ext e⟩⟩
    | str z =>
      refine (pi_str he).run pins s σ H R I (pre fun F1 as1 H1 e1 S1 h1 v rv => ?_)
      obtain ⟨w, hw, k⟩ := Post.of S1 h1
      simp only [walked, hd] at hw
      cases hw
      rw [dl_str hd] at rv
      cases rv with
      | str hl => exact ⟨_, rfl, k _ fun _ => j_str hl⟩
    | _ =>
      refine (pi_tup he).run pins s σ H R I (pre fun F1 as1 H1 e1 S1 h1 v rv => ?_)
      obtain ⟨w, hw, k⟩ := Post.of S1 h1
      simp only [walked, hd] at hw
      cases hw
theorem rngD_one {j : Int} {xs : List D} (h : rngD [.int j] = some xs) : rngOk j ∧ xs = rngL 0 1 j.toNat := by
  unfold rngD at h
  simp only at h
  split at h
  · cases h; exact ⟨by assumption, rfl⟩
  · cases h
theorem s_rng1 (hy : Sd X Y) (hg : Gl X (Str.ofString "range")) (hm : X.mg (Str.ofString "range") = none) (hn : noStar e1 = true) (he : PE X e1 (tE X Y W fa)) :
    PI X tg (.Call (.Name (Str.ofString "range") p) [e1] [] pos) (tI X Y W fun ρ st => ((fa ρ st).bind fun d st => (R.ok ([] : List D) st).bind fun ds st => .ok (d :: ds) st).bind fun ds st => .of ((rngD ds).map fun xs => (.non, [], xs)) st) := by
  refine impPI (pi_range1 hg hm (pa_cons he pa_nil (star_eq hn)) (star_eq hn)) fun σ H R ⟨P, F, as, ρ, st, S, L, h⟩ => ?_
  refine ⟨P, F, as, ρ, st, S, L, (Post.bind (Post.bind h)).imp fun d st1 F1 as1 H1 e1 S1 h1 v rv => ?_⟩
  obtain ⟨w, hw, k⟩ := Post.of S1 (h1 F1 as1 H1 Ext.refl S1)
  cases hr : rngD [d] with
  | none => rw [hr] at hw; cases hw
  | some xs =>
    rw [hr] at hw
    cases hw
    cases rv with
    | int j =>
      obtain ⟨q1, rfl⟩ := rngD_one hr
      exact ⟨j, rfl, q1.1, q1.2, k _ fun _ => j_rng⟩
    | _ => cases hr
theorem rngD_two {i j : Int} {xs : List D} (h : rngD [.int i, .int j] = some xs) : rngOk i ∧ rngOk j ∧ xs = rngL i 1 (j - i).toNat := by
  unfold rngD at h
  simp only at h
  split at h
  · rename_i c; cases h; exact ⟨c.1, c.2, rfl⟩
  · cases h
theorem s_rng2 (hy : Sd X Y) (hg : Gl X (Str.ofString "range")) (hm : X.mg (Str.ofString "range") = none) (hn : noStar e1 = true) (hn2 : noStar e2 = true) (he : PE X e1 (tE X Y W fa)) (he2 : PE X e2 (tE X Y W fb)) :
    PI X tg (.Call (.Name (Str.ofString "range") p) [e1, e2] [] pos) (tI X Y W fun ρ st => ((fa ρ st).bind fun d st => ((fb ρ st).bind fun d st => (R.ok ([] : List D) st).bind fun ds st => .ok (d :: ds) st).bind fun ds st => .ok (d :: ds) st).bind fun ds st => .of ((rngD ds).map fun xs => (.non, [], xs)) st) := by
  have h2 : starEach [e1, e2] X.env = [(false, eval e1 X.env), (false, eval e2 X.env)] := by rw [star_eq hn, star_eq hn2]; rfl
  refine impPI (pi_range2 hg hm (pa_cons he (pa_cons he2 pa_nil (star_eq hn2)) (star_eq hn)) h2 (star_eq hn2)) fun σ H R ⟨P, F, as, ρ, st, S, L, h⟩ => ?_
  refine ⟨P, F, as, ρ, st, S, L, (Post.bind (Post.bind h)).imp fun d st1 F1 as1 H1 e1 S1 h1 v rv => ?_⟩
  refine ⟨P, F1, as1, ρ, st1, S1, L.ext e1, (Post.bind (Post.bind h1)).imp fun d2 st2 F2 as2 H2 e2 S2 h3 v2 rv2 => ?_⟩
  have h4 := (h3 F2 as2 H2 Ext.refl S2) F2 as2 H2 Ext.refl S2
  obtain ⟨w, hw, k⟩ := Post.of S2 h4
  cases hr : rngD [d, d2] with
  | none => rw [hr] at hw; cases hw
  | some xs =>
    rw [hr] at hw
    cases hw
    cases rv with
    | int i =>
      cases rv2 with
      | int j =>
        obtain ⟨q1, q2, rfl⟩ := rngD_two hr
        exact ⟨i, j, rfl, ⟨q1.1, q1.2, q2.1, q2.2⟩, k _ fun _ => j_rng⟩
      | _ => cases hr
    | _ => cases hr
end
end MP
end
section
set_option linter.all false
set_option Elab.async false
set_option maxRecDepth 100000
set_option maxHeartbeats 2000000
namespace MP
open PySem PySem.Spec PyProof.Rows L2 PySem.W
theorem rngN_ok {i j c : Int} (hi : rngOk i) (hj : rngOk j) (hc : c ≠ 0) (h1 : -1000000 < c) (h2 : c < 1000000) : RgC i j c (rngN i j c) := by
  obtain ⟨i1, i2⟩ := hi
  obtain ⟨j1, j2⟩ := hj
  have key : Builtin.Range.rangeSize i j c = (rngN i j c : Int) ∧ Builtin.Range.rangeSize i j c < 2 ^ 63 ∧ 0 ≤ Builtin.Range.rangeSize i j c := by
    unfold Builtin.Range.rangeSize rngN
    by_cases hp : 0 < c
    · rw [if_pos hp, if_pos (show c > 0 from hp)]
      by_cases hl : i < j
      · rw [if_pos hl, if_pos hl]
        have a1 : 0 ≤ (j - i - 1) / c := Int.ediv_nonneg (by omega) (by omega)
        have a2 : (j - i - 1) / c ≤ j - i - 1 := Int.ediv_le_self _ (by omega)
        omega
      · rw [if_neg hl, if_neg hl]; omega
    · rw [if_neg hp, if_neg (show ¬ c > 0 from hp)]
      by_cases hl : j < i
      · rw [if_pos hl, if_pos (show i > j from hl)]
        have a1 : 0 ≤ (i - j - 1) / (-c) := Int.ediv_nonneg (by omega) (by omega)
        have a2 : (i - j - 1) / (-c) ≤ i - j - 1 := Int.ediv_le_self _ (by omega)
        omega
      · rw [if_neg hl, if_neg (show ¬ i > j from hl)]; omega
  refine ⟨hc, by omega, ?_, key.1⟩
  unfold Builtin.Range.small Builtin.Range.rangeFitsLong
  obtain ⟨_, k2, k3⟩ := key
  simp only [Bool.and_eq_true, Bool.or_eq_true, decide_eq_true_eq]
  refine ⟨⟨⟨⟨by omega, by omega⟩, by omega⟩, by omega⟩, .inr ?_⟩
  by_cases hp : c > 0
  · rw [if_pos hp]; simp only [Bool.and_eq_true, decide_eq_true_eq]; omega
  · rw [if_neg hp]; simp only [Bool.and_eq_true, decide_eq_true_eq]; omega
theorem rngD_three {i j c : Int} {xs : List D} (h : rngD [.int i, .int j, .int c] = some xs) : RgC i j c (rngN i j c) ∧ xs = rngL i c (rngN i j c) := by
  unfold rngD at h
  simp only at h
  split at h
  · rename_i q; cases h; exact ⟨rngN_ok q.1 q.2.1 q.2.2.1 q.2.2.2.1 q.2.2.2.2, rfl⟩
  · cases h
section
variable {X : Cx} {Y : Wd} {W : WX} {a b c o e e1 e2 e3 tg : Expr} {es : List Expr} {fa fb fc fr : Env → Store → R D} {ft fu : Env → Store → R Bool} {fs : Env → Store → R (List D)} {pos apos : Pos} {p p2 : Pos}
theorem s_rng3 (hy : Sd X Y) (hg : Gl X (Str.ofString "range")) (hm : X.mg (Str.ofString "range") = none) (hn : noStar e1 = true) (hn2 : noStar e2 = true) (hn3 : noStar e3 = true) (he : PE X e1 (tE X Y W fa)) (he2 : PE X e2 (tE X Y W fb)) (he3 : PE X e3 (tE X Y W fc)) :
    PI X tg (.Call (.Name (Str.ofString "range") p) [e1, e2, e3] [] pos) (tI X Y W fun ρ st => ((fa ρ st).bind fun d st => ((fb ρ st).bind fun d st => ((fc ρ st).bind fun d st => (R.ok ([] : List D) st).bind fun ds st => .ok (d :: ds) st).bind fun ds st => .ok (d :: ds) st).bind fun ds st => .ok (d :: ds) st).bind fun ds st => .of ((rngD ds).map fun xs => (.non, [], xs)) st) := by
  have h3 : starEach [e1, e2, e3] X.env = (false, eval e1 X.env) :: starEach [e2, e3] X.env := star_eq hn
  have hall : ([e2, e3] : List Expr).all noStar = true := by simp [hn2, hn3]
  refine impPI (pi_range3 hg hm (pa_cons he (pa_cons he2 (pa_cons he3 pa_nil (star_eq hn3)) (star_eq hn2)) (star_eq hn)) h3 (star_any hall)) fun σ H R ⟨P, F, as, ρ, st, S, L, h⟩ => ?_
  refine ⟨P, F, as, ρ, st, S, L, (Post.bind (Post.bind h)).imp fun d st1 F1 as1 H1 e1 S1 h1 v rv => ?_⟩
  refine ⟨P, F1, as1, ρ, st1, S1, L.ext e1, (Post.bind (Post.bind h1)).imp fun d2 st2 F2 as2 H2 e2 S2 h3 v2 rv2 => ?_⟩
  refine ⟨P, F2, as2, ρ, st2, S2, (L.ext e1).ext e2, (Post.bind (Post.bind h3)).imp fun d3 st3 F3 as3 H3 e3 S3 h4 v3 rv3 => ?_⟩
  have h5 := (h4 F3 as3 H3 Ext.refl S3) F3 as3 H3 Ext.refl S3 F3 as3 H3 Ext.refl S3
  obtain ⟨w, hw, k⟩ := Post.of S3 h5
  cases hr : rngD [d, d2, d3] with
  | none => rw [hr] at hw; cases hw
  | some xs =>
    rw [hr] at hw
    cases hw
    cases rv with
    | int i =>
      cases rv2 with
      | int j =>
        cases rv3 with
        | int c =>
          obtain ⟨q1, rfl⟩ := rngD_three hr
          exact ⟨i, j, c, _, rfl, q1, k _ fun _ => j_rngC⟩
        | _ => cases hr
      | _ => cases hr
    | _ => cases hr
theorem s_enum (hy : Sd X Y) {elts : List Expr} {kk : Nat} {tpos : Pos} (hg : Gl X (Str.ofString "enumerate")) (hm : X.mg (Str.ofString "enumerate") = none) (hn : noStar e = true) (he : PE X e (tE X Y W fa)) :
    PI X (.Tuple elts kk tpos) (.Call (.Name (Str.ofString "enumerate") p) [e] [] pos) (tI X Y W fun ρ st => (fa ρ st).bind fun d st => .of ((seq st d).map fun xs => (d, xs, enumL xs)) st) := by
  refine impPI (pi_enumA hg hm (pa_cons he pa_nil (star_eq hn)) (star_eq hn)) fun σ H R ⟨P, F, as, ρ, st, S, L, h⟩ => ?_
  refine ⟨P, F, as, ρ, st, S, L, (Post.bind h).imp fun d st1 F1 as1 H1 e1 S1 h1 v rv => ?_⟩
  obtain ⟨w, hw, k⟩ := Post.of S1 h1
  cases hd : seq st1 d with
  | none => rw [hd] at hw; cases hw
  | some ds =>
    rw [hd] at hw
    cases hw
    cases hl : dl st1 d with
    | tup xs =>
      unfold seq at hd
      rw [hl] at hd
      cases hd
      rw [dl_tup hl] at rv
      cases rv with
      | tup t r => exact ⟨_, _, rfl, .inr ⟨Same.sqT S1.sub t, k _ fun _ => j_enumT t r⟩⟩
    | lst xs =>
      unfold seq at hd
      rw [hl] at hd
      cases hd
      obtain ⟨a, ev, q⟩ := lst_later rv hl
      obtain ⟨a', ys, ev', hx, _⟩ := rv.lstAt S1 hl
      have ea : a = a' := by rw [ev] at ev'; cases ev'; rfl
      subst ea
      exact ⟨a, ys, by rw [ev], .inl ⟨SqL.of hx, k _ fun P => j_enumL (q ⟨Y.CA, P⟩)⟩⟩
    | scr xs =>
      unfold seq at hd
      rw [hl] at hd
      cases hd
      rw [dl_scr hl] at rv
      cases rv with
      | scr t r => exact ⟨_, _, rfl, .inl ⟨S1.sub.seq t, k _ fun P => j_enumL fun F as st H e S _ => ⟨_, S.sub.seq (e.same.seq t), r.ext e⟩⟩⟩
    | _ => unfold seq at hd; rw [hl] at hd; cases hd
theorem s_zip (hy : Sd X Y) {elts : List Expr} {kk : Nat} {tpos : Pos} (hg : Gl X (Str.ofString "zip")) (hm : X.mg (Str.ofString "zip") = none) (hn : noStar e1 = true) (hn2 : noStar e2 = true) (he : PE X e1 (tE X Y W fa)) (he2 : PE X e2 (tE X Y W fb)) :
    PI X (.Tuple elts kk tpos) (.Call (.Name (Str.ofString "zip") p) [e1, e2] [] pos) (tI X Y W fun ρ st => (fa ρ st).bind fun x st => (fb ρ st).bind fun y st => match x, y with
    | .tup xs, .tup ys => .ok (.non, [], zipL xs ys) st
    | .lst xs, .lst ys => .ok (.non, [], zipL xs ys) st
    | _, _ => .stuck) := by
  have hall : ([e2] : List Expr).all noStar = true := by simp [hn2]
  refine impPI (RZ.pi_zipA hg hm (pa_cons he (pa_cons he2 pa_nil (star_eq hn2)) (star_eq hn)) (star_eq hn) (star_any hall)) fun σ H R ⟨P, F, as, ρ, st, S, L, h⟩ => ?_
  refine ⟨P, F, as, ρ, st, S, L, (Post.bind h).imp fun d st1 F1 as1 H1 e1 S1 h1 v rv => ?_⟩
  refine ⟨P, F1, as1, ρ, st1, S1, L.ext e1, (Post.bind h1).imp fun d2 st2 F2 as2 H2 e2 S2 h3 v2 rv2 => ?_⟩
  have rv := rv.ext e2
  split at h3
  · cases rv with
    | tup t r => cases rv2 with
      | tup t' r' => exact ⟨_, _, _, _, rfl, .inr ⟨Same.sqT S2.sub t, Same.sqT S2.sub t', h3 F2 as2 H2 Ext.refl S2 _ fun _ => j_zipT t r t' r'⟩⟩
  · cases rv with
    | lst t r => cases rv2 with
      | lst t' r' => exact ⟨_, _, _, _, rfl, .inl ⟨SqL.of (S2.sub _ _ t), SqL.of (S2.sub _ _ t'), h3 F2 as2 H2 Ext.refl S2 _ fun _ => j_zipL t r t' r'⟩⟩
  · exact h3.elim
theorem s_rev (hy : Sd X Y) (hg : Gl X (Str.ofString "reversed")) (hm : X.mg (Str.ofString "reversed") = none) (hn : noStar e = true) (he : PE X e (tE X Y W fa)) :
    PI X tg (.Call (.Name (Str.ofString "reversed") p) [e] [] pos) (tI X Y W fun ρ st => (fa ρ st).bind fun d st => match d with
    | .tup xs => .ok (.non, [], xs.reverse) st
    | _ => .stuck) := by
  refine impPI (RT.pi_revA hg hm he (star_eq hn)) fun σ H R ⟨P, F, as, ρ, st, S, L, h⟩ => ?_
  refine ⟨P, F, as, ρ, st, S, L, (Post.bind h).imp fun d st1 F1 as1 H1 e1 S1 h1 v rv => ?_⟩
  split at h1
  · cases rv with
    | tup t r => exact ⟨_, _, rfl, .inr ⟨Same.sqT S1.sub t, h1 F1 as1 H1 Ext.refl S1 _ fun _ => j_revT t r⟩⟩
  · exact h1.elim
end
end MP
end
section
set_option linter.all false
set_option Elab.async false
set_option maxRecDepth 100000
set_option maxHeartbeats 2000000
namespace MP
open PySem PySem.Spec PyProof.Rows L2 PySem.W
/-! ### the heap of one's own -/
section
variable {K : Fr} {ca : String → Option Addr} {P : Hp} {F F' : Hp} {as as' : List Addr} {st st' : Store} {H H' : Hp} {D0 : Addr}
theorem CellR.prv {P' : Hp} {a : Addr} {c : Cell} : CellR K ⟨ca, P⟩ F as H a c → CellR K ⟨ca, P'⟩ F as H a c
  | .lst q r => .lst q r
  | .ins c q r => .ins c q r
theorem CellR.upd {P' : Hp} {a : Addr} {c : Cell} {o : HO} (h : a ≠ D0) (r : CellR K ⟨ca, P⟩ F as H a c) : CellR K ⟨ca, P'⟩ F as (upd H D0 o) a c := by
  have := CellR.mono (bs := []) (Same.refl F) (H' := L2.upd H D0 o) (upd_ne h) r
  rw [List.append_nil] at this
  exact this.prv
theorem StR.priv (s : StR K ⟨ca, P⟩ F as st H) {o : HO} (hD : H D0 = none) : StR K ⟨ca, upd P D0 o⟩ F as st (upd H D0 o) := by
  have hF : F D0 = none := by
    cases q : F D0 with
    | none => rfl
    | some o => rw [s.sub _ _ q] at hD; cases hD
  have na : ∀ a ∈ as, a ≠ D0 := fun a h z => by
    obtain ⟨u, e⟩ := s.there h
    rw [z, hD] at e; cases e
  refine ⟨fun b u e => ?_, s.len, s.nd, s.dis, fun k a c h1 h2 => (s.cell k a c h1 h2).upd (na a (List.mem_of_getElem? h1)), fun a u e => ?_⟩
  · rw [upd_ne (ne_of_none (s.sub _ _ e) hD)]; exact s.sub _ _ e
  · by_cases z : a = D0
    · subst z
      have e : upd P a o a = some u := e
      rw [upd_same] at e
      exact ⟨by rw [upd_same]; exact e, hF, fun m => na a m rfl⟩
    · have e : upd P D0 o a = some u := e
      rw [upd_ne z] at e
      rw [upd_ne z]
      exact s.prv a u e
theorem StR.privSet {o0 o : HO} (s : StR K ⟨ca, upd P D0 o0⟩ F as st H) : StR K ⟨ca, upd P D0 o⟩ F as st (upd H D0 o) := by
  obtain ⟨h1, h2, h3⟩ := s.prv D0 o0 upd_same
  have na : ∀ a ∈ as, a ≠ D0 := fun a h z => h3 (z ▸ h)
  refine ⟨fun b u e => ?_, s.len, s.nd, s.dis, fun k a c h1 h2 => (s.cell k a c h1 h2).upd (na a (List.mem_of_getElem? h1)), fun a u e => ?_⟩
  · rw [upd_ne fun z => by rw [z, h2] at e; cases e]; exact s.sub _ _ e
  · by_cases z : a = D0
    · subst z
      have e : upd P a o a = some u := e
      rw [upd_same] at e
      exact ⟨by rw [upd_same]; exact e, h2, h3⟩
    · have e : upd P D0 o a = some u := e
      rw [upd_ne z] at e
      rw [upd_ne z]
      exact s.prv a u (show upd P D0 o0 a = some u by rw [upd_ne z]; exact e)
theorem StR.unpriv {o : HO} (hP : P D0 = none) (s : StR K ⟨ca, upd P D0 o⟩ F as st H) : StR K ⟨ca, P⟩ F as st H :=
  ⟨s.sub, s.len, s.nd, s.dis, fun k a c h1 h2 => (s.cell k a c h1 h2).prv, fun a u e => s.prv a u (show upd P D0 o a = some u by rw [upd_ne (ne_of_none e hP)]; exact e)⟩
theorem StR.unprivFroze {o : HO} (hP : P D0 = none) (s : StR K ⟨ca, upd P D0 o⟩ F as st H) : StR K ⟨ca, P⟩ (upd F D0 o) as st H ∧ Ext F as (upd F D0 o) as := by
  obtain ⟨h1, h2, h3⟩ := s.prv D0 o upd_same
  have na : ∀ a ∈ as, a ≠ D0 := fun a h z => h3 (z ▸ h)
  have sm : Same F (upd F D0 o) := fun b u e => by rw [upd_ne (ne_of_none e h2)]; exact e
  refine ⟨⟨fun b u e => ?_, s.len, s.nd, fun a h => by rw [upd_ne (na a h)]; exact s.dis a h, fun k a c h1 h2 => ?_, fun a u e => ?_⟩, sm, [], (List.append_nil _).symm⟩
  · by_cases z : b = D0
    · subst z; rw [upd_same] at e; cases e; exact h1
    · rw [upd_ne z] at e; exact s.sub _ _ e
  · have := CellR.mono (bs := []) sm (H' := H) rfl (s.cell k a c h1 h2)
    rw [List.append_nil] at this
    exact this.prv
  · have hne : a ≠ D0 := ne_of_none e hP
    obtain ⟨g1, g2, g3⟩ := s.prv a u (show upd P D0 o a = some u by rw [upd_ne hne]; exact e)
    exact ⟨g1, by rw [upd_ne hne]; exact g2, g3⟩
theorem StR.unprivCell {o : HO} {c : Cell} (hP : P D0 = none) (s : StR K ⟨ca, upd P D0 o⟩ F as st H) (hc : CellR K ⟨ca, P⟩ F as H D0 c) : StR K ⟨ca, P⟩ F (as ++ [D0]) (st ++ [c]) H ∧ Ext F as F (as ++ [D0]) := by
  obtain ⟨h1, h2, h3⟩ := s.prv D0 o upd_same
  have na : ∀ a ∈ as, a ≠ D0 := fun a h z => h3 (z ▸ h)
  refine ⟨⟨s.sub, ?_, ?_, fun a h => ?_, fun k a d h1 h2 => ?_, fun a u e => ?_⟩, Same.refl _, [D0], rfl⟩
  · rw [List.length_append, List.length_append, s.len]; rfl
  · refine List.nodup_append.mpr ⟨s.nd, List.nodup_cons.mpr ⟨by simp, List.nodup_nil⟩, fun a ha b hb => ?_⟩
    rw [List.mem_singleton] at hb
    rw [hb]
    exact na a ha
  · rcases List.mem_append.mp h with h | h
    · exact s.dis a h
    · rw [List.mem_singleton] at h; rw [h]; exact h2
  · by_cases hk : k < as.length
    · rw [List.getElem?_append_left hk] at h1
      rw [List.getElem?_append_left (by rw [← s.len]; exact hk)] at h2
      exact (CellR.mono (Same.refl _) rfl (s.cell k a d h1 h2)).prv
    · rw [List.getElem?_append_right (by omega)] at h1
      rw [List.getElem?_append_right (by rw [← s.len]; omega)] at h2
      rw [← s.len] at h2
      have e0 : k - as.length = 0 := by
        have := (List.getElem?_eq_some_iff.mp h1).1
        simp at this
        exact this
      rw [e0] at h1 h2
      have e1 : D0 = a := Option.some.inj h1
      have e2 : c = d := Option.some.inj h2
      subst e1 e2
      exact CellR.mono (Same.refl _) rfl hc
  · have hne : a ≠ D0 := ne_of_none e hP
    obtain ⟨g1, g2, g3⟩ := s.prv a u (show upd P D0 o a = some u by rw [upd_ne hne]; exact e)
    refine ⟨g1, g2, fun z => ?_⟩
    rcases List.mem_append.mp z with z | z
    · exact g3 z
    · exact hne (List.mem_singleton.mp z)
end
theorem Post.bindN {K : Fr} {CA : Cf} {E : EW} {α β : Type} {F F' : Hp} {as as' : List Addr} {r : R α} {f : α → Store → R β} {k : KW β} {CA' : Cf} {E' : EW} (hca : CA'.ca = CA.ca) (e0 : Ext F as F' as') (h : Post K CA E F as (r.bindN f) k) :
    Post K CA' E' F' as' r fun a st' F' as' _ => Post K CA E F' as' (f a st') k := by
  cases r with
  | ok a st' => exact fun F' as' H' e s => Post.ext (e0.trans e) (show Post K CA E F as (f a st') k from h)
  | exc c d st' => exact h.elim
  | stuck => exact h.elim
/-! ### slots: all but some -/
structure SlX (S : Nat → Prop) (K : Fr) (F : Hp) (as : List Addr) (ρ : Env) (σ : L2.St) : Prop where
  len : ρ.length = σ.length
  at_ : ∀ (i : Nat) (d : D), ¬ S i → ρ[i]? = some (some d) → (∀ c e, d ≠ .err c e) → ∃ v, σ[i]? = some (some v) ∧ RepD K F as d v
section
variable {K : Fr} {F F' : Hp} {as as' : List Addr} {ρ ρ' : Env} {σ : L2.St} {S : Nat → Prop}
theorem SlX.ext (h : SlX S K F as ρ σ) (e : Ext F as F' as') : SlX S K F' as' ρ σ :=
  ⟨h.len, fun i d hs hd ne => let ⟨v, h1, h2⟩ := h.at_ i d hs hd ne; ⟨v, h1, h2.ext e⟩⟩
theorem SlX.full (h : SlX S K F as ρ σ) (hS : ∀ i, ¬ S i) : SlR K F as ρ σ := ⟨h.len, fun i d => h.at_ i d (hS i)⟩
theorem SlX.set (h : SlX S K F as ρ σ) (i : Nat) {d : D} {v : V} (r : RepD K F as d v) : SlX (fun j => S j ∧ j ≠ i) K F as (ρ.set i (some d)) (σ.set i (some v)) := by
  refine ⟨by rw [List.length_set, List.length_set]; exact h.len, fun j e hs he ne => ?_⟩
  by_cases hj : i = j
  · subst hj
    have hi : i < ρ.length := by
      have := (List.getElem?_eq_some_iff.mp he).1
      rw [List.length_set] at this
      exact this
    rw [List.getElem?_set_self hi] at he
    cases he
    exact ⟨v, List.getElem?_set_self (by rw [← h.len]; exact hi), r⟩
  · rw [List.getElem?_set_ne hj] at he
    rw [List.getElem?_set_ne hj]
    exact h.at_ j e (fun q => hs ⟨q, Ne.symm hj⟩) he ne
theorem SlX.mono {S' : Nat → Prop} (h : SlX S K F as ρ σ) (i : ∀ j, S j → S' j) : SlX S' K F as ρ σ := ⟨h.len, fun j d hs => h.at_ j d fun q => hs (i j q)⟩
theorem SlX.of (h : SlR K F as ρ σ) : SlX S K F as ρ σ := ⟨h.len, fun j d _ => h.at_ j d⟩
theorem SlX.wiped (h : SlR K F as ρ σ) (vs : List Nat) : SlX (· ∈ vs) K F as ρ (wipe σ vs) :=
  ⟨by rw [wipe_length]; exact h.len, fun j d hs hd ne => by rw [wipe_out hs]; exact h.at_ j d hd ne⟩
end
theorem wipe_in {σ : L2.St} {i : Nat} : ∀ {vs : List Nat}, i ∈ vs → i < σ.length → (wipe σ vs)[i]? = some none
  | v :: vs, h, hi => by
    unfold wipe
    by_cases e : v = i
    · subst e; exact List.getElem?_set_self (by rw [wipe_length]; exact hi)
    · rw [List.getElem?_set_ne e]
      exact wipe_in (by rcases List.mem_cons.mp h with q | q; exact absurd q.symm e; exact q) hi
theorem wipe_eq {σ τ : L2.St} {vs : List Nat} (hl : σ.length = τ.length) (h : ∀ j, j ∉ vs → σ[j]? = τ[j]?) : wipe σ vs = wipe τ vs := by
  refine List.ext_getElem? fun i => ?_
  by_cases hv : i ∈ vs
  · by_cases hi : i < σ.length
    · rw [wipe_in hv hi, wipe_in hv (by rw [← hl]; exact hi)]
    · rw [List.getElem?_eq_none (by rw [wipe_length]; omega), List.getElem?_eq_none (by rw [wipe_length]; omega)]
  · rw [wipe_out hv, wipe_out hv]; exact h i hv
theorem wipe_wipe {σ : L2.St} {vs : List Nat} : wipe (wipe σ vs) vs = wipe σ vs := wipe_eq (wipe_length _ _) fun j hj => wipe_out hj
theorem wipe_set {σ : L2.St} {i : Nat} {v : Option V} {vs : List Nat} (h : i ∈ vs) : wipe (σ.set i v) vs = wipe σ vs :=
  wipe_eq (List.length_set ..) fun j hj => by
    have q : i ≠ j := fun e => hj (e ▸ h)
    exact List.getElem?_set_ne q

/-! ### the target of a loop -/
def gT (K : Fr) (tg : List Nat) (sg : Bool) : TG := fun v σ H Q => ∃ F as ρ d ρ' S, Same F H ∧ SlX S K F as ρ σ ∧ (∀ j, S j → j ∈ tg) ∧ RepD K F as d v ∧ bindT tg sg d ρ = some ρ' ∧
  ∀ σ', SlR K F as ρ' σ' → (∀ vs, (∀ i, i ∈ tg → i ∈ vs) → wipe σ' vs = wipe σ vs) → Q σ' H
def isNm (N : List Str) (sc : Scope) (fb : Str → Bool) (i : Nat) (e : Expr) : Bool := match e with
  | .Name x _ => decide (N[i]? = some x) && ((decide (sc.names.lookup x = some .local)) || (decide (sc.names.lookup x = some .cell) && fb x))
  | _ => false
/-- where the text stands -/
structure At (X : Cx) (N : List Str) (sc : Scope) (fb : Str → Bool) : Prop where
  N : X.N = N
  sc : X.env.scope = sc
  fb : ∀ x, fb x = true → X.fn x = true
section
variable {X : Cx} {N : List Str} {sc : Scope} {fb : Str → Bool} {pos : Pos}
theorem nm_of {i : Nat} {e : Expr} (h : isNm N sc fb i e = true) : ∃ x p, e = .Name x p ∧ N[i]? = some x ∧ (sc.names.lookup x = some .local ∨ (sc.names.lookup x = some .cell ∧ fb x = true)) := by
  cases e with
  | Name x p =>
    unfold isNm at h
    rw [Bool.and_eq_true, Bool.or_eq_true, Bool.and_eq_true, decide_eq_true_eq, decide_eq_true_eq, decide_eq_true_eq] at h
    exact ⟨x, p, rfl, h.1, h.2⟩
  | _ => cases h
theorem pg_nm (hN : X.N.Nodup) (q : At X N sc fb) {i : Nat} {e : Expr} (h : isNm N sc fb i e = true) : PG X e (gName i) := by
  obtain ⟨x, p, rfl, h1, h2⟩ := nm_of h
  refine pg_name hN (by rw [q.N]; exact h1) ?_ ?_
  · rw [q.sc]; rcases h2 with z | z; exact .inl z; exact .inr z.1
  · rw [q.sc]; rcases h2 with z | z; exact .inr z; exact .inl (q.fb x z.2)
def gNms : List Nat → TGs
  | [] => gNil
  | i :: is => gCons (gName i) (gNms is)
def areNms (N : List Str) (sc : Scope) (fb : Str → Bool) : List Nat → List Expr → Bool
  | [], [] => true
  | i :: is, e :: es => isNm N sc fb i e && areNms N sc fb is es
  | _, _ => false
theorem pgs_nms (hN : X.N.Nodup) (q : At X N sc fb) : ∀ {is : List Nat} {es : List Expr}, areNms N sc fb is es = true → PGs X es (gNms is) ∧ (assignEach es X.env).length = is.length ∧ (assignEach es X.env).findIdx? (·.1) = none
  | [], [], _ => ⟨pgs_nil, rfl, rfl⟩
  | i :: is, e :: es, h => by
    unfold areNms at h
    rw [Bool.and_eq_true] at h
    obtain ⟨h1, h2, h3⟩ := pgs_nms hN q h.2
    obtain ⟨x, p, rfl, _⟩ := nm_of h.1
    refine ⟨pgs_cons (pg_nm hN q h.1) h1, ?_, ?_⟩
    · show (assignEach es X.env).length + 1 = _
      rw [h2]; rfl
    · show ((false, assign (.Name x p) X.env) :: assignEach es X.env).findIdx? (·.1) = none
      rw [List.findIdx?_cons, h3]
      rfl
  | [], _ :: _, h => by cases h
  | _ :: _, [], h => by cases h
theorem gNms_run {K : Fr} {F : Hp} {as : List Addr} {H : Hp} {Q : L2.St → Hp → Prop} {tg : List Nat} : ∀ {is : List Nat} {ds : List D} {vs : List V} {ρ ρ' : Env} {σ σ0 : L2.St} {S : Nat → Prop}, (∀ j, S j → j ∈ is) → (∀ j, j ∈ is → j ∈ tg) → SlX S K F as ρ σ → RepDs K F as ds vs → setAll ρ is ds = some ρ' →
    (∀ vs, (∀ i, i ∈ tg → i ∈ vs) → wipe σ vs = wipe σ0 vs) → (∀ σ', SlR K F as ρ' σ' → (∀ vs, (∀ i, i ∈ tg → i ∈ vs) → wipe σ' vs = wipe σ0 vs) → Q σ' H) → gNms is vs σ H Q
  | [], [], _, ρ, ρ', σ, σ0, S, hS, _, L, r, h, hw, hq => by
    cases h
    cases r
    exact ⟨rfl, hq σ (L.full fun i hi => by cases hS i hi) hw⟩
  | i :: is, d :: ds, _, ρ, ρ', σ, σ0, S, hS, ht, L, .cons r t, h, hw, hq => by
    unfold setAll at h
    refine ⟨_, _, rfl, ?_⟩
    show gNms is _ (σ.set i (some _)) H Q
    refine gNms_run (fun j hj => ?_) (fun j hj => ht j (List.mem_cons_of_mem _ hj)) (L.set i r) t h (fun vs hv => ?_) hq
    · rcases List.mem_cons.mp (hS j hj.1) with z | z
      · exact absurd z hj.2
      · exact z
    · rw [wipe_set (hv i (ht i List.mem_cons_self))]; exact hw vs hv
  | [], _ :: _, _, _, _, _, _, _, _, _, _, _, h, _, _ => by cases h
  | _ :: _, [], _, _, _, _, _, _, _, _, _, _, h, _, _ => by cases h
def isTg (N : List Str) (sc : Scope) (fb : Str → Bool) (tg : List Nat) (sg : Bool) (e : Expr) : Bool := match sg with
  | true => (match tg with
    | [i] => isNm N sc fb i e
    | _ => false)
  | false => (match e with
    | .Tuple es _ _ => areNms N sc fb tg es
    | _ => false)
theorem pg_T (hc : X.calm = true) (hN : X.N.Nodup) (q : At X N sc fb) {tg : List Nat} {sg : Bool} {e : Expr} (h : isTg N sc fb tg sg e = true) : PG X e (gT X.K tg sg) := by
  unfold isTg at h
  split at h
  · split at h
    · rename_i i
      refine ⟨fun pins s σ H v u Q I r ⟨F, as, ρ, d, ρ', S, hs, L, hS, rd, hb, hq⟩ => ?_⟩
      refine (pg_nm hN q h).run pins s σ H v u Q I r ?_
      unfold bindT at hb
      have hb : some (ρ.set i (some d)) = some ρ' := hb
      cases hb
      refine hq _ ((L.set i rd).full fun j hj => hj.2 (List.mem_singleton.mp (hS j hj.1))) fun vs hv => wipe_set (hv i (List.mem_singleton.mpr rfl))
    · cases h
  · split at h
    · rename_i es k p
      obtain ⟨h1, h2, h3⟩ := pgs_nms hN q h
      refine ⟨fun pins s σ H v u Q I r ⟨F, as, ρ, d, ρ', S, hs, L, hS, rd, hb, hq⟩ => ?_⟩
      refine (pg_tup hc h1 h2 h3).run pins s σ H v u Q I r ?_
      unfold bindT at hb
      simp only at hb
      split at hb
      · cases rd with
        | @tup _ a xs t rr =>
          refine ⟨_, xs, rfl, Same.sqT hs t, ?_, gNms_run hS (fun j hj => hj) L rr hb (fun _ _ => rfl) hq⟩
          rw [← rr.length]
          have : ∀ (is : List Nat) (ds : List D) (ρ ρ' : Env), setAll ρ is ds = some ρ' → ds.length = is.length := by
            intro is
            induction is with
            | nil => intro ds ρ ρ' h; cases ds with
              | nil => rfl
              | cons _ _ => cases h
            | cons i is ih => intro ds ρ ρ' h; cases ds with
              | nil => cases h
              | cons d ds => rw [List.length_cons, List.length_cons, ih ds _ _ h]
          exact this _ _ _ _ hb
      · cases hb
    · cases h
end

/-! ### comprehensions -/
open Classical in
theorem still_of {st : Store} {src : D} {all : List D} (h : still st src all = true) : Still st src all := by
  unfold still at h
  exact of_decide_eq_true h
def W0 : WX := fun _ _ _ _ => False
theorem comp_imp {X : Cx} {Y : Wd} {W : WX} {m : Bool} {tg : List Nat} {sg : Bool} {vs : List Nat} {fw : Env → Store → R (D × List D × List D)} {ft : Env → Store → R Bool} {fe : Env → Store → R D}
    (hv : ∀ v, v ∈ vs → v ∈ tg) (hv2 : ∀ v, v ∈ tg → v ∈ vs) (σ : L2.St) (H : Hp) (Q : VK)
    (h : tE X Y W (fun ρ st => (fw ρ st).bind fun w st => (compL w.1 w.2.1 (fun x => bindT tg sg x ρ) ft fe w.2.2 [] st).bind fun ds st => newL m ds st) σ H Q) :
    tLc (tI X Y W fw) (gT X.K tg sg) (tT X Y W0 ft) (tE X Y W0 fe) vs σ H Q := by
  obtain ⟨P, F, as, ρ, st, S, L, h⟩ := h
  refine ⟨P, F, as, ρ, st, S, L, (Post.bind h).imp fun w st1 F1 as1 H1 e1 S1 h1 J hJ D0 hD => ?_⟩
  obtain ⟨src, all, xs⟩ := w
  have hJ : ∀ P, JOk X.K ⟨Y.CA, P⟩ F1 as1 src all xs J := hJ
  have hP : P D0 = none := by
    cases q : P D0 with
    | none => rfl
    | some o => rw [(S1.prv D0 o q).1] at hD; cases hD
  have h1 := Post.bind h1
  generalize hk : (fun (a : List D) st' F' as' (_ : Hp) => Post X.K ⟨Y.CA, P⟩ (ExW X.K Y.EF W σ) F' as' (newL m a st') (kV1 X.K Q)) = k at h1
  let WW : Nat → Nat → Hp → Prop := fun i n H => ∃ acc F as st vacc, n = xs.length - i ∧ i ≤ xs.length ∧ StR X.K ⟨Y.CA, upd P D0 (.lst vacc)⟩ F as st H ∧ Ext F1 as1 F as ∧ RepDs X.K F as acc vacc ∧
    Post X.K ⟨Y.CA, P⟩ (ExW X.K Y.EF W σ) F as (compL src all (fun x => bindT tg sg x ρ) ft fe (xs.drop i) acc st) k
  refine ⟨WW, ⟨_, [], F1, as1, st1, [], rfl, Nat.zero_le _, S1.priv hD, Ext.refl, .nil, by rw [List.drop_zero]; exact h1⟩, ?_⟩
  rintro i n H2 ⟨acc, F2, as2, st2, vacc, rfl, hi2, S2, e2, r2, h2⟩
  by_cases hlt : i < xs.length
  · right
    rw [List.drop_eq_getElem_cons hlt, compL] at h2
    split at h2
    · rename_i hst
      have hst : Still st2 src all := still_of hst
      obtain ⟨j1, j2⟩ := (hJ (upd P D0 (.lst vacc)) i F2 as2 st2 H2 e2 S2 hst).1 hlt
      refine ⟨j1, WW (i + 1) (xs.length - (i + 1)), fun H' w => ⟨_, by omega, w⟩, fun x H' y => ?_⟩
      obtain ⟨F3, as3, e3, S3, r3⟩ := j2 x H' y
      have r3 := r3 xs[i] (List.getElem?_eq_getElem hlt)
      cases hb : bindT tg sg xs[i] ρ with
      | none => rw [hb] at h2; exact h2.elim
      | some ρ' =>
        rw [hb] at h2
        simp only at h2
        refine ⟨F3, as3, ρ, xs[i], ρ', (· ∈ vs), S3.sub, SlX.wiped (L.ext (e1.trans (e2.trans e3))) _, hv, r3, hb, fun σ' L' hw => ⟨by rw [hw _ hv2, wipe_wipe], ?_⟩⟩
        refine ⟨_, F3, as3, ρ', st2, S3, L', (Post.bindN (CA := ⟨Y.CA, P⟩) (E := ExW X.K Y.EF W σ) (CA' := ⟨Y.CA, upd P D0 (.lst vacc)⟩) rfl e3 h2).imp fun b st4 F4 as4 H4 e4 S4 h4 => ?_⟩
        show if b = true then _ else _
        cases b with
        | false =>
          rw [if_neg Bool.false_ne_true]
          exact ⟨acc, F4, as4, st4, vacc, rfl, hlt, S4, e2.trans (e3.trans e4), r2.ext (e3.trans e4), h4⟩
        | true =>
          rw [if_pos rfl]
          refine ⟨_, F4, as4, ρ', st4, S4, L'.ext e4, (Post.bindN (CA := ⟨Y.CA, P⟩) (E := ExW X.K Y.EF W σ) (CA' := ⟨Y.CA, upd P D0 (.lst vacc)⟩) rfl Ext.refl h4).imp fun d st5 F5 as5 H5 e5 S5 h5 v rv => ?_⟩
          split at h5
          · rename_i hz
            have r5 := r2.ext (e3.trans (e4.trans e5))
            refine ⟨vacc, (S5.prv D0 _ upd_same).1, by rw [← r5.length, sizeLine_line]; exact hz, ?_⟩
            exact ⟨acc ++ [d], F5, as5, st5, vacc ++ [v], rfl, hlt, S5.privSet, e2.trans (e3.trans (e4.trans e5)), r5.append (.cons rv .nil), h5⟩
          · exact h5.elim
    · exact h2.elim
  · left
    have ei : i = xs.length := by omega
    subst ei
    rw [List.drop_length, compL] at h2
    split at h2
    · rename_i hst
      have hst : Still st2 src all := still_of hst
      refine ⟨(hJ (upd P D0 (.lst vacc)) _ F2 as2 st2 H2 e2 S2 hst).2 rfl, ?_⟩
      have h3 := h2 F2 as2 H2 Ext.refl (S2.unpriv hP)
      rw [← hk] at h3
      cases m with
      | false =>
        obtain ⟨S3, e3⟩ := S2.unprivFroze hP
        exact h3 _ _ H2 e3 S3 _ (.lst upd_same (r2.ext e3))
      | true =>
        obtain ⟨S3, e3⟩ := S2.unprivCell hP (.lst (S2.prv D0 _ upd_same).1 r2)
        refine h3 _ _ H2 e3 S3 _ (.ref ?_)
        rw [← S2.len, List.getElem?_append_right (Nat.le_refl _), Nat.sub_self]
        rfl
    · exact h2.elim
theorem s_comp {X : Cx} {Y : Wd} {W : WX} (hy : Sd X Y) {m : Bool} {tg : List Nat} {sg : Bool} {tgE itE elt : Expr} {ifs : List Expr} {scope : Scope} {own : List (Str × Nat)} {pos : Pos} {fw : Env → Store → R (D × List D × List D)} {ft : Env → Store → R Bool} {fe : Env → Store → R D}
    (hi : PI X tgE itE (tI X Y W fw)) (ok : BlkOk X.N X.env.scope scope own) (hv : ∀ v, v ∈ own.map (·.2) → v ∈ tg) (hv2 : ∀ v, v ∈ tg → v ∈ own.map (·.2))
    (hg : ∀ (s : Shared) (H : Hp) (C : Addr) (cl : List (Str × Addr)) (fp : List Addr), PG (X.blk s H scope (compEnvC scope cl C X.env) fp) tgE (gT X.K tg sg))
    (ht : ∀ (s : Shared) (H : Hp) (C : Addr) (cl : List (Str × Addr)) (fp : List Addr), PTs (X.blk s H scope (compEnvC scope cl C X.env) fp) ifs (tT X Y W0 ft))
    (he : ∀ (s : Shared) (H : Hp) (C : Addr) (cl : List (Str × Addr)) (fp : List Addr), PE (X.blk s H scope (compEnvC scope cl C X.env) fp) elt (tE X Y W0 fe)) (hs : ∀ x, foldedSetIterable itE X.env x = pure x) :
    PE X (.ListComp elt [⟨tgE, itE, ifs, 0⟩] scope pos) (tE X Y W fun ρ st => (fw ρ st).bind fun w st => (compL w.1 w.2.1 (fun x => bindT tg sg x ρ) ft fe w.2.2 [] st).bind fun ds st => newL m ds st) := by
  exact impPE (pe_lc hy.calm hy.nd hi ok hg ht he hs) fun σ H Q h => comp_imp hv hv2 σ H Q h
end MP
end
section
set_option linter.all false
set_option Elab.async false
set_option maxRecDepth 100000
set_option maxHeartbeats 2000000
namespace MP
open PySem PySem.Spec PyProof.Rows L2 PySem.W
/-! ### the text is the small language's -/
/-- a global name -/
def isG (sc : Scope) (x : Str) (s : String) : Bool := decide (x = Str.ofString s) && glB sc x && okName x
def bltNm : Blt → String
  | .len => "len" | .abs => "abs" | .int1 => "int" | .int2 => "int" | .min2 => "min" | .max2 => "max" | .min1 => "min" | .max1 => "max" | .sum1 => "sum" | .all1 => "all" | .any1 => "any"
  | .tuple1 => "tuple" | .list1 _ => "list" | .sorted1 _ => "sorted"
def bltOk : Blt → Bool
  | .int2 => false | .sorted1 _ => false
  | _ => true
def bmNm : BM → String
  | .join => "join" | .index => "index" | .count => "count" | .bitlen => "bit_length" | .rstrip => "rstrip" | .append => "append" | .extend => "extend"
def plainT : Expr → Bool
  | .Name .. | .Call .. | .Subscript .. | .BinOp .. | .Attribute .. => true
  | _ => false
theorem plainT_ok {e : Expr} (h : plainT e = true) : ∀ (env : PySem.Env) (whole : Sem Value), isTrue e env whole = (do let v ← whole; standAt e.pos; holding [v] (truthy v)) := by
  intro env w
  cases e <;> first | rfl | (cases h; done)
def noSet : Expr → Bool
  | .Set .. => false
  | _ => true
theorem noSet_ok {e : Expr} (h : noSet e = true) : ∀ (env : PySem.Env) x, foldedSetIterable e env x = pure x := by
  intro env x
  cases e <;> first | rfl | (cases h; done)
def isTup : Expr → Bool
  | .Tuple .. => true
  | _ => false
def fbC (scope : Scope) : Str → Bool := fun x => scope.names.lookup x == some .cell
def ownL (N : List Str) (tg : List Nat) : List (Str × Nat) := tg.filterMap fun i => (N[i]?).map fun x => (x, i)
section
variable (tb : Tb) (N : List Str)
mutual
def cE : Scope → (Str → Bool) → Ex → Expr → Bool
  | sc, fb, .var i, E => (match E with
    | .Name x _ => decide (N[i]? = some x) && visB sc x && okName x
    | _ => false)
  | sc, fb, .non, E => (match E with
    | .Constant .none _ _ => true
    | _ => false)
  | sc, fb, .bl b, E => (match E with
    | .Constant (.bool c) _ _ => b == c
    | _ => false)
  | sc, fb, .int i, E => (match E with
    | .Constant (.int j) _ _ => decide (i = j)
    | _ => false)
  | sc, fb, .str s, E => (match E with
    | .Constant (.str x) _ _ => decide (x = Str.ofString s) && decide ((codes s).length ≤ line)
    | _ => false)
  | sc, fb, .cst s, E => (match E with
    | .Name x _ => isG sc x s && tb.csts.contains s
    | _ => false)
  | sc, fb, .bin m op a b, E => (match E with
    | .BinOp x o y _ => decide (op = o) && cE sc fb a x && cE sc fb b y
    | _ => false)
  | sc, fb, .neg a, E => (match E with
    | .UnaryOp .USub x _ => cE sc fb a x
    | _ => false)
  | sc, fb, .cmp op a b, E => (match E with
    | .Compare x [o] [y] _ => decide (op = o) && !behindInMarks o y && cE sc fb a x && cE sc fb b y
    | _ => false)
  | sc, fb, .chain o1 o2 a b c, E => (match E with
    | .Compare x [p1, p2] [y, z] _ => decide (o1 = p1) && decide (o2 = p2) && !lastMarks [p1, p2] [y, z] && cE sc fb a x && cE sc fb b y && cE sc fb c z
    | _ => false)
  | sc, fb, .isN a, E => (match E with
    | .Compare x [.Is] [.Constant .none _ _] _ => cE sc fb a x
    | _ => false)
  | sc, fb, .notN a, E => (match E with
    | .Compare x [.IsNot] [.Constant .none _ _] _ => cE sc fb a x
    | _ => false)
  | sc, fb, .not a, E => (match E with
    | .UnaryOp .Not x _ => cE sc fb a x
    | _ => false)
  | sc, fb, .and a r, E => (match E with
    | .BoolOp .And (x :: y :: es) p => cE sc fb a x && cE sc fb r (.BoolOp .And (y :: es) p)
    | _ => false)
  | sc, fb, .and1 a, E => (match E with
    | .BoolOp .And [x] _ => cE sc fb a x
    | _ => false)
  | sc, fb, .or a r, E => (match E with
    | .BoolOp .Or (x :: y :: es) p => cE sc fb a x && cE sc fb r (.BoolOp .Or (y :: es) p)
    | _ => false)
  | sc, fb, .or1 a, E => (match E with
    | .BoolOp .Or [x] _ => cE sc fb a x
    | _ => false)
  | sc, fb, .ife c a b, E => (match E with
    | .IfExp t x y _ => cT sc fb c t && cE sc fb a x && cE sc fb b y
    | _ => false)
  | sc, fb, .tup es, E => (match E with
    | .Tuple xs _ _ => xs.all noStar && decide (exsLen es ≤ line) && cEs sc fb es xs
    | _ => false)
  | sc, fb, .lst m es, E => (match E with
    | .List xs _ => xs.all noStar && decide (exsLen es ≤ line) && cEs sc fb es xs
    | _ => false)
  | sc, fb, .idx a i, E => (match E with
    | .Subscript x y _ => plainIx y && cE sc fb a x && cE sc fb i y
    | _ => false)
  | sc, fb, .slice m a lo hi, E => (match E with
    | .Subscript x (.Slice l h none _) _ => cE sc fb a x && cO sc fb lo l && cO sc fb hi h
    | _ => false)
  | sc, fb, .fld a f, E => (match E with
    | .Attribute x y _ => decide (y = Str.ofString f) && tb.flds.contains f && plainBase x && cE sc fb a x
    | _ => false)
  | sc, fb, .efld i f, E => false
  | sc, fb, .call f es, E => (match E with
    | .Call (.Name x _) xs [] _ => isG sc x f && tb.fns.contains f && xs.all noStar && cEs sc fb es xs
    | _ => false)
  | sc, fb, .make c es, E => (match E with
    | .Call (.Name x _) xs [] _ => isG sc x c && tb.cls.contains c && xs.all noStar && cEs sc fb es xs
    | _ => false)
  | sc, fb, .meth o m es, E => (match E with
    | .Call (.Attribute y x apos) xs [] pos => decide (x = Str.ofString m) && plainBase y && (apos.endLine == pos.line) && decide (xs.length < 29) && xs.all noStar && cE sc fb o y && cEs sc fb es xs
    | _ => false)
  | sc, fb, .blt b es, E => (match E with
    | .Call (.Name x _) (y :: xs) [] _ => isG sc x (bltNm b) && tb.free.contains (bltNm b) && bltOk b && (y :: xs).all noStar && cEs sc fb es (y :: xs)
    | _ => false)
  | sc, fb, .isi a t, E => (match E with
    | .Call (.Name x _) [e, .Name y _] [] _ => isG sc x "isinstance" && tb.free.contains "isinstance" && isG sc y (tyName t) && tb.free.contains (tyName t) && noStar e && cE sc fb a e
    | _ => false)
  | sc, fb, .bm b o es, E => (match E with
    | .Call (.Attribute y x apos) xs [] pos => decide (x = Str.ofString (bmNm b)) && plainBase y && (apos.endLine == pos.line) && xs.all noStar && cE sc fb o y && cEs sc fb es xs &&
      (match b with
      | .bitlen => decide (xs.length = 0)
      | .join | .rstrip | .append | .extend => decide (xs.length = 1)
      | _ => false)
    | _ => false)
  | sc, fb, .comp m tg sg it cs e, E => (match E with
    | .ListComp elt [⟨tgE, itE, ifs, isa⟩] scope _ => decide (isa = 0) && blkC N sc scope (ownL N tg) && tg.all (fun i => decide (i ∈ (ownL N tg).map (·.2))) && isTg N (relS scope sc) (fbC scope) tg sg tgE && noSet itE &&
      cI sc fb it tgE itE && cTs (relS scope sc) (fbC scope) cs ifs && cE (relS scope sc) (fbC scope) e elt
    | _ => false)
def cEs : Scope → (Str → Bool) → Exs → List Expr → Bool
  | sc, fb, .nil, E => (match E with
    | [] => true
    | _ => false)
  | sc, fb, .cons e es, E => (match E with
    | x :: xs => noStar x && cE sc fb e x && cEs sc fb es xs
    | _ => false)
/-- an end of a slice -/
def cO : Scope → (Str → Bool) → Exs → Option Expr → Bool
  | sc, fb, .nil, E => (match E with
    | none => true
    | _ => false)
  | sc, fb, .cons e es, E => (match E with
    | some x => cE sc fb e x && decide (exsLen es = 0)
    | _ => false)
def cI : Scope → (Str → Bool) → It → Expr → Expr → Bool
  | sc, fb, .seq e, tg, E => cE sc fb e E
  | sc, fb, .rng es, tg, E => (match E with
    | .Call (.Name x _) xs [] _ => isG sc x "range" && tb.free.contains "range" && decide (0 < xs.length ∧ xs.length ≤ 3) && cEs sc fb es xs
    | _ => false)
  | sc, fb, .enum e, tg, E => (match E with
    | .Call (.Name x _) [y] [] _ => isG sc x "enumerate" && tb.free.contains "enumerate" && isTup tg && noStar y && cE sc fb e y
    | _ => false)
  | sc, fb, .zip a b, tg, E => (match E with
    | .Call (.Name x _) [y, z] [] _ => isG sc x "zip" && tb.free.contains "zip" && isTup tg && noStar y && noStar z && cE sc fb a y && cE sc fb b z
    | _ => false)
  | sc, fb, .rev e, tg, E => (match E with
    | .Call (.Name x _) [y] [] _ => isG sc x "reversed" && tb.free.contains "reversed" && noStar y && cE sc fb e y
    | _ => false)
def cT : Scope → (Str → Bool) → Te → Expr → Bool
  | sc, fb, .val e, E => plainT E && cE sc fb e E
  | sc, fb, .cmp op a b, E => (match E with
    | .Compare x [o] [y] _ => decide (op = o) && !behindInMarks o y && cE sc fb a x && cE sc fb b y
    | _ => false)
  | sc, fb, .chain o1 o2 a b c, E => (match E with
    | .Compare x [p1, p2] [y, z] _ => decide (o1 = p1) && decide (o2 = p2) && !lastMarks [p1, p2] [y, z] && cE sc fb a x && cE sc fb b y && cE sc fb c z
    | _ => false)
  | sc, fb, .isN a, E => (match E with
    | .Compare x [.Is] [.Constant .none _ _] _ => cE sc fb a x
    | _ => false)
  | sc, fb, .notN a, E => (match E with
    | .Compare x [.IsNot] [.Constant .none _ _] _ => cE sc fb a x
    | _ => false)
  | sc, fb, .not t, E => (match E with
    | .UnaryOp .Not x _ => cT sc fb t x
    | _ => false)
  | sc, fb, .and t r, E => (match E with
    | .BoolOp .And (x :: y :: es) p => cT sc fb t x && cW sc fb r (.BoolOp .And (y :: es) p)
    | _ => false)
  | sc, fb, .and1 t, E => (match E with
    | .BoolOp .And [x] _ => cT sc fb t x
    | _ => false)
  | sc, fb, .or t r, E => (match E with
    | .BoolOp .Or (x :: y :: es) p => cT sc fb t x && cW sc fb r (.BoolOp .Or (y :: es) p)
    | _ => false)
  | sc, fb, .or1 t, E => (match E with
    | .BoolOp .Or [x] _ => cT sc fb t x
    | _ => false)
def cW : Scope → (Str → Bool) → Te → Expr → Bool
  | sc, fb, .and t r, E => (match E with
    | .BoolOp .And (x :: y :: es) p => cT sc fb t x && cW sc fb r (.BoolOp .And (y :: es) p)
    | _ => false)
  | sc, fb, .and1 t, E => (match E with
    | .BoolOp .And [x] _ => cT sc fb t x
    | _ => false)
  | sc, fb, .or t r, E => (match E with
    | .BoolOp .Or (x :: y :: es) p => cT sc fb t x && cW sc fb r (.BoolOp .Or (y :: es) p)
    | _ => false)
  | sc, fb, .or1 t, E => (match E with
    | .BoolOp .Or [x] _ => cT sc fb t x
    | _ => false)
  | _, _, _, _ => false
def cTs : Scope → (Str → Bool) → Tes → List Expr → Bool
  | sc, fb, .nil, E => (match E with
    | [] => true
    | _ => false)
  | sc, fb, .cons t ts, E => (match E with
    | [x] => cT sc fb t x && (match ts with
      | .nil => true
      | _ => false)
    | _ => false)
end
end
end MP
end
section
set_option linter.all false
set_option Elab.async false
set_option maxRecDepth 100000
set_option maxHeartbeats 4000000
namespace MP
open PySem PySem.Spec PyProof.Rows L2 PySem.W
theorem takes0 {X : Cx} : Takes X W0 := fun _ _ x => by
  obtain ⟨a, B, sI, pins, σ, H, cls, d, e, I, nb, up, sky, na, os, ag, w⟩ := x
  exact w.elim
section
variable {X : Cx} {Y : Wd} {W : WX} {N : List Str} {sc : Scope} {fb : Str → Bool}
theorem isG_ok (q : At X N sc fb) {x : Str} {s : String} (h : isG sc x s = true) : x = Str.ofString s ∧ Gl X x ∧ okName x = true := by
  unfold isG at h
  rw [Bool.and_eq_true, Bool.and_eq_true, decide_eq_true_eq] at h
  exact ⟨h.1.1, glB_ok (by rw [q.sc]; exact h.1.2), h.2⟩
theorem mem_of {l : List String} {s : String} (h : l.contains s = true) : s ∈ l := by simpa using h
theorem blk_Sd (D : Sd X Y) (s : Shared) (H : Hp) (scope : Scope) (cenv : PySem.Env) (fp : List Addr) : Sd (X.blk s H scope cenv fp) Y :=
  ⟨D.calm, D.hr, D.nd, D.fn, D.mkr, D.mt, D.cl, D.free, D.cst⟩
theorem blk_At (q : At X N sc fb) (s : Shared) (H : Hp) (scope : Scope) (C : Addr) (cl : List (Str × Addr)) (fp : List Addr) : At (X.blk s H scope (compEnvC scope cl C X.env) fp) N (relS scope sc) (fbC scope) :=
  ⟨q.N, by show relS scope X.env.scope = _; rw [q.sc], fun x h => h⟩
theorem bltR (D : Sd X Y) {b : Blt} (hb : bltOk b = true) : (∃ id, CallR X (.builtin id) (rBlt X.K b) ∧ bootBuiltins (Str.ofString (bltNm b)) = some (.builtin id)) ∨ (∃ T, CallR X (.type T) (rBlt X.K b) ∧ bootBuiltins (Str.ofString (bltNm b)) = some (.type T)) := by
  cases b with
  | len => exact .inl ⟨_, blt_len, by decide +kernel⟩
  | abs => exact .inl ⟨_, blt_abs, by decide +kernel⟩
  | int1 => exact .inr ⟨_, blt_int1, by decide +kernel⟩
  | int2 => cases hb
  | min2 => exact .inl ⟨_, blt_min2 D.calm, by decide +kernel⟩
  | max2 => exact .inl ⟨_, blt_max2 D.calm, by decide +kernel⟩
  | min1 => exact .inl ⟨_, blt_min1 D.calm (hu_of' D), by decide +kernel⟩
  | max1 => exact .inl ⟨_, blt_max1 D.calm (hu_of' D), by decide +kernel⟩
  | sum1 => exact .inl ⟨_, blt_sum1 D.calm, by decide +kernel⟩
  | all1 => exact .inl ⟨_, blt_all1 D.calm, by decide +kernel⟩
  | any1 => exact .inl ⟨_, blt_any1 D.calm, by decide +kernel⟩
  | tuple1 => exact .inr ⟨_, blt_tuple1, by decide +kernel⟩
  | list1 m => exact .inr ⟨_, blt_list1, show bootBuiltins (Str.ofString "list") = _ by decide +kernel⟩
  | sorted1 _ => cases hb
theorem own_ok {tg : List Nat} : ∀ v, v ∈ (ownL N tg).map (·.2) → v ∈ tg := by
  intro v hv
  unfold ownL at hv
  rw [List.mem_map] at hv
  obtain ⟨p, hp, rfl⟩ := hv
  rw [List.mem_filterMap] at hp
  obtain ⟨i, hi, e⟩ := hp
  cases hx : N[i]? with
  | none => rw [hx] at e; cases e
  | some x => rw [hx] at e; cases e; exact hi
theorem cEs_star {tb : Tb} : ∀ {es : Exs} {xs : List Expr}, cEs tb N sc fb es xs = true → xs.all noStar = true
  | .nil, xs, h => by
    rw [cEs.eq_def] at h; dsimp only at h
    split at h
    · rfl
    · cases h
  | .cons e es, xs, h => by
    rw [cEs.eq_def] at h; dsimp only at h
    split at h
    · simp only [Bool.and_eq_true] at h
      rw [List.all_cons, h.1.1, cEs_star h.2]
      rfl
    · cases h
theorem cEs_len {tb : Tb} : ∀ {es : Exs} {xs : List Expr}, cEs tb N sc fb es xs = true → exsLen es = xs.length
  | .nil, xs, h => by
    rw [cEs.eq_def] at h; dsimp only at h
    split at h
    · rfl
    · cases h
  | .cons e es, xs, h => by
    rw [cEs.eq_def] at h; dsimp only at h
    split at h
    · simp only [Bool.and_eq_true] at h
      rw [exsLen, cEs_len h.2]
      rfl
    · cases h
end
mutual
theorem chE {Y : Wd} : ∀ (e : Ex) {X : Cx} {W : WX} {N : List Str} {sc : Scope} {fb : Str → Bool} {E : Expr}, Sd X Y → Takes X W → At X N sc fb → cE Y.tb N sc fb e E = true → PE X E (tE X Y W (evE Y.Φ Y.G e))
  | .var i, X, W, N, sc, fb, E, D, tk, q, h => by
    rw [cE.eq_def] at h; dsimp only at h
    split at h
    · simp only [Bool.and_eq_true, decide_eq_true_eq] at h
      exact s_var (by rw [q.N]; exact h.1.1) (visB_ok (by rw [q.sc]; exact h.1.2)) h.2
    · cases h
  | .non, X, W, N, sc, fb, E, D, tk, q, h => by
    rw [cE.eq_def] at h; dsimp only at h
    split at h
    · exact s_non
    · cases h
  | .bl b, X, W, N, sc, fb, E, D, tk, q, h => by
    rw [cE.eq_def] at h; dsimp only at h
    split at h
    · rw [beq_iff_eq] at h; subst h; exact s_bl
    · cases h
  | .int i, X, W, N, sc, fb, E, D, tk, q, h => by
    rw [cE.eq_def] at h; dsimp only at h
    split at h
    · rw [decide_eq_true_eq] at h; subst h; exact s_int
    · cases h
  | .str s, X, W, N, sc, fb, E, D, tk, q, h => by
    rw [cE.eq_def] at h; dsimp only at h
    split at h
    · simp only [Bool.and_eq_true, decide_eq_true_eq] at h; exact s_str h.1 h.2
    · cases h
  | .cst s, X, W, N, sc, fb, E, D, tk, q, h => by
    rw [cE.eq_def] at h; dsimp only at h
    split at h
    · simp only [Bool.and_eq_true] at h
      obtain ⟨h1, h2, h3⟩ := isG_ok q h.1
      exact s_cst D h1 (mem_of h.2) h2 h3
    · cases h
  | .bin m op a b, X, W, N, sc, fb, E, D, tk, q, h => by
    rw [cE.eq_def] at h; dsimp only at h
    split at h
    · simp only [Bool.and_eq_true, decide_eq_true_eq] at h
      obtain ⟨⟨rfl, h1⟩, h2⟩ := h
      exact s_bin (chE a D tk q h1) (chE b D tk q h2)
    · cases h
  | .neg a, X, W, N, sc, fb, E, D, tk, q, h => by
    rw [cE.eq_def] at h; dsimp only at h
    split at h
    · exact s_neg (chE a D tk q h)
    · cases h
  | .cmp op a b, X, W, N, sc, fb, E, D, tk, q, h => by
    rw [cE.eq_def] at h; dsimp only at h
    split at h
    · simp only [Bool.and_eq_true, decide_eq_true_eq, Bool.not_eq_true'] at h
      obtain ⟨⟨⟨rfl, h3⟩, h1⟩, h2⟩ := h
      exact s_cmp D (chE a D tk q h1) (chE b D tk q h2) h3
    · cases h
  | .chain o1 o2 a b c, X, W, N, sc, fb, E, D, tk, q, h => by
    rw [cE.eq_def] at h; dsimp only at h
    split at h
    · simp only [Bool.and_eq_true, decide_eq_true_eq, Bool.not_eq_true'] at h
      obtain ⟨⟨⟨⟨⟨rfl, rfl⟩, h3⟩, h1⟩, h2⟩, h4⟩ := h
      exact s_chain D (chE a D tk q h1) (chE b D tk q h2) (chE c D tk q h4) h3
    · cases h
  | .isN a, X, W, N, sc, fb, E, D, tk, q, h => by
    rw [cE.eq_def] at h; dsimp only at h
    split at h
    · exact s_isN (chE a D tk q h)
    · cases h
  | .notN a, X, W, N, sc, fb, E, D, tk, q, h => by
    rw [cE.eq_def] at h; dsimp only at h
    split at h
    · exact s_notN (chE a D tk q h)
    · cases h
  | .not a, X, W, N, sc, fb, E, D, tk, q, h => by
    rw [cE.eq_def] at h; dsimp only at h
    split at h
    · exact s_not (chE a D tk q h)
    · cases h
  | .and a r, X, W, N, sc, fb, E, D, tk, q, h => by
    rw [cE.eq_def] at h; dsimp only at h
    split at h
    · simp only [Bool.and_eq_true] at h
      exact s_and (chE a D tk q h.1) (chE r D tk q h.2)
    · cases h
  | .and1 a, X, W, N, sc, fb, E, D, tk, q, h => by
    rw [cE.eq_def] at h; dsimp only at h
    split at h
    · exact s_and1 (chE a D tk q h)
    · cases h
  | .or a r, X, W, N, sc, fb, E, D, tk, q, h => by
    rw [cE.eq_def] at h; dsimp only at h
    split at h
    · simp only [Bool.and_eq_true] at h
      exact s_or (chE a D tk q h.1) (chE r D tk q h.2)
    · cases h
  | .or1 a, X, W, N, sc, fb, E, D, tk, q, h => by
    rw [cE.eq_def] at h; dsimp only at h
    split at h
    · exact s_and1 (chE a D tk q h)
    · cases h
  | .ife c a b, X, W, N, sc, fb, E, D, tk, q, h => by
    rw [cE.eq_def] at h; dsimp only at h
    split at h
    · simp only [Bool.and_eq_true] at h
      exact s_ife (chT c D tk q h.1.1) (chE a D tk q h.1.2) (chE b D tk q h.2)
    · cases h
  | .tup es, X, W, N, sc, fb, E, D, tk, q, h => by
    rw [cE.eq_def] at h; dsimp only at h
    split at h
    · simp only [Bool.and_eq_true, decide_eq_true_eq] at h
      exact s_tup h.1.2 (fun ρ st ds st' e => evEs_len es ρ st st' ds e) (chEs es D tk q h.2)
    · cases h
  | .lst m es, X, W, N, sc, fb, E, D, tk, q, h => by
    rw [cE.eq_def] at h; dsimp only at h
    split at h
    · simp only [Bool.and_eq_true, decide_eq_true_eq] at h
      exact s_lst h.1.2 (fun ρ st ds st' e => evEs_len es ρ st st' ds e) (chEs es D tk q h.2)
    · cases h
  | .idx a i, X, W, N, sc, fb, E, D, tk, q, h => by
    rw [cE.eq_def] at h; dsimp only at h
    split at h
    · simp only [Bool.and_eq_true] at h
      exact s_idx (chE a D tk q h.1.2) (chE i D tk q h.2) h.1.1
    · cases h
  | .slice m a lo hi, X, W, N, sc, fb, E, D, tk, q, h => by
    rw [cE.eq_def] at h; dsimp only at h
    split at h
    · simp only [Bool.and_eq_true] at h
      exact s_slice (chE a D tk q h.1.1) (chO lo D tk q h.1.2) (chO hi D tk q h.2)
    · cases h
  | .fld a f, X, W, N, sc, fb, E, D, tk, q, h => by
    rw [cE.eq_def] at h; dsimp only at h
    split at h
    · simp only [Bool.and_eq_true, decide_eq_true_eq] at h
      exact s_fld D h.1.1.1 (mem_of h.1.1.2) (chE a D tk q h.2) h.1.2
    · cases h
  | .efld i f, X, W, N, sc, fb, E, D, tk, q, h => by
    rw [cE.eq_def] at h; dsimp only at h
    cases h
  | .call f es, X, W, N, sc, fb, E, D, tk, q, h => by
    rw [cE.eq_def] at h; dsimp only at h
    split at h
    · rename_i x p xs pos
      simp only [Bool.and_eq_true] at h
      obtain ⟨h1, h2, h3⟩ := isG_ok q h.1.1.1
      have ha := chEs es D tk q h.2
      cases xs with
      | nil =>
        cases es with
        | nil => exact s_call0 D tk h1 (mem_of h.1.1.2) h2 h3
        | cons _ _ => have := cEs_len h.2; cases this
      | cons y ys => exact s_call D tk h1 (mem_of h.1.1.2) h2 h3 h.1.2 ha
    · cases h
  | .make c es, X, W, N, sc, fb, E, D, tk, q, h => by
    rw [cE.eq_def] at h; dsimp only at h
    split at h
    · rename_i x p xs pos
      simp only [Bool.and_eq_true] at h
      obtain ⟨h1, h2, h3⟩ := isG_ok q h.1.1.1
      have ha := chEs es D tk q h.2
      cases xs with
      | nil =>
        cases es with
        | nil => exact s_make0 D tk h1 (mem_of h.1.1.2) h2 h3
        | cons _ _ => have := cEs_len h.2; cases this
      | cons y ys => exact s_make D tk h1 (mem_of h.1.1.2) h2 h3 h.1.2 ha
    · cases h
  | .meth o m es, X, W, N, sc, fb, E, D, tk, q, h => by
    rw [cE.eq_def] at h; dsimp only at h
    split at h
    · rename_i y x apos xs pos
      simp only [Bool.and_eq_true, decide_eq_true_eq] at h
      obtain ⟨⟨⟨⟨⟨⟨h1, h2⟩, h3⟩, h4⟩, h5⟩, h6⟩, h7⟩ := h
      have ha := chEs es D tk q h7
      cases xs with
      | nil =>
        cases es with
        | nil => exact s_meth0 D tk h1 h2 h3 (chE o D tk q h6)
        | cons _ _ => have := cEs_len h7; cases this
      | cons y ys => exact s_meth D tk h1 h2 h5 h4 h3 (chE o D tk q h6) ha
    · cases h
  | .blt b es, X, W, N, sc, fb, E, D, tk, q, h => by
    rw [cE.eq_def] at h; dsimp only at h
    split at h
    · simp only [Bool.and_eq_true] at h
      obtain ⟨⟨⟨⟨h1, h2⟩, h3⟩, h4⟩, h5⟩ := h
      obtain ⟨g1, g2, g3⟩ := isG_ok q h1
      subst g1
      rcases bltR D h3 with ⟨id, r1, r2⟩ | ⟨T, r1, r2⟩
      · exact s_bltB D r1 g2 (D.free _ (mem_of h2)) r2 g3 (cEs_star h5) (chEs es D tk q h5)
      · exact s_bltT D r1 g2 (D.free _ (mem_of h2)) r2 g3 (cEs_star h5) (chEs es D tk q h5)
    · cases h
  | .isi a t, X, W, N, sc, fb, E, D, tk, q, h => by
    rw [cE.eq_def] at h; dsimp only at h
    split at h
    · simp only [Bool.and_eq_true] at h
      obtain ⟨⟨⟨⟨⟨h1, h2⟩, h3⟩, h4⟩, h5⟩, h6⟩ := h
      obtain ⟨g1, g2, g3⟩ := isG_ok q h1
      obtain ⟨k1, k2, k3⟩ := isG_ok q h3
      subst g1
      subst k1
      exact s_isi D g2 (D.free _ (mem_of h2)) k2 (D.free _ (mem_of h4)) h5 (chE a D tk q h6)
    · cases h
  | .bm b o es, X, W, N, sc, fb, E, D, tk, q, h => by
    rw [cE.eq_def] at h; dsimp only at h
    split at h
    · simp only [Bool.and_eq_true, decide_eq_true_eq] at h
      obtain ⟨⟨⟨⟨⟨⟨h1, h2⟩, h3⟩, h4⟩, h5⟩, h6⟩, h7⟩ := h
      subst h1
      have ho := chE o D tk q h5
      cases es with
      | nil =>
        rename_i xs pos
        have hl := cEs_len h6
        rw [exsLen] at hl
        cases xs with
        | cons _ _ => cases hl
        | nil =>
          cases b with
          | bitlen => exact s_bits D h2 h3 ho
          | _ => cases h7
      | cons e es =>
        rename_i xs pos
        have hl := cEs_len h6
        rw [exsLen] at hl
        cases xs with
        | nil => cases hl
        | cons y ys =>
          cases es with
          | cons _ _ =>
            rw [exsLen] at hl
            cases ys with
            | nil => cases hl
            | cons _ _ => cases b <;> cases h7
          | nil =>
            cases ys with
            | cons _ _ => cases b <;> cases h7
            | nil =>
              rw [cEs.eq_def] at h6; dsimp only at h6
              simp only [Bool.and_eq_true] at h6
              have he := chE e D tk q h6.1.2
              cases b with
              | join => exact s_bm D (bm := .join) F.plainAttrs_str F.slot_str_join F.type_str_join bm_join h2 h6.1.1 h3 ho he
              | rstrip => exact s_bm D (bm := .rstrip) F.plainAttrs_str F.slot_str_rstrip F.type_str_rstrip bm_rstrip h2 h6.1.1 h3 ho he
              | append => exact s_bm D (bm := .append) F.plainAttrs_list F.slot_list_append F.type_list_append bm_append h2 h6.1.1 h3 ho he
              | extend => exact s_bm D (bm := .extend) F.plainAttrs_list F.slot_list_extend F.type_list_extend bm_extend h2 h6.1.1 h3 ho he
              | _ => cases h7
    · cases h
  | .comp m tg sg it cs e, X, W, N, sc, fb, E, D, tk, q, h => by
    rw [cE.eq_def] at h; dsimp only at h
    split at h
    · simp only [Bool.and_eq_true, decide_eq_true_eq, List.all_eq_true] at h
      obtain ⟨⟨⟨⟨⟨⟨⟨rfl, h1⟩, h2⟩, h3⟩, h4⟩, h5⟩, h6⟩, h7⟩ := h
      exact s_comp D (chI it D tk q h5) (own := ownL N tg) (by rw [q.N, q.sc]; exact blkOk_by h1) own_ok h2
        (fun s H C cl fp => pg_T (X := X.blk s H _ (compEnvC _ cl C X.env) fp) D.calm D.nd (blk_At q s H _ C cl fp) h3)
        (fun s H C cl fp => chTs cs (blk_Sd D s H _ _ fp) takes0 (blk_At q s H _ C cl fp) h6)
        (fun s H C cl fp => chE e (blk_Sd D s H _ _ fp) takes0 (blk_At q s H _ C cl fp) h7) (noSet_ok h4 _)
    · cases h
theorem chEs {Y : Wd} : ∀ (es : Exs) {X : Cx} {W : WX} {N : List Str} {sc : Scope} {fb : Str → Bool} {E : List Expr}, Sd X Y → Takes X W → At X N sc fb → cEs Y.tb N sc fb es E = true → PA X E (tA X Y W (evEs Y.Φ Y.G es))
  | .nil, X, W, N, sc, fb, E, D, tk, q, h => by
    rw [cEs.eq_def] at h; dsimp only at h
    split at h
    · exact s_nil
    · cases h
  | .cons e es, X, W, N, sc, fb, E, D, tk, q, h => by
    rw [cEs.eq_def] at h; dsimp only at h
    split at h
    · simp only [Bool.and_eq_true] at h
      exact s_cons h.1.1 (chE e D tk q h.1.2) (chEs es D tk q h.2)
    · cases h
theorem chO {Y : Wd} : ∀ (es : Exs) {X : Cx} {W : WX} {N : List Str} {sc : Scope} {fb : Str → Bool} {E : Option Expr}, Sd X Y → Takes X W → At X N sc fb → cO Y.tb N sc fb es E = true → PO X E (tO X Y W fun ρ st => (evEs Y.Φ Y.G es ρ st).bind fun l st => .of (partI l) st)
  | .nil, X, W, N, sc, fb, E, D, tk, q, h => by
    rw [cO.eq_def] at h; dsimp only at h
    split at h
    · exact s_part0
    · cases h
  | .cons e es, X, W, N, sc, fb, E, D, tk, q, h => by
    rw [cO.eq_def] at h; dsimp only at h
    split at h
    · simp only [Bool.and_eq_true, decide_eq_true_eq] at h
      cases es with
      | cons _ _ => cases h.2
      | nil => exact s_part1 (chE e D tk q h.1)
    · cases h
theorem chI {Y : Wd} : ∀ (it : It) {X : Cx} {W : WX} {N : List Str} {sc : Scope} {fb : Str → Bool} {tg E : Expr}, Sd X Y → Takes X W → At X N sc fb → cI Y.tb N sc fb it tg E = true → PI X tg E (tI X Y W (evIt Y.Φ Y.G it))
  | .seq e, X, W, N, sc, fb, tg, E, D, tk, q, h => by
    rw [cI.eq_def] at h; dsimp only at h
    exact s_seq D (chE e D tk q h)
  | .rng es, X, W, N, sc, fb, tg, E, D, tk, q, h => by
    rw [cI.eq_def] at h; dsimp only at h
    split at h
    · rename_i x p xs pos
      simp only [Bool.and_eq_true, decide_eq_true_eq] at h
      obtain ⟨⟨⟨h1, h2⟩, h3⟩, h4⟩ := h
      obtain ⟨g1, g2, g3⟩ := isG_ok q h1
      subst g1
      have hm := D.free _ (mem_of h2)
      have hl := cEs_len h4
      cases es with
      | nil => rw [exsLen] at hl; omega
      | cons e1 es =>
        cases xs with
        | nil => cases hl
        | cons y1 ys =>
          rw [cEs.eq_def] at h4; dsimp only at h4
          simp only [Bool.and_eq_true] at h4
          cases es with
          | nil =>
            cases ys with
            | cons _ _ => cases hl
            | nil => exact s_rng1 D g2 hm h4.1.1 (chE e1 D tk q h4.1.2)
          | cons e2 es =>
            cases ys with
            | nil => cases hl
            | cons y2 ys =>
              have h5 := h4.2
              rw [cEs.eq_def] at h5; dsimp only at h5
              simp only [Bool.and_eq_true] at h5
              cases es with
              | nil =>
                cases ys with
                | cons _ _ => cases hl
                | nil => exact s_rng2 D g2 hm h4.1.1 h5.1.1 (chE e1 D tk q h4.1.2) (chE e2 D tk q h5.1.2)
              | cons e3 es =>
                cases ys with
                | nil => cases hl
                | cons y3 ys =>
                  have h6 := h5.2
                  rw [cEs.eq_def] at h6; dsimp only at h6
                  simp only [Bool.and_eq_true] at h6
                  cases ys with
                  | cons _ _ => simp only [List.length_cons] at h3; omega
                  | nil =>
                    cases es with
                    | cons _ _ => cases hl
                    | nil => exact s_rng3 D g2 hm h4.1.1 h5.1.1 h6.1.1 (chE e1 D tk q h4.1.2) (chE e2 D tk q h5.1.2) (chE e3 D tk q h6.1.2)
    · cases h
  | .enum e, X, W, N, sc, fb, tg, E, D, tk, q, h => by
    rw [cI.eq_def] at h; dsimp only at h
    split at h
    · simp only [Bool.and_eq_true] at h
      obtain ⟨⟨⟨⟨h1, h2⟩, h3⟩, h4⟩, h5⟩ := h
      obtain ⟨g1, g2, g3⟩ := isG_ok q h1
      subst g1
      unfold isTup at h3
      split at h3
      · exact s_enum D g2 (D.free _ (mem_of h2)) h4 (chE e D tk q h5)
      · cases h3
    · cases h
  | .zip a b, X, W, N, sc, fb, tg, E, D, tk, q, h => by
    rw [cI.eq_def] at h; dsimp only at h
    split at h
    · simp only [Bool.and_eq_true] at h
      obtain ⟨⟨⟨⟨⟨⟨h1, h2⟩, h3⟩, h4⟩, h5⟩, h6⟩, h7⟩ := h
      obtain ⟨g1, g2, g3⟩ := isG_ok q h1
      subst g1
      unfold isTup at h3
      split at h3
      · exact s_zip D g2 (D.free _ (mem_of h2)) h4 h5 (chE a D tk q h6) (chE b D tk q h7)
      · cases h3
    · cases h
  | .rev e, X, W, N, sc, fb, tg, E, D, tk, q, h => by
    rw [cI.eq_def] at h; dsimp only at h
    split at h
    · simp only [Bool.and_eq_true] at h
      obtain ⟨⟨⟨h1, h2⟩, h3⟩, h4⟩ := h
      obtain ⟨g1, g2, g3⟩ := isG_ok q h1
      subst g1
      exact s_rev D g2 (D.free _ (mem_of h2)) h3 (chE e D tk q h4)
    · cases h
theorem chT {Y : Wd} : ∀ (t : Te) {X : Cx} {W : WX} {N : List Str} {sc : Scope} {fb : Str → Bool} {E : Expr}, Sd X Y → Takes X W → At X N sc fb → cT Y.tb N sc fb t E = true → PT X E (tT X Y W (evT Y.Φ Y.G t))
  | .val e, X, W, N, sc, fb, E, D, tk, q, h => by
    rw [cT.eq_def] at h; dsimp only at h
    simp only [Bool.and_eq_true] at h
    exact s_val (chE e D tk q h.2) (plainT_ok h.1 _)
  | .cmp op a b, X, W, N, sc, fb, E, D, tk, q, h => by
    rw [cT.eq_def] at h; dsimp only at h
    split at h
    · simp only [Bool.and_eq_true, decide_eq_true_eq, Bool.not_eq_true'] at h
      obtain ⟨⟨⟨rfl, h3⟩, h1⟩, h2⟩ := h
      exact s_cmpT D (chE a D tk q h1) (chE b D tk q h2) h3
    · cases h
  | .chain o1 o2 a b c, X, W, N, sc, fb, E, D, tk, q, h => by
    rw [cT.eq_def] at h; dsimp only at h
    split at h
    · simp only [Bool.and_eq_true, decide_eq_true_eq, Bool.not_eq_true'] at h
      obtain ⟨⟨⟨⟨⟨rfl, rfl⟩, h3⟩, h1⟩, h2⟩, h4⟩ := h
      exact s_chainT D (chE a D tk q h1) (chE b D tk q h2) (chE c D tk q h4) h3
    · cases h
  | .isN a, X, W, N, sc, fb, E, D, tk, q, h => by
    rw [cT.eq_def] at h; dsimp only at h
    split at h
    · exact s_isNT (chE a D tk q h)
    · cases h
  | .notN a, X, W, N, sc, fb, E, D, tk, q, h => by
    rw [cT.eq_def] at h; dsimp only at h
    split at h
    · exact s_notNT (chE a D tk q h)
    · cases h
  | .not t, X, W, N, sc, fb, E, D, tk, q, h => by
    rw [cT.eq_def] at h; dsimp only at h
    split at h
    · exact s_notT (chT t D tk q h)
    · cases h
  | .and t r, X, W, N, sc, fb, E, D, tk, q, h => by
    rw [cT.eq_def] at h; dsimp only at h
    split at h
    · simp only [Bool.and_eq_true] at h
      exact (s_andW (chT t D tk q h.1) (chW r D tk q h.2)).pt
    · cases h
  | .and1 t, X, W, N, sc, fb, E, D, tk, q, h => by
    rw [cT.eq_def] at h; dsimp only at h
    split at h
    · exact (s_and1W (chT t D tk q h)).pt
    · cases h
  | .or t r, X, W, N, sc, fb, E, D, tk, q, h => by
    rw [cT.eq_def] at h; dsimp only at h
    split at h
    · simp only [Bool.and_eq_true] at h
      exact (s_orW (chT t D tk q h.1) (chW r D tk q h.2)).pt
    · cases h
  | .or1 t, X, W, N, sc, fb, E, D, tk, q, h => by
    rw [cT.eq_def] at h; dsimp only at h
    split at h
    · exact (s_or1W (chT t D tk q h)).pt
    · cases h
theorem chW {Y : Wd} : ∀ (t : Te) {X : Cx} {W : WX} {N : List Str} {sc : Scope} {fb : Str → Bool} {E : Expr}, Sd X Y → Takes X W → At X N sc fb → cW Y.tb N sc fb t E = true → PW X E (tT X Y W (evT Y.Φ Y.G t))
  | .and t r, X, W, N, sc, fb, E, D, tk, q, h => by
    rw [cW.eq_def] at h; dsimp only at h
    split at h
    · simp only [Bool.and_eq_true] at h
      exact s_andW (chT t D tk q h.1) (chW r D tk q h.2)
    · cases h
  | .and1 t, X, W, N, sc, fb, E, D, tk, q, h => by
    rw [cW.eq_def] at h; dsimp only at h
    split at h
    · exact s_and1W (chT t D tk q h)
    · cases h
  | .or t r, X, W, N, sc, fb, E, D, tk, q, h => by
    rw [cW.eq_def] at h; dsimp only at h
    split at h
    · simp only [Bool.and_eq_true] at h
      exact s_orW (chT t D tk q h.1) (chW r D tk q h.2)
    · cases h
  | .or1 t, X, W, N, sc, fb, E, D, tk, q, h => by
    rw [cW.eq_def] at h; dsimp only at h
    split at h
    · exact s_or1W (chT t D tk q h)
    · cases h
  | .val e, X, W, N, sc, fb, E, D, tk, q, h => by rw [cW.eq_def] at h; dsimp only at h <;> first | cases h | (intros; contradiction) | skip
  | .cmp op a b, X, W, N, sc, fb, E, D, tk, q, h => by rw [cW.eq_def] at h; dsimp only at h <;> first | cases h | (intros; contradiction) | skip
  | .chain o1 o2 a b c, X, W, N, sc, fb, E, D, tk, q, h => by rw [cW.eq_def] at h; dsimp only at h <;> first | cases h | (intros; contradiction) | skip
  | .isN a, X, W, N, sc, fb, E, D, tk, q, h => by rw [cW.eq_def] at h; dsimp only at h <;> first | cases h | (intros; contradiction) | skip
  | .notN a, X, W, N, sc, fb, E, D, tk, q, h => by rw [cW.eq_def] at h; dsimp only at h <;> first | cases h | (intros; contradiction) | skip
  | .not t, X, W, N, sc, fb, E, D, tk, q, h => by rw [cW.eq_def] at h; dsimp only at h <;> first | cases h | (intros; contradiction) | skip
theorem chTs {Y : Wd} : ∀ (ts : Tes) {X : Cx} {W : WX} {N : List Str} {sc : Scope} {fb : Str → Bool} {E : List Expr}, Sd X Y → Takes X W → At X N sc fb → cTs Y.tb N sc fb ts E = true → PTs X E (tT X Y W (evTs Y.Φ Y.G ts))
  | .nil, X, W, N, sc, fb, E, D, tk, q, h => by
    rw [cTs.eq_def] at h; dsimp only at h
    split at h
    · exact ⟨fun pins s σ H Q I ⟨P, F, as, ρ, st, S, L, h⟩ => pts_nil.run pins s σ H Q I (Post.okB S h)⟩
    · cases h
  | .cons t ts, X, W, N, sc, fb, E, D, tk, q, h => by
    rw [cTs.eq_def] at h; dsimp only at h
    split at h
    · simp only [Bool.and_eq_true] at h
      cases ts with
      | cons _ _ => cases h.2
      | nil =>
        refine pts_one (impPT (chT t D tk q h.1) fun σ H Q ⟨P, F, as, ρ, st, S, L, h⟩ => ⟨P, F, as, ρ, st, S, L, (Post.bind h).imp fun k st1 F1 as1 H1 e1 S1 h1 => ?_⟩)
        cases k with
        | true => exact Post.okB S1 h1
        | false => exact Post.okB S1 h1
    · cases h
end
end MP
end
section
set_option linter.all false
set_option Elab.async false
set_option maxRecDepth 100000
set_option maxHeartbeats 4000000
namespace MP
open PySem PySem.Spec PyProof.Rows L2 PySem.W
/-- what is wished of a statement -/
def PostS (X : Cx) (Y : Wd) (W : WX) (P : Hp) (D : Ends) (F : Hp) (as : List Addr) (r : RS) : Prop := match r with
  | .nx ρ st => ∀ F' as' H' σ', Ext F as F' as' → StR X.K ⟨Y.CA, P⟩ F' as' st H' → SlR X.K F' as' ρ σ' → D.nx σ' H'
  | .rt d st => ∀ F' as' H' v, Ext F as F' as' → StR X.K ⟨Y.CA, P⟩ F' as' st H' → RepD X.K F' as' d v → D.rt v H'
  | .bk ρ st => ∀ F' as' H' σ', Ext F as F' as' → StR X.K ⟨Y.CA, P⟩ F' as' st H' → SlR X.K F' as' ρ σ' → D.bk σ' H'
  | .ct ρ st => ∀ F' as' H' σ', Ext F as F' as' → StR X.K ⟨Y.CA, P⟩ F' as' st H' → SlR X.K F' as' ρ σ' → D.ct σ' H'
  | .exc c d ρ st => ∀ F' as' H' σ', Ext F as F' as' → StR X.K ⟨Y.CA, P⟩ F' as' st H' → SlR X.K F' as' ρ σ' → ExW X.K Y.EF W σ' c d st F' as' H'
  | .stuck => False
def tS (X : Cx) (Y : Wd) (W : WX) (f : Env → Store → RS) : TS := fun D σ H => ∃ P F as ρ st, StR X.K ⟨Y.CA, P⟩ F as st H ∧ SlR X.K F as ρ σ ∧ PostS X Y W P D F as (f ρ st)
theorem impPS {X : Cx} {s : Stmt} {t t' : TS} (h : PS X s t) (i : ∀ D σ H, t' D σ H → t D σ H) : PS X s t' := ⟨fun pins s σ H D I q => h.run pins s σ H D I (i _ _ _ q)⟩
theorem impPSs {X : Cx} {s : List Stmt} {t t' : TS} (h : PSs X s t) (i : ∀ D σ H, t' D σ H → t D σ H) : PSs X s t' := ⟨fun pins s σ H D I q => h.run pins s σ H D I (i _ _ _ q)⟩
section
variable {X : Cx} {Y : Wd} {W : WX} {P : Hp} {D : Ends} {F F' : Hp} {as as' : List Addr} {ρ : Env} {σ : L2.St} {st : Store} {H : Hp}
theorem PostS.ext {r : RS} (e : Ext F as F' as') (h : PostS X Y W P D F as r) : PostS X Y W P D F' as' r := by
  cases r with
  | nx ρ st => exact fun F2 as2 H2 σ2 e2 s l => h F2 as2 H2 σ2 (e.trans e2) s l
  | rt d st => exact fun F2 as2 H2 v e2 s l => h F2 as2 H2 v (e.trans e2) s l
  | bk ρ st => exact fun F2 as2 H2 σ2 e2 s l => h F2 as2 H2 σ2 (e.trans e2) s l
  | ct ρ st => exact fun F2 as2 H2 σ2 e2 s l => h F2 as2 H2 σ2 (e.trans e2) s l
  | exc c d ρ st => exact fun F2 as2 H2 σ2 e2 s l => h F2 as2 H2 σ2 (e.trans e2) s l
  | stuck => exact h
theorem PostS.bind {α : Type} {r : R α} {f : α → Store → RS} (L : SlR X.K F as ρ σ) (h : PostS X Y W P D F as (r.bindS ρ f)) : Post X.K ⟨Y.CA, P⟩ (ExW X.K Y.EF W σ) F as r fun a st' F' as' _ => PostS X Y W P D F' as' (f a st') := by
  cases r with
  | ok a st' => exact fun F' as' H' e s => PostS.ext e (show PostS X Y W P D F as (f a st') from h)
  | exc c d st' => exact fun F' as' H' e s => h F' as' H' σ e s (L.ext e)
  | stuck => exact h
/-- what a statement leaves, another wish for what follows -/
theorem PostS.imp {r : RS} {D' : Ends} (h : PostS X Y W P D F as r)
    (hn : ∀ ρ st, r = .nx ρ st → (∀ F' as' H' σ', Ext F as F' as' → StR X.K ⟨Y.CA, P⟩ F' as' st H' → SlR X.K F' as' ρ σ' → D'.nx σ' H'))
    (hr : ∀ v H', D.rt v H' → D'.rt v H')
    (hb : ∀ ρ st, r = .bk ρ st → (∀ F' as' H' σ', Ext F as F' as' → StR X.K ⟨Y.CA, P⟩ F' as' st H' → SlR X.K F' as' ρ σ' → D'.bk σ' H'))
    (hc : ∀ ρ st, r = .ct ρ st → (∀ F' as' H' σ', Ext F as F' as' → StR X.K ⟨Y.CA, P⟩ F' as' st H' → SlR X.K F' as' ρ σ' → D'.ct σ' H')) : PostS X Y W P D' F as r := by
  cases r with
  | nx ρ st => exact hn ρ st rfl
  | rt d st => exact fun F2 as2 H2 v e2 s l => hr _ _ (h F2 as2 H2 v e2 s l)
  | bk ρ st => exact hb ρ st rfl
  | ct ρ st => exact hc ρ st rfl
  | exc c d ρ st => exact h
  | stuck => exact h
theorem PostS.then {r : RS} {f : Env → Store → RS} (h : PostS X Y W P D F as (r.then f)) : PostS X Y W P { D with nx := fun σ' H' => ∃ P F as ρ st, StR X.K ⟨Y.CA, P⟩ F as st H' ∧ SlR X.K F as ρ σ' ∧ PostS X Y W P D F as (f ρ st) } F as r := by
  cases r with
  | nx ρ st => exact fun F2 as2 H2 σ2 e2 s l => ⟨P, F2, as2, ρ, st, s, l, PostS.ext e2 h⟩
  | rt d st => exact h
  | bk ρ st => exact h
  | ct ρ st => exact h
  | exc c d ρ st => exact h
  | stuck => exact h
end
section
variable {X : Cx} {Y : Wd} {W : WX} {a b c o e v : Expr} {es : List Expr} {s : Stmt} {ss : List Stmt} {fa fb fc fo fi : Env → Store → R D} {ft : Env → Store → R Bool} {fs : Env → Store → R (List D)} {gs hs : Env → Store → RS} {pos apos : Pos} {i : Nat}
/-! ### blocks -/
theorem t_nil : PSs X [] (tS X Y W fun ρ st => .nx ρ st) := impPSs pss_nil fun D σ H ⟨P, F, as, ρ, st, S, L, h⟩ => h F as H σ Ext.refl S L
theorem t_cons (h1 : PS X s (tS X Y W gs)) (h2 : PSs X ss (tS X Y W hs)) : PSs X (s :: ss) (tS X Y W fun ρ st => (gs ρ st).then fun ρ st => hs ρ st) :=
  impPSs (pss_cons h1 h2) fun D σ H ⟨P, F, as, ρ, st, S, L, h⟩ => ⟨P, F, as, ρ, st, S, L, PostS.then h⟩
theorem t_pass : PS X (.Pass pos) (tS X Y W fun ρ st => .nx ρ st) := impPS ps_pass fun D σ H ⟨P, F, as, ρ, st, S, L, h⟩ => h F as H σ Ext.refl S L
theorem t_brk : PS X (.Break pos) (tS X Y W fun ρ st => .bk ρ st) := impPS ps_break fun D σ H ⟨P, F, as, ρ, st, S, L, h⟩ => h F as H σ Ext.refl S L
theorem t_cont : PS X (.Continue pos) (tS X Y W fun ρ st => .ct ρ st) := impPS ps_continue fun D σ H ⟨P, F, as, ρ, st, S, L, h⟩ => h F as H σ Ext.refl S L
theorem t_expr (hv : PE X e (tE X Y W fa)) (hsw : swapsWith e none pos.line X.env = pure false) : PS X (.Expr e pos) (tS X Y W fun ρ st => (fa ρ st).bindS ρ fun _ st => .nx ρ st) :=
  impPS (ps_expr hv hsw) fun D σ H ⟨P, F, as, ρ, st, S, L, h⟩ => ⟨P, F, as, ρ, st, S, L, (PostS.bind L h).imp fun d st1 F1 as1 H1 e1 S1 h1 v rv => h1 F1 as1 H1 σ Ext.refl S1 (L.ext e1)⟩
theorem t_ret (hv : PE X e (tE X Y W fa)) : PS X (.Return (some e) pos) (tS X Y W fun ρ st => (fa ρ st).bindS ρ fun v st => .rt v st) :=
  impPS (ps_ret hv) fun D σ H ⟨P, F, as, ρ, st, S, L, h⟩ => ⟨P, F, as, ρ, st, S, L, (PostS.bind L h).imp fun d st1 F1 as1 H1 e1 S1 h1 v rv => h1 F1 as1 H1 v Ext.refl S1 rv⟩
theorem t_retN : PS X (.Return none pos) (tS X Y W fun _ st => .rt .non st) := impPS ps_retN fun D σ H ⟨P, F, as, ρ, st, S, L, h⟩ => h F as H _ Ext.refl S .non
theorem t_if {x y : List Stmt} (hc : PT X c (tT X Y W ft)) (ha : PSs X x (tS X Y W gs)) (hb : PSs X y (tS X Y W hs)) : PS X (.If c x y pos) (tS X Y W fun ρ st => (ft ρ st).bindS ρ fun k st => match k with
    | true => gs ρ st
    | false => hs ρ st) :=
  impPS (ps_if hc ha hb) fun D σ H ⟨P, F, as, ρ, st, S, L, h⟩ => by
    refine ⟨P, F, as, ρ, st, S, L, (PostS.bind L h).imp fun k st1 F1 as1 H1 e1 S1 h1 => ?_⟩
    show if k = true then _ else _
    cases k with
    | true => rw [if_pos rfl]; exact ⟨P, F1, as1, ρ, st1, S1, L.ext e1, h1⟩
    | false => rw [if_neg Bool.false_ne_true]; exact ⟨P, F1, as1, ρ, st1, S1, L.ext e1, h1⟩
/-! ### loops -/
theorem t_whl {x : List Stmt} {ks : List Nat} (hp : PassesOwn (model X.prog X.w) X.A X.env X.xe) (hc : PT X c (tT X Y W ft)) (hb : PSs X x (tS X Y W gs)) :
    PS X (.While c x [] pos) (tS X Y W fun ρ st => wh ft (fun ρ st => killS ks (gs ρ st)) ρ st) := by
  refine impPS (ps_while hp hc hb) fun D σ H ⟨P, F, as, ρ, st, S, L, h⟩ => ?_
  refine ⟨fun n σ H => ∃ F as ρ st, StR X.K ⟨Y.CA, P⟩ F as st H ∧ SlR X.K F as ρ σ ∧ PostS X Y W P D F as (whN ft (fun ρ st => killS ks (gs ρ st)) n ρ st), ?_, ?_⟩
  · simp only [wh] at h
    split at h
    · exact ⟨_, F, as, ρ, st, S, L, h⟩
    · exact h.elim
  · rintro n σ H ⟨F, as, ρ, st, S, L, h⟩
    cases n with
    | zero => exact h.elim
    | succ n =>
      rw [whN] at h
      refine ⟨P, F, as, ρ, st, S, L, (PostS.bind L h).imp fun k st1 F1 as1 H1 e1 S1 h1 => ?_⟩
      show if k = true then _ else _
      cases k with
      | false => rw [if_neg Bool.false_ne_true]; exact h1 F1 as1 H1 σ Ext.refl S1 (L.ext e1)
      | true =>
        rw [if_pos rfl]
        refine ⟨fun σ' H' => ∃ F as ρ st, StR X.K ⟨Y.CA, P⟩ F as st H' ∧ SlR X.K F as ρ σ' ∧ PostS X Y W P D F as (whN ft (fun ρ st => killS ks (gs ρ st)) n ρ st), fun σ' H' w => ⟨n, Nat.lt_succ_self _, w⟩, ?_⟩
        refine ⟨P, F1, as1, ρ, st1, S1, L.ext e1, ?_⟩
        simp only at h1
        cases hg : gs ρ st1 with
        | nx ρ2 st2 =>
          rw [hg] at h1
          exact fun F2 as2 H2 σ2 e2 s l => ⟨F2, as2, _, st2, s, l.killL ks, PostS.ext e2 h1⟩
        | ct ρ2 st2 =>
          rw [hg] at h1
          exact fun F2 as2 H2 σ2 e2 s l => ⟨F2, as2, _, st2, s, l.killL ks, PostS.ext e2 h1⟩
        | bk ρ2 st2 =>
          rw [hg] at h1
          exact fun F2 as2 H2 σ2 e2 s l => h1 F2 as2 H2 σ2 e2 s (l.killL ks)
        | rt d st2 => rw [hg] at h1; exact h1
        | exc c d ρ2 st2 => rw [hg] at h1; exact h1
        | stuck => rw [hg] at h1; exact h1
theorem t_for {x : List Stmt} {ks tg : List Nat} {sg : Bool} {tgE itE : Expr} {fw : Env → Store → R (D × List D × List D)} (hp : PassesOwn (model X.prog X.w) X.A X.env X.xe) (hcl : X.calm = true) (hi : PI X tgE itE (tI X Y W fw)) (hg : PG X tgE (gT X.K tg sg)) (hb : PSs X x (tS X Y W gs))
    (hs : ∀ x, foldedSetIterable itE X.env x = pure x) :
    PS X (.For tgE itE x [] pos) (tS X Y W fun ρ st => (fw ρ st).bindS ρ fun w st => frL w.1 w.2.1 (bindT tg sg) (fun ρ st => killS ks (gs ρ st)) w.2.2 ρ st) := by
  refine impPS (ps_for hp hcl hi hg hb hs) fun D σ H ⟨P, F, as, ρ, st, S, L, h⟩ => ?_
  refine ⟨P, F, as, ρ, st, S, L, (PostS.bind L h).imp fun w st1 F1 as1 H1 e1 S1 h1 J hJ => ?_⟩
  obtain ⟨src, all, xs⟩ := w
  have hJ : JOk X.K ⟨Y.CA, P⟩ F1 as1 src all xs J := hJ P
  have h1 : PostS X Y W P D F1 as1 (frL src all (bindT tg sg) (fun ρ st => killS ks (gs ρ st)) xs ρ st1) := h1
  refine ⟨fun i n σ H => ∃ F as ρ st, n = xs.length - i ∧ i ≤ xs.length ∧ StR X.K ⟨Y.CA, P⟩ F as st H ∧ SlR X.K F as ρ σ ∧ Ext F1 as1 F as ∧ PostS X Y W P D F as (frL src all (bindT tg sg) (fun ρ st => killS ks (gs ρ st)) (xs.drop i) ρ st),
    ⟨_, F1, as1, ρ, st1, rfl, Nat.zero_le _, S1, L.ext e1, Ext.refl, by rw [List.drop_zero]; exact h1⟩, ?_⟩
  rintro i n σ2 H2 ⟨F2, as2, ρ2, st2, rfl, hi2, S2, L2, e2, h2⟩
  by_cases hlt : i < xs.length
  · right
    rw [List.drop_eq_getElem_cons hlt, frL] at h2
    split at h2
    · rename_i hst
      obtain ⟨j1, j2⟩ := (hJ i F2 as2 st2 H2 e2 S2 (still_of hst)).1 hlt
      refine ⟨j1, fun σ' H' => ∃ F as ρ st, StR X.K ⟨Y.CA, P⟩ F as st H' ∧ SlR X.K F as ρ σ' ∧ Ext F1 as1 F as ∧ PostS X Y W P D F as (frL src all (bindT tg sg) (fun ρ st => killS ks (gs ρ st)) (xs.drop (i + 1)) ρ st),
        fun σ' H' ⟨F, as, ρ, st, a1, a2, a3, a4⟩ => ⟨xs.length - (i + 1), by omega, F, as, ρ, st, rfl, hlt, a1, a2, a3, a4⟩, fun x H' y => ?_⟩
      obtain ⟨F3, as3, e3, S3, r3⟩ := j2 x H' y
      have r3 := r3 xs[i] (List.getElem?_eq_getElem hlt)
      cases hb : bindT tg sg xs[i] ρ2 with
      | none => rw [hb] at h2; exact h2.elim
      | some ρ' =>
        rw [hb] at h2
        simp only at h2
        refine ⟨F3, as3, ρ2, xs[i], ρ', fun _ => False, S3.sub, SlX.of (L2.ext e3), fun j hj => hj.elim, r3, hb, fun σ' L' _ => ?_⟩
        refine ⟨P, F3, as3, ρ', st2, S3, L', ?_⟩
        have h2 := PostS.ext e3 h2
        cases hg : gs ρ' st2 with
        | nx ρ4 st4 =>
          rw [hg] at h2
          exact fun F4 as4 H4 σ4 e4 s l => ⟨F4, as4, _, st4, s, l.killL ks, e2.trans (e3.trans e4), PostS.ext e4 h2⟩
        | ct ρ4 st4 =>
          rw [hg] at h2
          exact fun F4 as4 H4 σ4 e4 s l => ⟨F4, as4, _, st4, s, l.killL ks, e2.trans (e3.trans e4), PostS.ext e4 h2⟩
        | bk ρ4 st4 =>
          rw [hg] at h2
          exact fun F4 as4 H4 σ4 e4 s l => h2 F4 as4 H4 σ4 e4 s (l.killL ks)
        | rt d st4 => rw [hg] at h2; exact h2
        | exc c d ρ4 st4 => rw [hg] at h2; exact h2
        | stuck => rw [hg] at h2; exact h2
    · exact h2.elim
  · left
    have ei : i = xs.length := by omega
    subst ei
    rw [List.drop_length, frL] at h2
    split at h2
    · rename_i hst
      exact ⟨(hJ _ F2 as2 st2 H2 e2 S2 (still_of hst)).2 rfl, h2 F2 as2 H2 σ2 Ext.refl S2 L2⟩
    · exact h2.elim
end
end MP
end
section
set_option linter.all false
set_option Elab.async false
set_option maxRecDepth 100000
set_option maxHeartbeats 4000000
namespace MP
open PySem PySem.Spec PyProof.Rows L2 PySem.W
def PostG (X : Cx) (Y : Wd) (W : WX) (P : Hp) (Q : L2.St → Hp → Prop) (F : Hp) (as : List Addr) (r : RS) : Prop := match r with
  | .nx ρ st => ∀ F' as' H' σ', Ext F as F' as' → StR X.K ⟨Y.CA, P⟩ F' as' st H' → SlR X.K F' as' ρ σ' → Q σ' H'
  | .exc c d ρ st => ∀ F' as' H' σ', Ext F as F' as' → StR X.K ⟨Y.CA, P⟩ F' as' st H' → SlR X.K F' as' ρ σ' → ExW X.K Y.EF W σ' c d st F' as' H'
  | _ => False
def nxOnly : RS → Prop
  | .nx _ _ | .exc _ _ _ _ | .stuck => True
  | _ => False
def gS (X : Cx) (Y : Wd) (W : WX) (f : D → Env → Store → RS) : TG := fun v σ H Q => ∃ P F as ρ st d, StR X.K ⟨Y.CA, P⟩ F as st H ∧ SlR X.K F as ρ σ ∧ RepD X.K F as d v ∧ PostG X Y W P Q F as (f d ρ st)
def gSs (X : Cx) (Y : Wd) (W : WX) (f : List D → Env → Store → RS) : TGs := fun v σ H Q => ∃ P F as ρ st d, StR X.K ⟨Y.CA, P⟩ F as st H ∧ SlR X.K F as ρ σ ∧ RepDs X.K F as d v ∧ PostG X Y W P Q F as (f d ρ st)
theorem impPG {X : Cx} {e : Expr} {t t' : TG} (h : PG X e t) (i : ∀ v σ H Q, t' v σ H Q → t v σ H Q) : PG X e t' := ⟨fun pins s σ H v u Q I r q => h.run pins s σ H v u Q I r (i _ _ _ _ q)⟩
theorem impPGs {X : Cx} {e : List Expr} {t t' : TGs} (h : PGs X e t) (i : ∀ v σ H Q, t' v σ H Q → t v σ H Q) : PGs X e t' := ⟨fun pins s σ H v u Q I r q => h.run pins s σ H v u Q I r (i _ _ _ _ q)⟩
section
variable {X : Cx} {Y : Wd} {W : WX} {P : Hp} {Q : L2.St → Hp → Prop} {D : Ends} {F F' : Hp} {as as' : List Addr} {ρ : Env} {σ : L2.St} {st : Store} {H : Hp}
theorem PostG.ext {r : RS} (e : Ext F as F' as') (h : PostG X Y W P Q F as r) : PostG X Y W P Q F' as' r := by
  cases r with
  | nx ρ st => exact fun F2 as2 H2 σ2 e2 s l => h F2 as2 H2 σ2 (e.trans e2) s l
  | exc c d ρ st => exact fun F2 as2 H2 σ2 e2 s l => h F2 as2 H2 σ2 (e.trans e2) s l
  | _ => exact h
theorem PostG.bind {α : Type} {r : R α} {f : α → Store → RS} (L : SlR X.K F as ρ σ) (h : PostG X Y W P Q F as (r.bindS ρ f)) : Post X.K ⟨Y.CA, P⟩ (ExW X.K Y.EF W σ) F as r fun a st' F' as' _ => PostG X Y W P Q F' as' (f a st') := by
  cases r with
  | ok a st' => exact fun F' as' H' e s => PostG.ext e (show PostG X Y W P Q F as (f a st') from h)
  | exc c d st' => exact fun F' as' H' e s => h F' as' H' σ e s (L.ext e)
  | stuck => exact h
theorem PostG.then {r : RS} {f : Env → Store → RS} (hn : nxOnly r) (h : PostG X Y W P Q F as (r.then f)) : PostG X Y W P (fun σ' H' => ∃ P F as ρ st, StR X.K ⟨Y.CA, P⟩ F as st H' ∧ SlR X.K F as ρ σ' ∧ PostG X Y W P Q F as (f ρ st)) F as r := by
  cases r with
  | nx ρ st => exact fun F2 as2 H2 σ2 e2 s l => ⟨P, F2, as2, ρ, st, s, l, PostG.ext e2 h⟩
  | exc c d ρ st => exact h
  | stuck => exact h
  | _ => exact hn.elim
theorem PostS.g {r : RS} (hn : nxOnly r) (h : PostS X Y W P D F as r) : PostG X Y W P D.nx F as r := by
  cases r with
  | nx ρ st => exact h
  | exc c d ρ st => exact h
  | stuck => exact h
  | _ => exact hn.elim
theorem nxOnly_bind {α : Type} {r : R α} {f : α → Store → RS} (h : ∀ a st, nxOnly (f a st)) : nxOnly (r.bindS ρ f) := by
  cases r with
  | ok a st => exact h a st
  | exc c d st => trivial
  | stuck => trivial
theorem nxOnly_then {r : RS} {f : Env → Store → RS} (hr : nxOnly r) (h : ∀ a st, nxOnly (f a st)) : nxOnly (r.then f) := by
  cases r with
  | nx ρ st => exact h ρ st
  | exc c d ρ st => trivial
  | stuck => trivial
  | _ => exact hr.elim
theorem nxOnly_asgT {Φ : MP.Key → List MP.D → Store → R MP.D} {G : Gb} (t : Tg) (v : MP.D) (ρ : Env) (st : Store) : nxOnly (asgT Φ G t v ρ st) := by
  cases t with
  | name i => trivial
  | sub o i =>
    refine nxOnly_bind fun x st => nxOnly_bind fun y st => ?_
    cases setSub x y v st with
    | none => trivial
    | some st => trivial
  | fld o f =>
    refine nxOnly_bind fun x st => ?_
    show nxOnly (match setFld x f v st with | some st => _ | none => _)
    cases setFld x f v st with
    | none => trivial
    | some st => trivial
theorem nxOnly_asgTs {Φ : MP.Key → List MP.D → Store → R MP.D} {G : Gb} : ∀ (ts : List Tg) (vs : List MP.D) (ρ : Env) (st : Store), nxOnly (asgTs Φ G ts vs ρ st)
  | [], [], _, _ => trivial
  | t :: ts, v :: vs, ρ, st => nxOnly_then (nxOnly_asgT t v ρ st) fun ρ st => nxOnly_asgTs ts vs ρ st
  | [], _ :: _, _, _ => trivial
  | _ :: _, [], _, _ => trivial
end
section
variable {X : Cx} {Y : Wd} {W : WX} {a b c o e v tg : Expr} {es : List Expr} {s : Stmt} {ss : List Stmt} {fa fb fc fo fi : Env → Store → R D} {ft : Env → Store → R Bool} {fs : Env → Store → R (List D)} {gs hs : Env → Store → RS} {pos apos : Pos} {i : Nat}
variable {N : List Str} {sc : Scope} {fb' : Str → Bool} {ga : D → Env → Store → RS} {gas : List D → Env → Store → RS}
/-! ### targets -/
theorem g_name (hN : X.N.Nodup) (q : At X N sc fb') {i : Nat} (h : isNm N sc fb' i e = true) : PG X e (gS X Y W fun d ρ st => .nx (ρ.set i (some d)) st) :=
  impPG (pg_nm hN q h) fun v σ H Q ⟨P, F, as, ρ, st, d, S, L, r, h⟩ => h F as H _ Ext.refl S (L.set i r)
theorem setSub_ok {x y v : D} {st st' : Store} {ca : Cf} {F : Hp} {as : List Addr} {H : Hp} {vx vy vv : V} {Q : Hp → Prop} (S : StR X.K ca F as st H) (rx : RepD X.K F as x vx) (ry : RepD X.K F as y vy) (rv : RepD X.K F as v vv) (h : setSub x y v st = some st')
    (q : ∀ H', StR X.K ca F as st' H' → Q H') : rSetL vx vy vv H Q := by
  unfold setSub at h
  split at h
  · split at h
    · rename_i k j _ xs hk
      cases rx with
      | ref ha =>
        cases ry
        obtain ⟨c, hc, cr⟩ := S.at_ ha
        rw [hk] at hc
        cases hc
        cases cr with
        | lst hH r =>
          rename_i ws
          cases hn : ixn xs.length j with
          | none => rw [hn] at h; cases h
          | some n =>
            rw [hn] at h
            cases h
            refine ⟨_, ws, j, n, rfl, rfl, hH, ?_, q _ (S.setCell ha (.lst upd_same (r.set rv n)))⟩
            rw [← r.length]
            exact hn
    · cases h
  · cases h
theorem g_sub (ho : PE X o (tE X Y W fo)) (hi : PE X e (tE X Y W fi)) (hp : plainIx e = true) : PG X (.Subscript o e pos) (gS X Y W fun v ρ st => (fo ρ st).bindS ρ fun x st => (fi ρ st).bindS ρ fun y st => match setSub x y v st with
    | some st => .nx ρ st
    | none => .stuck) := by
  have ha : ∀ v, assign (.Subscript o e pos) X.env v = (do
      let ov ← holding [v] (eval o X.env)
      let iv ← holding [v, ov] (eval e X.env)
      standAt pos
      holding [v, ov, iv] (setItem ov iv v)
      release [v, ov, iv] []) := by
    intro v
    cases e <;> first | rfl | (cases hp; done)
  refine impPG (pg_sub ho hi set_list ha) fun v σ H Q ⟨P, F, as, ρ, st, d, S, L, r, h⟩ => ?_
  refine ⟨P, F, as, ρ, st, S, L, (PostG.bind L h).imp fun x st1 F1 as1 H1 e1 S1 h1 vx rx => ?_⟩
  refine ⟨P, F1, as1, ρ, st1, S1, L.ext e1, (PostG.bind (L.ext e1) h1).imp fun y st2 F2 as2 H2 e2 S2 h2 vy ry => ?_⟩
  split at h2
  · rename_i st3 hs
    exact setSub_ok S2 (rx.ext e2) ry ((r.ext e1).ext e2) hs fun H' S' => h2 F2 as2 H' σ Ext.refl S' ((L.ext e1).ext e2)
  · exact h2.elim
theorem setFld_ok (D : Sd X Y) {x v : MP.D} {f : String} {st st' : Store} {P F : Hp} {as : List Addr} {H : Hp} {vx vv : V} (hf : f ∈ Y.tb.flds) (S : StR X.K ⟨Y.CA, P⟩ F as st H) (rx : RepD X.K F as x vx) (rv : RepD X.K F as v vv) (h : setFld x f v st = some st') :
    ∃ a C dx fs, vx = .ref a ∧ H a = some (.ins C dx fs) ∧ Cls X.K C ∧ NoAttr X.K C (Str.ofString f) ∧ fs.length < 1000 ∧ StR X.K ⟨Y.CA, P⟩ F as st' (upd H a (.ins C dx (putF (Str.ofString f) vv fs))) := by
  unfold setFld at h
  split at h
  · split at h
    · rename_i k c fs hk
      split at h
      · rename_i hl
        cases h
        cases rx with
        | ref ha =>
          obtain ⟨c', hc, cr⟩ := S.at_ ha
          rw [hk] at hc
          cases hc
          cases cr with
          | ins hca hH r =>
            obtain ⟨c1, c2⟩ := D.cl _ _ hca
            exact ⟨_, _, _, _, rfl, hH, c1, c2 f hf, by rw [← r.length]; exact hl, S.setCell ha (.ins hca upd_same (r.set rv))⟩
      · cases h
    · cases h
  · cases h
theorem g_fld (D : Sd X Y) {f : String} {x : Str} (hx : x = Str.ofString f) (hf : f ∈ Y.tb.flds) (ho : PE X o (tE X Y W fo)) : PG X (.Attribute o x pos) (gS X Y W fun v ρ st => (fo ρ st).bindS ρ fun x st => match setFld x f v st with
    | some st => .nx ρ st
    | none => .stuck) := by
  subst hx
  refine ⟨fun pins s σ H v u Q I rv ⟨P, F, as, ρ, st, d, S, L, r, h⟩ => ?_⟩
  have h2 : tE X Y W fo σ H fun v1 H1 => ∃ a C dx fs, v1 = .ref a ∧ H1 a = some (.ins C dx fs) ∧ Cls X.K C ∧ NoAttr X.K C (Str.ofString f) ∧ fs.length < 1000 ∧ Q σ (upd H1 a (.ins C dx (putF (Str.ofString f) v fs))) := by
    refine ⟨P, F, as, ρ, st, S, L, (PostG.bind L h).imp fun x st1 F1 as1 H1 e1 S1 h1 vx rx => ?_⟩
    split at h1
    · rename_i st3 hs
      obtain ⟨a, C, dx, fs, k1, k2, k3, k4, k5, k6⟩ := setFld_ok D hf S1 rx (r.ext e1) hs
      exact ⟨a, C, dx, fs, k1, k2, k3, k4, k5, h1 F1 as1 _ σ Ext.refl k6 (L.ext e1)⟩
    · exact h1.elim
  show wpAny _ _ (do
    let ov ← holding [u] (eval o X.env)
    standAt pos.atName
    holding [u, ov] (setAttr ov (Str.ofString f) u)
    release [u, ov] []) _ _ s
  refine wpAny_bind (wpAny_holding (thn (ho.run pins s σ H _ I h2) fun ov s1 ⟨x, H1, I1, r1, a, C, dx, fs, k1, k2, k3, k4, k5, k6⟩ => ?_))
  subst k1
  obtain rfl : ov = Value.ref a := r1
  refine wpAny_bind (wpAny_standAt (wpAny_bind (wpAny_holding (setattr_ok I1 k2 k3 k4 k5 rv fun s3 I3 => ?_))))
  exact wpAny_release ⟨σ, _, I3, k6⟩
theorem gs_nil : PGs X [] (gSs X Y W fun ds ρ st => match ds with
    | [] => .nx ρ st
    | _ => .stuck) := impPGs pgs_nil fun v σ H Q ⟨P, F, as, ρ, st, d, S, L, r, h⟩ => by
  cases r with
  | nil => exact ⟨rfl, h F as H σ Ext.refl S L⟩
  | cons _ _ => exact h.elim
theorem gs_cons (hn : ∀ d ρ st, nxOnly (ga d ρ st)) (h1 : PG X e (gS X Y W ga)) (h2 : PGs X es (gSs X Y W gas)) (hs : (assignEach (e :: es) X.env).map (·.2) = assign e X.env :: (assignEach es X.env).map (·.2)) :
    PGs X (e :: es) (gSs X Y W fun ds ρ st => match ds with
    | d :: ds => (ga d ρ st).then fun ρ st => gas ds ρ st
    | [] => .stuck) := impPGs (pgs_cons h1 h2 hs) fun v σ H Q ⟨P, F, as, ρ, st, d, S, L, r, h⟩ => by
  cases r with
  | nil => exact h.elim
  | @cons d0 v0 ds0 vs0 r t =>
    refine ⟨_, _, rfl, P, F, as, ρ, st, _, S, L, r, ?_⟩
    have hn := hn d0 ρ st
    have h : PostG X Y W P Q F as ((ga d0 ρ st).then fun ρ st => gas ds0 ρ st) := h
    generalize ga d0 ρ st = rr at h hn
    cases rr with
    | nx ρ1 st1 => exact fun F2 as2 H2 σ2 e2 s l => ⟨P, F2, as2, ρ1, st1, _, s, l, t.ext e2, PostG.ext e2 h⟩
    | exc c d ρ1 st1 => exact h
    | stuck => exact h
    | _ => exact hn.elim
/-- (a, b, ..) = a tuple, a list -/
theorem g_unp {ts : List Tg} {k n : Nat} (hc : X.calm = true) (h : PGs X es (gSs X Y W (asgTs Y.Φ Y.G ts))) (hl : ts.length = n) (hn : (assignEach es X.env).length = n) (hst : (assignEach es X.env).findIdx? (·.1) = none) :
    PG X (.Tuple es k pos) (gS X Y W fun v ρ st => match seq st v with
      | some vs => if vs.length = ts.length then asgTs Y.Φ Y.G ts vs ρ st else .stuck
      | none => .stuck) := by
  refine ⟨fun pins s σ H v u Q I rv ⟨P, F, as, ρ, st, d, S, L, r, h2⟩ => ?_⟩
  dsimp only at h2
  split at h2
  · rename_i vs hd
    split at h2
    · rename_i hlen
      obtain ⟨a, xs, rfl, t, q⟩ := r.seqOf S hd
      have hx : xs.length = n := by rw [← q.length, hlen, hl]
      have h3 : gSs X Y W (asgTs Y.Φ Y.G ts) xs σ H Q := ⟨P, F, as, ρ, st, vs, S, L, q, h2⟩
      rcases t with t | t
      · exact (pg_unl hc h hn hst).run pins s σ H _ u Q I rv ⟨a, xs, rfl, t, hx, h3⟩
      · exact (pg_tup hc h hn hst).run pins s σ H _ u Q I rv ⟨a, xs, rfl, t, hx, h3⟩
    · exact h2.elim
  · exact h2.elim
/-! ### assignments -/
theorem t_asg (hv : PE X v (tE X Y W fa)) (hg : PG X tg (gS X Y W ga)) (hn : ∀ d ρ st, nxOnly (ga d ρ st)) (hs : swapsWithSole [tg] v pos.line X.env = pure false) (hw : swappedStores [tg] v X.env = pure none) (h1 : (assignEach [tg] X.env).map (·.2) = [assign tg X.env]) :
    PS X (.Assign [tg] v pos) (tS X Y W fun ρ st => (fa ρ st).bindS ρ fun d st => ga d ρ st) :=
  impPS (ps_asg hv hg hs hw h1) fun D σ H ⟨P, F, as, ρ, st, S, L, h⟩ => ⟨P, F, as, ρ, st, S, L, (PostS.bind L h).imp fun d st1 F1 as1 H1 e1 S1 h1 v rv => ⟨P, F1, as1, ρ, st1, d, S1, L.ext e1, rv, h1.g (hn _ _ _)⟩⟩
/-- name = [..], the store within the comprehension -/
theorem t_setLc (hy : Sd X Y) {m : Bool} {tg : List Nat} {sg : Bool} {i : Nat} {y : Str} {py spos : Pos} {tgE itE elt : Expr} {ifs : List Expr} {scope : Scope} {own : List (Str × Nat)} {fw : Env → Store → R (MP.D × List MP.D × List MP.D)} {fe : Env → Store → R MP.D}
    (hyN : X.N[i]? = some y) (hyl : X.env.scope.names.lookup y = some .local) (hsw : swapsWith (.ListComp elt [⟨tgE, itE, ifs, 0⟩] scope pos) (some (.Name y py)) spos.line X.env = pure true)
    (hi : PI X tgE itE (tI X Y W fw)) (ok : BlkOk X.N X.env.scope scope own) (hv : ∀ v, v ∈ own.map (·.2) → v ∈ tg) (hv2 : ∀ v, v ∈ tg → v ∈ own.map (·.2))
    (hg : ∀ (s : Shared) (H : Hp) (C : Addr) (cl : List (Str × Addr)) (fp : List Addr), PG (X.blk s H scope (compEnvC scope cl C X.env) fp) tgE (gT X.K tg sg))
    (ht : ∀ (s : Shared) (H : Hp) (C : Addr) (cl : List (Str × Addr)) (fp : List Addr), PTs (X.blk s H scope (compEnvC scope cl C X.env) fp) ifs (tT X Y W0 ft))
    (he : ∀ (s : Shared) (H : Hp) (C : Addr) (cl : List (Str × Addr)) (fp : List Addr), PE (X.blk s H scope (compEnvC scope cl C X.env) fp) elt (tE X Y W0 fe)) (hs : ∀ x, foldedSetIterable itE X.env x = pure x) :
    PS X (.Assign [.Name y py] (.ListComp elt [⟨tgE, itE, ifs, 0⟩] scope pos) spos) (tS X Y W fun ρ st =>
      ((fw ρ st).bind fun w st => (compL w.1 w.2.1 (fun x => bindT tg sg x ρ) ft fe w.2.2 [] st).bind fun ds st => newL m ds st).bindS ρ fun d st => .nx (ρ.set i (some d)) st) :=
  impPS (ps_setLc hy.calm hy.nd hyN hyl hsw hi ok hg ht he hs) fun D σ H ⟨P, F, as, ρ, st, S, L, h⟩ =>
    comp_imp (X := X) (Y := Y) (W := W) (m := m) hv hv2 σ H _ ⟨P, F, as, ρ, st, S, L, (PostS.bind L h).imp fun d st1 F1 as1 H1 e1 S1 h1 v rv => h1 F1 as1 H1 _ Ext.refl S1 ((L.ext e1).set i rv)⟩
theorem t_par2 (hy : Sd X Y) {i j : Nat} {x y : Str} {px py pt p2 : Pos} {k k2 : Nat} (hi : X.N[i]? = some x) (hj : X.N[j]? = some y) (hij : i ≠ j) (hx : X.env.scope.names.lookup x = some .local) (hy2 : X.env.scope.names.lookup y = some .local) (ha : PA X [a, b] (tA X Y W fs))
    (hw : swappedStores [.Tuple [.Name x px, .Name y py] k pt] (.Tuple [a, b] k2 p2) X.env = pure (some [x, y])) :
    PS X (.Assign [.Tuple [.Name x px, .Name y py] k pt] (.Tuple [a, b] k2 p2) pos) (tS X Y W fun ρ st => (fs ρ st).bindS ρ fun vs st => match setAll ρ [i, j] vs with
      | some ρ => .nx ρ st
      | none => .stuck) :=
  impPS (ps_par hy.calm hy.nd hi hj hij hx hy2 ha hw) fun D σ H ⟨P, F, as, ρ, st, S, L, h⟩ => by
    refine ⟨P, F, as, ρ, st, S, L, (PostS.bind L h).imp fun ds st1 F1 as1 H1 e1 S1 h1 vs rv => ?_⟩
    cases rv with
    | nil => exact h1.elim
    | cons r1 t1 => cases t1 with
      | nil => exact h1.elim
      | cons r2 t2 => cases t2 with
        | cons _ _ => exact h1.elim
        | nil => exact ⟨_, _, rfl, h1 F1 as1 H1 _ Ext.refl S1 (((L.ext e1).set i r1).set j r2)⟩
theorem t_par3 (hy : Sd X Y) {i j l : Nat} {x y z : Str} {px py pz pt p2 : Pos} {k k2 : Nat} (hi : X.N[i]? = some x) (hj : X.N[j]? = some y) (hl : X.N[l]? = some z) (hij : i ≠ j) (hil : i ≠ l) (hjl : j ≠ l) (hx : X.env.scope.names.lookup x = some .local) (hy2 : X.env.scope.names.lookup y = some .local) (hz : X.env.scope.names.lookup z = some .local)
    (ha : PA X [a, b, c] (tA X Y W fs)) (hw : swappedStores [.Tuple [.Name x px, .Name y py, .Name z pz] k pt] (.Tuple [a, b, c] k2 p2) X.env = pure (some [x, y, z])) :
    PS X (.Assign [.Tuple [.Name x px, .Name y py, .Name z pz] k pt] (.Tuple [a, b, c] k2 p2) pos) (tS X Y W fun ρ st => (fs ρ st).bindS ρ fun vs st => match setAll ρ [i, j, l] vs with
      | some ρ => .nx ρ st
      | none => .stuck) :=
  impPS (ps_par3 hy.calm hy.nd hi hj hl hij hil hjl hx hy2 hz ha hw) fun D σ H ⟨P, F, as, ρ, st, S, L, h⟩ => by
    refine ⟨P, F, as, ρ, st, S, L, (PostS.bind L h).imp fun ds st1 F1 as1 H1 e1 S1 h1 vs rv => ?_⟩
    cases rv with
    | nil => exact h1.elim
    | cons r1 t1 => cases t1 with
      | nil => exact h1.elim
      | cons r2 t2 => cases t2 with
        | nil => exact h1.elim
        | cons r3 t3 => cases t3 with
          | cons _ _ => exact h1.elim
          | nil => exact ⟨_, _, _, rfl, h1 F1 as1 H1 _ Ext.refl S1 ((((L.ext e1).set i r1).set j r2).set l r3)⟩
/-! ### op= -/
def rAugO (op : Operator) : TIp := fun x y H Q => ∃ i j z, x = .int i ∧ y = .int j ∧ augD op (.int i) (.int j) = some (.int z) ∧ Q (.int z) H
theorem ip_aug {op : Operator} : PIp X op (rAugO op) := by
  intro pins s σ H x y v u Q I r1 r2 ⟨i, j, z, e1, e2, h, q⟩
  subst e1 e2
  obtain ⟨t, rfl⟩ := r1
  obtain ⟨t', rfl⟩ := r2
  unfold augD at h
  cases op with
  | Add => cases h; exact PySem.P.iadd_int ⟨.int _, H, I.tok _, ⟨_, rfl⟩, q⟩
  | Sub => cases h; exact PySem.P.isub_int ⟨.int _, H, I.tok _, ⟨_, rfl⟩, q⟩
  | Mult =>
    simp only at h
    split at h
    · rename_i hm
      cases h
      exact PySem.P.imul_int ⟨.int _, H, I.tok _, ⟨_, rfl⟩, q⟩ (mulOk_ok hm)
    · cases h
  | _ => cases h
theorem augD_int {op : Operator} {x y z : D} (h : augD op x y = some z) : ∃ i j k, x = .int i ∧ y = .int j ∧ z = .int k ∧ augD op (.int i) (.int j) = some (.int k) := by
  have h0 := h
  unfold augD at h
  split at h
  · cases op with
    | Mult =>
      simp only at h
      split at h
      · cases h; exact ⟨_, _, _, rfl, rfl, rfl, h0⟩
      · cases h
    | Add => cases h; exact ⟨_, _, _, rfl, rfl, rfl, h0⟩
    | Sub => cases h; exact ⟨_, _, _, rfl, rfl, rfl, h0⟩
    | _ => cases h
  · cases h
theorem aug_rep {op : Operator} {x y z : D} {F : Hp} {as : List Addr} {vx vy : V} {H : Hp} {Q : VK} (h : augD op x y = some z) (rx : RepD X.K F as x vx) (ry : RepD X.K F as y vy) (q : ∀ v, RepD X.K F as z v → Q v H) : rAugO op vx vy H Q := by
  obtain ⟨i, j, k, rfl, rfl, rfl, h1⟩ := augD_int h
  cases rx
  cases ry
  exact ⟨i, j, k, rfl, rfl, h1, q _ (.int k)⟩
theorem t_aug (hN : X.N.Nodup) (q : At X N sc fb') {op : Operator} {i : Nat} {e : Expr} {x : Str} {p : Pos} (hm : isNm N sc fb' i (.Name x p) = true) (he : PE X e (tE X Y W fa)) :
    PS X (.AugAssign (.Name x p) op e pos) (tS X Y W fun ρ st => (evE Y.Φ Y.G (.var i) ρ st).bindS ρ fun x st => (fa ρ st).bindS ρ fun y st => (R.of (augD op x y) st).bindS ρ fun z st => .nx (ρ.set i (some z)) st) := by
  obtain ⟨x', p', e', h1, h2⟩ := nm_of hm
  cases e'
  have hx : Loc X.env.scope x := by rw [q.sc]; rcases h2 with z | z; exact .inl z; exact .inr z.1
  have hf : X.fn x = true ∨ X.env.scope.names.lookup x = some .local := by rw [q.sc]; rcases h2 with z | z; exact .inr z; exact .inl (q.fb x z.2)
  refine impPS (ps_aug hN (by rw [q.N]; exact h1) hx he ip_aug hf) fun D σ H ⟨P, F, as, ρ, st, S, L, h⟩ => ?_
  have h3 := PostS.bind L h
  simp only [evE] at h3
  split at h3
  · exact h3.elim
  · rename_i d ne hd
    obtain ⟨v, ev, r⟩ := L.at_ i d hd fun c e' z => by exact ne c e' z
    refine ⟨v, ev, P, F, as, ρ, st, S, L, (PostS.bind L (Post.ok S h3)).imp fun y st1 F1 as1 H1 e1 S1 h4 w rw' => ?_⟩
    obtain ⟨z, hz, q4⟩ := Post.of S1 (PostS.bind (L.ext e1) h4)
    exact aug_rep hz (r.ext e1) rw' fun u ru => q4 F1 as1 H1 _ Ext.refl S1 ((L.ext e1).set i ru)
  · exact h3.elim
theorem get_list : PGet X (fun o i H Q => ∃ p xs k v, o = .ref p ∧ i = .int k ∧ SqL X.K H p xs ∧ atI xs k = some v ∧ Q v H) := by
  intro pins s σ H o i ov iv Q I ro ri ⟨p, xs, k, z, e1, e2, hq, he, q⟩
  subst e1 e2
  cases ro
  obtain ⟨t, rfl⟩ := ri
  obtain ⟨its, r, pl, hz⟩ := I.list hq
  obtain ⟨j, h1, h2, h3, h4, h5⟩ := atI_get he
  obtain ⟨w, ew, rw'⟩ := r.get h2
  have hl := r.length
  have hn := line63
  have fin : EP X pins σ Q w s := ⟨z, H, I, rw', q⟩
  by_cases h0 : 0 ≤ k
  · have hj : k.toNat = j := by
      rw [seqIndex_of h0 h5] at h1
      exact Option.some.inj h1
    exact wpAny_getItem_list pl.isList h0 (by omega) (by rw [hj]; simpa using ew) fin
  · have hj : (k + (its.toArray.size : Int)).toNat = j := by
      rw [seqIndex_neg (by omega) h4] at h1
      rw [List.size_toArray, ← hl]
      exact Option.some.inj h1
    exact wpAny_getItem_list_neg pl.isList (by omega) (by rw [List.size_toArray] <;> omega) (by omega) (by rw [hj]; simpa using ew) fin
theorem t_augS {op : Operator} {p2 : Pos} (hp : plainIx b = true) (ho : PE X o (tE X Y W fo)) (hi : PE X b (tE X Y W fi)) (he : PE X e (tE X Y W fa)) :
    PS X (.AugAssign (.Subscript o b p2) op e pos) (tS X Y W fun ρ st => (fo ρ st).bindS ρ fun x st => (fi ρ st).bindS ρ fun n st => (if isLst x st = true then R.of (idxD x n st) st else .stuck).bindS ρ fun w st => (fa ρ st).bindS ρ fun y st =>
      (R.of (augD op w y) st).bindS ρ fun z st => match setSub x n z st with
      | some st => .nx ρ st
      | none => .stuck) := by
  have ha : ∀ ov iv new, augStore b ov iv new = (do holding [new, ov, iv] (setItem ov iv new); release [new, ov, iv] []; pure .next) := by
    intro ov iv new
    cases b <;> first | rfl | (cases hp; done)
  refine impPS (ps_augS ho hi get_list he ip_aug set_list ha) fun D σ H ⟨P, F, as, ρ, st, S, L, h⟩ => ?_
  refine ⟨P, F, as, ρ, st, S, L, (PostS.bind L h).imp fun x st1 F1 as1 H1 e1 S1 h1 vx rx => ?_⟩
  have L1 := L.ext e1
  refine ⟨P, F1, as1, ρ, st1, S1, L1, (PostS.bind L1 h1).imp fun n st2 F2 as2 H2 e2 S2 h2 vn rn => ?_⟩
  have L2 := L1.ext e2
  have h2 := PostS.bind L2 h2
  split at h2
  · rename_i hil
    obtain ⟨w, hw, h3⟩ := Post.of S2 h2
    have hget : ∃ p xs k v, vx = .ref p ∧ vn = .int k ∧ SqL X.K H2 p xs ∧ atI xs k = some v ∧ RepD X.K F2 as2 w v := by
      cases hdl : dl st2 x with
      | lst ds =>
        obtain ⟨a, xs, ev, hx, r⟩ := (rx.ext e2).lstAt S2 hdl
        unfold idxD at hw
        rw [hdl] at hw
        cases rn with
        | int k =>
          obtain ⟨v, k1, k2⟩ := atI_rep r hw
          exact ⟨a, xs, k, v, ev, rfl, SqL.of hx, k1, k2⟩
        | _ => cases hw
      | _ =>
        unfold isLst at hil
        unfold dl at hdl
        cases x with
        | ref k =>
          simp only at hil hdl
          split at hil
          · rename_i q; rw [q] at hdl; cases hdl
          · cases hil
        | _ => cases hil
    obtain ⟨p, xs, k, v, g1, g2, g3, g4, rv⟩ := hget
    refine ⟨p, xs, k, v, g1, g2, g3, g4, P, F2, as2, ρ, st2, S2, L2, (PostS.bind L2 h3).imp fun y st3 F3 as3 H3 e3 S3 h4 vy ry => ?_⟩
    have L3 := L2.ext e3
    obtain ⟨z, hz, h5⟩ := Post.of S3 (PostS.bind L3 h4)
    refine aug_rep hz (rv.ext e3) ry fun u ru => ?_
    split at h5
    · rename_i st4 hs
      exact setSub_ok S3 ((rx.ext e2).ext e3) (rn.ext e3) ru hs fun H' S' => h5 F3 as3 H' σ Ext.refl S' L3
    · exact h5.elim
  · exact h2.elim
theorem t_augF (hD : Sd X Y) {op : Operator} {f : String} {x : Str} {p2 : Pos} (hx : x = Str.ofString f) (hf : f ∈ Y.tb.flds) (ho : PE X o (tE X Y W fo)) (he : PE X e (tE X Y W fa)) :
    PS X (.AugAssign (.Attribute o x p2) op e pos) (tS X Y W fun ρ st => (fo ρ st).bindS ρ fun x st => (R.of (getFld x f st) st).bindS ρ fun w st0 => (fa ρ st0).bindS ρ fun y st => (R.of (augD op w y) st).bindS ρ fun z st =>
      if clsN x st0 = clsN x st then (match setFld x f z st with
      | some st => .nx ρ st
      | none => .stuck) else .stuck) := by
  subst hx
  have hop : InOp X op (rAugO op) := fun pins s σ H x y u v Q I rx ry h => ip_aug pins s σ H x y u v Q I rx ry h
  refine impPS (ps_fldaug ho he hop) fun D σ H ⟨P, F, as, ρ, st, S, L, h⟩ => ?_
  refine ⟨P, F, as, ρ, st, S, L, (PostS.bind L h).imp fun x st1 F1 as1 H1 e1 S1 h1 vx rx => ?_⟩
  have L1 := L.ext e1
  obtain ⟨w, hw, h2⟩ := Post.of S1 (PostS.bind L1 h1)
  cases rx with
  | ref hk =>
    rename_i k ad
    obtain ⟨c, hc, cr⟩ := S1.at_ hk
    simp only [getFld, hc] at hw
    cases cr with
    | lst _ _ => cases hw
    | ins hca hH hF =>
      obtain ⟨v, hv, rv⟩ := (FldR.get (f := f) hF).1 w hw
      obtain ⟨c1, c2⟩ := hD.cl _ _ hca
      refine ⟨ad, _, _, _, v, rfl, hH, c1, c2 f hf, hv, P, F1, as1, ρ, st1, S1, L1, (PostS.bind L1 h2).imp fun y st2 F2 as2 H2 e2 S2 h3 vy ry => ?_⟩
      have L2 := L1.ext e2
      obtain ⟨z, hz, h4⟩ := Post.of S2 (PostS.bind L2 h3)
      refine aug_rep hz (rv.ext e2) ry fun u ru => ?_
      split at h4
      · rename_i hcl
        split at h4
        · rename_i st3 hs
          obtain ⟨bs, eb⟩ := e2.more
          have hk2 : as2[k]? = some ad := by rw [eb]; exact get_app hk
          obtain ⟨c2', hc2, cr2⟩ := S2.at_ hk2
          simp only [clsN, hc, hc2] at hcl
          cases cr2 with
          | lst _ _ => cases hcl
          | ins hca2 hH2 hF2 =>
            injection hcl with hcl
            subst hcl
            rw [hca] at hca2
            cases hca2
            unfold setFld at hs
            simp only [hc2] at hs
            split at hs
            · rename_i hl
              cases hs
              exact ⟨_, _, hH2, by rw [← hF2.length]; exact hl, h4 F2 as2 _ σ Ext.refl (S2.setCell hk2 (.ins hca upd_same (hF2.set ru))) L2⟩
            · cases hs
        · exact h4.elim
      · exact h4.elim
  | _ => cases hw
end
end MP
end
section
set_option linter.all false
set_option Elab.async false
set_option maxRecDepth 100000
set_option maxHeartbeats 4000000
namespace MP
open PySem PySem.Spec PyProof.Rows L2 PySem.W
/-! ### the text of statements -/
def isStarE : Expr → Bool
  | .Starred .. => true
  | _ => false
def nmAt (sc : Scope) (line : Nat) : Expr → Option Str
  | .Name id pos => if (sc.names.lookup id == some .local && pos.line == line) = true then some id else none
  | _ => none
def lineOf (ts : List Expr) : Nat := (ts.head?.map (·.pos.line)).getD 0
def swT (sc : Scope) (ts vs : List Expr) : Option (Option (List Str)) :=
  if (!(ts.length == 2 || ts.length == 3) || vs.length != ts.length) = true then some none else
  if vs.any isStarE = true then some none else
  if ((ts.filterMap (nmAt sc (lineOf ts))).length != ts.length || (ts.filterMap (nmAt sc (lineOf ts))).eraseDups.length != (ts.filterMap (nmAt sc (lineOf ts))).length) = true then some none else
  if vs.all (foldedForSure 8) = true then some none else
  if vs.all (constantsAlone 8) = true then none else some (some (ts.filterMap (nmAt sc (lineOf ts))))
theorem swT_ok {env : PySem.Env} {ts vs : List Expr} {k k2 : Nat} {p p2 : Pos} {r : Option (List Str)} (hk : env.scope.kind = .function) (h : swT env.scope ts vs = some r) : swappedStores [.Tuple ts k p] (.Tuple vs k2 p2) env = pure r := by
  have hb : (env.blockKind != .function) = false := by unfold Env.blockKind; rw [hk]; rfl
  unfold swappedStores
  show (if (!(ts.length == 2 || ts.length == 3) || vs.length != ts.length || env.blockKind != .function) = true then pure none else
    if vs.any isStarE = true then pure none else
    if ((ts.filterMap (nmAt env.scope (lineOf ts))).length != ts.length || (ts.filterMap (nmAt env.scope (lineOf ts))).eraseDups.length != (ts.filterMap (nmAt env.scope (lineOf ts))).length) = true then pure none else
    if vs.all (foldedForSure 8) = true then pure none else
    if vs.all (constantsAlone 8) = true then _ else pure (some (ts.filterMap (nmAt env.scope (lineOf ts))))) = _
  rw [hb, Bool.or_false]
  unfold swT at h
  split at h
  · rename_i c; rw [if_pos c]; cases h; rfl
  · rename_i c
    rw [if_neg c]
    split at h
    · rename_i c2; rw [if_pos c2]; cases h; rfl
    · rename_i c2
      rw [if_neg c2]
      split at h
      · rename_i c3; rw [if_pos c3]; cases h; rfl
      · rename_i c3
        rw [if_neg c3]
        split at h
        · rename_i c4; rw [if_pos c4]; cases h; rfl
        · rename_i c4
          rw [if_neg c4]
          split at h
          · cases h
          · rename_i c5
            rw [if_neg c5]
            cases h
            rfl
end MP
end
section
set_option linter.all false
set_option Elab.async false
set_option maxRecDepth 100000
set_option maxHeartbeats 4000000
namespace MP
open PySem PySem.Spec PyProof.Rows L2 PySem.W
/-! ### the text of statements -/
def swV (sc : Scope) (ts : List Expr) (v : Expr) : Option (Option (List Str)) := match v with
  | .Tuple vs _ _ => swT sc ts vs
  | _ => some none
theorem swV_ok {env : PySem.Env} {ts : List Expr} {v : Expr} {k : Nat} {p : Pos} {r : Option (List Str)} (hk : env.scope.kind = .function) (h : swV env.scope ts v = some r) : swappedStores [.Tuple ts k p] v env = pure r := by
  unfold swV at h
  split at h
  · exact swT_ok hk h
  · rename_i hn
    cases h
    cases v <;> first | rfl | (exact absurd rfl (hn _ _ _))
def notComp : Expr → Bool
  | .ListComp .. | .SetComp .. | .DictComp .. => false
  | _ => true
/-- whether the store lies within the comprehension -/
def swN (sc : Scope) (y : Str) (py : Pos) (v : Expr) : Bool := match v with
  | .ListComp _ _ scope p => (sc.names.lookup y == some .local) && (py.line == p.line) && !(scope.names.any fun (n, k) => n == y && (k == .local || k == .cell))
  | _ => false
theorem swN_ok {env : PySem.Env} {y : Str} {py : Pos} {v : Expr} {l : Nat} (hk : env.scope.kind = .function) (hc : notComp v = true ∨ (∃ a b c d, v = .ListComp a b c d)) : swapsWith v (some (.Name y py)) l env = pure (swN env.scope y py v) := by
  have hb : (env.blockKind == .function) = true := by unfold Env.blockKind; rw [hk]; rfl
  rcases hc with h | ⟨a, b, c, d, rfl⟩
  · cases v <;> first | rfl | (cases h; done)
  · show (pure (env.blockKind == .function && env.kindOf y == some .local && py.line == d.line && _) : Sem Bool) = pure _
    rw [hb, Bool.true_and]
    rfl
end MP
end
section
set_option linter.all false
set_option Elab.async false
set_option maxRecDepth 100000
set_option maxHeartbeats 4000000
namespace MP
open PySem PySem.Spec PyProof.Rows L2 PySem.W
def isFn (sc : Scope) : Bool := match sc.kind with
  | .function => true
  | _ => false
theorem isFn_ok {sc : Scope} (h : isFn sc = true) : sc.kind = .function := by
  unfold isFn at h
  split at h
  · assumption
  · cases h
def isLC : Expr → Bool
  | .ListComp .. => true
  | _ => false
section
variable (tb : Tb) (N : List Str) (sc : Scope) (fb : Str → Bool)
def cTg (t : Tg) (E : Expr) : Bool := match t with
  | .name i => isNm N sc fb i E
  | .sub o i => (match E with
    | .Subscript x y _ => plainIx y && cE tb N sc fb o x && cE tb N sc fb i y
    | _ => false)
  | .fld o f => (match E with
    | .Attribute x y _ => decide (y = Str.ofString f) && tb.flds.contains f && cE tb N sc fb o x
    | _ => false)
def cTgs : List Tg → List Expr → Bool
  | [], [] => true
  | t :: ts, e :: es => cTg tb N sc fb t e && cTgs ts es
  | _, _ => false
def isLoc (i : Nat) (x : Str) : Bool := decide (N[i]? = some x) && decide (sc.names.lookup x = some .local)
def cPar (is : List Nat) (ts vs : List Expr) : Bool := match is, ts, vs with
  | [i, j], [.Name x px, .Name y py], [a, b] => decide (swT sc [.Name x px, .Name y py] [a, b] = some (some [x, y])) && isLoc N sc i x && isLoc N sc j y && decide (i ≠ j)
  | [i, j, l], [.Name x px, .Name y py, .Name z pz], [a, b, c] => decide (swT sc [.Name x px, .Name y py, .Name z pz] [a, b, c] = some (some [x, y, z])) && isLoc N sc i x && isLoc N sc j y && isLoc N sc l z && decide (i ≠ j) && decide (i ≠ l) && decide (j ≠ l)
  | _, _, _ => false
/-- a target that is no tuple, with what swaps or not -/
def cAsg (t : Tg) (e : Ex) (tg v : Expr) : Bool := cTg tb N sc fb t tg && cE tb N sc fb e v && (match tg with
  | .Name y py => notComp v || isLC v
  | .Subscript .. => notComp v || isLC v
  | .Attribute .. => notComp v || isLC v
  | _ => false)
mutual
def cS : Sm → Stmt → Bool
  | .asg t e, S => (match S with
    | .Assign [tg] v _ => cAsg tb N sc fb t e tg v
    | _ => false)
  | .unp ts e, S => (match S with
    | .Assign [.Tuple es _ _] v _ => cTgs tb N sc fb ts es && cE tb N sc fb e v && (notComp v || isLC v) && decide (swV sc es v = some none)
    | _ => false)
  | .par is es, S => (match S with
    | .Assign [.Tuple ts _ _] (.Tuple vs _ _) _ => cEs tb N sc fb es vs && cPar N sc is ts vs
    | _ => false)
  | .aug i op e, S => (match S with
    | .AugAssign tg o v _ => decide (op = o) && isNm N sc fb i tg && cE tb N sc fb e v
    | _ => false)
  | .augF ob f op e, S => (match S with
    | .AugAssign (.Attribute x y _) o v _ => decide (op = o) && decide (y = Str.ofString f) && tb.flds.contains f && cE tb N sc fb ob x && cE tb N sc fb e v
    | _ => false)
  | .augS ob ix op e, S => (match S with
    | .AugAssign (.Subscript x y _) o v _ => decide (op = o) && plainIx y && cE tb N sc fb ob x && cE tb N sc fb ix y && cE tb N sc fb e v
    | _ => false)
  | .expr e, S => (match S with
    | .Expr v _ => notComp v && cE tb N sc fb e v
    | _ => false)
  | .ret e, S => (match S with
    | .Return (some v) _ => cE tb N sc fb e v
    | _ => false)
  | .retN, S => (match S with
    | .Return none _ => true
    | _ => false)
  | .ife c a b, S => (match S with
    | .If t x y _ => cT tb N sc fb c t && cSs a x && cSs b y
    | _ => false)
  | .whl c b ks, S => (match S with
    | .While t x [] _ => cT tb N sc fb c t && cSs b x
    | _ => false)
  | .fr tg sg it b ks, S => (match S with
    | .For tgE itE x [] _ => isTg N sc fb tg sg tgE && noSet itE && cI tb N sc fb it tgE itE && cSs b x
    | _ => false)
  | .brk, S => (match S with
    | .Break _ => true
    | _ => false)
  | .cont, S => (match S with
    | .Continue _ => true
    | _ => false)
  | .pass, S => (match S with
    | .Pass _ => true
    | _ => false)
  | .rse c es, S => false
  | .tr b hs bs, S => false
def cSs : Sms → List Stmt → Bool
  | .nil, S => (match S with
    | [] => true
    | _ => false)
  | .cons s r, S => (match S with
    | x :: xs => cS s x && cSs r xs
    | _ => false)
end
end
section
variable {X : Cx} {Y : Wd} {W : WX} {N : List Str} {sc : Scope} {fb : Str → Bool}
theorem g_tg (D : Sd X Y) (tk : Takes X W) (q : At X N sc fb) {t : Tg} {E : Expr} (h : cTg Y.tb N sc fb t E = true) : PG X E (gS X Y W (asgT Y.Φ Y.G t)) ∧ (∀ es, assignEach (E :: es) X.env = (false, assign E X.env) :: assignEach es X.env) := by
  cases t with
  | name i =>
    obtain ⟨x, p, rfl, _⟩ := nm_of h
    exact ⟨g_name D.nd q h, fun es => rfl⟩
  | sub o i =>
    unfold cTg at h
    dsimp only at h
    split at h
    · simp only [Bool.and_eq_true] at h
      exact ⟨g_sub (chE o D tk q h.1.2) (chE i D tk q h.2) h.1.1, fun es => rfl⟩
    · cases h
  | fld o f =>
    unfold cTg at h
    dsimp only at h
    split at h
    · simp only [Bool.and_eq_true, decide_eq_true_eq] at h
      exact ⟨g_fld D h.1.1 (mem_of h.1.2) (chE o D tk q h.2), fun es => rfl⟩
    · cases h
theorem gs_tgs (D : Sd X Y) (tk : Takes X W) (q : At X N sc fb) : ∀ {ts : List Tg} {es : List Expr}, cTgs Y.tb N sc fb ts es = true → PGs X es (gSs X Y W (asgTs Y.Φ Y.G ts)) ∧ (assignEach es X.env).length = ts.length ∧ (assignEach es X.env).findIdx? (·.1) = none
  | [], [], _ => by
    refine ⟨impPGs (gs_nil (W := W)) fun v σ H Q ⟨P, F, as, ρ, st, d, S, L, r, h⟩ => ⟨P, F, as, ρ, st, d, S, L, r, ?_⟩, rfl, rfl⟩
    cases d <;> exact h
  | t :: ts, e :: es, h => by
    unfold cTgs at h
    rw [Bool.and_eq_true] at h
    obtain ⟨h1, h2, h3⟩ := gs_tgs D tk q h.2
    obtain ⟨g1, g2⟩ := g_tg D tk q h.1
    refine ⟨impPGs (gs_cons (nxOnly_asgT t) g1 h1 (by rw [g2 es]; rfl)) fun v σ H Q ⟨P, F, as, ρ, st, d, S, L, r, h⟩ => ⟨P, F, as, ρ, st, d, S, L, r, ?_⟩, by rw [g2 es, List.length_cons, List.length_cons, h2], ?_⟩
    · cases d <;> exact h
    · rw [g2 es, List.findIdx?_cons, h3]
      rfl
  | [], _ :: _, h => by cases h
  | _ :: _, [], h => by cases h
theorem isLC_ok {v : Expr} (h : (notComp v || isLC v) = true) : notComp v = true ∨ (∃ a b c d, v = .ListComp a b c d) := by
  rw [Bool.or_eq_true] at h
  rcases h with h | h
  · exact .inl h
  · cases v with
    | ListComp a b c d => exact .inr ⟨a, b, c, d, rfl⟩
    | _ => cases h
theorem isLoc_ok {i : Nat} {x : Str} (q : At X N sc fb) (h : isLoc N sc i x = true) : X.N[i]? = some x ∧ X.env.scope.names.lookup x = some .local := by
  unfold isLoc at h
  rw [Bool.and_eq_true, decide_eq_true_eq, decide_eq_true_eq] at h
  rw [q.N, q.sc]
  exact h
end
end MP
end
section
set_option linter.all false
set_option Elab.async false
set_option maxRecDepth 100000
set_option maxHeartbeats 4000000
namespace MP
open PySem PySem.Spec PyProof.Rows L2 PySem.W
section
variable {Y : Wd} {X : Cx} {W : WX} {N : List Str} {sc : Scope} {fb : Str → Bool}
theorem chAsg (D : Sd X Y) (tk : Takes X W) (q : At X N sc fb) (hf : sc.kind = .function) {t : Tg} {e : Ex} {tg v : Expr} {pos : Pos} (h : cAsg Y.tb N sc fb t e tg v = true) :
    PS X (.Assign [tg] v pos) (tS X Y W (evS Y.Φ Y.G (.asg t e))) := by
  unfold cAsg at h
  rw [Bool.and_eq_true, Bool.and_eq_true] at h
  obtain ⟨⟨h1, h2⟩, h3⟩ := h
  obtain ⟨g1, g2⟩ := g_tg D tk q h1
  have hv := chE e D tk q h2
  have ha : (assignEach [tg] X.env).map (·.2) = [assign tg X.env] := by rw [g2 []]; rfl
  split at h3
  · rename_i y py
    have hsw := swN_ok (env := X.env) (y := y) (py := py) (l := pos.line) (by rw [q.sc]; exact hf) (isLC_ok h3)
    cases hb : swN X.env.scope y py v with
    | false =>
      rw [hb] at hsw
      exact t_asg hv g1 (nxOnly_asgT t) hsw (by rfl) ha
    | true =>
      rw [hb] at hsw
      unfold swN at hb
      split at hb
      · rename_i elt gs scope p
        simp only [Bool.and_eq_true] at hb
        have hyl : X.env.scope.names.lookup y = some .local := by simpa using hb.1.1
        cases t with
        | name i =>
          have h1 : isNm N sc fb i (.Name y py) = true := h1
          obtain ⟨x', p', e', k1, k2⟩ := nm_of h1
          cases e'
          cases e with
          | comp m tgs sg it cs e =>
            rw [cE.eq_def] at h2; dsimp only at h2
            split at h2
            · rename_i elt tgE itE ifs isa scope p heq
              cases heq
              simp only [Bool.and_eq_true, decide_eq_true_eq, List.all_eq_true] at h2
              obtain ⟨⟨⟨⟨⟨⟨⟨rfl, c1⟩, c2⟩, c3⟩, c4⟩, c5⟩, c6⟩, c7⟩ := h2
              exact t_setLc D (by rw [q.N]; exact k1) hyl hsw (chI it D tk q c5) (own := ownL N tgs) (by rw [q.N, q.sc]; exact blkOk_by c1) own_ok c2
                (fun s H C cl fp => pg_T (X := X.blk s H _ (compEnvC _ cl C X.env) fp) D.calm D.nd (blk_At q s H _ C cl fp) c3)
                (fun s H C cl fp => chTs cs (blk_Sd D s H _ _ fp) takes0 (blk_At q s H _ C cl fp) c6)
                (fun s H C cl fp => chE e (blk_Sd D s H _ _ fp) takes0 (blk_At q s H _ C cl fp) c7) (noSet_ok c4 _)
            · cases h2
          | _ => rw [cE.eq_def] at h2; dsimp only at h2; cases h2
        | sub _ _ => unfold cTg at h1; dsimp only at h1; cases h1
        | fld _ _ => unfold cTg at h1; dsimp only at h1; cases h1
      · cases hb
  · refine t_asg hv g1 (nxOnly_asgT t) ?_ (by rfl) ha
    rcases isLC_ok h3 with h | ⟨a, b, c, d, rfl⟩
    · cases v <;> first | rfl | (cases h; done)
    · rfl
  · refine t_asg hv g1 (nxOnly_asgT t) ?_ (by rfl) ha
    rcases isLC_ok h3 with h | ⟨a, b, c, d, rfl⟩
    · cases v <;> first | rfl | (cases h; done)
    · rfl
  · cases h3
end
end MP
end
section
set_option linter.all false
set_option Elab.async false
set_option maxRecDepth 100000
set_option maxHeartbeats 4000000
namespace MP
open PySem PySem.Spec PyProof.Rows L2 PySem.W
section
variable {Y : Wd} {X : Cx} {W : WX} {N : List Str} {sc : Scope} {fb : Str → Bool}
theorem expr_sw {v : Expr} {l : Nat} {env : PySem.Env} (h : notComp v = true) : swapsWith v none l env = pure false := by
  cases v <;> first | rfl | (cases h; done)
theorem unp_sw {v : Expr} {es : List Expr} {k l : Nat} {p : Pos} {env : PySem.Env} (h : (notComp v || isLC v) = true) : swapsWithSole [.Tuple es k p] v l env = pure false := by
  rcases isLC_ok h with h | ⟨a, b, c, d, rfl⟩
  · cases v <;> first | rfl | (cases h; done)
  · rfl
theorem chUnp (D : Sd X Y) (tk : Takes X W) (q : At X N sc fb) (hf : sc.kind = .function) {ts : List Tg} {e : Ex} {es : List Expr} {k : Nat} {p : Pos} {v : Expr} {pos : Pos} (h1 : cTgs Y.tb N sc fb ts es = true) (h2 : cE Y.tb N sc fb e v = true) (h3 : (notComp v || isLC v) = true) (h4 : swV sc es v = some none) :
    PS X (.Assign [.Tuple es k p] v pos) (tS X Y W (evS Y.Φ Y.G (.unp ts e))) := by
  obtain ⟨g1, g2, g3⟩ := gs_tgs D tk q h1
  have hw : swappedStores [.Tuple es k p] v X.env = pure none := swV_ok (by rw [q.sc]; exact hf) (by rw [q.sc]; exact h4)
  refine t_asg (chE e D tk q h2) (g_unp D.calm g1 rfl g2 g3) (fun d ρ st => ?_) (unp_sw h3) hw (by rfl)
  cases seq st d with
  | none => trivial
  | some vs =>
    show nxOnly (if _ then _ else _)
    split
    · exact nxOnly_asgTs _ _ _ _
    · trivial
theorem chPar (D : Sd X Y) (tk : Takes X W) (q : At X N sc fb) (hf : sc.kind = .function) {is : List Nat} {es : Exs} {ts vs : List Expr} {k k2 : Nat} {p p2 : Pos} {pos : Pos} (h1 : cEs Y.tb N sc fb es vs = true) (h2 : cPar N sc is ts vs = true) :
    PS X (.Assign [.Tuple ts k p] (.Tuple vs k2 p2) pos) (tS X Y W (evS Y.Φ Y.G (.par is es))) := by
  have ha := chEs es D tk q h1
  have hf : X.env.scope.kind = .function := by rw [q.sc]; exact hf
  unfold cPar at h2
  split at h2
  · simp only [Bool.and_eq_true, decide_eq_true_eq] at h2
    obtain ⟨⟨⟨c1, c2⟩, c3⟩, c4⟩ := h2
    obtain ⟨a1, a2⟩ := isLoc_ok q c2
    obtain ⟨b1, b2⟩ := isLoc_ok q c3
    exact t_par2 D a1 b1 c4 a2 b2 ha (swT_ok hf (by rw [q.sc]; exact c1))
  · simp only [Bool.and_eq_true, decide_eq_true_eq] at h2
    obtain ⟨⟨⟨⟨⟨⟨c1, c2⟩, c3⟩, c5⟩, c4⟩, c6⟩, c7⟩ := h2
    obtain ⟨a1, a2⟩ := isLoc_ok q c2
    obtain ⟨b1, b2⟩ := isLoc_ok q c3
    obtain ⟨d1, d2⟩ := isLoc_ok q c5
    exact t_par3 D a1 b1 d1 c4 c6 c7 a2 b2 d2 ha (swT_ok hf (by rw [q.sc]; exact c1))
  · cases h2
end
mutual
theorem chS {Y : Wd} {X : Cx} {W : WX} {N : List Str} {sc : Scope} {fb : Str → Bool} (D : Sd X Y) (tk : Takes X W) (q : At X N sc fb) (hf : sc.kind = .function) (hp : PassesOwn (model X.prog X.w) X.A X.env X.xe) : ∀ (s : Sm) {S : Stmt}, cS Y.tb N sc fb s S = true → PS X S (tS X Y W (evS Y.Φ Y.G s))
  | .asg t e, S, h => by
    rw [cS.eq_def] at h; dsimp only at h
    split at h
    · exact chAsg D tk q hf h
    · cases h
  | .unp ts e, S, h => by
    rw [cS.eq_def] at h; dsimp only at h
    split at h
    · simp only [Bool.and_eq_true, decide_eq_true_eq] at h
      exact chUnp D tk q hf h.1.1.1 h.1.1.2 h.1.2 h.2
    · cases h
  | .par is es, S, h => by
    rw [cS.eq_def] at h; dsimp only at h
    split at h
    · simp only [Bool.and_eq_true] at h
      exact chPar D tk q hf h.1 h.2
    · cases h
  | .aug i op e, S, h => by
    rw [cS.eq_def] at h; dsimp only at h
    split at h
    · simp only [Bool.and_eq_true, decide_eq_true_eq] at h
      obtain ⟨⟨rfl, h1⟩, h2⟩ := h
      obtain ⟨x, p, rfl, _⟩ := nm_of h1
      exact t_aug D.nd q h1 (chE e D tk q h2)
    · cases h
  | .augF ob f op e, S, h => by
    rw [cS.eq_def] at h; dsimp only at h
    split at h
    · simp only [Bool.and_eq_true, decide_eq_true_eq] at h
      obtain ⟨⟨⟨⟨rfl, h1⟩, h2⟩, h3⟩, h4⟩ := h
      exact t_augF D h1 (mem_of h2) (chE ob D tk q h3) (chE e D tk q h4)
    · cases h
  | .augS ob ix op e, S, h => by
    rw [cS.eq_def] at h; dsimp only at h
    split at h
    · simp only [Bool.and_eq_true, decide_eq_true_eq] at h
      obtain ⟨⟨⟨⟨rfl, h1⟩, h2⟩, h3⟩, h4⟩ := h
      exact t_augS h1 (chE ob D tk q h2) (chE ix D tk q h3) (chE e D tk q h4)
    · cases h
  | .expr e, S, h => by
    rw [cS.eq_def] at h; dsimp only at h
    split at h
    · simp only [Bool.and_eq_true] at h
      exact t_expr (chE e D tk q h.2) (expr_sw h.1)
    · cases h
  | .ret e, S, h => by
    rw [cS.eq_def] at h; dsimp only at h
    split at h
    · exact t_ret (chE e D tk q h)
    · cases h
  | .retN, S, h => by
    rw [cS.eq_def] at h; dsimp only at h
    split at h
    · exact t_retN
    · cases h
  | .ife c a b, S, h => by
    rw [cS.eq_def] at h; dsimp only at h
    split at h
    · simp only [Bool.and_eq_true] at h
      exact t_if (chT c D tk q h.1.1) (chSs D tk q hf hp a h.1.2) (chSs D tk q hf hp b h.2)
    · cases h
  | .whl c b ks, S, h => by
    rw [cS.eq_def] at h; dsimp only at h
    split at h
    · simp only [Bool.and_eq_true] at h
      exact t_whl hp (chT c D tk q h.1) (chSs D tk q hf hp b h.2)
    · cases h
  | .fr tg sg it b ks, S, h => by
    rw [cS.eq_def] at h; dsimp only at h
    split at h
    · simp only [Bool.and_eq_true] at h
      exact t_for hp D.calm (chI it D tk q h.1.2) (pg_T D.calm D.nd q h.1.1.1) (chSs D tk q hf hp b h.2) (noSet_ok h.1.1.2 _)
    · cases h
  | .brk, S, h => by
    rw [cS.eq_def] at h; dsimp only at h
    split at h
    · exact t_brk
    · cases h
  | .cont, S, h => by
    rw [cS.eq_def] at h; dsimp only at h
    split at h
    · exact t_cont
    · cases h
  | .pass, S, h => by
    rw [cS.eq_def] at h; dsimp only at h
    split at h
    · exact t_pass
    · cases h
  | .rse c es, S, h => by rw [cS.eq_def] at h; cases h
  | .tr b hs bs, S, h => by rw [cS.eq_def] at h; cases h
theorem chSs {Y : Wd} {X : Cx} {W : WX} {N : List Str} {sc : Scope} {fb : Str → Bool} (D : Sd X Y) (tk : Takes X W) (q : At X N sc fb) (hf : sc.kind = .function) (hp : PassesOwn (model X.prog X.w) X.A X.env X.xe) : ∀ (s : Sms) {S : List Stmt}, cSs Y.tb N sc fb s S = true → PSs X S (tS X Y W (evSs Y.Φ Y.G s))
  | .nil, S, h => by
    rw [cSs.eq_def] at h; dsimp only at h
    split at h
    · exact t_nil
    · cases h
  | .cons s r, S, h => by
    rw [cSs.eq_def] at h; dsimp only at h
    split at h
    · simp only [Bool.and_eq_true] at h
      exact t_cons (chS D tk q hf hp s h.1) (chSs D tk q hf hp r h.2)
    · cases h
end
end MP
end
section
set_option linter.all false
set_option Elab.async false
set_option maxRecDepth 100000
set_option maxHeartbeats 2000000
namespace MP
open PySem PySem.Spec PyProof.Rows L2 PySem.W
/-! ### what a call leaves behind -/
section
variable {K : Fr} {F F' : Hp} {as bs : List Addr}
mutual
theorem RepD.low : ∀ {d : D} {v0 v : V}, RepD K F as d v0 → RepD K F' (as ++ bs) d v → RepD K F' as d v
  | _, _, _, .non, .non => .non
  | _, _, _, .bl b, .bl _ => .bl b
  | _, _, _, .int i, .int _ => .int i
  | _, _, _, .str h, .str _ => .str h
  | _, _, _, .tup _ r, .tup h q => .tup h (RepDs.low r q)
  | _, _, _, .lst _ r, .lst h q => .lst h (RepDs.low r q)
  | _, _, _, .scr _ r, .scr h q => .scr h (RepDs.low r q)
  | _, _, _, .ref h, .ref q => by
    have hk := (List.getElem?_eq_some_iff.mp h).1
    rw [List.getElem?_append_left hk] at q
    exact .ref q
theorem RepDs.low : ∀ {ds : List D} {vs0 vs : List V}, RepDs K F as ds vs0 → RepDs K F' (as ++ bs) ds vs → RepDs K F' as ds vs
  | _, _, _, .nil, .nil => .nil
  | _, _, _, .cons r t, .cons q u => .cons (RepD.low r q) (RepDs.low t u)
end
theorem FldR.low : ∀ {fs : List (String × D)} {vs0 vs : List (Str × V)}, FldR K F as fs vs0 → FldR K F' (as ++ bs) fs vs → FldR K F' as fs vs
  | _, _, _, .nil, .nil => .nil
  | _, _, _, .cons r t, .cons q u => .cons (r.low q) (t.low u)
theorem CellR.low {CA : Cf} {H H' : Hp} {a : Addr} {c : Cell} (h : CellR K CA F as H a c) (q : CellR K CA F' (as ++ bs) H' a c) : CellR K CA F' as H' a c := by
  cases h with
  | lst _ r => cases q with
    | lst h2 r2 => exact .lst h2 (r.low r2)
  | ins _ _ r => cases q with
    | ins h1 h2 r2 => exact .ins h1 h2 (r.low r2)
end
/-- the heap of values, with all cells from the n-th on -/
def frz (F H : Hp) (cs : List Addr) : Hp := fun a => if a ∈ cs then H a else F a
section
variable {K : Fr} {ca : String → Option Addr} {P : Hp} {F F' : Hp} {as as' : List Addr} {st st' : Store} {H H' : Hp}
theorem take_app {α : Type} {l m : List α} : (l ++ m).take l.length = l := by rw [List.take_left]
theorem nd_drop {α : Type} {l : List α} {n : Nat} {a : α} (h : l.Nodup) (h1 : a ∈ l.take n) : a ∉ l.drop n := by
  intro h2
  have : (l.take n ++ l.drop n).Nodup := by rw [List.take_append_drop]; exact h
  exact (List.nodup_append.mp this).2.2 a h1 a h2 rfl
theorem StR.cutTo (S0 : StR K ⟨ca, P⟩ F as st H) (e : Ext F as F' as') (S : StR K ⟨ca, P⟩ F' as' st' H') (ho : olds st.length st st') :
    StR K ⟨ca, P⟩ (frz F' H' (as'.drop st.length)) as (st'.take st.length) H' ∧ Ext F as (frz F' H' (as'.drop st.length)) as ∧ Same F' (frz F' H' (as'.drop st.length)) := by
  obtain ⟨bs, rfl⟩ := e.more
  have hn : as.length = st.length := S0.len
  have htk : (as ++ bs).take st.length = as := by rw [← hn]; exact take_app
  have sm : Same F' (frz F' H' ((as ++ bs).drop st.length)) := fun b u eb => by
    unfold frz
    rw [if_neg]
    · exact eb
    · intro hm
      have := S.dis b (List.mem_of_mem_drop hm)
      rw [this] at eb; cases eb
  have hno : ∀ a, a ∈ as → a ∉ (as ++ bs).drop st.length := fun a ha => nd_drop S.nd (by rw [htk]; exact ha)
  refine ⟨⟨fun b u eb => ?_, ?_, S0.nd, fun a ha => ?_, fun k a c h1 h2 => ?_, fun a u ep => ?_⟩, ⟨e.same.trans sm, [], (List.append_nil _).symm⟩, sm⟩
  · unfold frz at eb
    split at eb
    · exact eb
    · exact S.sub _ _ eb
  · rw [List.length_take, hn]
    have := ho.1
    omega
  · unfold frz
    rw [if_neg (hno a ha)]
    exact S.dis a (List.mem_append_left _ ha)
  · have hk : k < as.length := (List.getElem?_eq_some_iff.mp h1).1
    rw [List.getElem?_take_of_lt (by rw [← hn]; exact hk)] at h2
    have h1' : (as ++ bs)[k]? = some a := by rw [List.getElem?_append_left hk]; exact h1
    have cr := S.cell k a c h1' h2
    obtain ⟨c', hc', hor⟩ := ho.2 k (by rw [← hn]; exact hk)
    rw [h2] at hc'
    cases hc'
    have : CellR K ⟨ca, P⟩ F' as H' a c := by
      rcases hor with h0 | hb
      · exact (S0.cell k a c h1 h0).low cr
      · have := cr.back hb
        rw [htk] at this
        exact this
    have := CellR.mono (bs := []) sm (H' := H') rfl this
    rw [List.append_nil] at this
    exact this
  · obtain ⟨g1, g2, g3⟩ := S.prv a u ep
    refine ⟨g1, ?_, fun z => g3 (List.mem_append_left _ z)⟩
    unfold frz
    rw [if_neg fun z => g3 (List.mem_of_mem_drop z)]
    exact g2
theorem RepD.sameF {d : D} {v : V} (e : Same F F') (r : RepD K F as d v) : RepD K F' as d v := by
  have := RepD.mono (bs := []) e r
  rw [List.append_nil] at this
  exact this
theorem RepDs.sameF {d : List D} {v : List V} (e : Same F F') (r : RepDs K F as d v) : RepDs K F' as d v := by
  have := RepDs.mono (bs := []) e r
  rw [List.append_nil] at this
  exact this
theorem fz_rep (S : StR K ⟨ca, P⟩ F as st H) {n : Nat} (sm : Same F (frz F H (as.drop n))) : ∀ {m : Nat} {d d' : D} {v : V}, fz n st m d = some d' → RepD K F as d v → RepD K (frz F H (as.drop n)) (as.take n) d' v := by
  have refC : ∀ {k : Nat} {d' : D} {a : Addr}, (if k < n then some (.ref k) else (match st[k]? with
    | some (.lst xs) => if xs.all (lowR n 8) then some (.lst xs) else none
    | _ => none)) = some d' → as[k]? = some a → RepD K (frz F H (as.drop n)) (as.take n) d' (.ref a) := by
    intro k d' a h hk
    split at h
    · rename_i hlt
      cases h
      exact .ref (by rw [List.getElem?_take_of_lt hlt]; exact hk)
    · rename_i hge
      split at h
      · rename_i xs hx
        split at h
        · rename_i hall
          cases h
          cases S.cell k a _ hk hx with
          | lst hH r =>
            refine .lst ?_ (RepDs.sameF sm (all_back r hall))
            unfold frz
            rw [if_pos]
            · exact hH
            · refine List.mem_of_getElem? (i := k - n) ?_
              rw [List.getElem?_drop]
              have : n + (k - n) = k := by omega
              rw [this]
              exact hk
        · cases h
      · cases h
  intro m
  induction m with
  | zero =>
    intro d d' v h r
    cases r with
    | non => cases h; exact .non
    | bl b => cases h; exact .bl b
    | int i => cases h; exact .int i
    | str hl => cases h; exact .str hl
    | tup _ _ => cases h
    | lst _ _ => cases h
    | scr _ _ => cases h
    | ref hk => exact refC h hk
  | succ m ih =>
    have listC : ∀ {ds ds' : List D} {vs : List V}, ds.mapM (fz n st m) = some ds' → RepDs K F as ds vs → RepDs K (frz F H (as.drop n)) (as.take n) ds' vs := by
      intro ds
      induction ds with
      | nil => intro ds' vs h r; cases r; cases h; exact .nil
      | cons x xs ih2 =>
        intro ds' vs h r
        cases r with
        | cons r t =>
          rw [List.mapM_cons] at h
          cases h1 : fz n st m x with
          | none => rw [h1] at h; cases h
          | some y =>
            rw [h1] at h
            cases h2 : xs.mapM (fz n st m) with
            | none => rw [h2] at h; cases h
            | some ys =>
              rw [h2] at h
              cases h
              exact .cons (ih h1 r) (ih2 h2 t)
    intro d d' v h r
    cases r with
    | non => cases h; exact .non
    | bl b => cases h; exact .bl b
    | int i => cases h; exact .int i
    | str hl => cases h; exact .str hl
    | @tup ds a xs t q =>
      have h : (ds.mapM (fz n st m)).map .tup = some d' := h
      cases h2 : ds.mapM (fz n st m) with
      | none => rw [h2] at h; cases h
      | some ys => rw [h2] at h; cases h; exact .tup (Same.sqT sm t) (listC h2 q)
    | @lst ds a xs t q =>
      have h : (ds.mapM (fz n st m)).map .lst = some d' := h
      cases h2 : ds.mapM (fz n st m) with
      | none => rw [h2] at h; cases h
      | some ys => rw [h2] at h; cases h; exact .lst (sm _ _ t) (listC h2 q)
    | scr _ _ => cases h
    | ref hk => exact refC h hk
theorem trunc_ok (S0 : StR K ⟨ca, P⟩ F as st H) (e : Ext F as F' as') (S : StR K ⟨ca, P⟩ F' as' st' H') (d : D) : ∃ F2 as2, Ext F as F2 as2 ∧ StR K ⟨ca, P⟩ F2 as2 (trunc st d st').2 H' ∧ ∀ v, RepD K F' as' d v → RepD K F2 as2 (trunc st d st').1 v := by
  unfold trunc
  split
  · rename_i ho
    split
    · rename_i d' hd
      obtain ⟨s1, s2, s3⟩ := S0.cutTo e S ho
      refine ⟨_, as, s2, s1, fun v r => ?_⟩
      have h := fz_rep S (n := st.length) s3 hd r
      obtain ⟨bs, rfl⟩ := e.more
      have htk : (as ++ bs).take st.length = as := by rw [← S0.len]; exact take_app
      rw [htk] at h
      exact h
    · exact ⟨F', as', e, S, fun v r => r⟩
  · exact ⟨F', as', e, S, fun v r => r⟩
end
end MP
end
section
set_option linter.all false
set_option Elab.async false
set_option maxRecDepth 100000
set_option maxHeartbeats 2000000
namespace MP
open PySem PySem.Spec PyProof.Rows L2 PySem.W
theorem callRes_ok {X : Cx} {Y : Wd} {P : Hp} {E : XK} {Q : VK} {F : Hp} {as : List Addr} {st : Store} {H : Hp} (S0 : StR X.K ⟨Y.CA, P⟩ F as st H) {r : RS} (h : Post X.K ⟨Y.CA, P⟩ (ExF X.K Y.EF E) F as (callRes st r) (kV1 X.K Q)) :
    PostS X Y (fun c d _ H => E c d H) P { nx := fun _ H' => Q .non H', rt := Q } F as r := by
  cases r with
  | nx ρ st1 =>
    intro F' as' H' σ' e S L
    obtain ⟨F2, as2, e2, S2, k⟩ := trunc_ok S0 e S .non
    exact h F2 as2 H' e2 S2 _ (k _ .non)
  | rt d st1 =>
    intro F' as' H' v e S r
    obtain ⟨F2, as2, e2, S2, k⟩ := trunc_ok S0 e S d
    exact h F2 as2 H' e2 S2 _ (k _ r)
  | bk _ _ => exact h.elim
  | ct _ _ => exact h.elim
  | exc c d ρ st1 =>
    intro F' as' H' σ' e S L
    obtain ⟨F2, as2, e2, S2, k⟩ := trunc_ok S0 e S d
    obtain ⟨C, f, k1, k2⟩ := h F2 as2 H' e2 S2
    exact ⟨C, f, k1, fun dx v r => k2 dx v (k v r)⟩
  | stuck => exact h.elim
def psOf (fd : Fn) : List Str := fd.ps.map Str.ofString
def namesOf (fd : Fn) : List Str := fd.ps.map Str.ofString ++ fd.own.map Str.ofString
theorem reps_rep {K : Fr} {F : Hp} {as : List Addr} : ∀ {ds : List D} {vs : List V} (n : Nat), RepDs K F as ds vs → ∀ (i : Nat) (d : D), (ds.map some ++ List.replicate n (none : Option D))[i]? = some (some d) → ∃ v, (vs.map some ++ List.replicate n (none : Option V))[i]? = some (some v) ∧ RepD K F as d v
  | _, _, n, .nil, i, d, h => by
    simp only [List.map_nil, List.nil_append] at h
    have := List.mem_of_getElem? h
    rw [List.mem_replicate] at this
    cases this.2
  | _, _, n, .cons r t, 0, d, h => by
    simp only [List.map_cons, List.cons_append, List.getElem?_cons_zero] at h
    cases h
    exact ⟨_, rfl, r⟩
  | _, _, n, .cons r t, i + 1, d, h => by
    simp only [List.map_cons, List.cons_append, List.getElem?_cons_succ] at h
    obtain ⟨v, h1, h2⟩ := reps_rep n t i d h
    exact ⟨v, by simp only [List.map_cons, List.cons_append, List.getElem?_cons_succ]; exact h1, h2⟩
theorem slr_start {K : Fr} {F : Hp} {as : List Addr} {fd : Fn} {ds : List D} {vs : List V} (r : RepDs K F as ds vs) (hl : vs.length = (psOf fd).length) : SlR K F as (startE fd ds) (L2.start (namesOf fd) vs) := by
  have hn : (namesOf fd).length - vs.length = fd.own.length := by
    unfold namesOf
    rw [List.length_append, List.length_map, List.length_map, hl]
    unfold psOf
    rw [List.length_map]
    omega
  unfold startE L2.start
  rw [hn]
  refine ⟨?_, fun i d hd _ => reps_rep _ r i d hd⟩
  rw [List.length_append, List.length_append, List.length_map, List.length_map, List.length_replicate, List.length_replicate, r.length]
section
variable (P : Program) (w : World) (K : Fr) (mg : Str → Option Value) (base : Heap) (CA : String → Option Addr) (EF : String → Option (Addr × Str)) (G : Gb) (tb : Tb) (T : MP.Key → Option Fn)
/-- a def of the text, whose meaning fd is -/
def FnFd (fd : Fn) (a : Addr) (fdt : FuncData) : Prop := ∃ (x qual : Str) (params : Arguments) (body : List Stmt) (scope : Scope), FunD K x qual params body scope [] [] a fdt ∧ FnScope (namesOf fd) (psOf fd) scope ∧ Binds K fdt (psOf fd) [] ∧ cSs tb (namesOf fd) scope (fun _ => true) fd.body body = true
def FnF (fd : Fn) (a : Addr) : Prop := ∃ fdt, FnFd K tb fd a fdt
structure Wf : Prop where
  fn : ∀ f, f ∈ tb.fns → ∃ fd a, T (.fn f) = some fd ∧ mg (Str.ofString f) = some (.ref a) ∧ FnF K tb fd a
  mkr : ∀ c, c ∈ tb.cls → ∃ C a fd, CA c = some C ∧ mg (Str.ofString c) = some (.ref C) ∧ Mk K C a ∧ T (.mt c "__init__") = some fd ∧ FnF K tb fd a
  mt : ∀ c C m, CA c = some C → G.has c m = true → ∃ a fd, Meth K C (Str.ofString m) a ∧ T (.mt c m) = some fd ∧ FnF K tb fd a
  cl : ∀ c C, CA c = some C → Cls K C ∧ ∀ f, f ∈ tb.flds → NoAttr K C (Str.ofString f)
  free : ∀ b, b ∈ tb.free → mg (Str.ofString b) = none
  cst : ∀ x, x ∈ tb.csts → ∃ u v d, mg (Str.ofString x) = some u ∧ RelV v u ∧ G.cst x = some d ∧ ∀ F as, RepD K F as d v
noncomputable abbrev wdOf (n : Nat) : Wd := ⟨CA, EF, Phi T G n, G, tb, 2 * n⟩
end
section
variable {P : Program} {w : World} {K : Fr} {mg : Str → Option Value} {base : Heap} {CA : String → Option Addr} {EF : String → Option (Addr × Str)} {G : Gb} {tb : Tb} {T : MP.Key → Option Fn}
/-- every def keeps its promise, by depth -/
theorem Wf.fnOk (wf : Wf K mg CA G tb T) : ∀ (n : Nat) (k : MP.Key) (fd : Fn) (a : Addr) (fdt : FuncData), T k = some fd → FnFd K tb fd a fdt →
    PySem.W.keepIn K (.ref a) = true ∧ Binds K fdt (psOf fd) [] ∧ (∀ ds st, Phi T G n k ds st ≠ .stuck → ds.length = (psOf fd).length) ∧ FnOk P w K mg base (L2.CX P w) (2 * n) a fdt (psOf fd) (spM K CA EF (Phi T G n k) (psOf fd).length)
  | 0, k, fd, a, fdt, hT, ⟨x, qual, params, body, scope, F, S, hb, hc⟩ => by
    refine ⟨F.kp, hb, fun ds st h => absurd rfl h, fun vs H Q E h => h.1, fun A outer s H args us vs Q E hr he hb hv ⟨_, P', F', as, st, ds, S, r, h⟩ => ?_⟩
    exact h.elim
  | n + 1, k, fd, a, fdt, hT, ⟨x, qual, params, body, scope, F, S, hb, hc⟩ => by
    have ih := Wf.fnOk wf n
    have hphi : ∀ ds st, Phi T G (n + 1) k ds st = if ds.length = fd.ps.length then callRes st (evSs (Phi T G n) G fd.body (startE fd ds) st) else .stuck := fun ds st => by
      rw [Phi]
      simp only [hT]
    refine ⟨F.kp, hb, fun ds st h => ?_, ?_⟩
    · rw [hphi] at h
      split at h
      · rename_i e; unfold psOf; rw [List.length_map]; exact e
      · exact absurd rfl h
    · have e2 : 2 * (n + 1) = (2 * n + 1) + 1 := by omega
      rw [e2]
      refine FunD.ok F S (fun vs H Q E h => h.1) fun cdv A outer s H vs Q E hr hsp => ?_
      obtain ⟨hl, P', F', as, st, ds, S0, r, h⟩ := hsp
      generalize hX : cxOf (L2.CX P w) P w K mg base (namesOf fd) qual scope a cdv A outer s H E = X
      have D : Sd X (wdOf CA EF G tb T n) := by
        subst hX
        refine ⟨rfl, hr, S.nd, fun f hf => ?_, fun c hc => ?_, fun c C m h1 h2 => ?_, fun c C h1 => ?_, fun b hb => ?_, fun x hx => ?_⟩
        · obtain ⟨fd2, a2, t1, t2, fdt2, t3⟩ := wf.fn f hf
          obtain ⟨k1, k2, k3, k4⟩ := ih _ fd2 a2 fdt2 t1 t3
          exact ⟨a2, t2, k1, fdt2, psOf fd2, k2, k3, k4⟩
        · obtain ⟨C, a2, fd2, t0, t1, t2, t3, fdt2, t4⟩ := wf.mkr c hc
          obtain ⟨k1, k2, k3, k4⟩ := ih _ fd2 a2 fdt2 t3 t4
          exact ⟨C, a2, t0, t1, t2, fdt2, psOf fd2, k2, k3, k4⟩
        · obtain ⟨a2, fd2, t0, t1, fdt2, t2⟩ := wf.mt c C m h1 h2
          obtain ⟨k1, k2, k3, k4⟩ := ih _ fd2 a2 fdt2 t1 t2
          exact ⟨a2, t0, fdt2, psOf fd2, k2, k3, k4⟩
        · exact wf.cl c C h1
        · exact wf.free b hb
        · exact wf.cst x hx
      have tk : Takes X (fun c d _ H => E c d H) := by
        subst hX
        exact takes_of rfl rfl rfl rfl
      have hp : PassesOwn (model X.prog X.w) X.A X.env X.xe := by
        subst hX
        exact passes_of rfl
      have q : At X (namesOf fd) scope (fun _ => true) := by
        subst hX
        exact ⟨rfl, rfl, fun _ _ => rfl⟩
      refine ⟨tS X (wdOf CA EF G tb T n) (fun c d _ H => E c d H) (evSs (Phi T G n) G fd.body), chSs D tk q S.kind hp fd.body hc, P', F', as, startE fd ds, st, ?_, ?_, ?_⟩
      · subst hX; exact S0
      · subst hX; exact slr_start r hl
      · rw [hphi] at h
        split at h
        · subst hX; exact callRes_ok S0 h
        · exact h.elim
end
end MP
end
section
set_option linter.all false
set_option Elab.async false
set_option maxRecDepth 100000
set_option maxHeartbeats 2000000
namespace MP
open PySem PySem.Spec PyProof.Rows L2 PySem.W
/-- how an exception lies behind a call, in some world -/
def CXe (P : Program) : CXT := fun outer H s E e s' => ∃ w, L2.CX P w outer H s E e s'
theorem CXe_none {P : Program} (H : Hp) (s : Shared) (e : Value) (s' : Shared) (h : CXe P [] H s (fun _ _ _ => False) e s') : False := by
  obtain ⟨w, h⟩ := h
  obtain ⟨_, _, _, _, _, _, _, _, _, _, _, _, z⟩ := h
  exact z.elim
theorem FnOk.toE {P : Program} {w : World} {K : Fr} {mg : Str → Option Value} {base : Heap} {k : Nat} {f : Addr} {fd : FuncData} {ps : List Str} {sp : Sp} (F : FnOk P w K mg base (L2.CX P w) k f fd ps sp) : FnOk P w K mg base (CXe P) k f fd ps sp :=
  ⟨F.len, fun A outer s H args us vs Q E hr he hb hv hs => codeAny_mono (F.run A outer s H args us vs Q E hr he hb hv hs) fun r s' h => by
    cases r with
    | error e => exact ⟨w, h⟩
    | ok fl => cases fl <;> exact h⟩
theorem sp_law {K : Fr} {CA : String → Option Addr} {EF : String → Option (Addr × Str)} {m : List D → Store → R D} {H : Hp} {a : Addr} {ns : List Int} (h : ∃ st', m [.scr (ns.map D.int)] [] = .ok (.bl true) st') (hS : SqL K H a (ns.map V.int)) :
    spM K CA EF m 1 [.ref a] H (fun v _ => v = .bl true) (fun _ _ _ => False) := by
  obtain ⟨st', h⟩ := h
  have S : StR K ⟨CA, fun _ => none⟩ H [] [] H := by
    refine ⟨fun _ _ h => h, rfl, List.nodup_nil, fun a h => ?_, fun k a c h => ?_, fun a o h => ?_⟩
    · cases h
    · simp at h
    · cases h
  refine ⟨rfl, fun _ => none, H, [], [], [.scr (ns.map D.int)], S, .cons (.scr hS (RepDs.ofInts ns)) .nil, ?_⟩
  rw [h]
  intro F' as' H' e S v r
  cases r
  rfl
end MP
end
section
set_option linter.all false
set_option Elab.async false
set_option maxRecDepth 10000
namespace MP
section
variable {T : Key → Option Fn} {G : Gb}
theorem phi_run {n : Nat} {k : Key} {fd : Fn} {args : List D} {st : Store} (hT : T k = some fd) (hl : args.length = fd.ps.length) : Phi T G (n + 1) k args st = callRes st (evSs (Phi T G n) G fd.body (startE fd args) st) := by
  rw [Phi]
  simp only [hT, hl, if_true]
end
/-! ### what a call leaves -/
def clean : Nat → D → Bool
  | _, .non | _, .bl _ | _, .int _ | _, .str _ => true
  | m + 1, .tup xs | m + 1, .lst xs => xs.all (clean m)
  | _, _ => false
theorem fz_clean {n : Nat} {st : Store} : ∀ {m : Nat} {d : D}, clean m d = true → fz n st m d = some d := by
  intro m
  induction m with
  | zero => intro d h; cases d <;> first | rfl | (simp [clean] at h)
  | succ m ih =>
    have l : ∀ xs : List D, xs.all (clean m) = true → xs.mapM (fz n st m) = some xs := by
      intro xs
      induction xs with
      | nil => intro _; rfl
      | cons x xs ih2 =>
        intro h
        rw [List.all_cons, Bool.and_eq_true] at h
        rw [List.mapM_cons, ih h.1, ih2 h.2]
        rfl
    intro d h
    cases d with
    | tup xs => show (xs.mapM (fz n st m)).map D.tup = _; rw [l xs h]; rfl
    | lst xs => show (xs.mapM (fz n st m)).map D.lst = _; rw [l xs h]; rfl
    | _ => first | rfl | (simp [clean] at h)
theorem trunc_app {st : Store} {d : D} {cs : Store} (h : clean 8 d = true) : trunc st d (st ++ cs) = (d, st) := by
  unfold trunc
  rw [if_pos, fz_clean h]
  · simp
  · refine ⟨by rw [List.length_append]; omega, fun k hk => ?_⟩
    rw [List.getElem?_append_left hk]
    exact ⟨_, List.getElem?_eq_getElem hk, .inl (List.getElem?_eq_getElem hk)⟩
theorem trunc_same {st : Store} {d : D} (h : clean 8 d = true) : trunc st d st = (d, st) := by
  have := trunc_app (st := st) (cs := []) h
  rwa [List.append_nil] at this
theorem clean_mono : ∀ {m : Nat} {d : D}, clean m d = true → lowR 0 m d = true ∧ ∀ n, lowR n m d = true := by
  intro m
  induction m with
  | zero => intro d h; cases d <;> first | exact ⟨rfl, fun _ => rfl⟩ | (simp [clean] at h)
  | succ m ih =>
    intro d h
    cases d with
    | tup xs =>
      have q : ∀ n, lowR n (m + 1) (.tup xs) = true := fun n => by
        show xs.all (lowR n m) = true
        rw [List.all_eq_true]
        intro x hx
        exact (ih (List.all_eq_true.mp (show xs.all (clean m) = true from h) x hx)).2 n
      exact ⟨q 0, q⟩
    | lst xs =>
      have q : ∀ n, lowR n (m + 1) (.lst xs) = true := fun n => by
        show xs.all (lowR n m) = true
        rw [List.all_eq_true]
        intro x hx
        exact (ih (List.all_eq_true.mp (show xs.all (clean m) = true from h) x hx)).2 n
      exact ⟨q 0, q⟩
    | non => exact ⟨rfl, fun _ => rfl⟩
    | bl _ => exact ⟨rfl, fun _ => rfl⟩
    | int _ => exact ⟨rfl, fun _ => rfl⟩
    | str _ => exact ⟨rfl, fun _ => rfl⟩
    | _ => simp [clean] at h
/-- a new list is handed on -/
theorem trunc_new {st : Store} {xs : List D} {cs : Store} (h : xs.all (lowR st.length 8) = true) : trunc st (.ref st.length) (st ++ .lst xs :: cs) = (.lst xs, st) := by
  unfold trunc
  rw [if_pos]
  · have e : fz st.length (st ++ .lst xs :: cs) 8 (.ref st.length) = some (.lst xs) := by
      show (if st.length < st.length then _ else _) = _
      rw [if_neg (Nat.lt_irrefl _), List.getElem?_append_right (Nat.le_refl _), Nat.sub_self]
      simp [h]
    rw [e]
    simp
  · refine ⟨by rw [List.length_append]; omega, fun k hk => ?_⟩
    rw [List.getElem?_append_left hk]
    exact ⟨_, List.getElem?_eq_getElem hk, .inl (List.getElem?_eq_getElem hk)⟩
/-- an old cell is written -/
theorem trunc_set {st : Store} {d : D} {k : Nat} {c : Cell} {cs : Store} (h : clean 8 d = true) (hc : cellBelow st.length c = true) : trunc st d (st.set k c ++ cs) = (d, st.set k c) := by
  unfold trunc
  rw [if_pos, fz_clean h]
  · have e : (st.set k c ++ cs).take st.length = st.set k c := by
      rw [← List.length_set (i := k) (a := c)]; exact List.take_left ..
    rw [e]
  · refine ⟨by rw [List.length_append, List.length_set]; omega, fun j hj => ?_⟩
    rw [List.getElem?_append_left (by rw [List.length_set]; exact hj)]
    by_cases e : k = j
    · subst e
      exact ⟨c, List.getElem?_set_self hj, .inr hc⟩
    · rw [List.getElem?_set_ne e]
      exact ⟨_, List.getElem?_eq_getElem hj, .inl (List.getElem?_eq_getElem hj)⟩
theorem callRes_rt {st : Store} {d : D} (h : clean 8 d = true) : callRes st (.rt d st) = .ok d st := by
  show R.ok _ _ = _
  rw [trunc_same h]
theorem callRes_rtA {st : Store} {d : D} {cs : Store} (h : clean 8 d = true) : callRes st (.rt d (st ++ cs)) = .ok d st := by
  show R.ok _ _ = _
  rw [trunc_app h]
theorem callRes_rtN {st : Store} {xs : List D} {cs : Store} (h : xs.all (lowR st.length 8) = true) : callRes st (.rt (.ref st.length) (st ++ .lst xs :: cs)) = .ok (.lst xs) st := by
  show R.ok _ _ = _
  rw [trunc_new h]
theorem callRes_nx {st : Store} {ρ : Env} : callRes st (.nx ρ st) = .ok .non st := by
  show R.ok _ _ = _
  rw [trunc_same rfl]
theorem callRes_nxS {st : Store} {ρ : Env} {k : Nat} {c : Cell} (hc : cellBelow st.length c = true) : callRes st (.nx ρ (st.set k c)) = .ok .non (st.set k c) := by
  show R.ok _ _ = _
  have := trunc_set (st := st) (d := .non) (k := k) (c := c) (cs := []) rfl hc
  rw [List.append_nil] at this
  rw [this]
theorem callRes_rtS {st : Store} {d : D} {k : Nat} {c : Cell} {cs : Store} (h : clean 8 d = true) (hc : cellBelow st.length c = true) : callRes st (.rt d (st.set k c ++ cs)) = .ok d (st.set k c) := by
  show R.ok _ _ = _
  rw [trunc_set h hc]
/-! ### loops -/
open Classical in
theorem still_val {st : Store} {src : D} {all : List D} (h : ∀ k, src ≠ .ref k) : still st src all = true := by
  unfold still
  rw [decide_eq_true_eq]
  cases src with
  | ref k => exact absurd rfl (h k)
  | _ => trivial
open Classical in
theorem still_ref {st : Store} {k : Nat} {all : List D} (h : st[k]? = some (.lst all)) : still st (.ref k) all = true := by
  unfold still
  rw [decide_eq_true_eq]
  exact h
theorem compL_map {α : Type} {src : D} {all : List D} {bnd : D → Option Env} {c : Env → Store → R Bool} {e : Env → Store → R D} {st : Store} {f g : α → D} (hs : still st src all = true) :
    ∀ (l : List α) (acc : List D), acc.length + l.length ≤ line → (∀ a, a ∈ l → ∃ ρ, bnd (f a) = some ρ ∧ c ρ st = .ok true st ∧ e ρ st = .ok (g a) st) → compL src all bnd c e (l.map f) acc st = .ok (acc ++ l.map g) st
  | [], acc, _, _ => by simp [compL, hs]
  | a :: l, acc, hl, h => by
    obtain ⟨ρ, h1, h2, h3⟩ := h a List.mem_cons_self
    rw [List.length_cons] at hl
    rw [List.map_cons, compL, if_pos hs, h1]
    simp only [h2, R.bindN, h3]
    rw [if_pos (by omega), compL_map hs l _ (by rw [List.length_append, List.length_singleton]; omega) fun b hb => h b (List.mem_cons_of_mem _ hb)]
    simp
theorem compL_filter {α : Type} {src : D} {all : List D} {bnd : D → Option Env} {c : Env → Store → R Bool} {e : Env → Store → R D} {st : Store} {f g : α → D} {p : α → Bool} (hs : still st src all = true) :
    ∀ (l : List α) (acc : List D), acc.length + l.length ≤ line → (∀ a, a ∈ l → ∃ ρ, bnd (f a) = some ρ ∧ c ρ st = .ok (p a) st ∧ (p a = true → e ρ st = .ok (g a) st)) → compL src all bnd c e (l.map f) acc st = .ok (acc ++ (l.filter p).map g) st
  | [], acc, _, _ => by simp [compL, hs]
  | a :: l, acc, hl, h => by
    obtain ⟨ρ, h1, h2, h3⟩ := h a List.mem_cons_self
    rw [List.length_cons] at hl
    rw [List.map_cons, compL, if_pos hs, h1]
    simp only [h2, R.bindN]
    cases hp : p a with
    | true =>
      simp only [h3 hp]
      rw [if_pos (by omega), compL_filter hs l _ (by rw [List.length_append, List.length_singleton]; omega) fun b hb => h b (List.mem_cons_of_mem _ hb)]
      simp [hp]
    | false =>
      simp only
      rw [compL_filter hs l _ (by omega) fun b hb => h b (List.mem_cons_of_mem _ hb)]
      simp [hp]
/-- a for loop that runs through, by states b -/
theorem frL_fold {α β : Type} {src : D} {all : List D} {bnd : D → Env → Option Env} {body : Env → Store → RS} {f : α → D} (E : β → Env) (S : β → Store) (step : β → α → β) (I : List α → β → Prop) (hs : ∀ b, still (S b) src all = true)
    (h : ∀ a l b, I (a :: l) b → (∃ ρ, bnd (f a) (E b) = some ρ ∧ body ρ (S b) = .nx (E (step b a)) (S (step b a))) ∧ I l (step b a)) :
    ∀ (l : List α) (b : β), I l b → frL src all bnd body (l.map f) (E b) (S b) = .nx (E (l.foldl step b)) (S (l.foldl step b)) ∧ I [] (l.foldl step b)
  | [], b, hI => by simp [frL, hs b, hI]
  | a :: l, b, hI => by
    obtain ⟨⟨ρ, h1, h2⟩, h3⟩ := h a l b hI
    rw [List.map_cons, frL, if_pos (hs b), h1]
    simp only [h2]
    exact frL_fold E S step I hs h l (step b a) h3
/-- the same by a relation: each turn goes from some state to some state -/
theorem frL_inv {α : Type} {src : D} {all : List D} {bnd : D → Env → Option Env} {body : Env → Store → RS} {f : α → D} (I : List α → Env → Store → Prop) (hs : ∀ l ρ st, I l ρ st → still st src all = true)
    (h : ∀ a l ρ st, I (a :: l) ρ st → ∃ ρ1, bnd (f a) ρ = some ρ1 ∧ ∃ ρ2 st2, body ρ1 st = .nx ρ2 st2 ∧ I l ρ2 st2) :
    ∀ (l : List α) (ρ : Env) (st : Store), I l ρ st → ∃ ρ' st', frL src all bnd body (l.map f) ρ st = .nx ρ' st' ∧ I [] ρ' st'
  | [], ρ, st, hI => ⟨ρ, st, by simp [frL, hs _ _ _ hI], hI⟩
  | a :: l, ρ, st, hI => by
    obtain ⟨ρ1, h1, ρ2, st2, h2, h3⟩ := h a l ρ st hI
    rw [List.map_cons, frL, if_pos (hs _ _ _ hI), h1]
    simp only [h2]
    exact frL_inv I hs h l ρ2 st2 h3
/-! while -/
theorem whN_mono {c : Env → Store → R Bool} {b : Env → Store → RS} : ∀ {n m : Nat} {ρ : Env} {st : Store}, n ≤ m → whN c b n ρ st ≠ .stuck → whN c b m ρ st = whN c b n ρ st
  | 0, _, _, _, _, h => absurd rfl h
  | n + 1, 0, _, _, hl, _ => by omega
  | n + 1, m + 1, ρ, st, hl, h => by
    rw [whN] at h ⊢
    rw [whN]
    cases hc : c ρ st with
    | stuck => rfl
    | exc _ _ _ => rfl
    | ok k st1 =>
      rw [hc] at h
      cases k with
      | false => rfl
      | true =>
        simp only [R.bindS] at h ⊢
        cases hb : b ρ st1 with
        | nx ρ1 st2 => rw [hb] at h; exact whN_mono (by omega) h
        | ct ρ1 st2 => rw [hb] at h; exact whN_mono (by omega) h
        | _ => rfl
open Classical in
theorem wh_of {c : Env → Store → R Bool} {b : Env → Store → RS} {n : Nat} {ρ : Env} {st : Store} (h : whN c b n ρ st ≠ .stuck) : wh c b ρ st = whN c b n ρ st := by
  have hx : ∃ n, whN c b n ρ st ≠ .stuck := ⟨n, h⟩
  unfold wh
  rw [dif_pos hx]
  have hc := Classical.choose_spec hx
  rcases Nat.le_total (Classical.choose hx) n with q | q
  · exact (whN_mono q hc).symm
  · exact whN_mono q h
/-- a while loop that runs to its end -/
theorem wh_inv {c : Env → Store → R Bool} {body : Env → Store → RS} (I : Nat → Env → Store → Prop)
    (h : ∀ n ρ st, I n ρ st → ∃ k st1, c ρ st = .ok k st1 ∧ (k = true → ∃ m ρ2 st2, m < n ∧ body ρ st1 = .nx ρ2 st2 ∧ I m ρ2 st2) ∧ (k = false → st1 = st)) :
    ∀ (n : Nat) (ρ : Env) (st : Store), I n ρ st → ∃ m ρ' st', wh c body ρ st = .nx ρ' st' ∧ I m ρ' st' ∧ c ρ' st' = .ok false st' := by
  have key : ∀ (n : Nat) (ρ : Env) (st : Store), I n ρ st → ∃ N m ρ' st', whN c body N ρ st = .nx ρ' st' ∧ I m ρ' st' ∧ c ρ' st' = .ok false st' := by
    intro n
    induction n using Nat.strongRecOn with
    | _ n ih =>
      intro ρ st hI
      obtain ⟨k, st1, h1, h2, h3⟩ := h n ρ st hI
      cases k with
      | false =>
        have e := h3 rfl
        subst e
        exact ⟨1, n, ρ, st1, by rw [whN, h1]; rfl, hI, h1⟩
      | true =>
        obtain ⟨m, ρ2, st2, hm, hb, hI2⟩ := h2 rfl
        obtain ⟨N, m', ρ', st', e1, e2, e3⟩ := ih m hm ρ2 st2 hI2
        refine ⟨N + 1, m', ρ', st', ?_, e2, e3⟩
        rw [whN, h1]
        simp only [R.bindS, hb]
        exact e1
  intro n ρ st hI
  obtain ⟨N, m, ρ', st', e1, e2, e3⟩ := key n ρ st hI
  exact ⟨m, ρ', st', by rw [wh_of (n := N) (by rw [e1]; exact fun z => nomatch z)]; exact e1, e2, e3⟩
/-- a while loop by its states -/
theorem wh_step {c : Env → Store → R Bool} {body : Env → Store → RS} {ρ ρ2 : Env} {st st1 st2 : Store} (h1 : c ρ st = .ok true st1) (h2 : body ρ st1 = .nx ρ2 st2) : wh c body ρ st = wh c body ρ2 st2 := by
  by_cases hx : ∃ n, whN c body n ρ2 st2 ≠ .stuck
  · obtain ⟨n, hn⟩ := hx
    have e : whN c body (n + 1) ρ st = whN c body n ρ2 st2 := by
      rw [whN, h1]
      simp only [R.bindS, h2]
    rw [wh_of hn, wh_of (n := n + 1) (by rw [e]; exact hn), e]
  · have hx2 : ¬ ∃ n, whN c body n ρ st ≠ .stuck := by
      rintro ⟨n, hn⟩
      cases n with
      | zero => exact hn rfl
      | succ n =>
        rw [whN, h1] at hn
        simp only [R.bindS, h2] at hn
        exact hx ⟨n, hn⟩
    unfold wh
    rw [dif_neg hx, dif_neg hx2]
theorem wh_end {c : Env → Store → R Bool} {body : Env → Store → RS} {ρ : Env} {st st1 : Store} (h1 : c ρ st = .ok false st1) : wh c body ρ st = .nx ρ st1 := by
  have e : whN c body 1 ρ st = .nx ρ st1 := by rw [whN, h1]; rfl
  rw [wh_of (n := 1) (by rw [e]; exact fun z => nomatch z), e]
end MP
end
section
set_option linter.all false
set_option Elab.async false
set_option maxRecDepth 10000
namespace MP
open PySem (Operator CmpOp)
/-! ### step by step: what follows stands behind a name -/
section
variable (Φ : Key → List D → Store → R D) (G : Gb)
@[simp] theorem bind_ok {α β : Type} {a : α} {st : Store} {f : α → Store → R β} : (R.ok a st).bind f = f a st := (rfl)
@[simp] theorem bind_exc {α β : Type} {c : String} {d : D} {st : Store} {f : α → Store → R β} : (R.exc c d st : R α).bind f = .exc c d st := (rfl)
@[simp] theorem bindS_ok {α : Type} {a : α} {st : Store} {ρ : Env} {f : α → Store → RS} : (R.ok a st).bindS ρ f = f a st := (rfl)
@[simp] theorem bindS_exc {α : Type} {c : String} {d : D} {st : Store} {ρ : Env} {f : α → Store → RS} : (R.exc c d st : R α).bindS ρ f = .exc c d ρ st := (rfl)
@[simp] theorem of_some {α : Type} {a : α} {st : Store} : R.of (some a) st = .ok a st := (rfl)
@[simp] theorem then_nx {ρ : Env} {st : Store} {f : Env → Store → RS} : (RS.nx ρ st).then f = f ρ st := (rfl)
@[simp] theorem then_rt {d : D} {st : Store} {f : Env → Store → RS} : (RS.rt d st).then f = .rt d st := (rfl)
@[simp] theorem then_bk {ρ : Env} {st : Store} {f : Env → Store → RS} : (RS.bk ρ st).then f = .bk ρ st := (rfl)
@[simp] theorem then_ct {ρ : Env} {st : Store} {f : Env → Store → RS} : (RS.ct ρ st).then f = .ct ρ st := (rfl)
@[simp] theorem then_exc {c : String} {d : D} {ρ : Env} {st : Store} {f : Env → Store → RS} : (RS.exc c d ρ st).then f = .exc c d ρ st := (rfl)
noncomputable def kBin (m : Bool) (op : Operator) (b : Ex) (ρ : Env) (x : D) (st : Store) : R D := (evE Φ G b ρ st).bind fun y st => binD m op x y st
def kBin2 (m : Bool) (op : Operator) (x y : D) (st : Store) : R D := binD m op x y st
noncomputable def kCmp (op : CmpOp) (b : Ex) (ρ : Env) (x : D) (st : Store) : R D := (evE Φ G b ρ st).bind fun y st => .of ((cmpD op x y st).map .bl) st
def kCmp2 (op : CmpOp) (x y : D) (st : Store) : R D := .of ((cmpD op x y st).map .bl) st
noncomputable def kCmpT (op : CmpOp) (b : Ex) (ρ : Env) (x : D) (st : Store) : R Bool := (evE Φ G b ρ st).bind fun y st => .of (cmpD op x y st) st
def kCmpT2 (op : CmpOp) (x y : D) (st : Store) : R Bool := .of (cmpD op x y st) st
def kNeg (x : D) (st : Store) : R D := match x with
  | .int i => .ok (.int (-i)) st
  | _ => .stuck
noncomputable def kChain (o1 o2 : CmpOp) (b c : Ex) (ρ : Env) (x : D) (st : Store) : R D := (evE Φ G b ρ st).bind fun y st => (R.of (cmpD o1 x y st) st).bind fun k st => match k with
    | true => (evE Φ G c ρ st).bind fun z st => .of ((cmpD o2 y z st).map .bl) st
    | false => .ok (.bl false) st
noncomputable def kChain2 (o1 o2 : CmpOp) (c : Ex) (ρ : Env) (x y : D) (st : Store) : R D := (R.of (cmpD o1 x y st) st).bind fun k st => match k with
    | true => (evE Φ G c ρ st).bind fun z st => .of ((cmpD o2 y z st).map .bl) st
    | false => .ok (.bl false) st
noncomputable def kChain3 (o2 : CmpOp) (c : Ex) (ρ : Env) (y : D) (k : Bool) (st : Store) : R D := match k with
    | true => (evE Φ G c ρ st).bind fun z st => .of ((cmpD o2 y z st).map .bl) st
    | false => .ok (.bl false) st
noncomputable def kChainT (o1 o2 : CmpOp) (b c : Ex) (ρ : Env) (x : D) (st : Store) : R Bool := (evE Φ G b ρ st).bind fun y st => (R.of (cmpD o1 x y st) st).bind fun k st => match k with
    | true => (evE Φ G c ρ st).bind fun z st => .of (cmpD o2 y z st) st
    | false => .ok false st
noncomputable def kChainT2 (o1 o2 : CmpOp) (c : Ex) (ρ : Env) (x y : D) (st : Store) : R Bool := (R.of (cmpD o1 x y st) st).bind fun k st => match k with
    | true => (evE Φ G c ρ st).bind fun z st => .of (cmpD o2 y z st) st
    | false => .ok false st
noncomputable def kChainT3 (o2 : CmpOp) (c : Ex) (ρ : Env) (y : D) (k : Bool) (st : Store) : R Bool := match k with
    | true => (evE Φ G c ρ st).bind fun z st => .of (cmpD o2 y z st) st
    | false => .ok false st
def kIsN (x : D) (st : Store) : R D := .ok (.bl (isNon x)) st
def kNotN (x : D) (st : Store) : R D := .ok (.bl (!isNon x)) st
def kIsNT (x : D) (st : Store) : R Bool := .ok (isNon x) st
def kNotNT (x : D) (st : Store) : R Bool := .ok (!isNon x) st
def kNot (x : D) (st : Store) : R D := .of ((truD st x).map fun b => .bl (!b)) st
noncomputable def kAnd (r : Ex) (ρ : Env) (x : D) (st : Store) : R D := (R.of (truD st x) st).bind fun k st => match k with
    | true => evE Φ G r ρ st
    | false => .ok x st
noncomputable def kAnd2 (r : Ex) (ρ : Env) (x : D) (k : Bool) (st : Store) : R D := match k with
    | true => evE Φ G r ρ st
    | false => .ok x st
noncomputable def kOr (r : Ex) (ρ : Env) (x : D) (st : Store) : R D := (R.of (truD st x) st).bind fun k st => match k with
    | true => .ok x st
    | false => evE Φ G r ρ st
noncomputable def kOr2 (r : Ex) (ρ : Env) (x : D) (k : Bool) (st : Store) : R D := match k with
    | true => .ok x st
    | false => evE Φ G r ρ st
noncomputable def kIfe (a b : Ex) (ρ : Env) (k : Bool) (st : Store) : R D := match k with
    | true => evE Φ G a ρ st
    | false => evE Φ G b ρ st
def kTup (ds : List D) (st : Store) : R D := .ok (.tup ds) st
noncomputable def kIdx (i : Ex) (ρ : Env) (x : D) (st : Store) : R D := (evE Φ G i ρ st).bind fun y st => .of (idxD x y st) st
def kIdx2 (x y : D) (st : Store) : R D := .of (idxD x y st) st
noncomputable def kSl (m : Bool) (lo hi : Exs) (ρ : Env) (x : D) (st : Store) : R D := ((evEs Φ G lo ρ st).bind fun l st => .of (partI l) st).bind fun l st => ((evEs Φ G hi ρ st).bind fun h st => .of (partI h) st).bind fun h st => sliceD m x l h st
def kPart (l : List D) (st : Store) : R (Option Int) := .of (partI l) st
noncomputable def kSl2 (m : Bool) (hi : Exs) (ρ : Env) (x : D) (l : Option Int) (st : Store) : R D := ((evEs Φ G hi ρ st).bind kPart).bind fun h st => sliceD m x l h st
def kSl3 (m : Bool) (x : D) (l h : Option Int) (st : Store) : R D := sliceD m x l h st
def kFld (f : String) (x : D) (st : Store) : R D := .of (getFld x f st) st
def kCall (f : String) (ds : List D) (st : Store) : R D := Φ (.fn f) ds st
def kMake (c : String) (ds : List D) (st : Store) : R D := makeD Φ c ds st
def kMade (n : Nat) (d : D) (st' : Store) : R D := match d with
  | .non => .ok (.ref n) st'
  | _ => .stuck
noncomputable def kMeth (m : String) (es : Exs) (ρ : Env) (x : D) (st : Store) : R D := (R.of (clsOf G m x st) st).bind fun c st => (evEs Φ G es ρ st).bind fun ds st => Φ (.mt c m) (x :: ds) st
noncomputable def kMeth2 (m : String) (es : Exs) (ρ : Env) (x : D) (c : String) (st : Store) : R D := (evEs Φ G es ρ st).bind fun ds st => Φ (.mt c m) (x :: ds) st
def kMeth3 (c m : String) (x : D) (ds : List D) (st : Store) : R D := Φ (.mt c m) (x :: ds) st
def kBlt (b : Blt) (ds : List D) (st : Store) : R D := bltD b ds st
def kIsi (t : Ty) (x : D) (st : Store) : R D := if isPlain st x = true then .ok (.bl (isTy st x t)) st else .stuck
noncomputable def kBm (b : BM) (es : Exs) (ρ : Env) (x : D) (st : Store) : R D := if bmOk b x st = true then (evEs Φ G es ρ st).bind fun ds st => bmD b x ds st else .stuck
def kBm2 (b : BM) (x : D) (ds : List D) (st : Store) : R D := bmD b x ds st
def bndC (tg : List Nat) (sg : Bool) (ρ : Env) (x : D) : Option Env := bindT tg sg x ρ
noncomputable def kComp (m : Bool) (tg : List Nat) (sg : Bool) (cs : Tes) (e : Ex) (ρ : Env) (w : D × List D × List D) (st : Store) : R D := (compL w.1 w.2.1 (bndC tg sg ρ) (evTs Φ G cs) (evE Φ G e) w.2.2 [] st).bind (newL m)
noncomputable def kCons (es : Exs) (ρ : Env) (d : D) (st : Store) : R (List D) := (evEs Φ G es ρ st).bind fun ds st => .ok (d :: ds) st
def kCons2 (d : D) (ds : List D) (st : Store) : R (List D) := .ok (d :: ds) st
def kSeq (d : D) (st : Store) : R (D × List D × List D) := .of ((walked st d).map fun xs => (d, xs, xs)) st
def kRng (ds : List D) (st : Store) : R (D × List D × List D) := .of ((rngD ds).map fun xs => (.non, [], xs)) st
def kEnum (d : D) (st : Store) : R (D × List D × List D) := .of ((seq st d).map fun xs => (d, xs, enumL xs)) st
noncomputable def kZip (b : Ex) (ρ : Env) (x : D) (st : Store) : R (D × List D × List D) := (evE Φ G b ρ st).bind fun y st => match x, y with
    | .tup xs, .tup ys => .ok (.non, [], zipL xs ys) st
    | .lst xs, .lst ys => .ok (.non, [], zipL xs ys) st
    | _, _ => .stuck
def kZip2 (x y : D) (st : Store) : R (D × List D × List D) := match x, y with
    | .tup xs, .tup ys => .ok (.non, [], zipL xs ys) st
    | .lst xs, .lst ys => .ok (.non, [], zipL xs ys) st
    | _, _ => .stuck
def kRev (d : D) (st : Store) : R (D × List D × List D) := match d with
    | .tup xs => .ok (.non, [], xs.reverse) st
    | _ => .stuck
def kVal (x : D) (st : Store) : R Bool := .of (truD st x) st
def kNotT (k : Bool) (st : Store) : R Bool := .ok (!k) st
noncomputable def kAndT (r : Te) (ρ : Env) (k : Bool) (st : Store) : R Bool := match k with
    | true => evT Φ G r ρ st
    | false => .ok false st
noncomputable def kOrT (r : Te) (ρ : Env) (k : Bool) (st : Store) : R Bool := match k with
    | true => .ok true st
    | false => evT Φ G r ρ st
noncomputable def kTs (ts : Tes) (ρ : Env) (k : Bool) (st : Store) : R Bool := match k with
    | true => evTs Φ G ts ρ st
    | false => .ok false st
variable {Φ G}
variable {ρ : Env} {st : Store} {i : Nat} {m : Bool} {op o1 o2 : Operator} {cop p1 p2 : CmpOp} {a b c e r : Ex} {es lo hi : Exs} {f c' : String} {x y z d : D} {ds : List D} {t : Te} {ts : Tes}
@[simp] theorem ev_var : evE Φ G (.var i) ρ st = (match ρ[i]? with
    | some (some (.err _ _)) => .stuck
    | some (some d) => .ok d st
    | _ => .stuck) := (rfl)
@[simp] theorem ev_non : evE Φ G .non ρ st = .ok .non st := (rfl)
@[simp] theorem ev_bl {b : Bool} : evE Φ G (.bl b) ρ st = .ok (.bl b) st := (rfl)
@[simp] theorem ev_int {i : Int} : evE Φ G (.int i) ρ st = .ok (.int i) st := (rfl)
@[simp] theorem ev_str {s : String} : evE Φ G (.str s) ρ st = .ok (.str (codes s)) st := (rfl)
@[simp] theorem ev_cst {s : String} : evE Φ G (.cst s) ρ st = .of (G.cst s) st := (rfl)
@[simp] theorem ev_bin : evE Φ G (.bin m op a b) ρ st = (evE Φ G a ρ st).bind (kBin Φ G m op b ρ) := (rfl)
@[simp] theorem kBin_ap : kBin Φ G m op b ρ x st = (evE Φ G b ρ st).bind (kBin2 m op x) := (rfl)
@[simp] theorem kBin2_ap : kBin2 m op x y st = binD m op x y st := (rfl)
@[simp] theorem ev_neg : evE Φ G (.neg a) ρ st = (evE Φ G a ρ st).bind kNeg := (rfl)
@[simp] theorem kNeg_ap {i : Int} : kNeg (.int i) st = .ok (.int (-i)) st := (rfl)
@[simp] theorem ev_cmp : evE Φ G (.cmp cop a b) ρ st = (evE Φ G a ρ st).bind (kCmp Φ G cop b ρ) := (rfl)
@[simp] theorem kCmp_ap : kCmp Φ G cop b ρ x st = (evE Φ G b ρ st).bind (kCmp2 cop x) := (rfl)
@[simp] theorem kCmp2_ap : kCmp2 cop x y st = .of ((cmpD cop x y st).map .bl) st := (rfl)
@[simp] theorem ev_chain : evE Φ G (.chain p1 p2 a b c) ρ st = (evE Φ G a ρ st).bind (kChain Φ G p1 p2 b c ρ) := (rfl)
@[simp] theorem kChain_ap : kChain Φ G p1 p2 b c ρ x st = (evE Φ G b ρ st).bind (kChain2 Φ G p1 p2 c ρ x) := (rfl)
@[simp] theorem kChain2_ap : kChain2 Φ G p1 p2 c ρ x y st = (R.of (cmpD p1 x y st) st).bind (kChain3 Φ G p2 c ρ y) := (rfl)
@[simp] theorem kChain3_t : kChain3 Φ G p2 c ρ y true st = (evE Φ G c ρ st).bind (kCmp2 p2 y) := (rfl)
@[simp] theorem kChain3_f : kChain3 Φ G p2 c ρ y false st = .ok (.bl false) st := (rfl)
@[simp] theorem ev_isN : evE Φ G (.isN a) ρ st = (evE Φ G a ρ st).bind kIsN := (rfl)
@[simp] theorem kIsN_ap : kIsN x st = .ok (.bl (isNon x)) st := (rfl)
@[simp] theorem ev_notN : evE Φ G (.notN a) ρ st = (evE Φ G a ρ st).bind kNotN := (rfl)
@[simp] theorem kNotN_ap : kNotN x st = .ok (.bl (!isNon x)) st := (rfl)
@[simp] theorem ev_not : evE Φ G (.not a) ρ st = (evE Φ G a ρ st).bind kNot := (rfl)
@[simp] theorem kNot_ap : kNot x st = .of ((truD st x).map fun b => .bl (!b)) st := (rfl)
@[simp] theorem ev_and : evE Φ G (.and a r) ρ st = (evE Φ G a ρ st).bind (kAnd Φ G r ρ) := (rfl)
@[simp] theorem kAnd_ap : kAnd Φ G r ρ x st = (R.of (truD st x) st).bind (kAnd2 Φ G r ρ x) := (rfl)
@[simp] theorem kAnd2_t : kAnd2 Φ G r ρ x true st = evE Φ G r ρ st := (rfl)
@[simp] theorem kAnd2_f : kAnd2 Φ G r ρ x false st = .ok x st := (rfl)
@[simp] theorem ev_and1 : evE Φ G (.and1 a) ρ st = evE Φ G a ρ st := (rfl)
@[simp] theorem ev_or : evE Φ G (.or a r) ρ st = (evE Φ G a ρ st).bind (kOr Φ G r ρ) := (rfl)
@[simp] theorem kOr_ap : kOr Φ G r ρ x st = (R.of (truD st x) st).bind (kOr2 Φ G r ρ x) := (rfl)
@[simp] theorem kOr2_t : kOr2 Φ G r ρ x true st = .ok x st := (rfl)
@[simp] theorem kOr2_f : kOr2 Φ G r ρ x false st = evE Φ G r ρ st := (rfl)
@[simp] theorem ev_or1 : evE Φ G (.or1 a) ρ st = evE Φ G a ρ st := (rfl)
@[simp] theorem ev_ife : evE Φ G (.ife t a b) ρ st = (evT Φ G t ρ st).bind (kIfe Φ G a b ρ) := (rfl)
@[simp] theorem kIfe_t : kIfe Φ G a b ρ true st = evE Φ G a ρ st := (rfl)
@[simp] theorem kIfe_f : kIfe Φ G a b ρ false st = evE Φ G b ρ st := (rfl)
@[simp] theorem ev_tup : evE Φ G (.tup es) ρ st = (evEs Φ G es ρ st).bind kTup := (rfl)
@[simp] theorem kTup_ap : kTup ds st = .ok (.tup ds) st := (rfl)
@[simp] theorem ev_lst : evE Φ G (.lst m es) ρ st = (evEs Φ G es ρ st).bind (newL m) := (rfl)
@[simp] theorem newL_f : newL false ds st = .ok (.lst ds) st := (rfl)
@[simp] theorem newL_t : newL true ds st = .ok (.ref st.length) (st ++ [.lst ds]) := (rfl)
@[simp] theorem ev_idx : evE Φ G (.idx a b) ρ st = (evE Φ G a ρ st).bind (kIdx Φ G b ρ) := (rfl)
@[simp] theorem kIdx_ap : kIdx Φ G b ρ x st = (evE Φ G b ρ st).bind (kIdx2 x) := (rfl)
@[simp] theorem kIdx2_ap : kIdx2 x y st = .of (idxD x y st) st := (rfl)
@[simp] theorem ev_slice : evE Φ G (.slice m a lo hi) ρ st = (evE Φ G a ρ st).bind (kSl Φ G m lo hi ρ) := (rfl)
@[simp] theorem kSl_ap : kSl Φ G m lo hi ρ x st = ((evEs Φ G lo ρ st).bind kPart).bind (kSl2 Φ G m hi ρ x) := (rfl)
@[simp] theorem kSl2_ap {l : Option Int} : kSl2 Φ G m hi ρ x l st = ((evEs Φ G hi ρ st).bind kPart).bind (kSl3 m x l) := (rfl)
@[simp] theorem kSl3_ap {l h : Option Int} : kSl3 m x l h st = sliceD m x l h st := (rfl)
@[simp] theorem kPart_0 : kPart [] st = .ok none st := (rfl)
@[simp] theorem kPart_1 {i : Int} : kPart [.int i] st = .ok (some i) st := (rfl)
@[simp] theorem ev_fld : evE Φ G (.fld a f) ρ st = (evE Φ G a ρ st).bind (kFld f) := (rfl)
@[simp] theorem kFld_ap : kFld f x st = .of (getFld x f st) st := (rfl)
@[simp] theorem ev_efld : evE Φ G (.efld i f) ρ st = (match ρ[i]? with
    | some (some (.err _ d)) => .ok d st
    | _ => .stuck) := (rfl)
@[simp] theorem ev_call : evE Φ G (.call f es) ρ st = (evEs Φ G es ρ st).bind (kCall Φ f) := (rfl)
@[simp] theorem kCall_ap : kCall Φ f ds st = Φ (.fn f) ds st := (rfl)
@[simp] theorem ev_make : evE Φ G (.make f es) ρ st = (evEs Φ G es ρ st).bind (kMake Φ f) := (rfl)
@[simp] theorem kMake_ap : kMake Φ f ds st = (Φ (.mt f "__init__") (.ref st.length :: ds) (st ++ [.ins f []])).bind (kMade st.length) := (rfl)
@[simp] theorem kMade_ap {n : Nat} : kMade n .non st = .ok (.ref n) st := (rfl)
@[simp] theorem ev_meth : evE Φ G (.meth a f es) ρ st = (evE Φ G a ρ st).bind (kMeth Φ G f es ρ) := (rfl)
@[simp] theorem kMeth_ap : kMeth Φ G f es ρ x st = (R.of (clsOf G f x st) st).bind (kMeth2 Φ G f es ρ x) := (rfl)
@[simp] theorem kMeth2_ap : kMeth2 Φ G f es ρ x c' st = (evEs Φ G es ρ st).bind (kMeth3 Φ c' f x) := (rfl)
@[simp] theorem kMeth3_ap : kMeth3 Φ c' f x ds st = Φ (.mt c' f) (x :: ds) st := (rfl)
@[simp] theorem ev_blt {b : Blt} : evE Φ G (.blt b es) ρ st = (evEs Φ G es ρ st).bind (kBlt b) := (rfl)
@[simp] theorem kBlt_ap {b : Blt} : kBlt b ds st = bltD b ds st := (rfl)
@[simp] theorem ev_isi {t : Ty} : evE Φ G (.isi a t) ρ st = (evE Φ G a ρ st).bind (kIsi t) := (rfl)
@[simp] theorem kIsi_ap {t : Ty} : kIsi t x st = if isPlain st x = true then .ok (.bl (isTy st x t)) st else .stuck := (rfl)
@[simp] theorem ev_bm {b : BM} : evE Φ G (.bm b a es) ρ st = (evE Φ G a ρ st).bind (kBm Φ G b es ρ) := (rfl)
@[simp] theorem kBm_ap {b : BM} : kBm Φ G b es ρ x st = if bmOk b x st = true then (evEs Φ G es ρ st).bind (kBm2 b x) else .stuck := (rfl)
@[simp] theorem kBm2_ap {b : BM} : kBm2 b x ds st = bmD b x ds st := (rfl)
@[simp] theorem ev_comp {tg : List Nat} {sg : Bool} {it : It} {cs : Tes} : evE Φ G (.comp m tg sg it cs e) ρ st = (evIt Φ G it ρ st).bind (kComp Φ G m tg sg cs e ρ) := (rfl)
@[simp] theorem kComp_ap {tg : List Nat} {sg : Bool} {cs : Tes} {w1 : D} {w2 w3 : List D} : kComp Φ G m tg sg cs e ρ (w1, w2, w3) st = (compL w1 w2 (bndC tg sg ρ) (evTs Φ G cs) (evE Φ G e) w3 [] st).bind (newL m) := (rfl)
@[simp] theorem evs_nil : evEs Φ G .nil ρ st = .ok [] st := (rfl)
@[simp] theorem evs_cons : evEs Φ G (.cons e es) ρ st = (evE Φ G e ρ st).bind (kCons Φ G es ρ) := (rfl)
@[simp] theorem kCons_ap : kCons Φ G es ρ d st = (evEs Φ G es ρ st).bind (kCons2 d) := (rfl)
@[simp] theorem kCons2_ap : kCons2 d ds st = .ok (d :: ds) st := (rfl)
@[simp] theorem it_seq : evIt Φ G (.seq e) ρ st = (evE Φ G e ρ st).bind kSeq := (rfl)
@[simp] theorem kSeq_ap : kSeq d st = .of ((walked st d).map fun xs => (d, xs, xs)) st := (rfl)
@[simp] theorem it_rng : evIt Φ G (.rng es) ρ st = (evEs Φ G es ρ st).bind kRng := (rfl)
@[simp] theorem kRng_ap : kRng ds st = .of ((rngD ds).map fun xs => (.non, [], xs)) st := (rfl)
@[simp] theorem it_enum : evIt Φ G (.enum e) ρ st = (evE Φ G e ρ st).bind kEnum := (rfl)
@[simp] theorem kEnum_ap : kEnum d st = .of ((seq st d).map fun xs => (d, xs, enumL xs)) st := (rfl)
@[simp] theorem it_zip : evIt Φ G (.zip a b) ρ st = (evE Φ G a ρ st).bind (kZip Φ G b ρ) := (rfl)
@[simp] theorem kZip_ap : kZip Φ G b ρ x st = (evE Φ G b ρ st).bind (kZip2 x) := (rfl)
@[simp] theorem kZip2_t {xs ys : List D} : kZip2 (.tup xs) (.tup ys) st = .ok (.non, [], zipL xs ys) st := (rfl)
@[simp] theorem kZip2_l {xs ys : List D} : kZip2 (.lst xs) (.lst ys) st = .ok (.non, [], zipL xs ys) st := (rfl)
@[simp] theorem it_rev : evIt Φ G (.rev e) ρ st = (evE Φ G e ρ st).bind kRev := (rfl)
@[simp] theorem kRev_ap {xs : List D} : kRev (.tup xs) st = .ok (.non, [], xs.reverse) st := (rfl)
@[simp] theorem te_val : evT Φ G (.val e) ρ st = (evE Φ G e ρ st).bind kVal := (rfl)
@[simp] theorem kVal_ap : kVal x st = .of (truD st x) st := (rfl)
@[simp] theorem te_cmp : evT Φ G (.cmp cop a b) ρ st = (evE Φ G a ρ st).bind (kCmpT Φ G cop b ρ) := (rfl)
@[simp] theorem kCmpT_ap : kCmpT Φ G cop b ρ x st = (evE Φ G b ρ st).bind (kCmpT2 cop x) := (rfl)
@[simp] theorem kCmpT2_ap : kCmpT2 cop x y st = .of (cmpD cop x y st) st := (rfl)
@[simp] theorem te_chain : evT Φ G (.chain p1 p2 a b c) ρ st = (evE Φ G a ρ st).bind (kChainT Φ G p1 p2 b c ρ) := (rfl)
@[simp] theorem kChainT_ap : kChainT Φ G p1 p2 b c ρ x st = (evE Φ G b ρ st).bind (kChainT2 Φ G p1 p2 c ρ x) := (rfl)
@[simp] theorem kChainT2_ap : kChainT2 Φ G p1 p2 c ρ x y st = (R.of (cmpD p1 x y st) st).bind (kChainT3 Φ G p2 c ρ y) := (rfl)
@[simp] theorem kChainT3_t : kChainT3 Φ G p2 c ρ y true st = (evE Φ G c ρ st).bind (kCmpT2 p2 y) := (rfl)
@[simp] theorem kChainT3_f : kChainT3 Φ G p2 c ρ y false st = .ok false st := (rfl)
@[simp] theorem te_isN : evT Φ G (.isN a) ρ st = (evE Φ G a ρ st).bind kIsNT := (rfl)
@[simp] theorem kIsNT_ap : kIsNT x st = .ok (isNon x) st := (rfl)
@[simp] theorem te_notN : evT Φ G (.notN a) ρ st = (evE Φ G a ρ st).bind kNotNT := (rfl)
@[simp] theorem kNotNT_ap : kNotNT x st = .ok (!isNon x) st := (rfl)
@[simp] theorem te_not : evT Φ G (.not t) ρ st = (evT Φ G t ρ st).bind kNotT := (rfl)
@[simp] theorem kNotT_ap {k : Bool} : kNotT k st = .ok (!k) st := (rfl)
@[simp] theorem te_and {r : Te} : evT Φ G (.and t r) ρ st = (evT Φ G t ρ st).bind (kAndT Φ G r ρ) := (rfl)
@[simp] theorem kAndT_t {r : Te} : kAndT Φ G r ρ true st = evT Φ G r ρ st := (rfl)
@[simp] theorem kAndT_f {r : Te} : kAndT Φ G r ρ false st = .ok false st := (rfl)
@[simp] theorem te_and1 : evT Φ G (.and1 t) ρ st = evT Φ G t ρ st := (rfl)
@[simp] theorem te_or {r : Te} : evT Φ G (.or t r) ρ st = (evT Φ G t ρ st).bind (kOrT Φ G r ρ) := (rfl)
@[simp] theorem kOrT_t {r : Te} : kOrT Φ G r ρ true st = .ok true st := (rfl)
@[simp] theorem kOrT_f {r : Te} : kOrT Φ G r ρ false st = evT Φ G r ρ st := (rfl)
@[simp] theorem te_or1 : evT Φ G (.or1 t) ρ st = evT Φ G t ρ st := (rfl)
@[simp] theorem ts_nil : evTs Φ G .nil ρ st = .ok true st := (rfl)
@[simp] theorem ts_cons : evTs Φ G (.cons t ts) ρ st = (evT Φ G t ρ st).bind (kTs Φ G ts ρ) := (rfl)
@[simp] theorem kTs_t : kTs Φ G ts ρ true st = evTs Φ G ts ρ st := (rfl)
@[simp] theorem kTs_f : kTs Φ G ts ρ false st = .ok false st := (rfl)
end
/-! ### statements -/
section
variable (Φ : Key → List D → Store → R D) (G : Gb)
noncomputable def jAsg (t : Tg) (ρ : Env) (v : D) (st : Store) : RS := asgT Φ G t v ρ st
noncomputable def jUnp (ts : List Tg) (ρ : Env) (v : D) (st : Store) : RS := match seq st v with
    | some vs => if vs.length = ts.length then asgTs Φ G ts vs ρ st else .stuck
    | none => .stuck
noncomputable def jTgs (ts : List Tg) (vs : List D) (ρ : Env) (st : Store) : RS := asgTs Φ G ts vs ρ st
def jPar (is : List Nat) (ρ : Env) (vs : List D) (st : Store) : RS := match setAll ρ is vs with
    | some ρ => .nx ρ st
    | none => .stuck
noncomputable def jAug (i : Nat) (op : Operator) (e : Ex) (ρ : Env) (x : D) (st : Store) : RS := (evE Φ G e ρ st).bindS ρ fun y st => (R.of (augD op x y) st).bindS ρ fun z st => .nx (ρ.set i (some z)) st
def jAug2 (i : Nat) (op : Operator) (ρ : Env) (x y : D) (st : Store) : RS := (R.of (augD op x y) st).bindS ρ fun z st => .nx (ρ.set i (some z)) st
def jSet (i : Nat) (ρ : Env) (z : D) (st : Store) : RS := .nx (ρ.set i (some z)) st
noncomputable def jSub (i : Ex) (v : D) (ρ : Env) (x : D) (st : Store) : RS := (evE Φ G i ρ st).bindS ρ fun y st => match setSub x y v st with
    | some st => .nx ρ st
    | none => .stuck
def jSub2 (v : D) (ρ : Env) (x y : D) (st : Store) : RS := match setSub x y v st with
    | some st => .nx ρ st
    | none => .stuck
def jFld (f : String) (v : D) (ρ : Env) (x : D) (st : Store) : RS := match setFld x f v st with
    | some st => .nx ρ st
    | none => .stuck
def jExpr (ρ : Env) (_ : D) (st : Store) : RS := .nx ρ st
def jRet (v : D) (st : Store) : RS := .rt v st
noncomputable def jIfe (a b : Sms) (ρ : Env) (k : Bool) (st : Store) : RS := match k with
    | true => evSs Φ G a ρ st
    | false => evSs Φ G b ρ st
noncomputable def bodyK (ks : List Nat) (b : Sms) (ρ : Env) (st : Store) : RS := killS ks (evSs Φ G b ρ st)
noncomputable def jFr (tg : List Nat) (sg : Bool) (b : Sms) (ks : List Nat) (ρ : Env) (w : D × List D × List D) (st : Store) : RS := frL w.1 w.2.1 (bindT tg sg) (bodyK Φ G ks b) w.2.2 ρ st
noncomputable def jSs (r : Sms) (ρ : Env) (st : Store) : RS := evSs Φ G r ρ st
noncomputable def jAugF (o : Ex) (f : String) (op : Operator) (e : Ex) (ρ : Env) (x : D) (st : Store) : RS := (R.of (getFld x f st) st).bindS ρ fun w st0 => (evE Φ G e ρ st0).bindS ρ fun y st => (R.of (augD op w y) st).bindS ρ fun z st =>
      if clsN x st0 = clsN x st then (match setFld x f z st with
      | some st => .nx ρ st
      | none => .stuck) else .stuck
noncomputable def jAugF2 (f : String) (op : Operator) (e : Ex) (ρ : Env) (x : D) (w : D) (st0 : Store) : RS := (evE Φ G e ρ st0).bindS ρ fun y st => (R.of (augD op w y) st).bindS ρ fun z st =>
      if clsN x st0 = clsN x st then (match setFld x f z st with
      | some st => .nx ρ st
      | none => .stuck) else .stuck
def jAugF3 (f : String) (op : Operator) (ρ : Env) (x : D) (w : D) (st0 : Store) (y : D) (st : Store) : RS := (R.of (augD op w y) st).bindS ρ fun z st =>
      if clsN x st0 = clsN x st then (match setFld x f z st with
      | some st => .nx ρ st
      | none => .stuck) else .stuck
def jAugF4 (f : String) (ρ : Env) (x : D) (st0 : Store) (z : D) (st : Store) : RS := if clsN x st0 = clsN x st then jFld f z ρ x st else .stuck
noncomputable def jAugS (i : Ex) (op : Operator) (e : Ex) (ρ : Env) (x : D) (st : Store) : RS := (evE Φ G i ρ st).bindS ρ fun n st => (if isLst x st = true then R.of (idxD x n st) st else .stuck).bindS ρ fun w st => (evE Φ G e ρ st).bindS ρ fun y st =>
      (R.of (augD op w y) st).bindS ρ fun z st => match setSub x n z st with
      | some st => .nx ρ st
      | none => .stuck
noncomputable def jAugS2 (op : Operator) (e : Ex) (ρ : Env) (x n : D) (st : Store) : RS := (if isLst x st = true then R.of (idxD x n st) st else .stuck).bindS ρ fun w st => (evE Φ G e ρ st).bindS ρ fun y st =>
      (R.of (augD op w y) st).bindS ρ fun z st => match setSub x n z st with
      | some st => .nx ρ st
      | none => .stuck
noncomputable def jAugS3 (op : Operator) (e : Ex) (ρ : Env) (x n w : D) (st : Store) : RS := (evE Φ G e ρ st).bindS ρ fun y st =>
      (R.of (augD op w y) st).bindS ρ fun z st => match setSub x n z st with
      | some st => .nx ρ st
      | none => .stuck
def jAugS4 (op : Operator) (ρ : Env) (x n w y : D) (st : Store) : RS := (R.of (augD op w y) st).bindS ρ fun z st => match setSub x n z st with
      | some st => .nx ρ st
      | none => .stuck
variable {Φ G}
variable {ρ : Env} {st st0 : Store} {i : Nat} {op : Operator} {e e1 e2 : Ex} {es : Exs} {f c' : String} {x y v z w d n : D} {ds vs : List D} {t : Te} {a b r : Sms} {tg : Tg} {tgs : List Tg} {is ks : List Nat} {s : Sm}
@[simp] theorem sv_asg : evS Φ G (.asg tg e) ρ st = (evE Φ G e ρ st).bindS ρ (jAsg Φ G tg ρ) := (rfl)
@[simp] theorem jAsg_ap : jAsg Φ G tg ρ v st = asgT Φ G tg v ρ st := (rfl)
@[simp] theorem asgT_name : asgT Φ G (.name i) v ρ st = .nx (ρ.set i (some v)) st := (rfl)
@[simp] theorem asgT_sub : asgT Φ G (.sub e1 e2) v ρ st = (evE Φ G e1 ρ st).bindS ρ (jSub Φ G e2 v ρ) := (rfl)
@[simp] theorem jSub_ap : jSub Φ G e2 v ρ x st = (evE Φ G e2 ρ st).bindS ρ (jSub2 v ρ x) := (rfl)
@[simp] theorem jSub2_ap : jSub2 v ρ x y st = (match setSub x y v st with
    | some st => .nx ρ st
    | none => .stuck) := (rfl)
@[simp] theorem asgT_fld : asgT Φ G (.fld e1 f) v ρ st = (evE Φ G e1 ρ st).bindS ρ (jFld f v ρ) := (rfl)
@[simp] theorem jFld_ap : jFld f v ρ x st = (match setFld x f v st with
    | some st => .nx ρ st
    | none => .stuck) := (rfl)
@[simp] theorem sv_unp : evS Φ G (.unp tgs e) ρ st = (evE Φ G e ρ st).bindS ρ (jUnp Φ G tgs ρ) := (rfl)
@[simp] theorem jUnp_ap : jUnp Φ G tgs ρ v st = (match seq st v with
    | some vs => if vs.length = tgs.length then asgTs Φ G tgs vs ρ st else .stuck
    | none => .stuck) := (rfl)
@[simp] theorem asgTs_nil : asgTs Φ G [] [] ρ st = .nx ρ st := (rfl)
@[simp] theorem asgTs_cons : asgTs Φ G (tg :: tgs) (v :: vs) ρ st = (asgT Φ G tg v ρ st).then (jTgs Φ G tgs vs) := (rfl)
@[simp] theorem jTgs_ap : jTgs Φ G tgs vs ρ st = asgTs Φ G tgs vs ρ st := (rfl)
@[simp] theorem sv_par : evS Φ G (.par is es) ρ st = (evEs Φ G es ρ st).bindS ρ (jPar is ρ) := (rfl)
@[simp] theorem jPar_ap : jPar is ρ vs st = (match setAll ρ is vs with
    | some ρ => .nx ρ st
    | none => .stuck) := (rfl)
@[simp] theorem sv_aug : evS Φ G (.aug i op e) ρ st = (evE Φ G (.var i) ρ st).bindS ρ (jAug Φ G i op e ρ) := (rfl)
@[simp] theorem jAug_ap : jAug Φ G i op e ρ x st = (evE Φ G e ρ st).bindS ρ (jAug2 i op ρ x) := (rfl)
@[simp] theorem jAug2_ap : jAug2 i op ρ x y st = (R.of (augD op x y) st).bindS ρ (jSet i ρ) := (rfl)
@[simp] theorem jSet_ap : jSet i ρ z st = .nx (ρ.set i (some z)) st := (rfl)
@[simp] theorem sv_augF : evS Φ G (.augF e1 f op e) ρ st = (evE Φ G e1 ρ st).bindS ρ (jAugF Φ G e1 f op e ρ) := (rfl)
@[simp] theorem jAugF_ap : jAugF Φ G e1 f op e ρ x st = (R.of (getFld x f st) st).bindS ρ (jAugF2 Φ G f op e ρ x) := (rfl)
@[simp] theorem jAugF2_ap : jAugF2 Φ G f op e ρ x w st0 = (evE Φ G e ρ st0).bindS ρ (jAugF3 f op ρ x w st0) := (rfl)
@[simp] theorem jAugF3_ap : jAugF3 f op ρ x w st0 y st = (R.of (augD op w y) st).bindS ρ (jAugF4 f ρ x st0) := (rfl)
@[simp] theorem jAugF4_ap : jAugF4 f ρ x st0 z st = if clsN x st0 = clsN x st then jFld f z ρ x st else .stuck := (rfl)
@[simp] theorem sv_augS : evS Φ G (.augS e1 e2 op e) ρ st = (evE Φ G e1 ρ st).bindS ρ (jAugS Φ G e2 op e ρ) := (rfl)
@[simp] theorem jAugS_ap : jAugS Φ G e2 op e ρ x st = (evE Φ G e2 ρ st).bindS ρ (jAugS2 Φ G op e ρ x) := (rfl)
@[simp] theorem jAugS2_ap : jAugS2 Φ G op e ρ x n st = (if isLst x st = true then R.of (idxD x n st) st else .stuck).bindS ρ (jAugS3 Φ G op e ρ x n) := (rfl)
@[simp] theorem jAugS3_ap : jAugS3 Φ G op e ρ x n w st = (evE Φ G e ρ st).bindS ρ (jAugS4 op ρ x n w) := (rfl)
@[simp] theorem jAugS4_ap : jAugS4 op ρ x n w y st = (R.of (augD op w y) st).bindS ρ (fun z => jSub2 z ρ x n) := (rfl)
@[simp] theorem sv_expr : evS Φ G (.expr e) ρ st = (evE Φ G e ρ st).bindS ρ (jExpr ρ) := (rfl)
@[simp] theorem jExpr_ap : jExpr ρ d st = .nx ρ st := (rfl)
@[simp] theorem sv_ret : evS Φ G (.ret e) ρ st = (evE Φ G e ρ st).bindS ρ jRet := (rfl)
@[simp] theorem jRet_ap : jRet v st = .rt v st := (rfl)
@[simp] theorem sv_retN : evS Φ G .retN ρ st = .rt .non st := (rfl)
@[simp] theorem sv_ife : evS Φ G (.ife t a b) ρ st = (evT Φ G t ρ st).bindS ρ (jIfe Φ G a b ρ) := (rfl)
@[simp] theorem jIfe_t : jIfe Φ G a b ρ true st = evSs Φ G a ρ st := (rfl)
@[simp] theorem jIfe_f : jIfe Φ G a b ρ false st = evSs Φ G b ρ st := (rfl)
@[simp] theorem sv_whl : evS Φ G (.whl t b ks) ρ st = wh (evT Φ G t) (bodyK Φ G ks b) ρ st := (rfl)
@[simp] theorem bodyK_ap : bodyK Φ G ks b ρ st = killS ks (evSs Φ G b ρ st) := (rfl)
@[simp] theorem killS_nx : killS ks (.nx ρ st) = .nx (killL ks ρ) st := (rfl)
@[simp] theorem killS_ct : killS ks (.ct ρ st) = .ct (killL ks ρ) st := (rfl)
@[simp] theorem killS_bk : killS ks (.bk ρ st) = .bk (killL ks ρ) st := (rfl)
@[simp] theorem killS_rt : killS ks (.rt d st) = .rt d st := (rfl)
@[simp] theorem killS_exc {c : String} : killS ks (.exc c d ρ st) = .exc c d ρ st := (rfl)
@[simp] theorem killL_nil : killL [] ρ = ρ := (rfl)
@[simp] theorem killL_cons {k : Nat} : killL (k :: ks) ρ = killL ks (ρ.set k none) := (rfl)
@[simp] theorem sv_fr {l : List Nat} {sg : Bool} {it : It} : evS Φ G (.fr l sg it b ks) ρ st = (evIt Φ G it ρ st).bindS ρ (jFr Φ G l sg b ks ρ) := (rfl)
@[simp] theorem jFr_ap {l : List Nat} {sg : Bool} {w1 : D} {w2 w3 : List D} : jFr Φ G l sg b ks ρ (w1, w2, w3) st = frL w1 w2 (bindT l sg) (bodyK Φ G ks b) w3 ρ st := (rfl)
@[simp] theorem sv_brk : evS Φ G .brk ρ st = .bk ρ st := (rfl)
@[simp] theorem sv_cont : evS Φ G .cont ρ st = .ct ρ st := (rfl)
@[simp] theorem sv_pass : evS Φ G .pass ρ st = .nx ρ st := (rfl)
@[simp] theorem ss_nil : evSs Φ G .nil ρ st = .nx ρ st := (rfl)
@[simp] theorem ss_cons : evSs Φ G (.cons s r) ρ st = (evS Φ G s ρ st).then (jSs Φ G r) := (rfl)
@[simp] theorem jSs_ap : jSs Φ G r ρ st = evSs Φ G r ρ st := (rfl)
/-! ### values -/
@[simp] theorem bin_int {m : Bool} {i j : Int} : binD m op (.int i) (.int j) st = .of ((binI op i j).map .int) st := by cases m <;> rfl
theorem bin_addS0 {m : Bool} {a b : List Nat} (h : a.length + b.length ≤ line) : binD m .Add (.str a) (.str b) st = .ok (.str (a ++ b)) st := by
  show (if _ then _ else _) = _; rw [if_pos h]
theorem bin_mulS0 {m : Bool} {a : List Nat} {k : Int} (h : -(2 ^ 62) ≤ k ∧ k < 2 ^ 62 ∧ a.length * k.toNat ≤ line) : binD m .Mult (.str a) (.int k) st = .ok (.str (reps k a)) st := by
  show (if _ then _ else _) = _; rw [if_pos h]
theorem bin_addT0 {m : Bool} {a b : List D} (h : a.length + b.length ≤ line) : binD m .Add (.tup a) (.tup b) st = .ok (.tup (a ++ b)) st := by
  show (if _ then _ else _) = _; rw [if_pos h]
theorem bin_mulT0 {m : Bool} {a : List D} {k : Int} (h : -1000 ≤ k ∧ k ≤ 1000 ∧ a.length ≤ 1000) : binD m .Mult (.tup a) (.int k) st = .ok (.tup (reps k a)) st := by
  show (if _ then _ else _) = _; rw [if_pos h]
@[simp] theorem binI_add {i j : Int} : binI .Add i j = some (i + j) := (rfl)
@[simp] theorem binI_sub {i j : Int} : binI .Sub i j = some (i - j) := (rfl)
@[simp] theorem binI_mul {i j : Int} (h : mulOk i j) : binI .Mult i j = some (i * j) := if_pos h
theorem binI_div0 {i j : Int} (h : divOk j) : binI .FloorDiv i j = some (i / j) := if_pos h
@[simp] theorem binI_mod {i j : Int} (h : 0 < j) : binI .Mod i j = some (i % j) := if_pos h
theorem binI_pow {i j : Int} (h : powOk i j) : binI .Pow i j = some (i ^ j.toNat) := if_pos h
theorem binI_shl {i j : Int} (h : shlOk i j) : binI .LShift i j = some (i * 2 ^ j.toNat) := if_pos h
@[simp] theorem binI_shr {i j : Int} (h : 0 ≤ j) : binI .RShift i j = some (i / 2 ^ j.toNat) := if_pos h
@[simp] theorem binI_and {i j : Int} (h : 0 ≤ j) : binI .BitAnd i j = some (andI i j) := if_pos h
theorem mul_r {i j : Int} (h1 : -18446744073709551616 < j) (h2 : j < 18446744073709551616) : mulOk i j := .inr (.inl ⟨h1, h2⟩)
theorem mul_l {i j : Int} (h1 : -18446744073709551616 < i) (h2 : i < 18446744073709551616) : mulOk i j := .inl ⟨h1, h2⟩
@[simp] theorem cmp_lt {i j : Int} : cmpD .Lt (.int i) (.int j) st = some (decide (i < j)) := (rfl)
@[simp] theorem cmp_le {i j : Int} : cmpD .LtE (.int i) (.int j) st = some (decide (i ≤ j)) := (rfl)
@[simp] theorem cmp_gt {i j : Int} : cmpD .Gt (.int i) (.int j) st = some (decide (j < i)) := (rfl)
@[simp] theorem cmp_ge {i j : Int} : cmpD .GtE (.int i) (.int j) st = some (decide (j ≤ i)) := (rfl)
@[simp] theorem cmp_eqI {i j : Int} : cmpD .Eq (.int i) (.int j) st = some (i == j) := (rfl)
@[simp] theorem cmp_neI {i j : Int} : cmpD .NotEq (.int i) (.int j) st = some (!(i == j)) := (rfl)
@[simp] theorem cmp_eqS {i j : List Nat} : cmpD .Eq (.str i) (.str j) st = some (i == j) := (rfl)
@[simp] theorem cmp_neS {i j : List Nat} : cmpD .NotEq (.str i) (.str j) st = some (!(i == j)) := (rfl)
@[simp] theorem tru_bl {b : Bool} : truD st (.bl b) = some b := (rfl)
@[simp] theorem tru_int {i : Int} : truD st (.int i) = some (i != 0) := (rfl)
@[simp] theorem tru_non : truD st .non = some false := (rfl)
@[simp] theorem tru_str {s : List Nat} : truD st (.str s) = some (!s.isEmpty) := (rfl)
@[simp] theorem tru_tup {s : List D} : truD st (.tup s) = some (!s.isEmpty) := (rfl)
@[simp] theorem tru_lst {s : List D} : truD st (.lst s) = some (!s.isEmpty) := (rfl)
@[simp] theorem idx_tup {xs : List D} {k : Int} : idxD (.tup xs) (.int k) st = (ixn xs.length k).bind fun j => xs[j]? := (rfl)
@[simp] theorem idx_lst {xs : List D} {k : Int} : idxD (.lst xs) (.int k) st = (ixn xs.length k).bind fun j => xs[j]? := (rfl)
@[simp] theorem idx_scr {xs : List D} {k : Int} : idxD (.scr xs) (.int k) st = (ixn xs.length k).bind fun j => xs[j]? := (rfl)
@[simp] theorem idx_str {s : List Nat} {k : Int} : idxD (.str s) (.int k) st = (ixn s.length k).bind fun j => (s[j]?).map fun c => .str [c] := (rfl)
@[simp] theorem idx_ref {xs : List D} {k : Int} {j : Nat} (h : st[j]? = some (.lst xs)) : idxD (.ref j) (.int k) st = (ixn xs.length k).bind fun j => xs[j]? := by
  unfold idxD
  simp only [dl, h]
@[simp] theorem ixn_nat {n k : Nat} (h : k < n) : ixn n (k : Int) = some k := by
  unfold ixn
  rw [if_pos (by omega), if_pos (by omega)]
  simp
@[simp] theorem len_tup {xs : List D} : bltD .len [.tup xs] st = .ok (.int xs.length) st := (rfl)
@[simp] theorem len_lst {xs : List D} : bltD .len [.lst xs] st = .ok (.int xs.length) st := (rfl)
@[simp] theorem len_scr {xs : List D} : bltD .len [.scr xs] st = .ok (.int xs.length) st := (rfl)
@[simp] theorem len_str {s : List Nat} : bltD .len [.str s] st = .ok (.int s.length) st := (rfl)
@[simp] theorem abs_ap {i : Int} : bltD .abs [.int i] st = .ok (.int i.natAbs) st := (rfl)
@[simp] theorem int1_ap {i : Int} : bltD .int1 [.int i] st = .ok (.int i) st := (rfl)
@[simp] theorem min2_ap {i j : Int} : bltD .min2 [.int i, .int j] st = .ok (.int (min i j)) st := (rfl)
@[simp] theorem max2_ap {i j : Int} : bltD .max2 [.int i, .int j] st = .ok (.int (max i j)) st := (rfl)
@[simp] theorem tuple1_tup {xs : List D} : bltD .tuple1 [.tup xs] st = .ok (.tup xs) st := (rfl)
@[simp] theorem tuple1_lst {xs : List D} : bltD .tuple1 [.lst xs] st = .ok (.tup xs) st := (rfl)
@[simp] theorem tuple1_ref {xs : List D} {k : Nat} (h : st[k]? = some (.lst xs)) : bltD .tuple1 [.ref k] st = .ok (.tup xs) st := by
  unfold bltD
  simp only [seq, dl, h]
@[simp] theorem walked_tup {xs : List D} : walked st (.tup xs) = some xs := (rfl)
@[simp] theorem walked_lst {xs : List D} : walked st (.lst xs) = some xs := (rfl)
@[simp] theorem walked_scr {xs : List D} : walked st (.scr xs) = some xs := (rfl)
@[simp] theorem walked_str {s : List Nat} : walked st (.str s) = some (signs s) := (rfl)
@[simp] theorem seq_tup {xs : List D} : seq st (.tup xs) = some xs := (rfl)
@[simp] theorem seq_lst {xs : List D} : seq st (.lst xs) = some xs := (rfl)
theorem rng_10 {j : Int} (h : rngOk j) : rngD [.int j] = some (rngL 0 1 j.toNat) := if_pos h
theorem rng_20 {i j : Int} (h : rngOk i ∧ rngOk j) : rngD [.int i, .int j] = some (rngL i 1 (j - i).toNat) := if_pos h
theorem rng_30 {i j c : Int} (h : rngOk i ∧ rngOk j ∧ c ≠ 0 ∧ -1000000 < c ∧ c < 1000000) : rngD [.int i, .int j, .int c] = some (rngL i c (rngN i j c)) := if_pos h
@[simp] theorem append_ap {k : Nat} {xs : List D} {d : D} (h : st[k]? = some (.lst xs)) (hl : xs.length < line) : bmD .append (.ref k) [d] st = .ok .non (st.set k (.lst (xs ++ [d]))) := by
  show (match st[k]? with | some (.lst xs) => _ | _ => _) = _
  rw [h]
  exact if_pos hl
@[simp] theorem bmOk_ref {k : Nat} {xs : List D} (h : st[k]? = some (.lst xs)) : bmOk .append (.ref k) st = true := by
  simp only [bmOk, isLst, h]
@[simp] theorem aug_add {i j : Int} : augD .Add (.int i) (.int j) = some (.int (i + j)) := (rfl)
@[simp] theorem aug_sub {i j : Int} : augD .Sub (.int i) (.int j) = some (.int (i - j)) := (rfl)
@[simp] theorem aug_mul {i j : Int} (h : mulOk i j) : augD .Mult (.int i) (.int j) = some (.int (i * j)) := if_pos h
@[simp] theorem bnd_1 {i : Nat} : bindT [i] true d ρ = some (ρ.set i (some d)) := (rfl)
@[simp] theorem bnd_n {l : List Nat} : bindT l false (.tup ds) ρ = setAll ρ l ds := (rfl)
@[simp] theorem bndC_ap {l : List Nat} {sg : Bool} : bndC l sg ρ d = bindT l sg d ρ := (rfl)
@[simp] theorem setAll_nil : setAll ρ [] [] = some ρ := (rfl)
@[simp] theorem setAll_cons {i : Nat} {is : List Nat} {d : D} {ds : List D} : setAll ρ (i :: is) (d :: ds) = setAll (ρ.set i (some d)) is ds := (rfl)
end
end MP
end
section
set_option linter.all false
set_option Elab.async false
namespace MP
section
variable {Φ : Key → List D → Store → R D} {G : Gb} {ρ : Env} {st : Store} {i : Nat}
@[simp] theorem bmOk_join {s : List Nat} : bmOk .join (.str s) st = true := (rfl)
@[simp] theorem bmOk_rstrip {s : List Nat} : bmOk .rstrip (.str s) st = true := (rfl)
@[simp] theorem bmOk_bits {i : Int} : bmOk .bitlen (.int i) st = true := (rfl)
@[simp] theorem bits_ap {i : Int} : bmD .bitlen (.int i) [] st = .ok (.int (bitLen i)) st := (rfl)
@[simp] theorem rstrip_ap {s cs : List Nat} : bmD .rstrip (.str s) [.str cs] st = .ok (.str (rstripL cs s)) st := (rfl)
@[simp] theorem rng_1 {j : Int} (h1 : -4611686018427387904 ≤ j) (h2 : j < 4611686018427387904) : rngD [.int j] = some (rngL 0 1 j.toNat) := rng_10 ⟨h1, h2⟩
@[simp] theorem rng_2 {i j : Int} (h1 : -4611686018427387904 ≤ i) (h2 : i < 4611686018427387904) (h3 : -4611686018427387904 ≤ j) (h4 : j < 4611686018427387904) : rngD [.int i, .int j] = some (rngL i 1 (j - i).toNat) := rng_20 ⟨⟨h1, h2⟩, h3, h4⟩
theorem rng_3 {i j c : Int} (h1 : -4611686018427387904 ≤ i) (h2 : i < 4611686018427387904) (h3 : -4611686018427387904 ≤ j) (h4 : j < 4611686018427387904) (h5 : c ≠ 0) (h6 : -1000000 < c) (h7 : c < 1000000) : rngD [.int i, .int j, .int c] = some (rngL i c (rngN i j c)) := rng_30 ⟨⟨h1, h2⟩, ⟨h3, h4⟩, h5, h6, h7⟩
theorem log2_lt {j : Int} {n : Nat} (h1 : 0 < j) (h2 : j < 2 ^ n) : j.natAbs.log2 < n := by
  have h3 : j.natAbs ≠ 0 := by omega
  rw [Nat.log2_lt h3]
  have : ((j.natAbs : Nat) : Int) < ((2 ^ n : Nat) : Int) := by
    rw [Int.natAbs_of_nonneg (by omega)]
    push_cast
    exact h2
  exact_mod_cast this
@[simp] theorem div_64 {i j : Int} (h1 : 0 < j) (h2 : j < 18446744073709551616) : binI .FloorDiv i j = some (i / j) := binI_div0 ⟨h1, Nat.lt_trans (log2_lt (n := 64) h1 h2) (by decide)⟩
theorem div_pow {i j : Int} {n : Nat} (h1 : 0 < j) (h2 : j < 2 ^ n) (h3 : n ≤ 9000) : binI .FloorDiv i j = some (i / j) := binI_div0 ⟨h1, Nat.lt_of_lt_of_le (log2_lt h1 h2) h3⟩
@[simp] theorem shl_64 {i j : Int} (h0 : 0 ≤ j) (h1 : 0 ≤ i) (h2 : i < 18446744073709551616) (h3 : j ≤ 99999936) : binI .LShift i j = some (i * 2 ^ j.toNat) := binI_shl ⟨h0, by
  by_cases h : i = 0
  · subst h; show ((Nat.log2 0 : Nat) : Int) + j ≤ _; rw [show Nat.log2 0 = 0 from by decide]; omega
  · have := log2_lt (n := 64) (j := i) (by omega) h2; omega⟩
theorem shl_pow {i j : Int} {n : Nat} (h0 : 0 ≤ j) (h1 : 0 < i) (h2 : i < 2 ^ n) (h3 : n + j ≤ 99999936) : binI .LShift i j = some (i * 2 ^ j.toNat) := binI_shl ⟨h0, by
  have := log2_lt (n := n) (j := i) h1 h2; omega⟩
@[simp] theorem bin_addS {m : Bool} {a b : List Nat} (h : a.length + b.length ≤ 16777216) : binD m .Add (.str a) (.str b) st = .ok (.str (a ++ b)) st := bin_addS0 h
@[simp] theorem bin_addT {m : Bool} {a b : List D} (h : a.length + b.length ≤ 16777216) : binD m .Add (.tup a) (.tup b) st = .ok (.tup (a ++ b)) st := bin_addT0 h
theorem join_ap {d : D} {sep : List Nat} {ss : List (List Nat)} (h : (seq st d).bind strsD = some ss) (hl : (ss.map (·.length)).sum + ss.length * sep.length ≤ line) : bmD .join (.str sep) [d] st = .ok (.str (joinL sep ss)) st := by
  show (match (seq st d).bind strsD with
    | some ss => if _ then _ else _
    | none => _) = _
  rw [h]
  exact if_pos hl
theorem strsD_map {α : Type} (l : List α) (g : α → List Nat) : strsD (l.map fun a => D.str (g a)) = some (l.map g) := by
  induction l with
  | nil => rfl
  | cons a l ih => rw [List.map_cons, strsD, ih]; rfl
theorem intsD_map (l : List Int) : intsD (l.map D.int) = some l := by
  induction l with
  | nil => rfl
  | cons a l ih => rw [List.map_cons, intsD, ih]
theorem blsD_map {α : Type} (l : List α) (g : α → Bool) : blsD (l.map fun a => D.bl (g a)) = some (l.map g) := by
  induction l with
  | nil => rfl
  | cons a l ih => rw [List.map_cons, blsD, ih]; rfl
theorem joinL_nil : ∀ ss : List (List Nat), joinL [] ss = ss.flatten
  | [] => rfl
  | [a] => by simp [joinL]
  | a :: b :: r => by
    show a ++ [] ++ joinL [] (b :: r) = _
    rw [joinL_nil (b :: r)]; simp
theorem flat1 {α β : Type} (l : List α) (g : α → β) : (l.map fun a => [g a]).flatten = l.map g := by
  induction l with
  | nil => rfl
  | cons a l ih => simp [ih]
theorem sum1L {α β : Type} (l : List α) (g : α → β) : ((l.map fun a => [g a]).map (·.length)).sum = l.length := by
  induction l with
  | nil => rfl
  | cons a l ih => simp only [List.map_cons, List.sum_cons, List.length_cons, List.length_nil] at ih ⊢; omega
theorem rngL_map (lo c : Int) (n : Nat) : rngL lo c n = (List.range n).map fun (i : Nat) => D.int (lo + (i : Int) * c) := (rfl)
theorem clean_ints {m : Nat} (l : List Int) : (l.map D.int).all (clean m) = true := by
  rw [List.all_eq_true]
  intro x hx
  obtain ⟨i, _, rfl⟩ := List.mem_map.mp hx
  cases m <;> rfl
theorem clean_map {α : Type} {m : Nat} (l : List α) (f : α → D) (h : ∀ a, a ∈ l → clean m (f a) = true) : (l.map f).all (clean m) = true := by
  rw [List.all_eq_true]
  intro x hx
  obtain ⟨i, hi, rfl⟩ := List.mem_map.mp hx
  exact h i hi
@[simp] theorem codes_e : codes "" = [] := by decide
@[simp] theorem codes_0 : codes "0" = [48] := by decide
@[simp] theorem codes_1 : codes "1" = [49] := by decide
@[simp] theorem clean_int {m : Nat} {i : Int} : clean m (.int i) = true := by cases m <;> rfl
@[simp] theorem clean_bl {m : Nat} {i : Bool} : clean m (.bl i) = true := by cases m <;> rfl
@[simp] theorem clean_str {m : Nat} {i : List Nat} : clean m (.str i) = true := by cases m <;> rfl
@[simp] theorem clean_non {m : Nat} : clean m .non = true := by cases m <;> rfl
@[simp] theorem clean_tup {m : Nat} {xs : List D} : clean (m + 1) (.tup xs) = xs.all (clean m) := (rfl)
@[simp] theorem clean_lst {m : Nat} {xs : List D} : clean (m + 1) (.lst xs) = xs.all (clean m) := (rfl)
@[simp] theorem clean_tup8 {xs : List D} : clean 8 (.tup xs) = xs.all (clean 7) := (rfl)
@[simp] theorem clean_lst8 {xs : List D} : clean 8 (.lst xs) = xs.all (clean 7) := (rfl)
@[simp] theorem clean_tup7 {xs : List D} : clean 7 (.tup xs) = xs.all (clean 6) := (rfl)
@[simp] theorem clean_lst7 {xs : List D} : clean 7 (.lst xs) = xs.all (clean 6) := (rfl)
@[simp] theorem clean_tup6 {xs : List D} : clean 6 (.tup xs) = xs.all (clean 5) := (rfl)
@[simp] theorem clean_tup5 {xs : List D} : clean 5 (.tup xs) = xs.all (clean 4) := (rfl)
@[simp] theorem getc {α : Type} {a : α} {l : List α} : (a :: l)[0]? = some a := (rfl)
@[simp] theorem still_tup {xs : List D} {all : List D} : still st (.tup xs) all = true := still_val fun k h => nomatch h
@[simp] theorem still_lst {xs : List D} {all : List D} : still st (.lst xs) all = true := still_val fun k h => nomatch h
@[simp] theorem still_scr {xs : List D} {all : List D} : still st (.scr xs) all = true := still_val fun k h => nomatch h
@[simp] theorem still_str {xs : List Nat} {all : List D} : still st (.str xs) all = true := still_val fun k h => nomatch h
@[simp] theorem still_non {all : List D} : still st .non all = true := still_val fun k h => nomatch h
@[simp] theorem get_end {st : Store} {c : Cell} : (st ++ [c])[st.length]? = some c := by
  rw [List.getElem?_append_right (Nat.le_refl _), Nat.sub_self]
  exact (rfl)
@[simp] theorem set_end {st : Store} {c d : Cell} : (st ++ [c]).set st.length d = st ++ [d] := by
  rw [List.set_append_right _ _ (Nat.le_refl _), Nat.sub_self]
  exact (rfl)
@[simp] theorem bmOk_end {st : Store} {xs : List D} : bmOk .append (.ref st.length) (st ++ [.lst xs]) = true := bmOk_ref get_end
@[simp] theorem append_end {st : Store} {xs : List D} {d : D} (hl : xs.length < 16777216) : bmD .append (.ref st.length) [d] (st ++ [.lst xs]) = .ok .non (st ++ [.lst (xs ++ [d])]) := by
  rw [append_ap get_end hl, set_end]
@[simp] theorem tuple1_end {st : Store} {xs : List D} : bltD .tuple1 [.ref st.length] (st ++ [.lst xs]) = .ok (.tup xs) (st ++ [.lst xs]) := tuple1_ref get_end
@[simp] theorem ixn_0 {n : Nat} (h : 0 < n) : ixn n 0 = some 0 := ixn_nat (k := 0) h
@[simp] theorem ixn_1 {n : Nat} (h : 1 < n) : ixn n 1 = some 1 := ixn_nat (k := 1) h
@[simp] theorem ixn_lit {n k : Nat} (h : (OfNat.ofNat k : Nat) < n) : ixn n (no_index (OfNat.ofNat k : Int)) = some (OfNat.ofNat k : Nat) := ixn_nat (k := k) h
@[simp] theorem ixn_m1 {n : Nat} (h : 0 < n) : ixn n (-1) = some (n - 1) := by
  unfold ixn
  rw [if_neg (by decide), if_pos (by omega)]
  congr 1
  omega
theorem sx_nat (n d k : Nat) : sx n d (some (k : Int)) = min k n := by
  unfold sx
  simp only
  rw [if_neg (by omega)]
  split
  · rw [Int.toNat_natCast]; omega
  · omega
theorem sx_none (n d : Nat) : sx n d none = d := (rfl)
theorem cut_nat {α : Type} (xs : List α) (a b : Nat) : cut xs (some (a : Int)) (some (b : Int)) = (xs.drop a).take (b - a) := by
  unfold cut
  rw [sx_nat, sx_nat]
  by_cases h : a ≤ xs.length
  · rw [Nat.min_eq_left h]
    by_cases hb : b ≤ xs.length
    · rw [Nat.min_eq_left hb]
    · rw [Nat.min_eq_right (by omega), List.take_of_length_le (by rw [List.length_drop]; omega), List.take_of_length_le (by rw [List.length_drop]; omega)]
  · have e : min a xs.length = xs.length := by omega
    rw [e, List.drop_length, List.drop_eq_nil_of_le (as := xs) (i := a) (by omega)]
    simp
theorem cut_to {α : Type} (xs : List α) (b : Nat) : cut xs none (some (b : Int)) = xs.take b := by
  unfold cut
  rw [sx_nat, sx_none, List.drop_zero, Nat.sub_zero]
  by_cases hb : b ≤ xs.length
  · rw [Nat.min_eq_left hb]
  · have e : min b xs.length = xs.length := by omega
    rw [e, List.take_length, List.take_of_length_le (by omega)]
theorem cut_from {α : Type} (xs : List α) (a : Nat) : cut xs (some (a : Int)) none = xs.drop a := by
  unfold cut
  rw [sx_nat, sx_none]
  by_cases h : a ≤ xs.length
  · rw [Nat.min_eq_left h, List.take_of_length_le (by rw [List.length_drop]; omega)]
  · have e : min a xs.length = xs.length := by omega
    rw [e, List.drop_length, List.drop_eq_nil_of_le (as := xs) (i := a) (by omega)]; simp
@[simp] theorem slice_tup {m : Bool} {xs : List D} {lo hi : Option Int} : sliceD m (.tup xs) lo hi st = .ok (.tup (cut xs lo hi)) st := (rfl)
@[simp] theorem slice_str {m : Bool} {xs : List Nat} {lo hi : Option Int} : sliceD m (.str xs) lo hi st = .ok (.str (cut xs lo hi)) st := (rfl)
@[simp] theorem slice_lst {xs : List D} {lo hi : Option Int} : sliceD false (.lst xs) lo hi st = .ok (.lst (cut xs lo hi)) st := (rfl)
theorem cut_map {α β : Type} (f : α → β) (xs : List α) (lo hi : Option Int) : cut (xs.map f) lo hi = (cut xs lo hi).map f := by
  unfold cut
  rw [List.length_map, ← List.map_drop, ← List.map_take]
theorem andI_255 {i : Int} (h : 0 ≤ i) : andI i 255 = i % 256 := by
  unfold andI
  rw [if_pos h]
  have : (i.toNat &&& (255 : Int).toNat) = i.toNat % 256 := Nat.and_two_pow_sub_one_eq_mod i.toNat 8
  rw [this]
  omega
theorem andI_one {i : Int} (h : 0 ≤ i) : andI i 1 = i % 2 := by
  unfold andI
  rw [if_pos h]
  have : (i.toNat &&& (1 : Int).toNat) = i.toNat % 2 := Nat.and_one_is_mod _
  rw [this]
  omega
end
end MP
end
section
set_option linter.all false
set_option maxRecDepth 10000
namespace MP
open PySem (Operator CmpOp)
/-! what every law's script has: its own cell, draws, is -/
namespace Law
def g_cell : Fn := ⟨.fn "_law_cell", ["script", "k"], [],
(.cons (.ife (.cmp .Lt (.var 1) (.blt .len (.cons (.var 0) .nil)))
(.cons (.ret (.idx (.var 0) (.var 1)))
.nil)
.nil)
(.cons (.ret (.bin false .Add (.bin false .Mult (.int 5) (.var 1)) (.int 3)))
.nil))⟩
def g_draws : Fn := ⟨.fn "_law_draws", ["cell", "count"], ["rest", "digits", "seed", "draws", "k", "mixed"],
(.cons (.asg (.name 2) (.blt .abs (.cons (.blt .int1 (.cons (.var 0) .nil)) .nil)))
(.cons (.asg (.name 3) (.cmp .GtE (.var 2) (.bin false .Pow (.int 10) (.int 18))))
(.cons (.asg (.name 4) (.var 2))
(.cons (.asg (.name 5) (.lst true .nil))
(.cons (.fr [6] true (.rng (.cons (.var 1) .nil))
(.cons (.ife (.and (.val (.var 3)) (.and1 (.cmp .Gt (.var 2) (.int 0))))
(.cons (.expr (.bm .append (.var 5) (.cons (.bin false .Mod (.blt .int1 (.cons (.var 2) .nil)) (.int 5040)) .nil)))
(.cons (.asg (.name 2) (.bin false .FloorDiv (.var 2) (.int 5040)))
.nil))
(.cons (.asg (.name 7) (.bin false .Mod (.blt .int1 (.cons (.bin false .Add (.bin false .Add (.bin false .Mult (.var 4) (.int 48271)) (.bin false .Mult (.bin false .Add (.var 6) (.int 1)) (.int 69621))) (.int 11)) .nil)) (.int 2147483647)))
(.cons (.asg (.name 7) (.bin false .Mod (.blt .int1 (.cons (.bin false .Add (.bin false .Mult (.var 7) (.var 7)) (.bin false .Mult (.int 40692) (.bin false .Add (.var 6) (.int 3)))) .nil)) (.int 2147483399)))
(.cons (.expr (.bm .append (.var 5) (.cons (.bin false .Mod (.blt .int1 (.cons (.bin false .FloorDiv (.var 7) (.int 64)) .nil)) (.int 5040)) .nil)))
.nil))))
.nil) [6, 7])
(.cons (.ret (.var 5))
.nil))))))⟩
def g_is_integer : Fn := ⟨.fn "_law_is_integer", ["value"], [],
(.cons (.ret (.and (.isi (.var 0) .int) (.and1 (.not (.isi (.var 0) .bool)))))
.nil)⟩
def g_is : Fn := ⟨.fn "_law_is", ["value", "due"], ["at"],
(.cons (.ife (.isN (.var 1))
(.cons (.ret (.isN (.var 0)))
.nil)
.nil)
(.cons (.ife (.val (.isi (.var 1) .bool))
(.cons (.ret (.and (.isi (.var 0) .bool) (.and1 (.cmp .Eq (.var 0) (.var 1)))))
.nil)
.nil)
(.cons (.ife (.val (.isi (.var 1) .int))
(.cons (.ret (.and (.call "_law_is_integer" (.cons (.var 0) .nil)) (.and1 (.cmp .Eq (.var 0) (.var 1)))))
.nil)
.nil)
(.cons (.ife (.val (.isi (.var 1) .str))
(.cons (.ret (.and (.isi (.var 0) .str) (.and1 (.cmp .Eq (.var 0) (.var 1)))))
.nil)
.nil)
(.cons (.ife (.or (.not (.val (.isi (.var 0) .tuple))) (.or1 (.cmp .NotEq (.blt .len (.cons (.var 0) .nil)) (.blt .len (.cons (.var 1) .nil)))))
(.cons (.ret (.bl false))
.nil)
.nil)
(.cons (.ret (.blt .all1 (.cons (.comp false [2] true (.rng (.cons (.blt .len (.cons (.var 1) .nil)) .nil)) .nil (.call "_law_is" (.cons (.idx (.var 0) (.var 2)) (.cons (.idx (.var 1) (.var 2)) .nil)))) .nil)))
.nil))))))⟩
variable {T : Key → Option Fn} {G : Gb} {n : Nat} {st : Store}
theorem cell_ok (hT : T (.fn "_law_cell") = some g_cell) {ns : List Int} {k : Nat} : ∃ c : Int, Phi T G (n + 1) (.fn "_law_cell") [.scr (ns.map .int), .int k] st = .ok (.int c) st := by
  rw [phi_run hT rfl]
  by_cases h : k < ns.length
  · have h2 : ixn ns.length (k : Int) = some k := ixn_nat h
    refine ⟨ns[k], ?_⟩
    simp [g_cell, startE, h, h2, callRes_rt]
  · refine ⟨5 * k + 3, ?_⟩
    have m : mulOk 5 (k : Int) := mul_l (by omega) (by omega)
    simp [g_cell, startE, h, m, callRes_rt]
theorem pow18 : binI .Pow 10 18 = some 1000000000000000000 := by
  rw [binI_pow (by decide)]
  rfl
theorem draws_ok (hT : T (.fn "_law_draws") = some g_draws) {c : Int} {k : Nat} (hk : k ≤ 100000) :
    ∃ ds : List Int, ds.length = k ∧ (∀ d, d ∈ ds → 0 ≤ d ∧ d < 5040) ∧ Phi T G (n + 1) (.fn "_law_draws") [.int c, .int k] st = .ok (.lst (ds.map .int)) st := by
  rw [phi_run hT rfl]
  generalize hs : (c.natAbs : Int) = s
  generalize hd : decide ((1000000000000000000 : Int) ≤ s) = dg
  have key := frL_inv (src := .non) (all := []) (bnd := bindT [6] true) (f := fun (i : Nat) => D.int (0 + (i : Int) * 1))
    (body := bodyK (Phi T G n) G [6, 7] (.cons (.ife (.and (.val (.var 3)) (.and1 (.cmp .Gt (.var 2) (.int 0))))
(.cons (.expr (.bm .append (.var 5) (.cons (.bin false .Mod (.blt .int1 (.cons (.var 2) .nil)) (.int 5040)) .nil)))
(.cons (.asg (.name 2) (.bin false .FloorDiv (.var 2) (.int 5040)))
.nil))
(.cons (.asg (.name 7) (.bin false .Mod (.blt .int1 (.cons (.bin false .Add (.bin false .Add (.bin false .Mult (.var 4) (.int 48271)) (.bin false .Mult (.bin false .Add (.var 6) (.int 1)) (.int 69621))) (.int 11)) .nil)) (.int 2147483647)))
(.cons (.asg (.name 7) (.bin false .Mod (.blt .int1 (.cons (.bin false .Add (.bin false .Mult (.var 7) (.var 7)) (.bin false .Mult (.int 40692) (.bin false .Add (.var 6) (.int 3)))) .nil)) (.int 2147483399)))
(.cons (.expr (.bm .append (.var 5) (.cons (.bin false .Mod (.blt .int1 (.cons (.bin false .FloorDiv (.var 7) (.int 64)) .nil)) (.int 5040)) .nil)))
.nil))))
.nil))
    (fun l ρ st' => ∃ (rest : Int) (acc : List Int), ρ = [some (.int c), some (.int k), some (.int rest), some (.bl dg), some (.int s), some (.ref st.length), none, none] ∧ st' = st ++ [.lst (acc.map .int)] ∧ acc.length + l.length = k ∧ ∀ d, d ∈ acc → 0 ≤ d ∧ d < 5040)
    (fun l ρ st h => still_non) (by
      rintro i l ρ st' ⟨rest, acc, rfl, rfl, hl, ha⟩
      rw [List.length_cons] at hl
      have hlen : acc.length < 16777216 := by omega
      have app : ∀ x : Int, 0 ≤ x → x < 5040 → ∀ d, d ∈ acc ++ [x] → 0 ≤ d ∧ d < 5040 := by
        intro x h1 h2 d hd
        rcases List.mem_append.mp hd with q | q
        · exact ha d q
        · rw [List.mem_singleton] at q; subst q; exact ⟨h1, h2⟩
      refine ⟨_, by simp only [bnd_1, List.set]; rfl, ?_⟩
      by_cases hc : dg = true ∧ 0 < rest
      · obtain ⟨c1, c2⟩ := hc
        subst c1
        have d1 : binI .FloorDiv rest 5040 = some (rest / 5040) := div_64 (by omega) (by omega)
        refine ⟨_, _, by simp [c2, d1, hlen]; exact ⟨rfl, rfl⟩, rest / 5040, acc ++ [rest % 5040], by simp, by simp, by simp; omega, app _ (by omega) (by omega)⟩
      · have m1 : mulOk s 48271 := mul_r (by omega) (by omega)
        have m2 : mulOk ((i : Int) + 1) 69621 := mul_r (by omega) (by omega)
        have m3 : mulOk 40692 ((i : Int) + 3) := mul_l (by omega) (by omega)
        generalize hx : (s * 48271 + ((i : Int) + 1) * 69621 + 11) % 2147483647 = x
        have m4 : mulOk x x := mul_r (by omega) (by omega)
        generalize hy : (x * x + 40692 * ((i : Int) + 3)) % 2147483399 = y
        have d1 : binI .FloorDiv y 64 = some (y / 64) := div_64 (by omega) (by omega)
        refine ⟨_, _, ?_, rest, acc ++ [y / 64 % 5040], rfl, rfl, by simp; omega, app _ (by omega) (by omega)⟩
        by_cases c1 : dg = true
        · have c2 : ¬ 0 < rest := fun q => hc ⟨c1, q⟩
          simp [c1, c2, m1, m2, m3, hx, m4, hy, d1, hlen]
        · have c1 : dg = false := by simpa using c1
          simp [c1, m1, m2, m3, hx, m4, hy, d1, hlen])
    (List.range k) [some (.int c), some (.int k), some (.int s), some (.bl dg), some (.int s), some (.ref st.length), none, none] (st ++ [.lst []])
    ⟨s, [], rfl, rfl, by simp, by simp⟩
  obtain ⟨ρ', st', e1, rest, acc, e2, e3, e4, e5⟩ := key
  refine ⟨acc, by simpa using e4, e5, ?_⟩
  have r1 := rng_1 (j := (k : Int)) (by omega) (by omega)
  rw [Int.toNat_natCast, rngL_map] at r1
  subst e2 e3
  simp at e1
  simp [g_draws, startE, pow18, hs, hd, r1, e1]
  refine callRes_rtN (cs := []) ?_
  rw [List.all_eq_true]
  intro x hx
  obtain ⟨i, _, rfl⟩ := List.mem_map.mp hx
  rfl
/-! is -/
theorem all1_rep {α : Type} {l : List α} : bltD .all1 [.lst (l.map fun _ => D.bl true)] st = .ok (.bl true) st := by
  have e : blsD (l.map fun _ => D.bl true) = some (l.map fun _ => true) := blsD_map l fun _ => true
  show (match blsD (l.map fun _ => D.bl true) with
    | some bs => R.ok (D.bl (bs.all id)) st
    | _ => .stuck) = _
  rw [e]
  simp
def isV : Nat → D → Bool
  | _, .non | _, .bl _ | _, .int _ | _, .str _ => true
  | m + 1, .tup xs => decide (xs.length ≤ 1000000) && xs.all (isV m)
  | _, _ => false
theorem is_integer_ok (hT : T (.fn "_law_is_integer") = some g_is_integer) {i : Int} : Phi T G (n + 1) (.fn "_law_is_integer") [.int i] st = .ok (.bl true) st := by
  rw [phi_run hT rfl]
  simp [g_is_integer, startE, isPlain, isTy, dl, callRes_rt]
theorem is_ok (hT : T (.fn "_law_is") = some g_is) (hI : T (.fn "_law_is_integer") = some g_is_integer) : ∀ (m : Nat) (d : D) (n : Nat), isV m d = true → Phi T G (n + m + 2) (.fn "_law_is") [d, d] st = .ok (.bl true) st := by
  intro m
  induction m with
  | zero =>
    intro d n h
    rw [phi_run hT rfl]
    cases d with
    | non => simp [g_is, startE, isNon, callRes_rt]
    | bl b => simp [g_is, startE, isNon, isPlain, isTy, dl, cmpD, eqO, dat, eqD, callRes_rt]
    | int i => simp [g_is, startE, isNon, isPlain, isTy, dl, is_integer_ok hI, callRes_rt]
    | str s => simp [g_is, startE, isNon, isPlain, isTy, dl, callRes_rt]
    | _ => simp [isV] at h
  | succ m ih =>
    intro d n h
    rw [show n + (m + 1) + 2 = (n + m + 2) + 1 by omega, phi_run hT rfl]
    cases d with
    | non => simp [g_is, startE, isNon, callRes_rt]
    | bl b => simp [g_is, startE, isNon, isPlain, isTy, dl, cmpD, eqO, dat, eqD, callRes_rt]
    | int i => simp [g_is, startE, isNon, isPlain, isTy, dl, is_integer_ok hI, callRes_rt]
    | str s => simp [g_is, startE, isNon, isPlain, isTy, dl, callRes_rt]
    | tup xs =>
      simp only [isV, Bool.and_eq_true, decide_eq_true_eq] at h
      obtain ⟨hl, hv⟩ := h
      have r1 := rng_1 (j := (xs.length : Int)) (by omega) (by omega)
      rw [Int.toNat_natCast, rngL_map] at r1
      have q := compL_map (src := .non) (all := []) (bnd := bndC [2] true [some (.tup xs), some (.tup xs), none]) (c := evTs (Phi T G (n + m + 2)) G .nil)
        (e := evE (Phi T G (n + m + 2)) G (.call "_law_is" (.cons (.idx (.var 0) (.var 2)) (.cons (.idx (.var 1) (.var 2)) .nil)))) (st := st) (f := fun (i : Nat) => D.int (0 + (i : Int) * 1)) (g := fun _ => D.bl true) still_non (List.range xs.length) []
        (by simp [line]; omega) (by
          intro i hi
          have hi := List.mem_range.mp hi
          refine ⟨_, by simp; rfl, by simp, ?_⟩
          have hx : ixn xs.length (i : Int) = some i := ixn_nat hi
          have hm : isV m xs[i] = true := List.all_eq_true.mp hv _ (List.getElem_mem hi)
          simp [hx, hi, ih xs[i] n hm])
      simp at r1 q
      simp [g_is, startE, isNon, isPlain, isTy, dl, r1, q, all1_rep, callRes_rt]
    | _ => simp [isV] at h
end Law
end MP
end
section
set_option linter.all false
set_option maxRecDepth 10000
namespace K51
open MP (Fn Key Gb)
/-! the defs, printed by gen.py -/
def f_fixed : Fn := ⟨.fn "fixed", ["v", "n"], ["place"],
(.cons (.ret (.bm .join (.str "") (.cons (.comp false [2] true (.rng (.cons (.bin false .Sub (.var 1) (.int 1)) (.cons (.neg (.int 1)) (.cons (.neg (.int 1)) .nil)))) .nil (.ife (.val (.bin false .BitAnd (.bin false .RShift (.var 0) (.var 2)) (.int 1))) (.str "1") (.str "0"))) .nil)))
.nil)⟩

def f_size_of : Fn := ⟨.fn "size_of", ["v"], [],
(.cons (.ret (.bm .bitlen (.var 0) .nil))
.nil)⟩

def f_bits_of : Fn := ⟨.fn "bits_of", ["row"], ["byte"],
(.cons (.ret (.bm .join (.str "") (.cons (.comp false [1] true (.seq (.var 0)) .nil (.call "fixed" (.cons (.var 1) (.cons (.int 8) .nil)))) .nil)))
.nil)⟩

def f_weight_pair : Fn := ⟨.fn "weight_pair", ["steps"], ["counts", "totals", "_", "count", "total"],
(.cons (.asg (.name 1) (.int 1))
(.cons (.asg (.name 2) (.int 1))
(.cons (.fr [3, 4, 5] false (.seq (.var 0))
(.cons (.aug 1 .Mult (.var 4))
(.cons (.aug 2 .Mult (.var 5))
.nil)) [3, 4, 5])
(.cons (.ret (.tup (.cons (.var 1) (.cons (.var 2) .nil))))
.nil))))⟩

def f_first_state : Fn := ⟨.fn "first_state", [], [],
(.cons (.ret (.tup (.cons (.int 0) (.cons (.bin false .LShift (.int 1) (.cst "BEGINNING")) (.cons (.cst "BEGINNING") .nil)))))
.nil)⟩

def f_coded_state : Fn := ⟨.fn "coded_state", ["state", "step"], ["unit", "low", "wide", "size", "start", "count", "total"],
(.cons (.unp [(.name 3), (.name 4), (.name 5)] (.var 0))
(.cons (.unp [(.name 6), (.name 7), (.name 8)] (.var 1))
(.cons (.asg (.name 2) (.bin false .FloorDiv (.var 4) (.var 8)))
(.cons (.par [3, 4] (.cons (.bin false .Add (.var 3) (.bin false .Mult (.var 2) (.var 6))) (.cons (.bin false .Mult (.var 2) (.var 7)) .nil)))
(.cons (.whl (.cmp .Lt (.var 4) (.cst "LEAST"))
(.cons (.par [3, 4, 5] (.cons (.bin false .LShift (.var 3) (.int 8)) (.cons (.bin false .LShift (.var 4) (.int 8)) (.cons (.bin false .Add (.var 5) (.int 8)) .nil))))
.nil) [])
(.cons (.ret (.tup (.cons (.var 3) (.cons (.var 4) (.cons (.var 5) .nil)))))
.nil))))))⟩

def f_state_of_steps : Fn := ⟨.fn "state_of_steps", ["steps"], ["state", "step"],
(.cons (.asg (.name 1) (.call "first_state" .nil))
(.cons (.fr [2] true (.seq (.var 0))
(.cons (.asg (.name 1) (.call "coded_state" (.cons (.var 1) (.cons (.var 2) .nil))))
.nil) [2])
(.cons (.ret (.var 1))
.nil)))⟩

def f_has_multiple : Fn := ⟨.fn "has_multiple", ["state", "shift"], ["low", "wide", "_"],
(.cons (.unp [(.name 2), (.name 3), (.name 4)] (.var 0))
(.cons (.ret (.cmp .Lt (.bin false .LShift (.bin false .Add (.bin false .RShift (.bin false .Sub (.var 2) (.int 1)) (.var 1)) (.int 1)) (.var 1)) (.bin false .Add (.var 2) (.var 3))))
.nil))⟩

def f_free_figures : Fn := ⟨.fn "free_figures", ["state"], ["shift"],
(.cons (.asg (.name 1) (.bin false .Sub (.call "size_of" (.cons (.idx (.var 0) (.int 1)) .nil)) (.int 1)))
(.cons (.whl (.and (.cmp .Lt (.var 1) (.idx (.var 0) (.int 2))) (.and1 (.val (.call "has_multiple" (.cons (.var 0) (.cons (.bin false .Add (.var 1) (.int 1)) .nil))))))
(.cons (.aug 1 .Add (.int 1))
.nil) [])
(.cons (.ret (.var 1))
.nil)))⟩

def f_state_code : Fn := ⟨.fn "state_code", ["state"], ["shift"],
(.cons (.asg (.name 1) (.call "free_figures" (.cons (.var 0) .nil)))
(.cons (.ret (.call "fixed" (.cons (.bin false .Add (.bin false .RShift (.bin false .Sub (.idx (.var 0) (.int 0)) (.int 1)) (.var 1)) (.int 1)) (.cons (.bin false .Sub (.idx (.var 0) (.int 2)) (.var 1)) .nil))))
.nil))⟩

def f_state_settled : Fn := ⟨.fn "state_settled", ["state"], ["last", "found", "low", "wide", "size"],
(.cons (.unp [(.name 3), (.name 4), (.name 5)] (.var 0))
(.cons (.asg (.name 1) (.bin false .Sub (.bin false .Add (.var 3) (.var 4)) (.int 1)))
(.cons (.asg (.name 2) (.lst true .nil))
(.cons (.whl (.and (.cmp .GtE (.var 5) (.int 8)) (.and1 (.cmp .Eq (.bin false .RShift (.var 3) (.bin false .Sub (.var 5) (.int 8))) (.bin false .RShift (.var 1) (.bin false .Sub (.var 5) (.int 8))))))
(.cons (.aug 5 .Sub (.int 8))
(.cons (.expr (.bm .append (.var 2) (.cons (.bin false .Mod (.bin false .RShift (.var 3) (.var 5)) (.int 256)) .nil)))
.nil)) [])
(.cons (.ret (.blt .tuple1 (.cons (.var 2) .nil)))
.nil)))))⟩

def f_code_of_steps : Fn := ⟨.fn "code_of_steps", ["steps"], [],
(.cons (.ret (.call "state_code" (.cons (.call "state_of_steps" (.cons (.var 0) .nil)) .nil)))
.nil)⟩

def f_code_length : Fn := ⟨.fn "code_length", ["steps"], ["state"],
(.cons (.asg (.name 1) (.call "state_of_steps" (.cons (.var 0) .nil)))
(.cons (.ret (.bin false .Sub (.idx (.var 1) (.int 2)) (.call "free_figures" (.cons (.var 1) .nil))))
.nil))⟩

def f_settled_bytes : Fn := ⟨.fn "settled_bytes", ["steps"], [],
(.cons (.ret (.call "state_settled" (.cons (.call "state_of_steps" (.cons (.var 0) .nil)) .nil)))
.nil)⟩

def f_is_within_weight : Fn := ⟨.fn "is_within_weight", ["steps", "length"], ["_", "counts", "totals"],
(.cons (.ife (.or (.cmp .LtE (.var 1) (.int 0)) (.or1 (.cmp .Gt (.var 1) (.cst "MOST_LENGTH"))))
(.cons (.ret (.cmp .Eq (.var 1) (.int 0)))
.nil)
.nil)
(.cons (.unp [(.name 3), (.name 4)] (.call "weight_pair" (.cons (.var 0) .nil)))
(.cons (.fr [2] true (.seq (.var 0))
(.cons (.par [3, 4] (.cons (.bin false .Mult (.var 3) (.bin false .Sub (.cst "LOSS") (.int 1))) (.cons (.bin false .Mult (.var 4) (.cst "LOSS")) .nil)))
.nil) [2])
(.cons (.ret (.cmp .Lt (.bin false .LShift (.var 3) (.bin false .Sub (.var 1) (.int 1))) (.var 4)))
.nil))))⟩

def g_cell : Fn := ⟨.fn "_law_cell", ["script", "k"], [],
(.cons (.ife (.cmp .Lt (.var 1) (.blt .len (.cons (.var 0) .nil)))
(.cons (.ret (.idx (.var 0) (.var 1)))
.nil)
.nil)
(.cons (.ret (.bin false .Add (.bin false .Mult (.int 5) (.var 1)) (.int 3)))
.nil))⟩

def g_draws : Fn := ⟨.fn "_law_draws", ["cell", "count"], ["rest", "digits", "seed", "draws", "k", "mixed"],
(.cons (.asg (.name 2) (.blt .abs (.cons (.blt .int1 (.cons (.var 0) .nil)) .nil)))
(.cons (.asg (.name 3) (.cmp .GtE (.var 2) (.bin false .Pow (.int 10) (.int 18))))
(.cons (.asg (.name 4) (.var 2))
(.cons (.asg (.name 5) (.lst true .nil))
(.cons (.fr [6] true (.rng (.cons (.var 1) .nil))
(.cons (.ife (.and (.val (.var 3)) (.and1 (.cmp .Gt (.var 2) (.int 0))))
(.cons (.expr (.bm .append (.var 5) (.cons (.bin false .Mod (.blt .int1 (.cons (.var 2) .nil)) (.int 5040)) .nil)))
(.cons (.asg (.name 2) (.bin false .FloorDiv (.var 2) (.int 5040)))
.nil))
(.cons (.asg (.name 7) (.bin false .Mod (.blt .int1 (.cons (.bin false .Add (.bin false .Add (.bin false .Mult (.var 4) (.int 48271)) (.bin false .Mult (.bin false .Add (.var 6) (.int 1)) (.int 69621))) (.int 11)) .nil)) (.int 2147483647)))
(.cons (.asg (.name 7) (.bin false .Mod (.blt .int1 (.cons (.bin false .Add (.bin false .Mult (.var 7) (.var 7)) (.bin false .Mult (.int 40692) (.bin false .Add (.var 6) (.int 3)))) .nil)) (.int 2147483399)))
(.cons (.expr (.bm .append (.var 5) (.cons (.bin false .Mod (.blt .int1 (.cons (.bin false .FloorDiv (.var 7) (.int 64)) .nil)) (.int 5040)) .nil)))
.nil))))
.nil) [6, 7])
(.cons (.ret (.var 5))
.nil))))))⟩

def g_is_integer : Fn := ⟨.fn "_law_is_integer", ["value"], [],
(.cons (.ret (.and (.isi (.var 0) .int) (.and1 (.not (.isi (.var 0) .bool)))))
.nil)⟩

def g_is : Fn := ⟨.fn "_law_is", ["value", "due"], ["at"],
(.cons (.ife (.isN (.var 1))
(.cons (.ret (.isN (.var 0)))
.nil)
.nil)
(.cons (.ife (.val (.isi (.var 1) .bool))
(.cons (.ret (.and (.isi (.var 0) .bool) (.and1 (.cmp .Eq (.var 0) (.var 1)))))
.nil)
.nil)
(.cons (.ife (.val (.isi (.var 1) .int))
(.cons (.ret (.and (.call "_law_is_integer" (.cons (.var 0) .nil)) (.and1 (.cmp .Eq (.var 0) (.var 1)))))
.nil)
.nil)
(.cons (.ife (.val (.isi (.var 1) .str))
(.cons (.ret (.and (.isi (.var 0) .str) (.and1 (.cmp .Eq (.var 0) (.var 1)))))
.nil)
.nil)
(.cons (.ife (.or (.not (.val (.isi (.var 0) .tuple))) (.or1 (.cmp .NotEq (.blt .len (.cons (.var 0) .nil)) (.blt .len (.cons (.var 1) .nil)))))
(.cons (.ret (.bl false))
.nil)
.nil)
(.cons (.ret (.blt .all1 (.cons (.comp false [2] true (.rng (.cons (.blt .len (.cons (.var 1) .nil)) .nil)) .nil (.call "_law_is" (.cons (.idx (.var 0) (.var 2)) (.cons (.idx (.var 1) (.var 2)) .nil)))) .nil)))
.nil))))))⟩

def g_fixed : Fn := ⟨.fn "_law_fixed", ["v", "n"], ["place"],
(.cons (.ret (.bm .join (.str "") (.cons (.comp false [2] true (.rng (.cons (.bin false .Sub (.var 1) (.int 1)) (.cons (.bin false .Sub (.int 0) (.int 1)) (.cons (.bin false .Sub (.int 0) (.int 1)) .nil)))) .nil (.ife (.val (.bin false .BitAnd (.bin false .RShift (.var 0) (.var 2)) (.int 1))) (.str "1") (.str "0"))) .nil)))
.nil)⟩

def g_whole_bytes : Fn := ⟨.fn "_law_whole_bytes", ["bits"], ["row", "at", "byte", "sign"],
(.cons (.asg (.name 0) (.bin false .Add (.var 0) (.bin false .Mult (.str "0") (.bin false .Mod (.bin false .Sub (.int 0) (.blt .len (.cons (.var 0) .nil))) (.int 8)))))
(.cons (.asg (.name 1) (.lst true .nil))
(.cons (.fr [2] true (.rng (.cons (.int 0) (.cons (.blt .len (.cons (.var 0) .nil)) (.cons (.int 8) .nil))))
(.cons (.asg (.name 3) (.int 0))
(.cons (.fr [4] true (.seq (.slice false (.var 0) (.cons (.var 2) .nil) (.cons (.bin false .Add (.var 2) (.int 8)) .nil)))
(.cons (.asg (.name 3) (.bin false .Add (.bin false .Mult (.int 2) (.var 3)) (.ife (.cmp .Eq (.var 4) (.str "1")) (.int 1) (.int 0))))
.nil) [4])
(.cons (.expr (.bm .append (.var 1) (.cons (.var 3) .nil)))
.nil))) [2, 3, 4])
(.cons (.ret (.blt .tuple1 (.cons (.var 1) .nil)))
.nil))))⟩

def g_coded : Fn := ⟨.fn "_law_coded", ["state", "step"], ["unit", "low", "wide", "size", "start", "number", "total"],
(.cons (.unp [(.name 3), (.name 4), (.name 5)] (.var 0))
(.cons (.unp [(.name 6), (.name 7), (.name 8)] (.var 1))
(.cons (.asg (.name 2) (.bin false .FloorDiv (.var 4) (.var 8)))
(.cons (.par [3, 4] (.cons (.bin false .Add (.var 3) (.bin false .Mult (.var 2) (.var 6))) (.cons (.bin false .Mult (.var 2) (.var 7)) .nil)))
(.cons (.whl (.cmp .Lt (.var 4) (.int 16777216))
(.cons (.par [3, 4, 5] (.cons (.bin false .Mult (.var 3) (.int 256)) (.cons (.bin false .Mult (.var 4) (.int 256)) (.cons (.bin false .Add (.var 5) (.int 8)) .nil))))
.nil) [])
(.cons (.ret (.tup (.cons (.var 3) (.cons (.var 4) (.cons (.var 5) .nil)))))
.nil))))))⟩

def g_state_code : Fn := ⟨.fn "_law_state_code", ["state"], ["power", "low", "wide", "size"],
(.cons (.unp [(.name 2), (.name 3), (.name 4)] (.var 0))
(.cons (.asg (.name 1) (.int 0))
(.cons (.whl (.and (.cmp .Lt (.var 1) (.var 4)) (.and1 (.cmp .Lt (.bin false .Sub (.int 0) (.bin false .Mult (.bin false .FloorDiv (.bin false .Sub (.int 0) (.var 2)) (.bin false .LShift (.int 2) (.var 1))) (.bin false .LShift (.int 2) (.var 1)))) (.bin false .Add (.var 2) (.var 3)))))
(.cons (.asg (.name 1) (.bin false .Add (.var 1) (.int 1)))
.nil) [])
(.cons (.ret (.call "_law_fixed" (.cons (.bin false .Sub (.int 0) (.bin false .FloorDiv (.bin false .Sub (.int 0) (.var 2)) (.bin false .LShift (.int 1) (.var 1)))) (.cons (.bin false .Sub (.var 4) (.var 1)) .nil))))
.nil))))⟩

def g_made_steps : Fn := ⟨.fn "_law_made_steps", ["draws", "size"], ["steps", "at", "total", "start", "one", "two", "three", "draw"],
(.cons (.asg (.name 2) (.lst true .nil))
(.cons (.fr [3] true (.rng (.cons (.var 1) .nil))
(.cons (.unp [(.name 6), (.name 7), (.name 8)] (.comp false [9] true (.seq (.slice false (.var 0) (.cons (.bin false .Mult (.int 3) (.var 3)) .nil) (.cons (.bin false .Add (.bin false .Mult (.int 3) (.var 3)) (.int 3)) .nil))) .nil (.blt .int1 (.cons (.var 9) .nil))))
(.cons (.asg (.name 4) (.idx (.tup (.cons (.int 1) (.cons (.int 2) (.cons (.int 3) (.cons (.int 256) (.cons (.int 4095) (.cons (.int 4096) (.cons (.bin false .Add (.int 1) (.bin false .Mod (.var 7) (.int 4096))) (.cons (.bin false .Add (.int 2) (.bin false .Mod (.var 7) (.int 9))) .nil))))))))) (.bin false .Mod (.var 6) (.int 8))))
(.cons (.asg (.name 5) (.bin false .Mod (.var 8) (.var 4)))
(.cons (.expr (.bm .append (.var 2) (.cons (.tup (.cons (.var 5) (.cons (.bin false .Add (.int 1) (.bin false .Mod (.bin false .Add (.bin false .FloorDiv (.var 7) (.int 3)) (.bin false .FloorDiv (.var 6) (.int 8))) (.bin false .Sub (.var 4) (.var 5)))) (.cons (.var 4) .nil)))) .nil)))
.nil)))) [3, 4, 5, 6, 7, 8])
(.cons (.ret (.blt .tuple1 (.cons (.var 2) .nil)))
.nil)))⟩

def g_settled : Fn := ⟨.fn "_law_settled", ["state"], ["row", "low", "wide", "size"],
(.cons (.unp [(.name 2), (.name 3), (.name 4)] (.var 0))
(.cons (.asg (.name 1) (.lst true .nil))
(.cons (.whl (.and (.cmp .GtE (.var 4) (.int 8)) (.and1 (.cmp .Eq (.bin false .RShift (.var 2) (.bin false .Sub (.var 4) (.int 8))) (.bin false .RShift (.bin false .Sub (.bin false .Add (.var 2) (.var 3)) (.int 1)) (.bin false .Sub (.var 4) (.int 8))))))
(.cons (.asg (.name 4) (.bin false .Sub (.var 4) (.int 8)))
(.cons (.expr (.bm .append (.var 1) (.cons (.bin false .BitAnd (.bin false .RShift (.var 2) (.var 4)) (.int 255)) .nil)))
.nil)) [])
(.cons (.ret (.blt .tuple1 (.cons (.var 1) .nil)))
.nil))))⟩

def g_within : Fn := ⟨.fn "_law_within", ["steps", "n"], ["number", "total", "step"],
(.cons (.asg (.name 2) (.int 1))
(.cons (.asg (.name 3) (.int 1))
(.cons (.fr [4] true (.seq (.var 0))
(.cons (.asg (.name 2) (.bin false .Mult (.bin false .Mult (.var 2) (.idx (.var 4) (.int 1))) (.int 4095)))
(.cons (.asg (.name 3) (.bin false .Mult (.bin false .Mult (.var 3) (.idx (.var 4) (.int 2))) (.int 4096)))
.nil)) [4])
(.cons (.ife (.or (.cmp .Lt (.var 1) (.int 1)) (.or1 (.cmp .Gt (.var 1) (.int 20000))))
(.cons (.ret (.cmp .Eq (.var 1) (.int 0)))
.nil)
.nil)
(.cons (.ret (.cmp .Lt (.bin false .Mult (.var 2) (.bin false .LShift (.int 1) (.bin false .Sub (.var 1) (.int 1)))) (.var 3)))
.nil)))))⟩

def f_law : Fn := ⟨.fn "law", ["script"], ["k", "draws", "steps", "writer", "state", "before", "at", "code", "filled", "n", "told", "settled"],
(.cons (.fr [1] true (.rng (.cons (.int 3) .nil))
(.cons (.asg (.name 2) (.call "_law_draws" (.cons (.call "_law_cell" (.cons (.var 0) (.cons (.var 1) .nil))) (.cons (.int 90) .nil))))
(.cons (.asg (.name 3) (.call "_law_made_steps" (.cons (.slice false (.var 2) (.cons (.int 2) .nil) .nil) (.cons (.bin false .Mod (.blt .int1 (.cons (.idx (.var 2) (.int 0)) .nil)) (.int 25)) .nil))))
(.cons (.asg (.name 4) (.make "RangeWriter" .nil))
(.cons (.asg (.name 5) (.tup (.cons (.int 0) (.cons (.int 4294967296) (.cons (.int 32) .nil)))))
(.cons (.ife (.not (.val (.call "_law_is" (.cons (.meth (.var 4) "code_so_far" .nil) (.cons (.str "") .nil)))))
(.cons (.ret (.bl false))
.nil)
.nil)
(.cons (.asg (.name 6) (.tup .nil))
(.cons (.fr [7] true (.rng (.cons (.blt .len (.cons (.var 3) .nil)) .nil))
(.cons (.asg (.name 11) (.call "coded_state" (.cons (.var 5) (.cons (.idx (.var 3) (.var 7)) .nil))))
(.cons (.asg (.name 5) (.call "_law_coded" (.cons (.var 5) (.cons (.idx (.var 3) (.var 7)) .nil))))
(.cons (.asg (.name 12) (.call "_law_settled" (.cons (.var 5) .nil)))
(.cons (.ife (.or (.not (.val (.call "_law_is" (.cons (.var 11) (.cons (.var 5) .nil))))) (.or1 (.not (.val (.call "_law_is" (.cons (.meth (.var 4) "put_step" (.cons (.idx (.var 3) (.var 7)) .nil)) (.cons (.slice false (.var 12) (.cons (.blt .len (.cons (.var 6) .nil)) .nil) .nil) .nil)))))))
(.cons (.ret (.bl false))
.nil)
.nil)
(.cons (.ife (.or (.cmp .NotEq (.slice false (.var 12) .nil (.cons (.blt .len (.cons (.var 6) .nil)) .nil)) (.var 6)) (.or1 (.not (.val (.call "_law_is" (.cons (.meth (.var 4) "code_so_far" .nil) (.cons (.call "_law_state_code" (.cons (.var 5) .nil)) .nil)))))))
(.cons (.ret (.bl false))
.nil)
.nil)
(.cons (.asg (.name 6) (.var 12))
(.cons (.ife (.and (.cmp .In (.var 7) (.tup (.cons (.int 3) (.cons (.int 11) .nil)))) (.and1 (.not (.val (.call "_law_is" (.cons (.call "settled_bytes" (.cons (.slice false (.var 3) .nil (.cons (.bin false .Add (.var 7) (.int 1)) .nil)) .nil)) (.cons (.var 12) .nil)))))))
(.cons (.ret (.bl false))
.nil)
.nil)
.nil))))))) [7, 11, 12])
(.cons (.asg (.name 8) (.call "_law_state_code" (.cons (.var 5) .nil)))
(.cons (.ife (.or (.not (.val (.call "_law_is" (.cons (.call "state_of_steps" (.cons (.var 3) .nil)) (.cons (.var 5) .nil))))) (.or1 (.not (.val (.call "_law_is" (.cons (.call "code_of_steps" (.cons (.var 3) .nil)) (.cons (.var 8) .nil)))))))
(.cons (.ret (.bl false))
.nil)
.nil)
(.cons (.ife (.or (.not (.val (.call "_law_is" (.cons (.call "code_length" (.cons (.var 3) .nil)) (.cons (.blt .len (.cons (.var 8) .nil)) .nil))))) (.or1 (.not (.val (.call "_law_is" (.cons (.call "settled_bytes" (.cons (.var 3) .nil)) (.cons (.var 6) .nil)))))))
(.cons (.ret (.bl false))
.nil)
.nil)
(.cons (.ife (.or (.not (.val (.call "_law_within" (.cons (.var 3) (.cons (.blt .len (.cons (.var 8) .nil)) .nil))))) (.or1 (.not (.val (.call "_law_is" (.cons (.call "is_within_weight" (.cons (.var 3) (.cons (.blt .len (.cons (.var 8) .nil)) .nil))) (.cons (.bl true) .nil)))))))
(.cons (.ret (.bl false))
.nil)
.nil)
(.cons (.asg (.name 9) (.bin false .Add (.var 8) (.bin false .Mult (.str "0") (.bin false .Sub (.idx (.var 5) (.int 2)) (.blt .len (.cons (.var 8) .nil))))))
(.cons (.ife (.or (.cmp .NotEq (.blt .len (.cons (.var 9) .nil)) (.idx (.var 5) (.int 2))) (.or1 (.cmp .NotEq (.slice false (.call "_law_whole_bytes" (.cons (.var 9) .nil)) .nil (.cons (.blt .len (.cons (.var 6) .nil)) .nil)) (.var 6))))
(.cons (.ret (.bl false))
.nil)
.nil)
(.cons (.asg (.name 10) (.blt .len (.cons (.var 8) .nil)))
(.cons (.fr [10] true (.seq (.tup (.cons (.int 0) (.cons (.int 1) (.cons (.bin false .Add (.var 10) (.int 1)) (.cons (.bin false .Add (.var 10) (.int 2)) (.cons (.bin false .Add (.var 10) (.int 9)) (.cons (.bin false .Sub (.int 0) (.int 1)) (.cons (.bin false .Pow (.int 10) (.int 20)) (.cons (.bin false .Sub (.int 0) (.bin false .Pow (.int 10) (.int 20))) (.cons (.bin false .Mod (.blt .int1 (.cons (.idx (.var 2) (.int 1)) .nil)) (.int 400)) .nil)))))))))))
(.cons (.ife (.not (.val (.call "_law_is" (.cons (.call "is_within_weight" (.cons (.var 3) (.cons (.var 10) .nil))) (.cons (.call "_law_within" (.cons (.var 3) (.cons (.var 10) .nil))) .nil)))))
(.cons (.ret (.bl false))
.nil)
.nil)
.nil) [10])
.nil))))))))))))))) [1, 2, 3, 4, 5, 6, 7, 8, 9, 10, 11, 12])
(.cons (.ife (.or (.not (.val (.call "_law_is" (.cons (.call "settled_bytes" (.cons (.tup .nil) .nil)) (.cons (.tup .nil) .nil))))) (.or (.not (.val (.call "_law_is" (.cons (.call "code_of_steps" (.cons (.tup .nil) .nil)) (.cons (.str "") .nil))))) (.or1 (.not (.val (.call "_law_is" (.cons (.call "code_length" (.cons (.tup .nil) .nil)) (.cons (.int 0) .nil))))))))
(.cons (.ret (.bl false))
.nil)
.nil)
(.cons (.ret (.and (.call "_law_is" (.cons (.call "state_of_steps" (.cons (.tup .nil) .nil)) (.cons (.tup (.cons (.int 0) (.cons (.int 4294967296) (.cons (.int 32) .nil)))) .nil))) (.and1 (.call "_law_is" (.cons (.call "code_of_steps" (.cons (.tup (.cons (.tup (.cons (.int 1) (.cons (.int 1) (.cons (.int 2) .nil)))) (.cons (.tup (.cons (.int 0) (.cons (.int 1) (.cons (.int 4) .nil)))) .nil))) .nil)) (.cons (.str "1") .nil))))))
.nil)))⟩

def m_RangeWriter_init : Fn := ⟨.mt "RangeWriter" "__init__", ["self"], [],
(.cons (.asg (.fld (.var 0) "sent") (.tup .nil))
(.cons (.asg (.fld (.var 0) "state") (.call "first_state" .nil))
.nil))⟩

def m_RangeWriter_put_step : Fn := ⟨.mt "RangeWriter" "put_step", ["self", "step"], ["out", "size", "low", "wide"],
(.cons (.unp [(.name 4), (.name 5), (.name 3)] (.call "coded_state" (.cons (.fld (.var 0) "state") (.cons (.var 1) .nil))))
(.cons (.asg (.name 2) (.call "state_settled" (.cons (.tup (.cons (.var 4) (.cons (.var 5) (.cons (.var 3) .nil)))) .nil)))
(.cons (.aug 3 .Sub (.bin false .Mult (.int 8) (.blt .len (.cons (.var 2) .nil))))
(.cons (.asg (.fld (.var 0) "state") (.tup (.cons (.bin false .Mod (.var 4) (.bin false .LShift (.int 1) (.var 3))) (.cons (.var 5) (.cons (.var 3) .nil)))))
(.cons (.asg (.fld (.var 0) "sent") (.bin false .Add (.fld (.var 0) "sent") (.var 2)))
(.cons (.ret (.var 2))
.nil))))))⟩

def m_RangeWriter_code_so_far : Fn := ⟨.mt "RangeWriter" "code_so_far", ["self"], [],
(.cons (.ret (.bm .rstrip (.bin false .Add (.call "bits_of" (.cons (.fld (.var 0) "sent") .nil)) (.call "state_code" (.cons (.fld (.var 0) "state") .nil))) (.cons (.str "0") .nil)))
.nil)⟩

def tblF : List (Key × Fn) := [(.fn "fixed", f_fixed),
  (.fn "size_of", f_size_of),
  (.fn "bits_of", f_bits_of),
  (.fn "weight_pair", f_weight_pair),
  (.fn "first_state", f_first_state),
  (.fn "coded_state", f_coded_state),
  (.fn "state_of_steps", f_state_of_steps),
  (.fn "has_multiple", f_has_multiple),
  (.fn "free_figures", f_free_figures),
  (.fn "state_code", f_state_code),
  (.fn "state_settled", f_state_settled),
  (.fn "code_of_steps", f_code_of_steps),
  (.fn "code_length", f_code_length),
  (.fn "settled_bytes", f_settled_bytes),
  (.fn "is_within_weight", f_is_within_weight),
  (.fn "_law_cell", g_cell),
  (.fn "_law_draws", g_draws),
  (.fn "_law_is_integer", g_is_integer),
  (.fn "_law_is", g_is),
  (.fn "_law_fixed", g_fixed),
  (.fn "_law_whole_bytes", g_whole_bytes),
  (.fn "_law_coded", g_coded),
  (.fn "_law_state_code", g_state_code),
  (.fn "_law_made_steps", g_made_steps),
  (.fn "_law_settled", g_settled),
  (.fn "_law_within", g_within),
  (.fn "law", f_law),
  (.mt "RangeWriter" "__init__", m_RangeWriter_init),
  (.mt "RangeWriter" "put_step", m_RangeWriter_put_step),
  (.mt "RangeWriter" "code_so_far", m_RangeWriter_code_so_far)]
def G : Gb := ⟨fun x => [("BEGINNING", ((.int 32) : MP.D)), ("LEAST", ((.int 16777216) : MP.D)), ("LOSS", ((.int 4096) : MP.D)), ("MOST_LENGTH", ((.int 20000) : MP.D))].lookup x, fun c m => [("RangeWriter", "put_step"), ("RangeWriter", "code_so_far")].contains (c, m)⟩
def T (k : MP.Key) : Option Fn := tblF.lookup k
theorem T_f_fixed : T (.fn "fixed") = some f_fixed := by rfl
theorem T_f_size_of : T (.fn "size_of") = some f_size_of := by rfl
theorem T_f_bits_of : T (.fn "bits_of") = some f_bits_of := by rfl
theorem T_f_weight_pair : T (.fn "weight_pair") = some f_weight_pair := by rfl
theorem T_f_first_state : T (.fn "first_state") = some f_first_state := by rfl
theorem T_f_coded_state : T (.fn "coded_state") = some f_coded_state := by rfl
theorem T_f_state_of_steps : T (.fn "state_of_steps") = some f_state_of_steps := by rfl
theorem T_f_has_multiple : T (.fn "has_multiple") = some f_has_multiple := by rfl
theorem T_f_free_figures : T (.fn "free_figures") = some f_free_figures := by rfl
theorem T_f_state_code : T (.fn "state_code") = some f_state_code := by rfl
theorem T_f_state_settled : T (.fn "state_settled") = some f_state_settled := by rfl
theorem T_f_code_of_steps : T (.fn "code_of_steps") = some f_code_of_steps := by rfl
theorem T_f_code_length : T (.fn "code_length") = some f_code_length := by rfl
theorem T_f_settled_bytes : T (.fn "settled_bytes") = some f_settled_bytes := by rfl
theorem T_f_is_within_weight : T (.fn "is_within_weight") = some f_is_within_weight := by rfl
theorem T_m_RangeWriter_init : T (.mt "RangeWriter" "__init__") = some m_RangeWriter_init := by rfl
theorem T_m_RangeWriter_put_step : T (.mt "RangeWriter" "put_step") = some m_RangeWriter_put_step := by rfl
theorem T_m_RangeWriter_code_so_far : T (.mt "RangeWriter" "code_so_far") = some m_RangeWriter_code_so_far := by rfl
theorem T_g_cell : T (.fn "_law_cell") = some g_cell := by rfl
theorem T_g_draws : T (.fn "_law_draws") = some g_draws := by rfl
theorem T_g_is_integer : T (.fn "_law_is_integer") = some g_is_integer := by rfl
theorem T_g_is : T (.fn "_law_is") = some g_is := by rfl
theorem T_g_fixed : T (.fn "_law_fixed") = some g_fixed := by rfl
theorem T_g_whole_bytes : T (.fn "_law_whole_bytes") = some g_whole_bytes := by rfl
theorem T_g_coded : T (.fn "_law_coded") = some g_coded := by rfl
theorem T_g_state_code : T (.fn "_law_state_code") = some g_state_code := by rfl
theorem T_g_made_steps : T (.fn "_law_made_steps") = some g_made_steps := by rfl
theorem T_g_settled : T (.fn "_law_settled") = some g_settled := by rfl
theorem T_g_within : T (.fn "_law_within") = some g_within := by rfl
theorem T_f_law : T (.fn "law") = some f_law := by rfl
end K51
end
section
set_option linter.all false
set_option maxRecDepth 10000
namespace K51
open MP
open PySem (Operator CmpOp)
/-- the last k bits of v -/
def bitOf (v : Int) (j : Nat) : Nat := if v / 2 ^ j % 2 = 0 then 48 else 49
def fixedL (v : Int) (k : Nat) : List Nat := (List.range k).map fun i => bitOf v (k - 1 - i)
theorem rngN_down {i j : Int} : rngN i j (-1) = (i - j).toNat := by
  unfold rngN
  rw [if_neg (by decide), Int.neg_neg, Int.ediv_one]
  split <;> omega
section
variable {n : Nat} {st : Store}
theorem fixed_comp {v : Int} {k : Nat} {Φ : Key → List D → Store → R D} (h0 : 0 ≤ v) (hk : k ≤ 16777216) :
    compL .non [] (bndC [2] true [some (.int v), some (.int k), none]) (evTs Φ G .nil) (evE Φ G (.ife (.val (.bin false .BitAnd (.bin false .RShift (.var 0) (.var 2)) (.int 1))) (.str "1") (.str "0"))) (rngL ((k : Int) - 1) (-1) (rngN ((k : Int) - 1) (-1) (-1))) [] st
      = .ok ((List.range k).map fun i => .str [bitOf v (k - 1 - i)]) st := by
  have e : rngN ((k : Int) - 1) (-1) (-1) = k := by rw [rngN_down]; omega
  rw [e, rngL_map, compL_map (g := fun i => .str [bitOf v (k - 1 - i)]) (by simp)]
  · rfl
  · simp [line]; omega
  · intro i hi
    have hi := List.mem_range.mp hi
    have e2 : (k : Int) - 1 + (i : Int) * (-1) = ((k - 1 - i : Nat) : Int) := by omega
    rw [e2]
    refine ⟨_, by simp; rfl, by simp, ?_⟩
    have h2 : 0 ≤ v / 2 ^ (k - 1 - i) := Int.ediv_nonneg h0 (by exact_mod_cast Nat.zero_le _)
    simp (disch := omega) [bitOf]
    rw [andI_one h2]
    by_cases h : v / 2 ^ (k - 1 - i) % 2 = 0
    · simp [h]
    · have : v / 2 ^ (k - 1 - i) % 2 = 1 := by omega
      simp [this]
theorem fixed_ok {v : Int} {k : Nat} (h0 : 0 ≤ v) (hk : k ≤ 16777216) : Phi T G (n + 1) (.fn "fixed") [.int v, .int k] st = .ok (.str (fixedL v k)) st := by
  rw [phi_run T_f_fixed rfl]
  simp (disch := omega) [f_fixed, startE, rng_3, fixed_comp h0 hk]
  rw [join_ap (ss := (List.range k).map fun i => [bitOf v (k - 1 - i)])]
  · simp [joinL_nil, callRes_rt, fixedL, flat1]
  · simp [strsD_map]
  · rw [sum1L]
    simp [line]
    omega
theorem size_of_ok {v : Int} : Phi T G (n + 1) (.fn "size_of") [.int v] st = .ok (.int (bitLen v)) st := by
  rw [phi_run T_f_size_of rfl]
  simp [f_size_of, startE, callRes_rt]
def bitsL (bs : List Int) : List Nat := (bs.map fun b => fixedL b 8).flatten
theorem fixedL_len {v : Int} {k : Nat} : (fixedL v k).length = k := by simp [fixedL]
theorem bits_of_ok {bs : List Int} (h : ∀ b, b ∈ bs → 0 ≤ b) (hl : bs.length ≤ 2000000) : Phi T G (n + 2) (.fn "bits_of") [.tup (bs.map .int)] st = .ok (.str (bitsL bs)) st := by
  rw [phi_run T_f_bits_of rfl]
  simp [f_bits_of, startE]
  rw [compL_map (g := fun b => .str (fixedL b 8)) (by simp)]
  · simp
    rw [join_ap (ss := bs.map fun b => fixedL b 8)]
    · simp [joinL_nil, callRes_rt, bitsL]
    · simp [strsD_map]
    · simp [line, fixedL_len, Function.comp_def, List.map_const']
      omega
  · simp [line]; omega
  · intro b hb
    refine ⟨_, by simp; rfl, by simp, ?_⟩
    have := fixed_ok (n := n) (st := st) (v := b) (k := 8) (h b hb) (by decide)
    simp at this
    simp [this]
/-! steps -/
abbrev Stp := Int × Int × Int
def encStp (s : Stp) : D := .tup [.int s.1, .int s.2.1, .int s.2.2]
abbrev Sta := Int × Int × Nat
def encSta (s : Sta) : D := .tup [.int s.1, .int s.2.1, .int s.2.2]
/-- a step: start, count, total -/
def OkStp (s : Stp) : Prop := 0 ≤ s.1 ∧ 1 ≤ s.2.1 ∧ s.1 + s.2.1 ≤ s.2.2 ∧ s.2.2 ≤ 4096
def prodC (ss : List Stp) : Int := ss.foldl (fun p s => p * s.2.1) 1
def prodT (ss : List Stp) : Int := ss.foldl (fun p s => p * s.2.2) 1
theorem weight_pair_ok {ss : List Stp} (h : ∀ s, s ∈ ss → OkStp s) : Phi T G (n + 1) (.fn "weight_pair") [.tup (ss.map encStp)] st = .ok (.tup [.int (prodC ss), .int (prodT ss)]) st := by
  rw [phi_run T_f_weight_pair rfl]
  simp [f_weight_pair, startE]
  have k := frL_fold (src := .tup (ss.map encStp)) (all := ss.map encStp) (bnd := bindT [3, 4, 5] false)
    (body := bodyK (Phi T G n) G [3, 4, 5] (Sms.cons (Sm.aug 1 Operator.Mult (Ex.var 4)) (Sms.cons (Sm.aug 2 Operator.Mult (Ex.var 5)) Sms.nil))) (f := encStp)
    (fun b : Int × Int => [some (.tup (ss.map encStp)), some (.int b.1), some (.int b.2), none, none, none]) (fun _ => st) (fun b s => (b.1 * s.2.1, b.2 * s.2.2)) (fun l _ => ∀ s, s ∈ l → OkStp s) (by simp)
    (by
      intro s l b hI
      obtain ⟨h1, h2, h3, h4⟩ := hI s List.mem_cons_self
      refine ⟨⟨_, by simp [encStp]; rfl, ?_⟩, fun s hs => hI s (List.mem_cons_of_mem _ hs)⟩
      have m1 : mulOk b.1 s.2.1 := mul_r (by omega) (by omega)
      have m2 : mulOk b.2 s.2.2 := mul_r (by omega) (by omega)
      simp [m1, m2]) ss (1, 1) h
  rw [k.1]
  have e : ∀ (l : List Stp) (x y : Int), l.foldl (fun b s => (b.1 * s.2.1, b.2 * s.2.2)) (x, y) = (l.foldl (fun p s => p * s.2.1) x, l.foldl (fun p s => p * s.2.2) y) := by
    intro l
    induction l with
    | nil => intro x y; rfl
    | cons a l ih => intro x y; simp only [List.foldl_cons, ih]
  rw [e]
  simp [callRes_rt, prodC, prodT]
theorem first_ok : Phi T G (n + 1) (.fn "first_state") [] st = .ok (encSta (0, 4294967296, 32)) st := by
  rw [phi_run T_f_first_state rfl]
  have e : G.cst "BEGINNING" = some (.int 32) := by rfl
  simp (disch := first | omega | simp) [f_first_state, startE, e, callRes_rt, encSta]
/-! a state of the coder -/
def OkSta (m : Nat) (s : Sta) : Prop := 0 ≤ s.1 ∧ 16777216 ≤ s.2.1 ∧ s.2.1 ≤ 4294967296 ∧ s.1 + s.2.1 ≤ 2 ^ s.2.2 ∧ s.2.2 ≤ 32 + 16 * m
def norm : Nat → Sta → Sta
  | 0, s => s
  | f + 1, s => if s.2.1 < 16777216 then norm f (s.1 * 256, s.2.1 * 256, s.2.2 + 8) else s
def coded (s : Sta) (p : Stp) : Sta := norm 2 (s.1 + s.2.1 / p.2.2 * p.1, s.2.1 / p.2.2 * p.2.1, s.2.2)
theorem norm_ok {m : Nat} : ∀ {f : Nat} {s : Sta}, 0 ≤ s.1 → 1 ≤ s.2.1 → s.2.1 ≤ 4294967296 → s.1 + s.2.1 ≤ 2 ^ s.2.2 → s.2.2 + 8 * f ≤ 32 + 16 * m → 16777216 ≤ s.2.1 * 256 ^ f → OkSta m (norm f s)
  | 0, s, h1, h2, h3, h4, h5, h6 => ⟨h1, by show _ ≤ s.2.1; simpa using h6, h3, h4, by show s.2.2 ≤ _; simpa using h5⟩
  | f + 1, (l, w, z), h1, h2, h3, h4, h5, h6 => by
    rw [norm]
    split
    · rename_i hw
      refine norm_ok (s := (l * 256, w * 256, z + 8)) ?_ ?_ ?_ ?_ ?_ ?_
      · show 0 ≤ l * 256; have : 0 ≤ l := h1; omega
      · show 1 ≤ w * 256; have : 1 ≤ w := h2; omega
      · show w * 256 ≤ _; have : w < 16777216 := hw; omega
      · show l * 256 + w * 256 ≤ 2 ^ (z + 8)
        have h4 : l + w ≤ 2 ^ z := h4
        rw [Int.pow_add]
        omega
      · show z + 8 + 8 * f ≤ _; have : z + 8 * (f + 1) ≤ 32 + 16 * m := h5; omega
      · show _ ≤ w * 256 * 256 ^ f
        have : 16777216 ≤ w * 256 ^ (f + 1) := h6
        rw [Int.pow_succ, Int.mul_comm (256 ^ f) 256, ← Int.mul_assoc] at this
        exact this
    · rename_i hw
      exact ⟨h1, by omega, h3, h4, by omega⟩
theorem unit_bounds {w t : Int} (h1 : 16777216 ≤ w) (h2 : 1 ≤ t) (h3 : t ≤ 4096) : 4096 ≤ w / t ∧ w / t * t ≤ w := by
  refine ⟨?_, ?_⟩
  · refine Int.le_ediv_of_mul_le (by omega) ?_
    have : 4096 * t ≤ 4096 * 4096 := Int.mul_le_mul_of_nonneg_left h3 (by omega)
    omega
  · exact Int.ediv_mul_le _ (by omega)
theorem coded_pre {m : Nat} {s : Sta} {p : Stp} (hs : OkSta m s) (hp : OkStp p) :
    0 ≤ s.1 + s.2.1 / p.2.2 * p.1 ∧ 4096 ≤ s.2.1 / p.2.2 * p.2.1 ∧ s.2.1 / p.2.2 * p.2.1 ≤ s.2.1 ∧ s.1 + s.2.1 / p.2.2 * p.1 + s.2.1 / p.2.2 * p.2.1 ≤ s.1 + s.2.1 := by
  obtain ⟨h1, h2, h3, h4, h5⟩ := hs
  obtain ⟨p1, p2, p3, p4⟩ := hp
  obtain ⟨u1, u2⟩ := unit_bounds h2 (t := p.2.2) (by omega) p4
  generalize s.2.1 / p.2.2 = u at u1 u2
  have a1 : 0 ≤ u * p.1 := Int.mul_nonneg (by omega) p1
  have a2 : u * 1 ≤ u * p.2.1 := Int.mul_le_mul_of_nonneg_left p2 (by omega)
  have a3 : u * (p.1 + p.2.1) ≤ u * p.2.2 := Int.mul_le_mul_of_nonneg_left p3 (by omega)
  rw [Int.mul_add] at a3
  omega
theorem coded_keeps {m : Nat} {s : Sta} {p : Stp} (hs : OkSta m s) (hp : OkStp p) : OkSta (m + 1) (coded s p) := by
  obtain ⟨k1, k2, k3, k4⟩ := coded_pre hs hp
  obtain ⟨h1, h2, h3, h4, h5⟩ := hs
  refine norm_ok k1 (by show 1 ≤ s.2.1 / p.2.2 * p.2.1; omega) (by show s.2.1 / p.2.2 * p.2.1 ≤ _; omega) (by show s.1 + s.2.1 / p.2.2 * p.1 + s.2.1 / p.2.2 * p.2.1 ≤ 2 ^ s.2.2; omega) (by show s.2.2 + 8 * 2 ≤ _; omega) ?_
  show _ ≤ s.2.1 / p.2.2 * p.2.1 * 256 ^ 2
  omega
theorem lt_pow_big {l w : Int} {z : Nat} (h1 : 0 ≤ l) (h2 : 1 ≤ w) (h : l + w ≤ 2 ^ z) : l < 2 ^ z := by omega
section
variable {Φ : Key → List D → Store → R D} {d1 d2 d3 d4 d5 d6 : Option D}
theorem norm_wh : ∀ (f : Nat) (l w : Int) (z : Nat), 0 ≤ l → 1 ≤ w → l + w ≤ 2 ^ z → z + 8 * f ≤ 9000 → 16777216 ≤ w * 256 ^ f →
    wh (evT Φ G (.cmp .Lt (.var 4) (.cst "LEAST"))) (bodyK Φ G [] (.cons (.par [3, 4, 5] (.cons (.bin false .LShift (.var 3) (.int 8)) (.cons (.bin false .LShift (.var 4) (.int 8)) (.cons (.bin false .Add (.var 5) (.int 8)) .nil)))) .nil))
      [d1, d2, d3, some (.int l), some (.int w), some (.int z), d4, d5, d6] st = .nx [d1, d2, d3, some (.int (norm f (l, w, z)).1), some (.int (norm f (l, w, z)).2.1), some (.int (norm f (l, w, z)).2.2), d4, d5, d6] st := by
  have e : G.cst "LEAST" = some (.int 16777216) := by rfl
  intro f
  induction f with
  | zero =>
    intro l w z h1 h2 h3 h4 h5
    refine wh_end ?_
    have : ¬ w < 16777216 := by simp at h5; omega
    simp [e, this]
  | succ f ih =>
    intro l w z h1 h2 h3 h4 h5
    rw [norm]
    by_cases hw : w < 16777216
    · rw [if_pos hw]
      rw [wh_step (ρ2 := [d1, d2, d3, some (.int (l * 256)), some (.int (w * 256)), some (.int ((z + 8 : Nat) : Int)), d4, d5, d6]) (st1 := st) (st2 := st)]
      · refine ih (l * 256) (w * 256) (z + 8) (by omega) (by omega) ?_ ?_ ?_
        · rw [Int.pow_add]; omega
        · omega
        · rw [Int.pow_succ, Int.mul_comm (256 ^ f) 256, ← Int.mul_assoc] at h5
          exact h5
      · simp [e, hw]
      · clear h5
        by_cases hl : l = 0
        · subst hl
          clear h3
          simp (disch := omega)
        · have hs : binI .LShift l 8 = some (l * 2 ^ (8 : Int).toNat) := shl_pow (n := z) (by omega) (by omega) (lt_pow_big h1 h2 h3) (by omega)
          clear h3
          simp (disch := omega) [hs]
    · rw [if_neg hw]
      refine wh_end ?_
      simp [e, hw]
end
end
end K51
end
section
set_option linter.all false
set_option maxRecDepth 10000
namespace K51
open MP
open PySem (Operator CmpOp)
section
variable {n : Nat} {st : Store}
theorem coded_pw {m : Nat} {s : Sta} {p : Stp} (hs : OkSta m s) (hp : OkStp p) (hm : m ≤ 100) : Phi T G (n + 1) (.fn "coded_state") [encSta s, encStp p] st = .ok (encSta (coded s p)) st := by
  obtain ⟨k1, k2, k3, k4⟩ := coded_pre hs hp
  obtain ⟨h1, h2, h3, h4, h5⟩ := hs
  obtain ⟨p1, p2, p3, p4⟩ := hp
  obtain ⟨l, w, z⟩ := s
  obtain ⟨a, b, t⟩ := p
  dsimp only at *
  rw [phi_run T_f_coded_state rfl]
  have d1 : binI .FloorDiv w t = some (w / t) := div_64 (by omega) (by omega)
  have m1 : mulOk (w / t) a := mul_r (by omega) (by omega)
  have m2 : mulOk (w / t) b := mul_r (by omega) (by omega)
  simp [f_coded_state, startE, encSta, encStp, d1, m1, m2]
  rw [norm_wh 2 _ _ z k1 (by omega) (by omega) (by omega) (by omega)]
  simp [callRes_rt, coded]
theorem norm_wh2 {Φ : Key → List D → Store → R D} {d1 d2 d3 d4 d5 d6 : Option D} : ∀ (f : Nat) (l w : Int) (z : Nat), 0 ≤ l → 1 ≤ w → 16777216 ≤ w * 256 ^ f →
    wh (evT Φ G (.cmp .Lt (.var 4) (.int 16777216))) (bodyK Φ G [] (.cons (.par [3, 4, 5] (.cons (.bin false .Mult (.var 3) (.int 256)) (.cons (.bin false .Mult (.var 4) (.int 256)) (.cons (.bin false .Add (.var 5) (.int 8)) .nil)))) .nil))
      [d1, d2, d3, some (.int l), some (.int w), some (.int z), d4, d5, d6] st = .nx [d1, d2, d3, some (.int (norm f (l, w, z)).1), some (.int (norm f (l, w, z)).2.1), some (.int (norm f (l, w, z)).2.2), d4, d5, d6] st := by
  intro f
  induction f with
  | zero =>
    intro l w z h1 h2 h5
    refine wh_end ?_
    have : ¬ w < 16777216 := by simp at h5; omega
    simp [this]
  | succ f ih =>
    intro l w z h1 h2 h5
    rw [norm]
    by_cases hw : w < 16777216
    · rw [if_pos hw]
      rw [wh_step (ρ2 := [d1, d2, d3, some (.int (l * 256)), some (.int (w * 256)), some (.int ((z + 8 : Nat) : Int)), d4, d5, d6]) (st1 := st) (st2 := st)]
      · refine ih (l * 256) (w * 256) (z + 8) (by omega) (by omega) ?_
        rw [Int.pow_succ, Int.mul_comm (256 ^ f) 256, ← Int.mul_assoc] at h5
        exact h5
      · simp [hw]
      · have m1 : mulOk l 256 := mul_r (by omega) (by omega)
        have m2 : mulOk w 256 := mul_r (by omega) (by omega)
        simp [m1, m2]
    · rw [if_neg hw]
      refine wh_end ?_
      simp [hw]
theorem coded_lw {m : Nat} {s : Sta} {p : Stp} (hs : OkSta m s) (hp : OkStp p) : Phi T G (n + 1) (.fn "_law_coded") [encSta s, encStp p] st = .ok (encSta (coded s p)) st := by
  obtain ⟨k1, k2, k3, k4⟩ := coded_pre hs hp
  obtain ⟨h1, h2, h3, h4, h5⟩ := hs
  obtain ⟨p1, p2, p3, p4⟩ := hp
  obtain ⟨l, w, z⟩ := s
  obtain ⟨a, b, t⟩ := p
  dsimp only at *
  rw [phi_run T_g_coded rfl]
  have d1 : binI .FloorDiv w t = some (w / t) := div_64 (by omega) (by omega)
  have m1 : mulOk (w / t) a := mul_r (by omega) (by omega)
  have m2 : mulOk (w / t) b := mul_r (by omega) (by omega)
  simp [g_coded, startE, encSta, encStp, d1, m1, m2]
  rw [norm_wh2 2 _ _ z k1 (by omega) (by omega)]
  simp [callRes_rt, coded]
/-! all steps -/
def stateOf (ss : List Stp) : Sta := ss.foldl coded (0, 4294967296, 32)
theorem ok_first : OkSta 0 (0, 4294967296, 32) := ⟨by decide, by decide, by decide, by decide, by decide⟩
theorem ok_fold : ∀ (ss : List Stp) {m : Nat} {s : Sta}, OkSta m s → (∀ p, p ∈ ss → OkStp p) → OkSta (m + ss.length) (ss.foldl coded s)
  | [], m, s, h, _ => h
  | p :: ss, m, s, h, hp => by
    have := ok_fold ss (coded_keeps h (hp p List.mem_cons_self)) fun q hq => hp q (List.mem_cons_of_mem _ hq)
    rw [List.foldl_cons, List.length_cons, show m + (ss.length + 1) = m + 1 + ss.length by omega]
    exact this
theorem ok_state {ss : List Stp} (hp : ∀ p, p ∈ ss → OkStp p) : OkSta ss.length (stateOf ss) := by
  have := ok_fold ss ok_first hp
  rw [Nat.zero_add] at this
  exact this
theorem state_of_ok {ss : List Stp} (hp : ∀ p, p ∈ ss → OkStp p) (hl : ss.length ≤ 60) : Phi T G (n + 2) (.fn "state_of_steps") [.tup (ss.map encStp)] st = .ok (encSta (stateOf ss)) st := by
  rw [phi_run T_f_state_of_steps rfl]
  simp [f_state_of_steps, startE, first_ok]
  have k := frL_fold (src := .tup (ss.map encStp)) (all := ss.map encStp) (bnd := bindT [2] true)
    (body := bodyK (Phi T G (n + 1)) G [2] (.cons (.asg (.name 1) (.call "coded_state" (.cons (.var 1) (.cons (.var 2) .nil)))) .nil)) (f := encStp)
    (fun b : Sta => [some (.tup (ss.map encStp)), some (encSta b), none]) (fun _ => st) coded (fun l b => (∀ s, s ∈ l → OkStp s) ∧ l.length ≤ 60 ∧ ∃ m, OkSta m b ∧ m + l.length ≤ 60) (by simp)
    (by
      rintro s l b ⟨h1, h2, m, h3, h4⟩
      rw [List.length_cons] at h2 h4
      have h5 := h1 s List.mem_cons_self
      have q := coded_pw (n := n) (st := st) h3 h5 (by omega)
      refine ⟨⟨_, by simp; rfl, ?_⟩, fun s hs => h1 s (List.mem_cons_of_mem _ hs), by omega, m + 1, coded_keeps h3 h5, by omega⟩
      simp [encSta, encStp] at q ⊢
      simp [q]) ss _ ⟨hp, hl, 0, ok_first, by omega⟩
  rw [k.1]
  simp [encSta, callRes_rt, stateOf]
end
end K51
end
section
set_option linter.all false
set_option maxRecDepth 10000
namespace K51
open MP
open PySem (Operator CmpOp)
/-! how many places the code leaves free -/
def ceilP (l : Int) (p : Nat) : Int := (l - 1) / 2 ^ p + 1
def HasM (l w : Int) (p : Nat) : Prop := ceilP l p * 2 ^ p < l + w
instance (l w : Int) (p : Nat) : Decidable (HasM l w p) := by unfold HasM; infer_instance
theorem pow_pos' (p : Nat) : (0 : Int) < 2 ^ p := Int.pow_pos (by decide)
theorem ceil_le {l : Int} {p : Nat} {k : Int} (h : l ≤ k * 2 ^ p) : ceilP l p ≤ k := by
  unfold ceilP
  have h1 : (l - 1) / 2 ^ p < k := Int.ediv_lt_of_lt_mul (pow_pos' p) (by omega)
  omega
theorem ceil_ge {l : Int} {p : Nat} : l ≤ ceilP l p * 2 ^ p := by
  unfold ceilP
  have h := Int.lt_ediv_add_one_mul_self (l - 1) (pow_pos' p)
  omega
theorem ceil_lt {l : Int} {p : Nat} : ceilP l p * 2 ^ p < l + 2 ^ p := by
  unfold ceilP
  have h := Int.ediv_mul_le (l - 1) (Int.ne_of_gt (pow_pos' p))
  rw [Int.add_mul]
  omega
theorem ceil_nonneg {l : Int} {p : Nat} (h : 0 ≤ l) : 0 ≤ ceilP l p := by
  unfold ceilP
  have h1 : -1 ≤ (l - 1) / 2 ^ p := Int.le_ediv_of_mul_le (pow_pos' p) (by have := pow_pos' p; omega)
  omega
theorem hasM_pow {l w : Int} {p : Nat} (h : 2 ^ p ≤ w) : HasM l w p := by
  have := ceil_lt (l := l) (p := p)
  unfold HasM
  omega
theorem hasM_of {l w k : Int} {p : Nat} (h1 : l ≤ k * 2 ^ p) (h2 : k * 2 ^ p < l + w) : HasM l w p := by
  have h := Int.mul_le_mul_of_nonneg_right (ceil_le h1) (Int.le_of_lt (pow_pos' p))
  unfold HasM
  omega
theorem hasM_down {l w : Int} {p : Nat} (h : HasM l w (p + 1)) : HasM l w p := by
  refine hasM_of (k := ceilP l (p + 1) * 2) ?_ ?_
  · have := ceil_ge (l := l) (p := p + 1)
    rw [Int.pow_succ, Int.mul_comm (2 ^ p) 2, ← Int.mul_assoc] at this
    exact this
  · unfold HasM at h
    rw [Int.pow_succ, Int.mul_comm (2 ^ p) 2, ← Int.mul_assoc] at h
    exact h
theorem hasM_le {l w : Int} {p q : Nat} (h : HasM l w q) (hp : p ≤ q) : HasM l w p := by
  induction q with
  | zero => have : p = 0 := by omega
            subst this; exact h
  | succ q ih =>
    by_cases e : p = q + 1
    · subst e; exact h
    · exact ih (hasM_down h) (by omega)
def IsFig (l w : Int) (z r : Nat) : Prop := r ≤ z ∧ HasM l w r ∧ (r < z → ¬ HasM l w (r + 1))
theorem IsFig.uniq {l w : Int} {z r s : Nat} (h : IsFig l w z r) (k : IsFig l w z s) : r = s := by
  rcases Nat.lt_trichotomy r s with q | q | q
  · exact absurd (hasM_le k.2.1 q) (h.2.2 (Nat.lt_of_lt_of_le q k.1))
  · exact q
  · exact absurd (hasM_le h.2.1 q) (k.2.2 (Nat.lt_of_lt_of_le q h.1))
def up (l w : Int) (z : Nat) : Nat → Nat → Nat
  | 0, s => s
  | f + 1, s => if s < z ∧ HasM l w (s + 1) then up l w z f (s + 1) else s
def figs (s : Sta) : Nat := up s.1 s.2.1 s.2.2 s.2.2 0
theorem up_fig {l w : Int} {z : Nat} : ∀ {f s : Nat}, s ≤ z → HasM l w s → z - s ≤ f → IsFig l w z (up l w z f s)
  | 0, s, h1, h2, h3 => by
    show IsFig l w z s
    exact ⟨h1, h2, fun h => by omega⟩
  | f + 1, s, h1, h2, h3 => by
    rw [up]
    split
    · rename_i h
      exact up_fig (by omega) h.2 (by omega)
    · rename_i h
      exact ⟨h1, h2, fun hs hm => h ⟨hs, hm⟩⟩
theorem figs_ok {l w : Int} {z : Nat} (h : 1 ≤ w) : IsFig l w z (figs (l, w, z)) := up_fig (Nat.zero_le _) (hasM_pow (by simpa using h)) (by show z - 0 ≤ z; omega)
section
variable {n : Nat} {st : Store}
theorem shl_any {l : Int} {z p : Nat} (h0 : 0 ≤ l) (h : l ≤ 2 ^ z) (hz : z ≤ 90000) (hp : p ≤ 90000) : binI .LShift l (p : Int) = some (l * 2 ^ p) := by
  by_cases e : l = 0
  · subst e
    rw [shl_64 (by omega) (by omega) (by omega) (by omega)]
    simp
  · rw [shl_pow (n := z + 1) (by omega) (by omega) (by rw [Int.pow_succ]; have := pow_pos' z; omega) (by omega)]
    simp
theorem ceil_big {l : Int} {z p : Nat} (h0 : 0 ≤ l) (h : l ≤ 2 ^ z) : ceilP l p ≤ 2 ^ z := by
  refine ceil_le ?_
  have h1 : (1 : Int) ≤ 2 ^ p := by have := pow_pos' p; omega
  have h2 := Int.mul_le_mul_of_nonneg_left h1 (Int.le_of_lt (pow_pos' z))
  omega
theorem has_ok {l w : Int} {z p : Nat} (h0 : 0 ≤ l) (h : l ≤ 2 ^ z) (hz : z ≤ 9000) (hp : p ≤ 9001) : Phi T G (n + 1) (.fn "has_multiple") [encSta (l, w, z), .int p] st = .ok (.bl (decide (HasM l w p))) st := by
  rw [phi_run T_f_has_multiple rfl]
  have e := shl_any (ceil_nonneg (p := p) h0) (ceil_big (p := p) h0 h) (by omega) (show p ≤ 90000 by omega)
  have h2 : 0 ≤ (p : Int) := by omega
  unfold ceilP at e
  simp [f_has_multiple, startE, encSta, h2, e, callRes_rt]
  exact Iff.rfl
theorem bitLen_pow {w : Int} (h : 1 ≤ w) : 1 ≤ bitLen w ∧ (2 : Int) ^ (bitLen w - 1) ≤ w := by
  unfold bitLen
  rw [if_neg (by omega)]
  refine ⟨by omega, ?_⟩
  have h1 : w.natAbs ≠ 0 := by omega
  have h2 := Nat.log2_self_le h1
  rw [Nat.add_sub_cancel]
  have h3 : ((2 ^ w.natAbs.log2 : Nat) : Int) ≤ (w.natAbs : Int) := by exact_mod_cast h2
  rw [Int.natAbs_of_nonneg (by omega)] at h3
  simpa using h3
theorem pow_le_inv {a b : Nat} (h : (2 : Int) ^ a ≤ 2 ^ b) : a ≤ b := by
  have h2 : (2 : Nat) ^ a ≤ 2 ^ b := by exact_mod_cast h
  exact (Nat.pow_le_pow_iff_right (by decide)).mp h2
theorem free_wh {l w : Int} {z : Nat} (h0 : 0 ≤ l) (h1 : 1 ≤ w) (h : l + w ≤ 2 ^ z) (hz : z ≤ 9000) : ∀ s : Nat, s ≤ z → HasM l w s →
    wh (evT (Phi T G (n + 1)) G (.and (.cmp .Lt (.var 1) (.idx (.var 0) (.int 2))) (.and1 (.val (.call "has_multiple" (.cons (.var 0) (.cons (.bin false .Add (.var 1) (.int 1)) .nil)))))))
      (bodyK (Phi T G (n + 1)) G [] (.cons (.aug 1 .Add (.int 1)) .nil)) [some (encSta (l, w, z)), some (.int s)] st = .nx [some (encSta (l, w, z)), some (.int (figs (l, w, z)))] st := by
  intro s hs hm
  obtain ⟨k, hk⟩ : ∃ k, k = z - s := ⟨_, rfl⟩
  induction k generalizing s with
  | zero =>
    have e : s = z := by omega
    subst e
    have hf : figs (l, w, s) = s := (figs_ok h1).uniq ⟨Nat.le_refl _, hm, fun q => absurd q (Nat.lt_irrefl _)⟩
    rw [hf]
    refine wh_end ?_
    simp [encSta]
  | succ k ih =>
    have hlt : s < z := by omega
    have hq := has_ok (n := n) (st := st) (l := l) (w := w) (z := z) (p := s + 1) h0 (by omega) hz (by omega)
    by_cases hm2 : HasM l w (s + 1)
    · rw [wh_step (ρ2 := [some (encSta (l, w, z)), some (.int ((s + 1 : Nat) : Int))]) (st1 := st) (st2 := st)]
      · exact ih (s + 1) (by omega) hm2 (by omega)
      · simp [encSta] at hq ⊢
        simp [hlt, hq, hm2]
      · simp
    · have hf : figs (l, w, z) = s := (figs_ok h1).uniq ⟨hs, hm, fun _ => hm2⟩
      rw [hf]
      refine wh_end ?_
      simp [encSta] at hq ⊢
      simp [hlt, hq, hm2]
end
end K51
end
section
set_option linter.all false
set_option maxRecDepth 10000
namespace K51
open MP
open PySem (Operator CmpOp)
section
variable {n : Nat} {st : Store}
def Fine (s : Sta) : Prop := 0 ≤ s.1 ∧ 1 ≤ s.2.1 ∧ s.1 + s.2.1 ≤ 2 ^ s.2.2 ∧ s.2.2 ≤ 9000
theorem OkSta.fine {m : Nat} {s : Sta} (h : OkSta m s) (hm : m ≤ 500) : Fine s := ⟨h.1, by have := h.2.1; omega, h.2.2.2.1, by have := h.2.2.2.2; omega⟩
theorem free_ok {s : Sta} (h : Fine s) : Phi T G (n + 2) (.fn "free_figures") [encSta s] st = .ok (.int (figs s)) st := by
  obtain ⟨l, w, z⟩ := s
  obtain ⟨h0, h1, h2, h3⟩ := h
  dsimp only at h0 h1 h2 h3
  rw [phi_run T_f_free_figures rfl]
  obtain ⟨b1, b2⟩ := bitLen_pow h1
  have hb : bitLen w - 1 ≤ z := pow_le_inv (by omega)
  have e : ((bitLen w : Int) - 1) = ((bitLen w - 1 : Nat) : Int) := by omega
  have q := free_wh (n := n) (st := st) h0 h1 h2 h3 (bitLen w - 1) hb (hasM_pow b2)
  simp [encSta] at q
  simp [f_free_figures, startE, encSta, size_of_ok, e, q, callRes_rt]
def codeOf (s : Sta) : List Nat := fixedL (ceilP s.1 (figs s)) (s.2.2 - figs s)
theorem figs_le {s : Sta} (h : Fine s) : figs s ≤ s.2.2 := (figs_ok (l := s.1) (z := s.2.2) h.2.1).1
theorem state_code_ok {s : Sta} (h : Fine s) : Phi T G (n + 3) (.fn "state_code") [encSta s] st = .ok (.str (codeOf s)) st := by
  have hf := figs_le h
  have q := free_ok (n := n) (st := st) h
  have k := fixed_ok (n := n + 1) (st := st) (v := ceilP s.1 (figs s)) (k := s.2.2 - figs s) (ceil_nonneg h.1) (by have := h.2.2.2; omega)
  obtain ⟨l, w, z⟩ := s
  rw [phi_run T_f_state_code rfl]
  have e : ((z : Int) - (figs (l, w, z) : Nat)) = ((z - figs (l, w, z) : Nat) : Int) := by have : figs (l, w, z) ≤ z := hf; omega
  simp [encSta] at q
  simp [ceilP] at k
  have h2 : (0 : Int) ≤ (figs (l, w, z) : Nat) := by omega
  simp [f_state_code, startE, encSta, q, h2, e, k, callRes_rt, codeOf, ceilP]
/-! the settled bytes -/
def sett (l h : Int) : Nat → Nat → List Int
  | 0, _ => []
  | f + 1, z => if 8 ≤ z ∧ l / 2 ^ (z - 8) = h / 2 ^ (z - 8) then (l / 2 ^ (z - 8) % 256) :: sett l h f (z - 8) else []
theorem sett_len (l h : Int) : ∀ (f z : Nat), 8 * (sett l h f z).length ≤ z
  | 0, z => by simp [sett]
  | f + 1, z => by
    rw [sett]
    split
    · rename_i c
      have := sett_len l h f (z - 8)
      rw [List.length_cons]
      omega
    · simp
theorem sett_wh {Φ : Key → List D → Store → R D} {d1 d2 : Option D} {l h : Int} (hl : 0 ≤ l) : ∀ (f z : Nat) (acc : List D), z ≤ 8 * f + 7 → z + acc.length ≤ 100000 →
    wh (evT Φ G (.and (.cmp .GtE (.var 5) (.int 8)) (.and1 (.cmp .Eq (.bin false .RShift (.var 3) (.bin false .Sub (.var 5) (.int 8))) (.bin false .RShift (.var 1) (.bin false .Sub (.var 5) (.int 8)))))))
      (bodyK Φ G [] (.cons (.aug 5 .Sub (.int 8)) (.cons (.expr (.bm .append (.var 2) (.cons (.bin false .Mod (.bin false .RShift (.var 3) (.var 5)) (.int 256)) .nil))) .nil)))
      [d1, some (.int h), some (.ref st.length), some (.int l), d2, some (.int z)] (st ++ [.lst acc])
      = .nx [d1, some (.int h), some (.ref st.length), some (.int l), d2, some (.int ((z - 8 * (sett l h f z).length : Nat) : Int))] (st ++ [.lst (acc ++ (sett l h f z).map .int)])
  | 0, z, acc, hz, _ => by
    have h1 : ¬ (8 : Int) ≤ z := by omega
    refine (wh_end (st1 := st ++ [.lst acc]) ?_).trans ?_
    · simp [h1]
    · simp [sett]
  | f + 1, z, acc, hz, ha => by
    by_cases h8 : 8 ≤ z
    · have h1 : (8 : Int) ≤ z := by omega
      have e : (z : Int) - 8 = ((z - 8 : Nat) : Int) := by omega
      have h2 : (0 : Int) ≤ ((z - 8 : Nat) : Int) := by omega
      by_cases hq : l / 2 ^ (z - 8) = h / 2 ^ (z - 8)
      · have ex : sett l h (f + 1) z = (l / 2 ^ (z - 8) % 256) :: sett l h f (z - 8) := by rw [sett, if_pos ⟨h8, hq⟩]
        rw [ex]
        rw [wh_step (ρ2 := [d1, some (.int h), some (.ref st.length), some (.int l), d2, some (.int ((z - 8 : Nat) : Int))]) (st1 := st ++ [.lst acc]) (st2 := st ++ [.lst (acc ++ [.int (l / 2 ^ (z - 8) % 256)])])]
        · rw [sett_wh hl f (z - 8) _ (by omega) (by rw [List.length_append, List.length_singleton]; omega)]
          simp [List.append_assoc]
          omega
        · simp [h1, e, h2, hq]
        · have ha2 : acc.length < 16777216 := by omega
          simp [e, h2, ha2]
      · have ex : sett l h (f + 1) z = [] := by rw [sett, if_neg fun c => hq c.2]
        rw [ex]
        refine (wh_end (st1 := st ++ [.lst acc]) ?_).trans ?_
        · simp [h1, e, h2, hq]
        · simp
    · have ex : sett l h (f + 1) z = [] := by rw [sett, if_neg fun c => h8 c.1]
      rw [ex]
      have h1 : ¬ (8 : Int) ≤ z := by omega
      refine (wh_end (st1 := st ++ [.lst acc]) ?_).trans ?_
      · simp [h1]
      · simp
def settled (s : Sta) : List Int := sett s.1 (s.1 + s.2.1 - 1) s.2.2 s.2.2
theorem settled_ok {s : Sta} (h : Fine s) : Phi T G (n + 1) (.fn "state_settled") [encSta s] st = .ok (.tup ((settled s).map .int)) st := by
  obtain ⟨l, w, z⟩ := s
  obtain ⟨h0, h1, h2, h3⟩ := h
  dsimp only at h0 h1 h2 h3
  rw [phi_run T_f_state_settled rfl]
  have q := sett_wh (Φ := Phi T G n) (st := st) (d1 := some (encSta (l, w, z))) (d2 := some (.int w)) (h := l + w - 1) h0 z z [] (by omega) (by simp; omega)
  simp [encSta] at q
  simp [f_state_settled, startE, encSta, q]
  rw [callRes_rtA (by simp [clean_ints])]
  rfl
end
end K51
end
section
set_option linter.all false
set_option maxRecDepth 10000
namespace K51
open MP
open PySem (Operator CmpOp)
section
variable {n : Nat} {st : Store}
theorem code_of_ok {ss : List Stp} (hp : ∀ p, p ∈ ss → OkStp p) (hl : ss.length ≤ 60) : Phi T G (n + 4) (.fn "code_of_steps") [.tup (ss.map encStp)] st = .ok (.str (codeOf (stateOf ss))) st := by
  rw [phi_run T_f_code_of_steps rfl]
  have h := (ok_state hp).fine (by omega)
  simp [f_code_of_steps, startE, state_of_ok hp hl, state_code_ok h, callRes_rt]
theorem code_len_ok {ss : List Stp} (hp : ∀ p, p ∈ ss → OkStp p) (hl : ss.length ≤ 60) : Phi T G (n + 3) (.fn "code_length") [.tup (ss.map encStp)] st = .ok (.int (codeOf (stateOf ss)).length) st := by
  rw [phi_run T_f_code_length rfl]
  have h := (ok_state hp).fine (by omega)
  have hf := figs_le h
  have q := free_ok (n := n) (st := st) h
  have k := state_of_ok (n := n) (st := st) hp hl
  have e : ((stateOf ss).2.2 : Int) - (figs (stateOf ss) : Nat) = (((stateOf ss).2.2 - figs (stateOf ss) : Nat) : Int) := by omega
  simp [encSta] at q k
  simp [f_code_length, startE, k, q, e, callRes_rt, codeOf, fixedL_len]
theorem settled_bytes_ok {ss : List Stp} (hp : ∀ p, p ∈ ss → OkStp p) (hl : ss.length ≤ 60) : Phi T G (n + 3) (.fn "settled_bytes") [.tup (ss.map encStp)] st = .ok (.tup ((settled (stateOf ss)).map .int)) st := by
  rw [phi_run T_f_settled_bytes rfl]
  have h := (ok_state hp).fine (by omega)
  have q := settled_ok (n := n + 1) (st := st) h
  have k := state_of_ok (n := n) (st := st) hp hl
  simp [f_settled_bytes, startE, k, q]
  rw [callRes_rt (by simp [clean_ints])]
/-! the law's own -/
theorem lfixed_ok {v : Int} {k : Nat} (h0 : 0 ≤ v) (hk : k ≤ 16777216) : Phi T G (n + 1) (.fn "_law_fixed") [.int v, .int k] st = .ok (.str (fixedL v k)) st := by
  rw [phi_run T_g_fixed rfl]
  simp (disch := omega) [g_fixed, startE, rng_3, fixed_comp h0 hk]
  rw [join_ap (ss := (List.range k).map fun i => [bitOf v (k - 1 - i)])]
  · simp [joinL_nil, callRes_rt, fixedL, flat1]
  · simp [strsD_map]
  · rw [sum1L]
    simp [line]
    omega
theorem ceil_neg {l : Int} {p : Nat} : 0 - (0 - l) / 2 ^ p = ceilP l p := by
  have hp := pow_pos' p
  have h1 := Int.ediv_mul_le (0 - l) (Int.ne_of_gt hp)
  have h2 := Int.lt_ediv_add_one_mul_self (0 - l) hp
  generalize (0 - l) / 2 ^ p = q at h1 h2
  have c1 := ceil_le (l := l) (p := p) (k := 0 - q) (by rw [Int.sub_mul, Int.zero_mul]; omega)
  have c2 := ceil_ge (l := l) (p := p)
  have c3 : ¬ ceilP l p < 0 - q := by
    intro c
    have c4 : ceilP l p ≤ 0 - (q + 1) := by omega
    have c5 := Int.mul_le_mul_of_nonneg_right c4 (Int.le_of_lt hp)
    rw [Int.sub_mul, Int.zero_mul] at c5
    omega
  omega
theorem two_shl {p : Nat} (hp : p ≤ 90000) : binI .LShift 2 (p : Int) = some (2 ^ (p + 1)) := by
  rw [shl_64 (by omega) (by omega) (by omega) (by omega)]
  simp [Int.pow_succ, Int.mul_comm]
theorem one_shl {p : Nat} (hp : p ≤ 90000) : binI .LShift 1 (p : Int) = some (2 ^ p) := by
  rw [shl_64 (by omega) (by omega) (by omega) (by omega)]
  simp
theorem div_two {i : Int} {p : Nat} (hp : p ≤ 8000) : binI .FloorDiv i (2 ^ p) = some (i / 2 ^ p) := div_pow (n := p + 1) (pow_pos' p) (by rw [Int.pow_succ]; have := pow_pos' p; omega) (by omega)
theorem mul_big {i : Int} {p a : Nat} (h1 : i.natAbs < 2 ^ a) (hp : a + p ≤ 900000) : mulOk i (2 ^ p) := by
  refine .inr (.inr ?_)
  have e : ((2 : Int) ^ p).natAbs = 2 ^ p := by simp [Int.natAbs_pow]
  rw [e, Nat.log2_two_pow]
  by_cases h : i.natAbs = 0
  · rw [h]; have : Nat.log2 0 = 0 := by decide
    omega
  · have := (Nat.log2_lt h).mpr h1
    omega
theorem div_abs {l : Int} {p : Nat} : ((0 - l) / 2 ^ p).natAbs ≤ l.natAbs + 1 := by
  have h1 : -(l.natAbs : Int) - 1 ≤ (0 - l) / 2 ^ p := Int.le_ediv_of_mul_le (pow_pos' p) (by
    have h : (-(l.natAbs : Int) - 1) * 2 ^ p ≤ (-(l.natAbs : Int) - 1) * 1 := Int.mul_le_mul_of_nonpos_left (by omega) (by have := pow_pos' p; omega)
    omega)
  have h2 : (0 - l) / 2 ^ p ≤ l.natAbs := Int.ediv_le_of_le_mul (pow_pos' p) (by
    have h : (l.natAbs : Int) * 1 ≤ (l.natAbs : Int) * 2 ^ p := Int.mul_le_mul_of_nonneg_left (by have := pow_pos' p; omega) (by omega)
    omega)
  omega
theorem lfree_wh {Φ : Key → List D → Store → R D} {d1 : Option D} {l w : Int} {z : Nat} (h0 : 0 ≤ l) (h1 : 1 ≤ w) (h : l + w ≤ 2 ^ z) (hz : z ≤ 7000) : ∀ s : Nat, s ≤ z → HasM l w s →
    wh (evT Φ G (.and (.cmp .Lt (.var 1) (.var 4)) (.and1 (.cmp .Lt (.bin false .Sub (.int 0) (.bin false .Mult (.bin false .FloorDiv (.bin false .Sub (.int 0) (.var 2)) (.bin false .LShift (.int 2) (.var 1))) (.bin false .LShift (.int 2) (.var 1)))) (.bin false .Add (.var 2) (.var 3))))))
      (bodyK Φ G [] (.cons (.asg (.name 1) (.bin false .Add (.var 1) (.int 1))) .nil)) [d1, some (.int s), some (.int l), some (.int w), some (.int z)] st = .nx [d1, some (.int (figs (l, w, z))), some (.int l), some (.int w), some (.int z)] st := by
  intro s hs hm
  obtain ⟨k, hk⟩ : ∃ k, k = z - s := ⟨_, rfl⟩
  induction k generalizing s with
  | zero =>
    have e : s = z := by omega
    subst e
    have hf : figs (l, w, s) = s := (figs_ok h1).uniq ⟨Nat.le_refl _, hm, fun q => absurd q (Nat.lt_irrefl _)⟩
    rw [hf]
    refine wh_end ?_
    simp
  | succ k ih =>
    have hlt : s < z := by omega
    have c1 := two_shl (p := s) (by omega)
    have c2 := div_two (i := 0 - l) (p := s + 1) (by omega)
    have c3 : mulOk ((0 - l) / 2 ^ (s + 1)) (2 ^ (s + 1)) := by
      refine mul_big (a := z + 2) ?_ (by omega)
      have q := div_abs (l := l) (p := s + 1)
      have q2 : l.natAbs ≤ 2 ^ z := by have : l ≤ ((2 ^ z : Nat) : Int) := by { push_cast; omega }
                                       omega
      have q3 : (2 : Nat) ^ (z + 2) = 2 ^ z * 4 := by rw [Nat.pow_add]
      have q4 : 0 < (2 : Nat) ^ z := Nat.pow_pos (by decide)
      omega
    have c4 : 0 - (0 - l) / 2 ^ (s + 1) * 2 ^ (s + 1) = ceilP l (s + 1) * 2 ^ (s + 1) := by rw [← ceil_neg, Int.sub_mul, Int.zero_mul]
    simp at c2 c3 c4
    by_cases hm2 : HasM l w (s + 1)
    · rw [wh_step (ρ2 := [d1, some (.int ((s + 1 : Nat) : Int)), some (.int l), some (.int w), some (.int z)]) (st1 := st) (st2 := st)]
      · exact ih (s + 1) (by omega) hm2 (by omega)
      · unfold HasM at hm2
        simp [hlt, c1, c2, c3, c4, hm2]
      · simp
    · have hf : figs (l, w, z) = s := (figs_ok h1).uniq ⟨hs, hm, fun _ => hm2⟩
      rw [hf]
      refine wh_end ?_
      unfold HasM at hm2
      simp [hlt, c1, c2, c3, c4, hm2]
theorem lstate_code_ok {s : Sta} (h : Fine s) (hz : s.2.2 ≤ 7000) : Phi T G (n + 2) (.fn "_law_state_code") [encSta s] st = .ok (.str (codeOf s)) st := by
  have hf := figs_le h
  have k := lfixed_ok (n := n) (st := st) (v := ceilP s.1 (figs s)) (k := s.2.2 - figs s) (ceil_nonneg h.1) (by omega)
  obtain ⟨l, w, z⟩ := s
  obtain ⟨h0, h1, h2, h3⟩ := h
  dsimp only at h0 h1 h2 h3 hz hf
  rw [phi_run T_g_state_code rfl]
  have e : ((z : Int) - (figs (l, w, z) : Nat)) = ((z - figs (l, w, z) : Nat) : Int) := by omega
  have q := lfree_wh (Φ := Phi T G (n + 1)) (st := st) (d1 := some (encSta (l, w, z))) h0 h1 h2 hz 0 (Nat.zero_le _) (hasM_pow (by simpa using h1))
  have c1 := one_shl (p := figs (l, w, z)) (by omega)
  have c2 := div_two (i := 0 - l) (p := figs (l, w, z)) (by omega)
  have c4 := ceil_neg (l := l) (p := figs (l, w, z))
  simp [encSta] at q c2 c4
  dsimp only at k
  simp [g_state_code, startE, encSta, q, c1, c2, c4, e, k, callRes_rt, codeOf]
end
end K51
end
section
set_option linter.all false
set_option maxRecDepth 10000
namespace K51
open MP
open PySem (Operator CmpOp)
section
variable {n : Nat} {st : Store}
theorem lsett_wh {Φ : Key → List D → Store → R D} {d1 : Option D} {l w : Int} (hl : 0 ≤ l) : ∀ (f z : Nat) (acc : List D), z ≤ 8 * f + 7 → z + acc.length ≤ 100000 →
    wh (evT Φ G (.and (.cmp .GtE (.var 4) (.int 8)) (.and1 (.cmp .Eq (.bin false .RShift (.var 2) (.bin false .Sub (.var 4) (.int 8))) (.bin false .RShift (.bin false .Sub (.bin false .Add (.var 2) (.var 3)) (.int 1)) (.bin false .Sub (.var 4) (.int 8)))))))
      (bodyK Φ G [] (.cons (.asg (.name 4) (.bin false .Sub (.var 4) (.int 8))) (.cons (.expr (.bm .append (.var 1) (.cons (.bin false .BitAnd (.bin false .RShift (.var 2) (.var 4)) (.int 255)) .nil))) .nil)))
      [d1, some (.ref st.length), some (.int l), some (.int w), some (.int z)] (st ++ [.lst acc])
      = .nx [d1, some (.ref st.length), some (.int l), some (.int w), some (.int ((z - 8 * (sett l (l + w - 1) f z).length : Nat) : Int))] (st ++ [.lst (acc ++ (sett l (l + w - 1) f z).map .int)])
  | 0, z, acc, hz, _ => by
    have h1 : ¬ (8 : Int) ≤ z := by omega
    refine (wh_end (st1 := st ++ [.lst acc]) ?_).trans ?_
    · simp [h1]
    · simp [sett]
  | f + 1, z, acc, hz, ha => by
    by_cases h8 : 8 ≤ z
    · have h1 : (8 : Int) ≤ z := by omega
      have e : (z : Int) - 8 = ((z - 8 : Nat) : Int) := by omega
      have h2 : (0 : Int) ≤ ((z - 8 : Nat) : Int) := by omega
      by_cases hq : l / 2 ^ (z - 8) = (l + w - 1) / 2 ^ (z - 8)
      · have ex : sett l (l + w - 1) (f + 1) z = (l / 2 ^ (z - 8) % 256) :: sett l (l + w - 1) f (z - 8) := by rw [sett, if_pos ⟨h8, hq⟩]
        rw [ex]
        rw [wh_step (ρ2 := [d1, some (.ref st.length), some (.int l), some (.int w), some (.int ((z - 8 : Nat) : Int))]) (st1 := st ++ [.lst acc]) (st2 := st ++ [.lst (acc ++ [.int (l / 2 ^ (z - 8) % 256)])])]
        · rw [lsett_wh hl f (z - 8) _ (by omega) (by rw [List.length_append, List.length_singleton]; omega)]
          simp [List.append_assoc]
          omega
        · simp [h1, e, h2, hq]
        · have ha2 : acc.length < 16777216 := by omega
          have h3 : 0 ≤ l / 2 ^ (z - 8) := Int.ediv_nonneg hl (Int.le_of_lt (pow_pos' _))
          have h4 := andI_255 h3
          simp [e, h2, h4, ha2]
      · have ex : sett l (l + w - 1) (f + 1) z = [] := by rw [sett, if_neg fun c => hq c.2]
        rw [ex]
        refine (wh_end (st1 := st ++ [.lst acc]) ?_).trans ?_
        · simp [h1, e, h2, hq]
        · simp
    · have ex : sett l (l + w - 1) (f + 1) z = [] := by rw [sett, if_neg fun c => h8 c.1]
      rw [ex]
      have h1 : ¬ (8 : Int) ≤ z := by omega
      refine (wh_end (st1 := st ++ [.lst acc]) ?_).trans ?_
      · simp [h1]
      · simp
theorem lsettled_ok {s : Sta} (h : Fine s) : Phi T G (n + 1) (.fn "_law_settled") [encSta s] st = .ok (.tup ((settled s).map .int)) st := by
  obtain ⟨l, w, z⟩ := s
  obtain ⟨h0, h1, h2, h3⟩ := h
  dsimp only at h0 h1 h2 h3
  rw [phi_run T_g_settled rfl]
  have q := lsett_wh (Φ := Phi T G n) (st := st) (d1 := some (encSta (l, w, z))) (w := w) h0 z z [] (by omega) (by simp; omega)
  simp [encSta] at q
  simp [g_settled, startE, encSta, q]
  rw [callRes_rtA (by simp [clean_ints])]
  rfl
/-! the weight -/
def wC (ss : List Stp) : Int := ss.foldl (fun p s => p * s.2.1 * 4095) 1
def wT (ss : List Stp) : Int := ss.foldl (fun p s => p * s.2.2 * 4096) 1
def within (ss : List Stp) (x : Int) : Bool := if x ≤ 0 ∨ 20000 < x then decide (x = 0) else decide (wC ss * 2 ^ (x - 1).toNat < wT ss)
theorem wC_bound : ∀ (ss : List Stp) (p : Int) (k : Nat), (∀ s, s ∈ ss → OkStp s) → 1 ≤ p → p < 2 ^ k → 1 ≤ ss.foldl (fun p s => p * s.2.1 * 4095) p ∧ ss.foldl (fun p s => p * s.2.1 * 4095) p < 2 ^ (k + 24 * ss.length)
  | [], p, k, _, h1, h2 => ⟨h1, h2⟩
  | s :: ss, p, k, hs, h1, h2 => by
    obtain ⟨a1, a2, a3, a4⟩ := hs s List.mem_cons_self
    have b1 : p * 1 ≤ p * s.2.1 := Int.mul_le_mul_of_nonneg_left a2 (by omega)
    have b2 : p * s.2.1 ≤ p * 4096 := Int.mul_le_mul_of_nonneg_left (by omega) (by omega)
    have := wC_bound ss (p * s.2.1 * 4095) (k + 24) (fun s h => hs s (List.mem_cons_of_mem _ h)) (by omega) (by rw [Int.pow_add]; omega)
    rw [List.foldl_cons, List.length_cons, show k + 24 * (ss.length + 1) = k + 24 + 24 * ss.length by omega]
    exact this
theorem fold_split (a b : Int) (f : Stp → Int) : ∀ (ss : List Stp) (x y : Int), ss.foldl (fun p s => p * f s * a) (x * y) = (ss.foldl (fun p s => p * f s) x) * (ss.foldl (fun p _ => p * a) y)
  | [], x, y => rfl
  | s :: ss, x, y => by
    rw [List.foldl_cons, List.foldl_cons, List.foldl_cons, ← fold_split a b f ss]
    congr 1
    rw [Int.mul_assoc, Int.mul_assoc, Int.mul_assoc]
    congr 1
    rw [← Int.mul_assoc, ← Int.mul_assoc, Int.mul_comm y]
theorem fold_out (a : Int) : ∀ (ss : List Stp) (x : Int), ss.foldl (fun p _ => p * a) x = x * ss.foldl (fun p _ => p * a) 1
  | [], x => by simp
  | s :: ss, x => by
    rw [List.foldl_cons, List.foldl_cons, fold_out a ss (x * a), fold_out a ss (1 * a), Int.mul_assoc, Int.one_mul]
theorem pair_fold : ∀ (l : List Stp) (x y : Int), l.foldl (fun (b : Int × Int) _ => (b.1 * 4095, b.2 * 4096)) (x, y) = (l.foldl (fun p _ => p * 4095) x, l.foldl (fun p _ => p * 4096) y)
  | [], _, _ => rfl
  | a :: l, x, y => by simp only [List.foldl_cons, pair_fold l]
theorem beq_dec (x y : Int) : (x == y) = decide (x = y) := by
  by_cases h : x = y
  · simp [h]
  · simp [h]
theorem is_within_ok {ss : List Stp} {x : Int} (hp : ∀ p, p ∈ ss → OkStp p) (hl : ss.length ≤ 60) : Phi T G (n + 2) (.fn "is_within_weight") [.tup (ss.map encStp), .int x] st = .ok (.bl (within ss x)) st := by
  rw [phi_run T_f_is_within_weight rfl]
  have eM : G.cst "MOST_LENGTH" = some (.int 20000) := by rfl
  have eL : G.cst "LOSS" = some (.int 4096) := by rfl
  by_cases h1 : x ≤ 0
  · simp [f_is_within_weight, startE, h1, callRes_rt, within]
    exact beq_dec x 0
  · by_cases h2 : 20000 < x
    · simp [f_is_within_weight, startE, h1, h2, eM, callRes_rt, within]
      exact beq_dec x 0
    · have k := frL_fold (src := .tup (ss.map encStp)) (all := ss.map encStp) (bnd := bindT [2] true)
        (body := bodyK (Phi T G (n + 1)) G [2] (.cons (.par [3, 4] (.cons (.bin false .Mult (.var 3) (.bin false .Sub (.cst "LOSS") (.int 1))) (.cons (.bin false .Mult (.var 4) (.cst "LOSS")) .nil))) .nil)) (f := encStp)
        (fun b : Int × Int => [some (.tup (ss.map encStp)), some (.int x), none, some (.int b.1), some (.int b.2)]) (fun _ => st) (fun b _ => (b.1 * 4095, b.2 * 4096)) (fun l b => True) (by simp)
        (by
          intro s l b _
          refine ⟨⟨_, by simp; rfl, ?_⟩, trivial⟩
          have m1 : mulOk b.1 4095 := mul_r (by omega) (by omega)
          have m2 : mulOk b.2 4096 := mul_r (by omega) (by omega)
          simp [eL, m1, m2]) ss (prodC ss, prodT ss) trivial
      have e1 : wC ss = (prodC ss) * ss.foldl (fun p _ => p * 4095) 1 := by
        have := fold_split 4095 0 (fun s => s.2.1) ss 1 1
        simpa [wC, prodC] using this
      have e2 : wT ss = (prodT ss) * ss.foldl (fun p _ => p * 4096) 1 := by
        have := fold_split 4096 0 (fun s => s.2.2) ss 1 1
        simpa [wT, prodT] using this
      rw [pair_fold, fold_out 4095, fold_out 4096, ← e1, ← e2] at k
      have k1 := k.1
      obtain ⟨w1, w2⟩ := wC_bound ss 1 1 hp (by decide) (by decide)
      have hs : binI .LShift (wC ss) (x - 1) = some (wC ss * 2 ^ (x - 1).toNat) := shl_pow (n := 1 + 24 * ss.length) (by omega) (by unfold wC; omega) w2 (by omega)
      simp at k1
      simp [f_is_within_weight, startE, h1, h2, eM, weight_pair_ok hp, k1, hs, callRes_rt, within]
end
end K51
end
section
set_option linter.all false
set_option maxRecDepth 10000
namespace K51
open MP
open PySem (Operator CmpOp)
section
variable {n : Nat} {st : Store}
theorem pair_fold2 : ∀ (l : List Stp) (x y : Int), l.foldl (fun (b : Int × Int) s => (b.1 * s.2.1 * 4095, b.2 * s.2.2 * 4096)) (x, y) = (l.foldl (fun p s => p * s.2.1 * 4095) x, l.foldl (fun p s => p * s.2.2 * 4096) y)
  | [], _, _ => rfl
  | a :: l, x, y => by simp only [List.foldl_cons, pair_fold2 l]
theorem lwithin_ok {ss : List Stp} {x : Int} (hp : ∀ p, p ∈ ss → OkStp p) (hl : ss.length ≤ 60) : Phi T G (n + 1) (.fn "_law_within") [.tup (ss.map encStp), .int x] st = .ok (.bl (within ss x)) st := by
  rw [phi_run T_g_within rfl]
  have k := frL_fold (src := .tup (ss.map encStp)) (all := ss.map encStp) (bnd := bindT [4] true)
    (body := bodyK (Phi T G n) G [4] (.cons (.asg (.name 2) (.bin false .Mult (.bin false .Mult (.var 2) (.idx (.var 4) (.int 1))) (.int 4095))) (.cons (.asg (.name 3) (.bin false .Mult (.bin false .Mult (.var 3) (.idx (.var 4) (.int 2))) (.int 4096))) .nil))) (f := encStp)
    (fun b : Int × Int => [some (.tup (ss.map encStp)), some (.int x), some (.int b.1), some (.int b.2), none]) (fun _ => st) (fun b s => (b.1 * s.2.1 * 4095, b.2 * s.2.2 * 4096)) (fun l b => ∀ s, s ∈ l → OkStp s) (by simp)
    (by
      intro s l b hI
      obtain ⟨h1, h2, h3, h4⟩ := hI s List.mem_cons_self
      refine ⟨⟨_, by simp; rfl, ?_⟩, fun s hs => hI s (List.mem_cons_of_mem _ hs)⟩
      have m1 : mulOk b.1 s.2.1 := mul_r (by omega) (by omega)
      have m2 : mulOk b.2 s.2.2 := mul_r (by omega) (by omega)
      have m3 : mulOk (b.1 * s.2.1) 4095 := mul_r (by omega) (by omega)
      have m4 : mulOk (b.2 * s.2.2) 4096 := mul_r (by omega) (by omega)
      simp [encStp, m1, m2, m3, m4]) ss (1, 1) hp
  rw [pair_fold2] at k
  have k1 := k.1
  simp at k1
  simp [g_within, startE, k1]
  by_cases h1 : x ≤ 0
  · have h3 : x < 1 := by omega
    simp [h3, h1, callRes_rt, within, beq_dec]
  · have h3 : ¬ x < 1 := by omega
    by_cases h2 : 20000 < x
    · simp [h3, h1, h2, callRes_rt, within, beq_dec]
    · obtain ⟨w1, w2⟩ := wC_bound ss 1 1 hp (by decide) (by decide)
      obtain ⟨y, hy⟩ : ∃ y : Nat, x - 1 = y := ⟨(x - 1).toNat, by omega⟩
      have hs := one_shl (p := y) (by omega)
      have hm : mulOk (wC ss) (2 ^ y) := mul_big (a := 1 + 24 * ss.length) (by
        have : ((wC ss).natAbs : Int) < ((2 ^ (1 + 24 * ss.length) : Nat) : Int) := by
          rw [Int.natAbs_of_nonneg (by unfold wC; omega)]
          push_cast
          exact w2
        exact_mod_cast this) (by omega)
      unfold wC at hm
      simp [h3, h1, h2, hy, hs, hm, callRes_rt, within, wC, wT]
/-! whole bytes -/
def byteOf (b : List Nat) : Int := b.foldl (fun v c => 2 * v + (if c = 49 then 1 else 0)) 0
theorem byte_bound : ∀ (b : List Nat) (v : Int), 0 ≤ v → 0 ≤ b.foldl (fun v c => 2 * v + (if c = 49 then (1 : Int) else 0)) v
  | [], v, h => h
  | c :: b, v, h => by
    rw [List.foldl_cons]
    exact byte_bound b _ (by split <;> omega)
def wholeB (bits : List Nat) (m : Nat) : List Int := (List.range m).map fun j => byteOf ((bits.drop (8 * j)).take 8)
theorem inner_ok {Φ : Key → List D → Store → R D} {d0 d1 d2 : Option D} {st : Store} : ∀ (b : List Nat) (v : Int) (src : List Nat) (all : List D), 
    frL (.str src) all (bindT [4] true) (bodyK Φ G [4] (.cons (.asg (.name 3) (.bin false .Add (.bin false .Mult (.int 2) (.var 3)) (.ife (.cmp .Eq (.var 4) (.str "1")) (.int 1) (.int 0)))) .nil)) (signs b) [d0, d1, d2, some (.int v), none] st
      = .nx [d0, d1, d2, some (.int (b.foldl (fun v c => 2 * v + (if c = 49 then 1 else 0)) v)), none] st := by
  intro b
  induction b with
  | nil => intro v src all; simp [signs, frL]
  | cons c b ih =>
    intro v src all
    have e : signs (c :: b) = .str [c] :: signs b := rfl
    rw [e, frL, if_pos still_str]
    have m1 : mulOk 2 v := mul_l (by omega) (by omega)
    by_cases hc : c = 49
    · have := ih (2 * v + 1) src all
      simp [hc, m1, this]
    · have := ih (2 * v) src all
      have hc2 : (c == 49) = false := by simp [hc]
      simp [hc, hc2, m1, this]
theorem rngN_up8 {m : Nat} : rngN 0 ((8 * m : Nat) : Int) 8 = m := by
  unfold rngN
  rw [if_pos (by decide)]
  by_cases h : m = 0
  · subst h; rfl
  · rw [if_pos (by omega)]
    omega
theorem outer_ok {Φ : Key → List D → Store → R D} {st : Store} {bits : List Nat} : ∀ (l : List Nat) (acc : List D), (∀ i, i ∈ l → 8 * i + 8 ≤ bits.length) → acc.length + l.length ≤ 100000 →
    frL .non [] (bindT [2] true) (bodyK Φ G [2, 3, 4] (.cons (.asg (.name 3) (.int 0)) (.cons (.fr [4] true (.seq (.slice false (.var 0) (.cons (.var 2) .nil) (.cons (.bin false .Add (.var 2) (.int 8)) .nil)))
      (.cons (.asg (.name 3) (.bin false .Add (.bin false .Mult (.int 2) (.var 3)) (.ife (.cmp .Eq (.var 4) (.str "1")) (.int 1) (.int 0)))) .nil) [4]) (.cons (.expr (.bm .append (.var 1) (.cons (.var 3) .nil))) .nil))))
      (l.map fun (i : Nat) => .int (0 + (i : Int) * 8)) [some (.str bits), some (.ref st.length), none, none, none] (st ++ [.lst acc])
      = .nx [some (.str bits), some (.ref st.length), none, none, none] (st ++ [.lst (acc ++ (l.map fun j => byteOf ((bits.drop (8 * j)).take 8)).map .int)])
  | [], acc, _, _ => by simp [frL]
  | i :: l, acc, h, hl => by
    rw [List.length_cons] at hl
    have hi := h i List.mem_cons_self
    have e : (0 : Int) + (i : Int) * 8 = ((8 * i : Nat) : Int) := by omega
    have e2 : ((8 * i : Nat) : Int) + 8 = ((8 * i + 8 : Nat) : Int) := by omega
    have hc : cut bits (some ((8 * i : Nat) : Int)) (some ((8 * i + 8 : Nat) : Int)) = (bits.drop (8 * i)).take 8 := by
      rw [cut_nat]; congr 1; omega
    have ha : acc.length < 16777216 := by omega
    rw [List.map_cons, frL, if_pos still_non, e]
    simp only [bnd_1, List.set]
    have q := inner_ok (Φ := Φ) (st := st ++ [.lst acc]) (d0 := some (.str bits)) (d1 := some (.ref st.length)) (d2 := some (.int ((8 * i : Nat) : Int))) ((bits.drop (8 * i)).take 8) 0 ((bits.drop (8 * i)).take 8) (signs ((bits.drop (8 * i)).take 8))
    have r := outer_ok (Φ := Φ) (st := st) (bits := bits) l (acc ++ [.int (byteOf ((bits.drop (8 * i)).take 8))]) (fun j hj => h j (List.mem_cons_of_mem _ hj)) (by rw [List.length_append, List.length_singleton]; omega)
    simp only [bodyK_ap, ss_cons, sv_asg, ev_int, bindS_ok, jAsg_ap, asgT_name, then_nx, jSs_ap, sv_fr, it_seq, ev_slice, ev_var, List.set, getc, List.getElem?_cons_succ, bind_ok, kSl_ap, evs_cons, evs_nil, kCons_ap, kCons2_ap, kPart_1, kSl2_ap, ev_bin, kBin_ap, kBin2_ap, bin_int, binI_add, Option.map, of_some, e2, kSl3_ap, slice_str, hc, kSeq_ap, walked_str, jFr_ap]
    rw [q]
    simp [ha, byteOf] at r ⊢
    exact r
theorem whole_ok {bits : List Nat} {m : Nat} (hb : bits.length = 8 * m) (hm : m ≤ 10000) : Phi T G (n + 1) (.fn "_law_whole_bytes") [.str bits] st = .ok (.tup ((wholeB bits m).map .int)) st := by
  rw [phi_run T_g_whole_bytes rfl]
  have e1 : ((0 : Int) - (bits.length : Int)) % 8 = 0 := by omega
  have e2 : binD false .Mult (.str [48]) (.int 0) st = .ok (.str []) st := by
    rw [bin_mulS0 ⟨by omega, by omega, by simp⟩]; rfl
  have hb2 : bits.length ≤ 16777216 := by omega
  simp at e1
  simp [g_whole_bytes, startE, e1, e2, hb2]
  rw [rng_3 (by omega) (by omega) (by omega) (by omega) (by omega) (by omega) (by omega), hb, rngN_up8, rngL_map]
  simp only [Option.map, of_some, bindS_ok, jFr_ap]
  rw [outer_ok (List.range m) [] (fun i hi => by have := List.mem_range.mp hi; omega) (by simp; omega)]
  simp
  rw [callRes_rtA (by simp)]
  simp [wholeB]
end
end K51
end
section
set_option linter.all false
set_option maxRecDepth 10000
namespace K51
open MP
open PySem (Operator CmpOp)
section
variable {n : Nat} {st : Store}
theorem isT : T (.fn "_law_is") = some Law.g_is := T_g_is
theorem isI : T (.fn "_law_is_integer") = some Law.g_is_integer := T_g_is_integer
theorem dT : T (.fn "_law_draws") = some Law.g_draws := T_g_draws
theorem cT : T (.fn "_law_cell") = some Law.g_cell := T_g_cell
/-! the drawn steps -/
theorem step_of (one two three : Int) (h1 : 0 ≤ one) (h2 : 0 ≤ two) (h3 : 0 ≤ three) : ∃ t : Int, 1 ≤ t ∧ t ≤ 4096 ∧ (∀ st, idxD (.tup [.int 1, .int 2, .int 3, .int 256, .int 4095, .int 4096, .int (1 + two % 4096), .int (2 + two % 9)]) (.int (one % 8)) st = some (.int t)) ∧
    OkStp (three % t, 1 + (two / 3 + one / 8) % (t - three % t), t) := by
  have key : ∀ t : Int, 1 ≤ t → t ≤ 4096 → OkStp (three % t, 1 + (two / 3 + one / 8) % (t - three % t), t) := by
    intro t a b
    have c1 := Int.emod_nonneg three (show t ≠ 0 by omega)
    have c2 := Int.emod_lt_of_pos three (show 0 < t by omega)
    have c3 := Int.emod_nonneg (two / 3 + one / 8) (show t - three % t ≠ 0 by omega)
    have c4 := Int.emod_lt_of_pos (two / 3 + one / 8) (show 0 < t - three % t by omega)
    exact ⟨c1, by show 1 ≤ 1 + _; omega, by show three % t + (1 + _) ≤ t; omega, b⟩
  have h8 : one % 8 = 0 ∨ one % 8 = 1 ∨ one % 8 = 2 ∨ one % 8 = 3 ∨ one % 8 = 4 ∨ one % 8 = 5 ∨ one % 8 = 6 ∨ one % 8 = 7 := by omega
  rcases h8 with e | e | e | e | e | e | e | e
  · exact ⟨1, by omega, by omega, fun st => by rw [e]; rfl, key _ (by omega) (by omega)⟩
  · exact ⟨2, by omega, by omega, fun st => by rw [e]; rfl, key _ (by omega) (by omega)⟩
  · exact ⟨3, by omega, by omega, fun st => by rw [e]; rfl, key _ (by omega) (by omega)⟩
  · exact ⟨256, by omega, by omega, fun st => by rw [e]; rfl, key _ (by omega) (by omega)⟩
  · exact ⟨4095, by omega, by omega, fun st => by rw [e]; rfl, key _ (by omega) (by omega)⟩
  · exact ⟨4096, by omega, by omega, fun st => by rw [e]; rfl, key _ (by omega) (by omega)⟩
  · exact ⟨1 + two % 4096, by omega, by omega, fun st => by rw [e]; rfl, key _ (by omega) (by omega)⟩
  · exact ⟨2 + two % 9, by omega, by omega, fun st => by rw [e]; rfl, key _ (by omega) (by omega)⟩
theorem made_ok {ds : List Int} {k : Nat} (hd : ∀ d, d ∈ ds → 0 ≤ d) (hk : 3 * k ≤ ds.length) (hk2 : k ≤ 1000) :
    ∃ ss : List Stp, ss.length = k ∧ (∀ s, s ∈ ss → OkStp s) ∧ Phi T G (n + 1) (.fn "_law_made_steps") [.lst (ds.map .int), .int k] st = .ok (.tup (ss.map encStp)) st := by
  rw [phi_run T_g_made_steps rfl]
  have key := frL_inv (src := .non) (all := []) (bnd := bindT [3] true) (f := fun (i : Nat) => D.int (0 + (i : Int) * 1))
    (body := bodyK (Phi T G n) G [3, 4, 5, 6, 7, 8] (.cons (.unp [(.name 6), (.name 7), (.name 8)] (.comp false [9] true (.seq (.slice false (.var 0) (.cons (.bin false .Mult (.int 3) (.var 3)) .nil) (.cons (.bin false .Add (.bin false .Mult (.int 3) (.var 3)) (.int 3)) .nil))) .nil (.blt .int1 (.cons (.var 9) .nil))))
(.cons (.asg (.name 4) (.idx (.tup (.cons (.int 1) (.cons (.int 2) (.cons (.int 3) (.cons (.int 256) (.cons (.int 4095) (.cons (.int 4096) (.cons (.bin false .Add (.int 1) (.bin false .Mod (.var 7) (.int 4096))) (.cons (.bin false .Add (.int 2) (.bin false .Mod (.var 7) (.int 9))) .nil))))))))) (.bin false .Mod (.var 6) (.int 8))))
(.cons (.asg (.name 5) (.bin false .Mod (.var 8) (.var 4)))
(.cons (.expr (.bm .append (.var 2) (.cons (.tup (.cons (.var 5) (.cons (.bin false .Add (.int 1) (.bin false .Mod (.bin false .Add (.bin false .FloorDiv (.var 7) (.int 3)) (.bin false .FloorDiv (.var 6) (.int 8))) (.bin false .Sub (.var 4) (.var 5)))) (.cons (.var 4) .nil)))) .nil)))
.nil)))))
    (fun l ρ st' => ∃ acc : List Stp, ρ = [some (.lst (ds.map .int)), some (.int k), some (.ref st.length), none, none, none, none, none, none, none] ∧ st' = st ++ [.lst (acc.map encStp)] ∧ acc.length + l.length = k ∧ (∀ i, i ∈ l → i < k) ∧ ∀ s, s ∈ acc → OkStp s)
    (fun l ρ st h => still_non) (by
      rintro i l ρ st' ⟨acc, rfl, rfl, hl, hi, ha⟩
      rw [List.length_cons] at hl
      have hik := hi i List.mem_cons_self
      have hlen : acc.length < 16777216 := by omega
      obtain ⟨one, two, three, rest, e⟩ : ∃ a b c r, ds.drop (3 * i) = a :: b :: c :: r := by
        have h0 : (ds.drop (3 * i)).length = ds.length - 3 * i := List.length_drop
        match hq : ds.drop (3 * i) with
        | [] => rw [hq] at h0; simp at h0; omega
        | [_] => rw [hq] at h0; simp at h0; omega
        | [_, _] => rw [hq] at h0; simp at h0; omega
        | a :: b :: c :: r => exact ⟨a, b, c, r, rfl⟩
      have mem : ∀ x, x ∈ [one, two, three] → 0 ≤ x := by
        intro x hx
        refine hd x (List.mem_of_mem_drop (i := 3 * i) ?_)
        rw [e]
        simp at hx ⊢
        rcases hx with h | h | h <;> simp [h]
      have hc : cut (ds.map D.int) (some ((3 * i : Nat) : Int)) (some ((3 * i + 3 : Nat) : Int)) = [.int one, .int two, .int three] := by
        rw [cut_nat, ← List.map_drop, e]
        have : 3 * i + 3 - 3 * i = 3 := by omega
        rw [this]
        rfl
      obtain ⟨t, t1, t2, t3, t4⟩ := step_of one two three (mem _ (by simp)) (mem _ (by simp)) (mem _ (by simp))
      refine ⟨_, by simp only [bnd_1, List.set]; rfl, _, _, ?_, acc ++ [(three % t, 1 + (two / 3 + one / 8) % (t - three % t), t)], rfl, rfl, by simp; omega, fun j hj => hi j (List.mem_cons_of_mem _ hj), ?_⟩
      · have e1 : (3 : Int) * (0 + (i : Int) * 1) = ((3 * i : Nat) : Int) := by omega
        have e2 : ((3 * i : Nat) : Int) + 3 = ((3 * i + 3 : Nat) : Int) := by omega
        have m1 : mulOk 3 (0 + (i : Int) * 1) := mul_l (by omega) (by omega)
        have d1 : binI .FloorDiv two 3 = some (two / 3) := div_64 (by omega) (by omega)
        have d2 : binI .FloorDiv one 8 = some (one / 8) := div_64 (by omega) (by omega)
        have c1 := Int.emod_lt_of_pos three (show 0 < t by omega)
        have d3 : binI .Mod three t = some (three % t) := binI_mod (by omega)
        have d4 : binI .Mod (two / 3 + one / 8) (t - three % t) = some ((two / 3 + one / 8) % (t - three % t)) := binI_mod (by omega)
        have q := compL_map (src := .lst [.int one, .int two, .int three]) (all := [.int one, .int two, .int three]) (bnd := bndC [9] true [some (.lst (ds.map .int)), some (.int k), some (.ref st.length), some (.int (0 + (i : Int) * 1)), none, none, none, none, none, none]) (c := evTs (Phi T G n) G .nil)
          (e := evE (Phi T G n) G (.blt .int1 (.cons (.var 9) .nil))) (st := st ++ [.lst (acc.map encStp)]) (f := D.int) (g := D.int) still_lst [one, two, three] [] (by simp [line]) (by
            intro x _
            refine ⟨_, by simp; rfl, by simp, by simp⟩)
        simp only [List.map] at q
        simp only [bodyK_ap, ss_cons, sv_unp, ev_comp, it_seq, ev_slice, ev_var, List.set, getc, List.getElem?_cons_succ, bind_ok, kSl_ap, evs_cons, evs_nil, ev_bin, ev_int, kBin_ap, kBin2_ap, bin_int, binI_mul m1, Option.map, of_some, e1, kCons_ap, kCons2_ap, kPart_1, kSl2_ap, binI_add, e2, kSl3_ap, slice_lst, hc, kSeq_ap, walked_lst, kComp_ap, q, newL_f, bindS_ok]
        simp [t3, d1, d2, d3, d4, hlen, encStp]
      · intro s hs
        rcases List.mem_append.mp hs with q | q
        · exact ha s q
        · rw [List.mem_singleton] at q; subst q; exact t4)
    (List.range k) [some (.lst (ds.map .int)), some (.int k), some (.ref st.length), none, none, none, none, none, none, none] (st ++ [.lst []])
    ⟨[], rfl, rfl, by simp, fun i hi => List.mem_range.mp hi, by simp⟩
  obtain ⟨ρ', st', e1, acc, e2, e3, e4, _, e5⟩ := key
  refine ⟨acc, by simpa using e4, e5, ?_⟩
  have r1 := rng_1 (j := (k : Int)) (by omega) (by omega)
  rw [Int.toNat_natCast, rngL_map] at r1
  subst e2 e3
  simp at e1
  simp [g_made_steps, startE, r1, e1]
  refine callRes_rtA ?_
  rw [clean_tup8]
  exact clean_map _ _ fun s _ => by simp [encStp]
end
end K51
end
section
set_option linter.all false
set_option maxRecDepth 10000
namespace K51
open MP
/-! the settled bytes of a state behind sent ones -/
theorem sett_add (M l h : Int) : ∀ (f z : Nat), sett (M * 2 ^ z + l) (M * 2 ^ z + h) f z = sett l h f z
  | 0, z => rfl
  | f + 1, z => by
    rw [sett, sett]
    by_cases h8 : 8 ≤ z
    · have e : (2 : Int) ^ z = 256 * 2 ^ (z - 8) := by
        conv => lhs; rw [show z = 8 + (z - 8) by omega, Int.pow_add]
        rfl
      have d : ∀ x : Int, (M * 2 ^ z + x) / 2 ^ (z - 8) = M * 256 + x / 2 ^ (z - 8) := by
        intro x
        rw [e, ← Int.mul_assoc, Int.add_comm, Int.add_mul_ediv_right _ _ (Int.ne_of_gt (pow_pos' _)), Int.add_comm]
      rw [d, d]
      have r := sett_add (M * 256) l h f (z - 8)
      rw [Int.mul_assoc, ← e] at r
      by_cases hq : l / 2 ^ (z - 8) = h / 2 ^ (z - 8)
      · rw [if_pos ⟨h8, by rw [hq]⟩, if_pos ⟨h8, hq⟩, r]
        congr 1
        omega
      · rw [if_neg fun c => hq (by omega), if_neg fun c => hq c.2]
    · rw [if_neg fun c => h8 c.1, if_neg fun c => h8 c.1]
def numF (a : Int) (B : List Int) : Int := B.foldl (fun a b => a * 256 + b) a
def num (B : List Int) : Int := numF 0 B
def OkB (B : List Int) : Prop := ∀ b, b ∈ B → 0 ≤ b ∧ b < 256
theorem numF_eq : ∀ (B : List Int) (a : Int), numF a B = a * 256 ^ B.length + num B
  | [], a => by simp [numF, num]
  | b :: B, a => by
    have h1 : numF a (b :: B) = numF (a * 256 + b) B := rfl
    have h2 : num (b :: B) = numF (0 * 256 + b) B := rfl
    rw [h1, h2, numF_eq B (a * 256 + b), numF_eq B (0 * 256 + b), List.length_cons, Int.pow_succ, Int.add_mul, Int.zero_mul, Int.zero_add, Int.mul_assoc, Int.mul_comm 256]
    omega
theorem num_cons (b : Int) (B : List Int) : num (b :: B) = b * 256 ^ B.length + num B := by
  have h2 : num (b :: B) = numF (0 * 256 + b) B := rfl
  rw [h2, numF_eq, Int.zero_mul, Int.zero_add]
theorem num_app (A B : List Int) : num (A ++ B) = num A * 256 ^ B.length + num B := by
  have : num (A ++ B) = numF (num A) B := by unfold num numF; rw [List.foldl_append]
  rw [this, numF_eq]
theorem num_bound : ∀ (B : List Int), OkB B → 0 ≤ num B ∧ num B + 1 ≤ 256 ^ B.length
  | [], _ => by simp [num, numF]
  | b :: B, h => by
    obtain ⟨h1, h2⟩ := num_bound B fun x hx => h x (List.mem_cons_of_mem _ hx)
    obtain ⟨b1, b2⟩ := h b List.mem_cons_self
    have p : (0 : Int) < 256 ^ B.length := Int.pow_pos (by decide)
    have q1 : 0 ≤ b * 256 ^ B.length := Int.mul_nonneg b1 (Int.le_of_lt p)
    have q2 : b * 256 ^ B.length ≤ 255 * 256 ^ B.length := Int.mul_le_mul_of_nonneg_right (by omega) (Int.le_of_lt p)
    rw [num_cons, List.length_cons, Int.pow_succ]
    omega
theorem pow_256 (k : Nat) : (256 : Int) ^ k = 2 ^ (8 * k) := by
  rw [Int.pow_mul]
  rfl
theorem sett_sent : ∀ (B : List Int) (l h : Int) (f z : Nat), OkB B → 0 ≤ l → l ≤ h → h < 2 ^ z → sett (num B * 2 ^ z + l) (num B * 2 ^ z + h) (f + B.length) (z + 8 * B.length) = B ++ sett l h f z
  | [], l, h, f, z, _, _, _, _ => by simp [num, numF]
  | b :: B, l, h, f, z, hB, h1, h2, h3 => by
    obtain ⟨b1, b2⟩ := hB b List.mem_cons_self
    have hB2 : OkB B := fun x hx => hB x (List.mem_cons_of_mem _ hx)
    obtain ⟨n1, n2⟩ := num_bound B hB2
    have p := pow_pos' z
    have eZ : (2 : Int) ^ (z + 8 * B.length) = 256 ^ B.length * 2 ^ z := by rw [Int.pow_add, pow_256, Int.mul_comm]
    have e : ∀ x : Int, num (b :: B) * 2 ^ z + x = b * 2 ^ (z + 8 * B.length) + (num B * 2 ^ z + x) := by
      intro x
      rw [num_cons, Int.add_mul, eZ, Int.mul_assoc]
      omega
    have lo : ∀ x : Int, 0 ≤ x → x < 2 ^ z → 0 ≤ num B * 2 ^ z + x ∧ num B * 2 ^ z + x < 2 ^ (z + 8 * B.length) := by
      intro x x1 x2
      have q1 := Int.mul_nonneg n1 (Int.le_of_lt p)
      have q2 := Int.mul_le_mul_of_nonneg_right n2 (Int.le_of_lt p)
      rw [Int.add_mul, Int.one_mul] at q2
      rw [eZ]
      omega
    have d : ∀ x : Int, 0 ≤ x → x < 2 ^ z → (b * 2 ^ (z + 8 * B.length) + (num B * 2 ^ z + x)) / 2 ^ (z + 8 * B.length) = b := by
      intro x x1 x2
      obtain ⟨q1, q2⟩ := lo x x1 x2
      rw [Int.add_comm, Int.add_mul_ediv_right _ _ (Int.ne_of_gt (pow_pos' _)), Int.ediv_eq_zero_of_lt q1 q2, Int.zero_add]
    rw [e, e, List.length_cons, show f + (B.length + 1) = (f + B.length) + 1 by omega, show z + 8 * (B.length + 1) = (z + 8 * B.length) + 8 by omega, sett]
    rw [Nat.add_sub_cancel, d l h1 (by omega), d h (by omega) h3, if_pos ⟨by omega, rfl⟩, sett_add, sett_sent B l h f z hB2 h1 h2 h3, Int.emod_eq_of_lt b1 b2]
    rfl
theorem sett_num (l h : Int) : ∀ (f z : Nat), l / 2 ^ z = h / 2 ^ z → l / 2 ^ (z - 8 * (sett l h f z).length) = h / 2 ^ (z - 8 * (sett l h f z).length) ∧ numF (l / 2 ^ z) (sett l h f z) = l / 2 ^ (z - 8 * (sett l h f z).length)
  | 0, z, he => by simp [sett, numF, he]
  | f + 1, z, he => by
    rw [sett]
    by_cases hc : 8 ≤ z ∧ l / 2 ^ (z - 8) = h / 2 ^ (z - 8)
    · rw [if_pos hc]
      obtain ⟨r1, r2⟩ := sett_num l h f (z - 8) hc.2
      have hz : z - 8 * ((l / 2 ^ (z - 8) % 256) :: sett l h f (z - 8)).length = z - 8 - 8 * (sett l h f (z - 8)).length := by rw [List.length_cons]; omega
      rw [hz]
      refine ⟨r1, ?_⟩
      have e : l / 2 ^ z * 256 + l / 2 ^ (z - 8) % 256 = l / 2 ^ (z - 8) := by
        have : l / 2 ^ z = l / 2 ^ (z - 8) / 256 := by
          rw [Int.ediv_ediv_of_nonneg (Int.le_of_lt (pow_pos' _))]
          congr 1
          conv => lhs; rw [show z = (z - 8) + 8 by omega, Int.pow_add]
          rfl
        omega
      show numF (l / 2 ^ z * 256 + l / 2 ^ (z - 8) % 256) (sett l h f (z - 8)) = _
      rw [e]
      exact r2
    · rw [if_neg hc]
      simp [numF, he]
theorem sett_okB (l h : Int) : ∀ (f z : Nat), OkB (sett l h f z)
  | 0, z => fun b hb => by simp [sett] at hb
  | f + 1, z => by
    rw [sett]
    split
    · intro b hb
      rcases List.mem_cons.mp hb with q | q
      · subst q; omega
      · exact sett_okB l h f (z - 8) b q
    · intro b hb; simp at hb
/-- enough turns -/
theorem sett_fuel (l h : Int) : ∀ (f g z : Nat), z ≤ 8 * f + 7 → z ≤ 8 * g + 7 → sett l h f z = sett l h g z
  | 0, 0, z, _, _ => rfl
  | 0, g + 1, z, h1, _ => by rw [sett, sett, if_neg fun c => by omega]
  | f + 1, 0, z, _, h2 => by rw [sett, sett, if_neg fun c => by omega]
  | f + 1, g + 1, z, h1, h2 => by
    rw [sett, sett]
    split
    · rw [sett_fuel l h f g (z - 8) (by omega) (by omega)]
    · rfl
/-- a writer's state: what was sent, what is left -/
def Behind (B : List Int) (t s : Sta) : Prop := s = (num B * 2 ^ t.2.2 + t.1, t.2.1, t.2.2 + 8 * B.length)
theorem settled_behind {B : List Int} {t s : Sta} (hB : OkB B) (ht : Fine t) (hb : Behind B t s) : settled s = B ++ settled t := by
  unfold Behind at hb
  subst hb
  obtain ⟨h0, h1, h2, h3⟩ := ht
  unfold settled
  dsimp only
  have e : num B * 2 ^ t.2.2 + t.1 + t.2.1 - 1 = num B * 2 ^ t.2.2 + (t.1 + t.2.1 - 1) := by omega
  rw [e, sett_fuel _ _ (t.2.2 + 8 * B.length) (t.2.2 + B.length) _ (by omega) (by omega), sett_sent B _ _ _ _ hB h0 (by omega) (by omega)]
theorem norm_shift (N : Int) (k : Nat) : ∀ (f : Nat) (l w : Int) (z : Nat), norm f (N * 2 ^ z + l, w, z + k) = (N * 2 ^ (norm f (l, w, z)).2.2 + (norm f (l, w, z)).1, (norm f (l, w, z)).2.1, (norm f (l, w, z)).2.2 + k)
  | 0, l, w, z => rfl
  | f + 1, l, w, z => by
    rw [norm, norm]
    by_cases hw : w < 16777216
    · rw [if_pos hw, if_pos hw]
      have e : (N * 2 ^ z + l) * 256 = N * 2 ^ (z + 8) + l * 256 := by
        rw [Int.add_mul, Int.pow_add, Int.mul_assoc]
        rfl
      have e2 : z + k + 8 = z + 8 + k := by omega
      dsimp only
      rw [e, e2]
      exact norm_shift N k f (l * 256) (w * 256) (z + 8)
    · rw [if_neg hw, if_neg hw]
theorem coded_behind {B : List Int} {t s : Sta} (p : Stp) (hb : Behind B t s) : Behind B (coded t p) (coded s p) := by
  unfold Behind at hb
  subst hb
  obtain ⟨l, w, z⟩ := t
  unfold Behind coded
  dsimp only
  rw [show num B * 2 ^ z + l + w / p.2.2 * p.1 = num B * 2 ^ z + (l + w / p.2.2 * p.1) by omega]
  exact norm_shift (num B) (8 * B.length) 2 _ _ z
/-- what is left once the settled bytes are sent -/
def cutS (t : Sta) : Sta := (t.1 % 2 ^ (t.2.2 - 8 * (settled t).length), t.2.1, t.2.2 - 8 * (settled t).length)
theorem cut_behind {B : List Int} {t s : Sta} (hB : OkB B) (ht : Fine t) (hb : Behind B t s) : Fine (cutS t) ∧ OkB (B ++ settled t) ∧ Behind (B ++ settled t) (cutS t) s := by
  obtain ⟨h0, h1, h2, h3⟩ := ht
  obtain ⟨l, w, z⟩ := t
  dsimp only at h0 h1 h2 h3
  have hz : l / 2 ^ z = (l + w - 1) / 2 ^ z := by rw [Int.ediv_eq_zero_of_lt h0 (by omega), Int.ediv_eq_zero_of_lt (by omega) (by omega)]
  obtain ⟨k1, k2⟩ := sett_num l (l + w - 1) z z hz
  have k3 := sett_len l (l + w - 1) z z
  have hs : settled (l, w, z) = sett l (l + w - 1) z z := rfl
  rw [Int.ediv_eq_zero_of_lt h0 (by omega)] at k2
  have k4 : num (settled (l, w, z)) = l / 2 ^ (z - 8 * (settled (l, w, z)).length) := k2
  rw [← hs] at k1 k3
  unfold cutS Behind at *
  dsimp only at *
  generalize hS : settled (l, w, z) = S at k1 k3 k4
  have pp := pow_pos' (z - 8 * S.length)
  have m1 := Int.emod_nonneg l (Int.ne_of_gt pp)
  have m2 := Int.emod_lt_of_pos (l + w - 1) pp
  have m3 := Int.mul_ediv_add_emod l (2 ^ (z - 8 * S.length))
  have m4 := Int.mul_ediv_add_emod (l + w - 1) (2 ^ (z - 8 * S.length))
  rw [k1] at m3
  refine ⟨⟨m1, h1, by show l % 2 ^ (z - 8 * S.length) + w ≤ 2 ^ (z - 8 * S.length); omega, by show z - 8 * S.length ≤ 9000; omega⟩, ?_, ?_⟩
  · intro b hb'
    rcases List.mem_append.mp hb' with q | q
    · exact hB b q
    · rw [← hS, hs] at q; exact sett_okB _ _ _ _ b q
  · rw [hb, num_app, k4, List.length_append]
    have e : (2 : Int) ^ z = 256 ^ S.length * 2 ^ (z - 8 * S.length) := by
      conv => lhs; rw [show z = 8 * S.length + (z - 8 * S.length) by omega, Int.pow_add]
      rw [pow_256]
    have e2 : num B * 2 ^ z = num B * 256 ^ S.length * 2 ^ (z - 8 * S.length) := by rw [e, Int.mul_assoc]
    have m5 := Int.mul_ediv_add_emod l (2 ^ (z - 8 * S.length))
    refine Prod.ext ?_ (Prod.ext rfl ?_)
    · show num B * 2 ^ z + l = (num B * 256 ^ S.length + l / 2 ^ (z - 8 * S.length)) * 2 ^ (z - 8 * S.length) + l % 2 ^ (z - 8 * S.length)
      rw [Int.add_mul, ← e2, Int.mul_comm (l / _)]
      omega
    · show z + 8 * B.length = z - 8 * S.length + 8 * (B.length + S.length)
      omega
end K51
end
section
set_option linter.all false
set_option maxRecDepth 10000
namespace K51
open MP
/-! bits -/
theorem bitOf_div (v : Int) (a j : Nat) : bitOf (v / 2 ^ a) j = bitOf v (a + j) := by
  unfold bitOf
  rw [Int.ediv_ediv_of_nonneg (Int.le_of_lt (pow_pos' _)), ← Int.pow_add]
theorem fixedL_succ (v : Int) (k : Nat) : fixedL v (k + 1) = fixedL (v / 2) k ++ [bitOf v 0] := by
  unfold fixedL
  rw [List.range_succ, List.map_append]
  congr 1
  · refine List.map_congr_left fun i hi => ?_
    have hi := List.mem_range.mp hi
    have := bitOf_div v 1 (k - 1 - i)
    rw [Int.pow_one] at this
    rw [this]
    congr 1
    omega
  · simp
theorem fixedL_app (v : Int) : ∀ (b a : Nat), fixedL v (a + b) = fixedL (v / 2 ^ b) a ++ fixedL v b
  | 0, a => by simp [fixedL]
  | b + 1, a => by
    rw [← Nat.add_assoc, fixedL_succ, fixedL_app (v / 2) b a, fixedL_succ v b, ← List.append_assoc]
    rw [Int.ediv_ediv_of_nonneg (by decide), Int.pow_succ, Int.mul_comm 2]
theorem bitOf_add (M v : Int) (b j : Nat) (h : j < b) : bitOf (M * 2 ^ b + v) j = bitOf v j := by
  unfold bitOf
  have e : M * (2 : Int) ^ b = M * 2 ^ (b - j - 1) * 2 * 2 ^ j := by
    conv => lhs; rw [show b = (b - j - 1) + 1 + j by omega, Int.pow_add, Int.pow_add]
    rw [Int.pow_one, Int.mul_assoc, Int.mul_assoc, Int.mul_assoc]
  rw [e, Int.add_comm, Int.add_mul_ediv_right _ _ (Int.ne_of_gt (pow_pos' _)), Int.add_mul_emod_self_right]
theorem fixedL_low (M v : Int) (b : Nat) : fixedL (M * 2 ^ b + v) b = fixedL v b := by
  unfold fixedL
  refine List.map_congr_left fun i hi => ?_
  have hi := List.mem_range.mp hi
  exact bitOf_add M v b _ (by omega)
theorem fixedL_split (M v : Int) (a b : Nat) (h0 : 0 ≤ v) (h1 : v < 2 ^ b) : fixedL (M * 2 ^ b + v) (a + b) = fixedL M a ++ fixedL v b := by
  rw [fixedL_app, fixedL_low]
  congr 2
  rw [Int.add_comm, Int.add_mul_ediv_right _ _ (Int.ne_of_gt (pow_pos' _)), Int.ediv_eq_zero_of_lt h0 h1, Int.zero_add]
theorem fixedL_zero (b : Nat) : fixedL 0 b = List.replicate b 48 := by
  unfold fixedL
  refine List.eq_replicate_iff.mpr ⟨by simp, fun x hx => ?_⟩
  obtain ⟨i, _, rfl⟩ := List.mem_map.mp hx
  unfold bitOf
  simp
theorem fixedL_shift (v : Int) (a b : Nat) : fixedL (v * 2 ^ b) (a + b) = fixedL v a ++ List.replicate b 48 := by
  have := fixedL_split v 0 a b (Int.le_refl _) (pow_pos' b)
  rw [Int.add_zero, fixedL_zero] at this
  exact this
theorem bits_num : ∀ (B : List Int), OkB B → bitsL B = fixedL (num B) (8 * B.length)
  | [], _ => by simp [bitsL, fixedL]
  | b :: B, h => by
    have hB2 : OkB B := fun x hx => h x (List.mem_cons_of_mem _ hx)
    obtain ⟨n1, n2⟩ := num_bound B hB2
    have e := fixedL_split b (num B) 8 (8 * B.length) n1 (by rw [← pow_256]; omega)
    rw [num_cons, pow_256, List.length_cons, show 8 * (B.length + 1) = 8 + 8 * B.length by omega, e, ← bits_num B hB2]
    rfl
/-! trailing zeros -/
theorem rstrip_zeros (xs : List Nat) : ∀ (j : Nat), rstripL [48] (xs ++ List.replicate j 48) = rstripL [48] xs
  | 0 => by simp
  | j + 1 => by
    rw [List.replicate_succ', ← List.append_assoc]
    have : rstripL [48] (xs ++ List.replicate j 48 ++ [48]) = rstripL [48] (xs ++ List.replicate j 48) := by
      unfold rstripL
      rw [List.reverse_append]
      rfl
    rw [this, rstrip_zeros xs j]
theorem rstrip_one (xs : List Nat) : rstripL [48] (xs ++ [49]) = xs ++ [49] := by
  unfold rstripL
  rw [List.reverse_append]
  show (List.dropWhile _ (49 :: xs.reverse)).reverse = _
  rw [List.dropWhile_cons_of_neg (by decide)]
  simp
theorem rstrip_nil : rstripL [48] [] = [] := rfl
/-- the code ends by a one -/
theorem code_end {s : Sta} (h : Fine s) : rstripL [48] (codeOf s) = codeOf s := by
  obtain ⟨l, w, z⟩ := s
  have hf := figs_ok (l := l) (w := w) (z := z) h.2.1
  unfold codeOf
  dsimp only
  generalize figs (l, w, z) = p at hf
  obtain ⟨f1, f2, f3⟩ := hf
  by_cases hp : p = z
  · subst hp
    rw [Nat.sub_self]
    rfl
  · have hlt : p < z := by omega
    obtain ⟨k, hk⟩ : ∃ k, z - p = k + 1 := ⟨z - p - 1, by omega⟩
    rw [hk, fixedL_succ]
    have hb : bitOf (ceilP l p) 0 = 49 := by
      unfold bitOf
      rw [Int.pow_zero, Int.ediv_one, if_neg]
      intro ev
      refine f3 hlt (hasM_of (k := ceilP l p / 2) ?_ ?_)
      · have := ceil_ge (l := l) (p := p)
        have e : ceilP l p / 2 * 2 ^ (p + 1) = ceilP l p / 2 * 2 * 2 ^ p := by rw [Int.pow_succ, Int.mul_comm (2 ^ p) 2, Int.mul_assoc]
        have e2 : ceilP l p / 2 * 2 = ceilP l p := by omega
        rw [e, e2]
        exact this
      · have e : ceilP l p / 2 * 2 ^ (p + 1) = ceilP l p / 2 * 2 * 2 ^ p := by rw [Int.pow_succ, Int.mul_comm (2 ^ p) 2, Int.mul_assoc]
        have e2 : ceilP l p / 2 * 2 = ceilP l p := by omega
        rw [e, e2]
        exact f2
    rw [hb, rstrip_one]
/-- the code's number, all figures written -/
def codeX (s : Sta) : Int := ceilP s.1 (figs s) * 2 ^ figs s
theorem code_full {s : Sta} (h : Fine s) : fixedL (codeX s) s.2.2 = codeOf s ++ List.replicate (figs s) 48 := by
  have := figs_le h
  have e := fixedL_shift (ceilP s.1 (figs s)) (s.2.2 - figs s) (figs s)
  rw [show s.2.2 - figs s + figs s = s.2.2 by omega] at e
  exact e
theorem code_strip {s : Sta} (h : Fine s) : rstripL [48] (fixedL (codeX s) s.2.2) = codeOf s := by
  rw [code_full h, rstrip_zeros, code_end h]
theorem codeX_in {s : Sta} (h : Fine s) : s.1 ≤ codeX s ∧ codeX s < s.1 + s.2.1 := ⟨ceil_ge, (figs_ok (l := s.1) (z := s.2.2) h.2.1).2.1⟩
theorem ceil_shift (N l : Int) (z q : Nat) (h : q ≤ z) : ceilP (N * 2 ^ z + l) q = N * 2 ^ (z - q) + ceilP l q := by
  unfold ceilP
  have e : N * (2 : Int) ^ z = N * 2 ^ (z - q) * 2 ^ q := by
    conv => lhs; rw [show z = (z - q) + q by omega, Int.pow_add]
    rw [Int.mul_assoc]
  rw [e, show N * 2 ^ (z - q) * 2 ^ q + l - 1 = (l - 1) + N * 2 ^ (z - q) * 2 ^ q by omega, Int.add_mul_ediv_right _ _ (Int.ne_of_gt (pow_pos' _))]
  omega
theorem pow_split (N : Int) (z q : Nat) (h : q ≤ z) : N * (2 : Int) ^ z = N * 2 ^ (z - q) * 2 ^ q := by
  conv => lhs; rw [show z = (z - q) + q by omega, Int.pow_add]
  rw [Int.mul_assoc]
theorem hasM_shift (N l w : Int) (z q : Nat) (h : q ≤ z) : HasM (N * 2 ^ z + l) w q ↔ HasM l w q := by
  unfold HasM
  rw [ceil_shift N l z q h, Int.add_mul, ← pow_split N z q h]
  omega
theorem codeX_behind {B : List Int} {t s : Sta} (hB : OkB B) (ht : Fine t) (hb : Behind B t s) (hs : Fine s) : codeX s = num B * 2 ^ t.2.2 + codeX t := by
  obtain ⟨l, w, z⟩ := t
  unfold Behind at hb
  dsimp only at hb
  have hf := figs_ok (l := l) (w := w) (z := z) ht.2.1
  have hF := figs_ok (l := s.1) (w := s.2.1) (z := s.2.2) hs.2.1
  have tX := codeX_in ht
  have sX := codeX_in hs
  unfold codeX at *
  obtain ⟨h0, h1, h2, h3⟩ := ht
  dsimp only at *
  generalize figs (l, w, z) = p at *
  subst hb
  dsimp only at *
  generalize figs (num B * 2 ^ z + l, w, z + 8 * B.length) = P at *
  obtain ⟨f1, f2, f3⟩ := hf
  by_cases hp : p < z
  · have hP : P = p := hF.uniq ⟨by omega, (hasM_shift _ _ _ _ _ (by omega)).mpr f2, fun _ hh => f3 hp ((hasM_shift _ _ _ _ _ (by omega)).mp hh)⟩
    subst hP
    rw [ceil_shift _ _ _ _ (by omega), Int.add_mul, ← pow_split _ _ _ (by omega)]
  · have hp : p = z := by omega
    subst hp
    have pp := pow_pos' p
    have c0 : ceilP l p ≤ 0 := by
      have : ceilP l p * 2 ^ p < 1 * 2 ^ p := by omega
      have := Int.lt_of_mul_lt_mul_right this (Int.le_of_lt pp)
      omega
    have c1 := ceil_nonneg (p := p) h0
    have c2 : ceilP l p = 0 := by omega
    rw [c2, Int.zero_mul] at tX ⊢
    have l0 : l = 0 := by omega
    subst l0
    have hPz : p ≤ P := by
      rcases Nat.lt_or_ge P p with q | q
      · exact absurd ((hasM_shift (num B) 0 w p (P + 1) (by omega)).mpr (hasM_le f2 (by omega))) (hF.2.2 (by omega))
      · exact q
    have e : ceilP (num B * 2 ^ p + 0) P * 2 ^ P = ceilP (num B * 2 ^ p + 0) P * 2 ^ (P - p) * 2 ^ p := pow_split _ _ _ hPz
    rw [e] at sX ⊢
    generalize ceilP (num B * 2 ^ p + 0) P * 2 ^ (P - p) = c at *
    have c3 : c < num B + 1 := by
      refine Int.lt_of_mul_lt_mul_right (a := 2 ^ p) ?_ (Int.le_of_lt pp)
      rw [Int.add_mul]
      omega
    have c4 : num B ≤ c := by
      refine Int.le_of_mul_le_mul_right (a := 2 ^ p) ?_ pp
      omega
    have : c = num B := by omega
    rw [this, Int.add_zero]
/-- what a writer tells is the code -/
theorem code_behind {B : List Int} {t s : Sta} (hB : OkB B) (ht : Fine t) (hb : Behind B t s) (hs : Fine s) : rstripL [48] (bitsL B ++ codeOf t) = codeOf s := by
  have e := codeX_behind hB ht hb hs
  have tX := codeX_in ht
  have hz : s.2.2 = 8 * B.length + t.2.2 := by unfold Behind at hb; rw [hb]; show _ + _ = _; omega
  rw [← code_strip hs, e, hz, fixedL_split _ _ _ _ (by have := ht.1; omega) (by have := ht.2.2.1; omega), ← bits_num B hB, code_full ht, ← List.append_assoc, rstrip_zeros]
end K51
end
section
set_option linter.all false
set_option maxRecDepth 10000
namespace K51
open MP
/-! the weight bound -/
theorem norm_pow : ∀ (f : Nat) (l w : Int) (z : Nat), ∃ k, norm f (l, w, z) = (l * 2 ^ k, w * 2 ^ k, z + k)
  | 0, l, w, z => ⟨0, by simp [norm]⟩
  | f + 1, l, w, z => by
    rw [norm]
    split
    · obtain ⟨k, hk⟩ := norm_pow f (l * 256) (w * 256) (z + 8)
      refine ⟨8 + k, ?_⟩
      dsimp only
      rw [hk, Int.mul_assoc, Int.mul_assoc, Int.pow_add, Nat.add_assoc]
      rfl
    · exact ⟨0, by simp⟩
theorem weight_step {m : Nat} {s : Sta} {p : Stp} {C Tt : Int} (hs : OkSta m s) (hp : OkStp p) (hC : 0 ≤ C) (hT : 1 ≤ Tt) (h : C * 2 ^ s.2.2 ≤ s.2.1 * Tt) :
    C * p.2.1 * 4095 * 2 ^ (coded s p).2.2 ≤ (coded s p).2.1 * (Tt * p.2.2 * 4096) := by
  obtain ⟨l, w, z⟩ := s
  obtain ⟨a, c, t⟩ := p
  obtain ⟨h1, h2, h3, h4, h5⟩ := hs
  obtain ⟨p1, p2, p3, p4⟩ := hp
  dsimp only at *
  obtain ⟨k, hk⟩ := norm_pow 2 (l + w / t * a) (w / t * c) z
  have e : coded (l, w, z) (a, c, t) = ((l + w / t * a) * 2 ^ k, w / t * c * 2 ^ k, z + k) := hk
  rw [e]
  dsimp only
  have u := Int.lt_ediv_add_one_mul_self w (show 0 < t by omega)
  generalize w / t = q at u
  have u2 : w * 4095 ≤ q * t * 4096 := by
    rw [Int.add_mul, Int.one_mul] at u
    omega
  have k0 := pow_pos' k
  have hcT : 0 ≤ c * Tt := Int.mul_nonneg (by omega) (by omega)
  have a1 : C * 2 ^ z * (c * 4095 * 2 ^ k) ≤ w * Tt * (c * 4095 * 2 ^ k) := Int.mul_le_mul_of_nonneg_right h (Int.mul_nonneg (by omega) (Int.le_of_lt k0))
  have a2 : w * 4095 * (c * Tt * 2 ^ k) ≤ q * t * 4096 * (c * Tt * 2 ^ k) := Int.mul_le_mul_of_nonneg_right u2 (Int.mul_nonneg hcT (Int.le_of_lt k0))
  have e1 : C * c * 4095 * 2 ^ (z + k) = C * 2 ^ z * (c * 4095 * 2 ^ k) := by
    rw [Int.pow_add]
    generalize (2 : Int) ^ z = x
    generalize (2 : Int) ^ k = y
    simp only [Int.mul_assoc, Int.mul_comm, Int.mul_left_comm]
  have e2 : w * Tt * (c * 4095 * 2 ^ k) = w * 4095 * (c * Tt * 2 ^ k) := by
    generalize (2 : Int) ^ k = y
    simp only [Int.mul_assoc, Int.mul_comm, Int.mul_left_comm]
  have e3 : q * t * 4096 * (c * Tt * 2 ^ k) = q * c * 2 ^ k * (Tt * t * 4096) := by
    generalize (2 : Int) ^ k = y
    simp only [Int.mul_assoc, Int.mul_comm, Int.mul_left_comm]
  rw [e1, ← e3]
  omega
theorem weight_fold : ∀ (ss : List Stp) (m : Nat) (s : Sta) (C Tt : Int), OkSta m s → (∀ p, p ∈ ss → OkStp p) → 0 ≤ C → 1 ≤ Tt → C * 2 ^ s.2.2 ≤ s.2.1 * Tt →
    (ss.foldl (fun p s => p * s.2.1 * 4095) C) * 2 ^ (ss.foldl coded s).2.2 ≤ (ss.foldl coded s).2.1 * (ss.foldl (fun p s => p * s.2.2 * 4096) Tt)
  | [], m, s, C, Tt, _, _, _, _, h => h
  | p :: ss, m, s, C, Tt, hs, hp, hC, hT, h => by
    have hp0 := hp p List.mem_cons_self
    rw [List.foldl_cons, List.foldl_cons, List.foldl_cons]
    refine weight_fold ss (m + 1) (coded s p) _ _ (coded_keeps hs hp0) (fun q hq => hp q (List.mem_cons_of_mem _ hq)) ?_ ?_ (weight_step hs hp0 hC hT h)
    · exact Int.mul_nonneg (Int.mul_nonneg hC (by have := hp0.2.1; omega)) (by decide)
    · have t1 : 1 ≤ p.2.2 := by have := hp0.1; have := hp0.2.1; have := hp0.2.2.1; omega
      have : Tt * 1 ≤ Tt * p.2.2 := Int.mul_le_mul_of_nonneg_left t1 (by omega)
      omega
theorem code_within {ss : List Stp} (hp : ∀ p, p ∈ ss → OkStp p) (hl : ss.length ≤ 60) : within ss (codeOf (stateOf ss)).length = true := by
  have hs := ok_state hp
  have hf := hs.fine (by omega)
  have w := weight_fold ss 0 _ 1 1 ok_first hp (by decide) (by decide) (by decide)
  have hw : wC ss * 2 ^ (stateOf ss).2.2 ≤ (stateOf ss).2.1 * wT ss := w
  have fg := figs_ok (l := (stateOf ss).1) (w := (stateOf ss).2.1) (z := (stateOf ss).2.2) hf.2.1
  have hlen : (codeOf (stateOf ss)).length = (stateOf ss).2.2 - figs (stateOf ss) := fixedL_len
  rw [hlen]
  have hS := hs.2.2.2.2
  generalize stateOf ss = s at *
  obtain ⟨l, wd, z⟩ := s
  dsimp only at *
  generalize figs (l, wd, z) = P at *
  obtain ⟨f1, f2, f3⟩ := fg
  unfold within
  by_cases h0 : z - P = 0
  · rw [h0]; simp
  · rw [if_neg (by omega)]
    have e : (((z - P : Nat) : Int) - 1).toNat = z - P - 1 := by omega
    rw [e]
    have hP : P < z := by omega
    have nw : wd < 2 ^ (P + 1) := by
      rcases Int.lt_or_le wd (2 ^ (P + 1)) with q | q
      · exact q
      · exact absurd (hasM_pow q) (f3 hP)
    have ez : (2 : Int) ^ z = 2 ^ (z - P - 1) * 2 ^ (P + 1) := by
      conv => lhs; rw [show z = (z - P - 1) + (P + 1) by omega, Int.pow_add]
    rw [ez, ← Int.mul_assoc] at hw
    have pp := pow_pos' (P + 1)
    have hT : 0 < wT ss := by
      have : ∀ (ss : List Stp) (x : Int), (∀ p, p ∈ ss → OkStp p) → 0 < x → 0 < ss.foldl (fun p s => p * s.2.2 * 4096) x := by
        intro ss
        induction ss with
        | nil => intro x _ h; exact h
        | cons p ss ih =>
          intro x hp hx
          rw [List.foldl_cons]
          refine ih _ (fun q hq => hp q (List.mem_cons_of_mem _ hq)) ?_
          obtain ⟨b1, b2, b3, b4⟩ := hp p List.mem_cons_self
          exact Int.mul_pos (Int.mul_pos hx (by omega)) (by decide)
      exact this ss 1 hp (by decide)
    have h2 : wd * wT ss < 2 ^ (P + 1) * wT ss := Int.mul_lt_mul_of_pos_right nw hT
    have h3 : wC ss * 2 ^ (z - P - 1) * 2 ^ (P + 1) < wT ss * 2 ^ (P + 1) := by rw [Int.mul_comm (wT ss)]; omega
    exact decide_eq_true (Int.lt_of_mul_lt_mul_right h3 (Int.le_of_lt pp))
/-! whole bytes of the code -/
theorem byte_fixed (v : Int) : byteOf (fixedL v 8) = v % 256 := by
  have e : fixedL v 8 = [bitOf v 7, bitOf v 6, bitOf v 5, bitOf v 4, bitOf v 3, bitOf v 2, bitOf v 1, bitOf v 0] := rfl
  have b : ∀ j, (if bitOf v j = 49 then (1 : Int) else 0) = v / 2 ^ j % 2 := by
    intro j
    unfold bitOf
    by_cases h : v / 2 ^ j % 2 = 0
    · rw [if_pos h, if_neg (by decide), h]
    · rw [if_neg h, if_pos rfl]
      omega
  rw [e]
  unfold byteOf
  simp only [List.foldl_cons, List.foldl_nil, b]
  omega
theorem fixedL_part (X : Int) (m j : Nat) (h : j < m) : ((fixedL X (8 * m)).drop (8 * j)).take 8 = fixedL (X / 2 ^ (8 * m - 8 * (j + 1))) 8 := by
  have e1 : 8 * m = 8 * j + (8 + (8 * m - 8 * (j + 1))) := by omega
  have e2 := fixedL_app X (8 + (8 * m - 8 * (j + 1))) (8 * j)
  rw [← e1] at e2
  have hl : (fixedL (X / 2 ^ (8 + (8 * m - 8 * (j + 1)))) (8 * j)).length = 8 * j := fixedL_len
  rw [e2, List.drop_append_of_le_length (by omega), List.drop_of_length_le (by omega), List.nil_append, fixedL_app X (8 * m - 8 * (j + 1)) 8]
  have hl2 : (fixedL (X / 2 ^ (8 * m - 8 * (j + 1))) 8).length = 8 := fixedL_len
  rw [List.take_append_of_le_length (by omega), List.take_of_length_le (by omega)]
theorem sett_get (l h X : Int) (h1 : l ≤ X) (h2 : X ≤ h) : ∀ (f z j : Nat) (b : Int), (sett l h f z)[j]? = some b → 8 * (j + 1) ≤ z ∧ b = X / 2 ^ (z - 8 * (j + 1)) % 256
  | 0, z, j, b, hb => by simp [sett] at hb
  | f + 1, z, j, b, hb => by
    rw [sett] at hb
    split at hb
    · rename_i hc
      cases j with
      | zero =>
        simp at hb
        refine ⟨hc.1, ?_⟩
        have a1 := Int.ediv_le_ediv (pow_pos' (z - 8)) h1
        have a2 := Int.ediv_le_ediv (pow_pos' (z - 8)) h2
        have : X / 2 ^ (z - 8) = l / 2 ^ (z - 8) := by omega
        show b = X / 2 ^ (z - 8) % 256
        rw [this, hb]
      | succ j =>
        simp only [List.getElem?_cons_succ] at hb
        obtain ⟨c1, c2⟩ := sett_get l h X h1 h2 f (z - 8) j b hb
        refine ⟨by omega, ?_⟩
        rw [c2, show z - 8 - 8 * (j + 1) = z - 8 * (j + 1 + 1) by omega]
    · simp at hb
theorem whole_code {s : Sta} {m : Nat} (h : Fine s) (hm : s.2.2 = 8 * m) : (wholeB (fixedL (codeX s) s.2.2) m).take (settled s).length = settled s := by
  have hX := codeX_in h
  have hlen : 8 * (settled s).length ≤ s.2.2 := sett_len _ _ _ _
  refine List.ext_getElem? fun j => ?_
  by_cases hj : j < (settled s).length
  · rw [List.getElem?_take_of_lt hj]
    obtain ⟨c1, c2⟩ := sett_get s.1 (s.1 + s.2.1 - 1) (codeX s) hX.1 (by omega) s.2.2 s.2.2 j _ (List.getElem?_eq_getElem hj)
    rw [List.getElem?_eq_getElem hj]
    unfold wholeB
    rw [List.getElem?_map, List.getElem?_range (by omega), hm]
    show some (byteOf _) = some _
    rw [fixedL_part _ _ _ (by omega), byte_fixed]
    congr 1
    rw [← hm]
    exact c2.symm
  · rw [List.getElem?_eq_none (by rw [List.length_take]; omega), List.getElem?_eq_none (by omega)]
end K51
end
section
set_option linter.all false
set_option maxRecDepth 10000
namespace K51
open MP
open PySem (Operator CmpOp)
def wCell (B : List Int) (t : Sta) : Cell := .ins "RangeWriter" [("sent", .tup (B.map .int)), ("state", encSta t)]
section
variable {n : Nat} {st : Store}
theorem init_ok : Phi T G (n + 2) (.mt "RangeWriter" "__init__") [.ref st.length] (st ++ [.ins "RangeWriter" []]) = .ok .non (st ++ [wCell [] (0, 4294967296, 32)]) := by
  rw [phi_run T_m_RangeWriter_init rfl]
  have e1 : setFld (.ref st.length) "sent" (.tup []) (st ++ [.ins "RangeWriter" []]) = some (st ++ [.ins "RangeWriter" [("sent", .tup [])]]) := by
    simp [setFld, setF]
  have e2 : setFld (.ref st.length) "state" (encSta (0, 4294967296, 32)) (st ++ [.ins "RangeWriter" [("sent", .tup [])]]) = some (st ++ [wCell [] (0, 4294967296, 32)]) := by
    simp [setFld, setF, wCell]
  simp [m_RangeWriter_init, startE, e1, e2, first_ok]
  have e3 : st ++ [wCell [] (0, 4294967296, 32)] = (st ++ [Cell.ins "RangeWriter" []]).set st.length (wCell [] (0, 4294967296, 32)) := by simp
  rw [e3]
  refine callRes_nxS ?_
  simp [wCell, cellBelow, encSta, lowR]
theorem low_ints (k m : Nat) (B : List Int) : (B.map D.int).all (lowR k m) = true := by
  rw [List.all_eq_true]
  intro x hx
  obtain ⟨i, _, rfl⟩ := List.mem_map.mp hx
  cases m <;> rfl
theorem wCell_below {k : Nat} {B : List Int} {t : Sta} : cellBelow k (wCell B t) = true := by
  have h := low_ints k 7 B
  simp only [wCell, cellBelow, encSta, List.all_cons, List.all_nil, Bool.and_true]
  show (_ && _) = true
  rw [show lowR k 8 (.tup (B.map D.int)) = (B.map D.int).all (lowR k 7) from rfl, h]
  rfl
theorem code_so_far_ok {k : Nat} {B : List Int} {t : Sta} (hk : st[k]? = some (wCell B t)) (hB : OkB B) (ht : Fine t) (hl : B.length ≤ 100000) : Phi T G (n + 4) (.mt "RangeWriter" "code_so_far") [.ref k] st = .ok (.str (rstripL [48] (bitsL B ++ codeOf t))) st := by
  rw [phi_run T_m_RangeWriter_code_so_far rfl]
  have g1 : getFld (.ref k) "sent" st = some (.tup (B.map .int)) := by simp [getFld, hk, wCell, getF]
  have g2 : getFld (.ref k) "state" st = some (encSta t) := by
    simp [getFld, hk, wCell, getF]
    rfl
  have b := bits_of_ok (n := n + 1) (st := st) (fun b hb => (hB b hb).1) (show B.length ≤ 2000000 by omega)
  have c := state_code_ok (n := n) (st := st) ht
  have l1 : (bitsL B).length + (codeOf t).length ≤ 16777216 := by
    rw [bits_num B hB, fixedL_len]
    unfold codeOf
    rw [fixedL_len]
    have := ht.2.2.2
    omega
  simp [m_RangeWriter_code_so_far, startE, g1, g2, b, c, l1, callRes_rt]
theorem put_step_ok {k : Nat} {B : List Int} {t : Sta} {p : Stp} {m : Nat} (hk : st[k]? = some (wCell B t)) (ht : OkSta m (coded t p)) (hc : ∀ st, Phi T G (n + 1) (.fn "coded_state") [encSta t, encStp p] st = .ok (encSta (coded t p)) st) (hm : m ≤ 100) (hl : B.length ≤ 100000) :
    Phi T G (n + 2) (.mt "RangeWriter" "put_step") [.ref k, encStp p] st = .ok (.tup ((settled (coded t p)).map .int)) (st.set k (wCell (B ++ settled (coded t p)) (cutS (coded t p)))) := by
  rw [phi_run T_m_RangeWriter_put_step rfl]
  have hf := ht.fine (by omega)
  have hlen : 8 * (settled (coded t p)).length ≤ (coded t p).2.2 := sett_len _ _ _ _
  have hz := ht.2.2.2.2
  generalize hq : coded t p = q at *
  obtain ⟨l, w, z⟩ := q
  dsimp only at hlen hz
  have hkl : k < st.length := by
    obtain ⟨h, _⟩ := List.getElem?_eq_some_iff.mp hk
    exact h
  have g1 : getFld (.ref k) "state" st = some (encSta t) := by
    simp [getFld, hk, wCell, getF]
    rfl
  have s1 := settled_ok (n := n) (st := st) hf
  generalize hS : settled (l, w, z) = S at *
  have e : (z : Int) - 8 * (S.length : Int) = ((z - 8 * S.length : Nat) : Int) := by omega
  have o := one_shl (p := z - 8 * S.length) (by omega)
  have md : binI .Mod l (2 ^ (z - 8 * S.length)) = some (l % 2 ^ (z - 8 * S.length)) := binI_mod (pow_pos' _)
  have m8 : mulOk 8 (S.length : Int) := mul_l (by omega) (by omega)
  have f1 : setFld (.ref k) "state" (.tup [.int (l % 2 ^ (z - 8 * S.length)), .int w, .int ((z - 8 * S.length : Nat) : Int)]) st = some (st.set k (wCell B (cutS (l, w, z)))) := by
    simp [setFld, hk, wCell, setF, encSta, cutS, hS]
  have hk2 : (st.set k (wCell B (cutS (l, w, z))))[k]? = some (wCell B (cutS (l, w, z))) := List.getElem?_set_self hkl
  have g2 : getFld (.ref k) "sent" (st.set k (wCell B (cutS (l, w, z)))) = some (.tup (B.map .int)) := by simp only [getFld, hk2]; simp [wCell, getF]
  have f2 : setFld (.ref k) "sent" (.tup (B.map .int ++ S.map .int)) (st.set k (wCell B (cutS (l, w, z)))) = some (st.set k (wCell (B ++ S) (cutS (l, w, z)))) := by
    simp only [setFld, hk2]
    simp [wCell, setF]
  have a1 : (B.map D.int).length + (S.map D.int).length ≤ 16777216 := by simp; omega
  simp only [encSta] at s1 hc
  have hc2 : ∀ st, Phi T G (n + 1) (.fn "coded_state") [encSta t, encStp p] st = .ok (.tup [.int l, .int w, .int z]) st := hc
  simp [encStp] at hc2
  have a2 : B.length + S.length ≤ 16777216 := by simpa using a1
  simp [m_RangeWriter_put_step, startE, g1, encStp, hc2, s1, m8, e, o, md, f1, g2, a2, f2]
  have := callRes_rtS (st := st) (d := .tup (S.map .int)) (k := k) (c := wCell (B ++ S) (cutS (l, w, z))) (cs := []) (by simp) wCell_below
  rw [List.append_nil] at this
  exact this
end
end K51
end
section
set_option linter.all false
set_option maxRecDepth 10000
namespace K51
open MP
open PySem (Operator CmpOp)
section
variable {n : Nat} {st : Store}
theorem cls_code {k : Nat} {B : List Int} {t : Sta} (hk : st[k]? = some (wCell B t)) : clsOf G "code_so_far" (.ref k) st = some "RangeWriter" := by
  simp only [clsOf, hk, wCell]
  rfl
theorem cls_put {k : Nat} {B : List Int} {t : Sta} (hk : st[k]? = some (wCell B t)) : clsOf G "put_step" (.ref k) st = some "RangeWriter" := by
  simp only [clsOf, hk, wCell]
  rfl
theorem eqD_ints : ∀ (B : List Int), eqDs (B.map D.int) (B.map D.int) = true
  | [] => rfl
  | b :: B => by
    show (eqD (.int b) (.int b) && eqDs (B.map D.int) (B.map D.int)) = true
    rw [eqD_ints B]
    simp [eqD]
theorem dat_ints (m : Nat) (B : List Int) : (B.map D.int).all (dat m) = true := by
  rw [List.all_eq_true]
  intro x hx
  obtain ⟨i, _, rfl⟩ := List.mem_map.mp hx
  cases m <;> rfl
theorem ne_ints {B : List Int} : cmpD .NotEq (.tup (B.map .int)) (.tup (B.map .int)) st = some false := by
  show (eqO (.tup (B.map .int)) (.tup (B.map .int))).map _ = _
  have h : dat 8 (.tup (B.map D.int)) = true := dat_ints 7 B
  have e : eqO (.tup (B.map D.int)) (.tup (B.map .int)) = some true := by
    show (if _ then _ else _) = _
    rw [if_pos ⟨h, h⟩]
    show some (eqDs _ _) = _
    rw [eqD_ints]
  rw [e]
  rfl
theorem is_ints {B : List Int} (h : B.length ≤ 1000000) : Phi T G (n + 3) (.fn "_law_is") [.tup (B.map .int), .tup (B.map .int)] st = .ok (.bl true) st := by
  refine Law.is_ok isT isI 1 _ n ?_
  show (decide _ && _) = true
  rw [List.length_map, decide_eq_true h, Bool.true_and, List.all_eq_true]
  intro x hx
  obtain ⟨i, _, rfl⟩ := List.mem_map.mp hx
  rfl
theorem is_sta {s : Sta} : Phi T G (n + 3) (.fn "_law_is") [encSta s, encSta s] st = .ok (.bl true) st := Law.is_ok isT isI 1 _ n rfl
theorem is_str {s : List Nat} : Phi T G (n + 2) (.fn "_law_is") [.str s, .str s] st = .ok (.bl true) st := Law.is_ok isT isI 0 _ n rfl
theorem is_bl {s : Bool} : Phi T G (n + 2) (.fn "_law_is") [.bl s, .bl s] st = .ok (.bl true) st := Law.is_ok isT isI 0 _ n rfl
theorem is_int {s : Int} : Phi T G (n + 2) (.fn "_law_is") [.int s, .int s] st = .ok (.bl true) st := Law.is_ok isT isI 0 _ n rfl
/-! the first loop: step by step -/
def loop1 : Sms := (.cons (.asg (.name 11) (.call "coded_state" (.cons (.var 5) (.cons (.idx (.var 3) (.var 7)) .nil))))
(.cons (.asg (.name 5) (.call "_law_coded" (.cons (.var 5) (.cons (.idx (.var 3) (.var 7)) .nil))))
(.cons (.asg (.name 12) (.call "_law_settled" (.cons (.var 5) .nil)))
(.cons (.ife (.or (.not (.val (.call "_law_is" (.cons (.var 11) (.cons (.var 5) .nil))))) (.or1 (.not (.val (.call "_law_is" (.cons (.meth (.var 4) "put_step" (.cons (.idx (.var 3) (.var 7)) .nil)) (.cons (.slice false (.var 12) (.cons (.blt .len (.cons (.var 6) .nil)) .nil) .nil) .nil)))))))
(.cons (.ret (.bl false))
.nil)
.nil)
(.cons (.ife (.or (.cmp .NotEq (.slice false (.var 12) .nil (.cons (.blt .len (.cons (.var 6) .nil)) .nil)) (.var 6)) (.or1 (.not (.val (.call "_law_is" (.cons (.meth (.var 4) "code_so_far" .nil) (.cons (.call "_law_state_code" (.cons (.var 5) .nil)) .nil)))))))
(.cons (.ret (.bl false))
.nil)
.nil)
(.cons (.asg (.name 6) (.var 12))
(.cons (.ife (.and (.cmp .In (.var 7) (.tup (.cons (.int 3) (.cons (.int 11) .nil)))) (.and1 (.not (.val (.call "_law_is" (.cons (.call "settled_bytes" (.cons (.slice false (.var 3) .nil (.cons (.bin false .Add (.var 7) (.int 1)) .nil)) .nil)) (.cons (.var 12) .nil)))))))
(.cons (.ret (.bl false))
.nil)
.nil)
.nil)))))))
/-- the writer behind j steps -/
structure Inv (ss : List Stp) (j : Nat) (B : List Int) (t : Sta) : Prop where
  okB : OkB B
  fine : Fine t
  beh : Behind B t (stateOf (ss.take j))
  eq : settled (stateOf (ss.take j)) = B
theorem state_take {ss : List Stp} {j : Nat} (h : j < ss.length) : stateOf (ss.take (j + 1)) = coded (stateOf (ss.take j)) ss[j] := by
  unfold stateOf
  rw [List.take_add_one, List.getElem?_eq_getElem h, Option.toList, List.foldl_append]
  rfl
theorem take_ok {ss : List Stp} (hp : ∀ p, p ∈ ss → OkStp p) (j : Nat) : ∀ p, p ∈ ss.take j → OkStp p := fun p h => hp p (List.mem_of_mem_take h)
theorem ok_take {ss : List Stp} (hp : ∀ p, p ∈ ss → OkStp p) (hl : ss.length ≤ 60) (j : Nat) : OkSta 60 (stateOf (ss.take j)) := by
  obtain ⟨a, b, c, d, e⟩ := ok_state (take_ok hp j)
  refine ⟨a, b, c, d, ?_⟩
  have : (ss.take j).length ≤ ss.length := by rw [List.length_take]; omega
  omega
theorem turn1 {sc : D} {kk : D} {dr : D} {w : Nat} {ss : List Stp} {j : Nat} {B : List Int} {t : Sta} (hp : ∀ p, p ∈ ss → OkStp p) (hl : ss.length ≤ 60) (hj : j < ss.length) (I : Inv ss j B t) (hk : st[w]? = some (wCell B t)) :
    ∃ B' t', Inv ss (j + 1) B' t' ∧ bodyK (Phi T G (n + 6)) G [7, 11, 12] loop1 [some sc, some kk, some dr, some (.tup (ss.map encStp)), some (.ref w), some (encSta (stateOf (ss.take j))), some (.tup (B.map .int)), some (.int j), none, none, none, none, none] st
      = .nx [some sc, some kk, some dr, some (.tup (ss.map encStp)), some (.ref w), some (encSta (stateOf (ss.take (j + 1)))), some (.tup (B'.map .int)), none, none, none, none, none, none] (st.set w (wCell B' t')) := by
  have hp0 := hp ss[j] (List.getElem_mem hj)
  have hs0 := ok_take hp hl j
  have hs1 := ok_take hp hl (j + 1)
  rw [state_take hj] at hs1 ⊢
  obtain ⟨okB, ft, beh, heq⟩ := I
  generalize hs : stateOf (ss.take j) = s at *
  have beh2 := coded_behind ss[j] beh
  have fs2 := hs1.fine (by omega)
  have ht : OkSta 60 t := by
    obtain ⟨a1, a2, a3, a4, a5⟩ := hs0
    unfold Behind at beh
    rw [beh] at a2 a3 a5
    exact ⟨ft.1, a2, a3, ft.2.2.1, by have : t.2.2 + 8 * B.length ≤ 32 + 16 * 60 := a5; omega⟩
  have ht2 := coded_keeps ht hp0
  have ft2 := ht2.fine (by omega)
  obtain ⟨k1, k2, k3⟩ := cut_behind okB ft2 beh2
  have k4 := settled_behind okB ft2 beh2
  have hlB : 8 * (B ++ settled (coded t ss[j])).length ≤ (coded s ss[j]).2.2 := by rw [← k4]; exact sett_len _ _ _ _
  have hz := hs1.2.2.2.2
  have hst : stateOf (ss.take (j + 1)) = coded s ss[j] := by rw [state_take hj, hs]
  refine ⟨B ++ settled (coded t ss[j]), cutS (coded t ss[j]), ⟨k2, k1, by rw [hst]; exact k3, by rw [hst]; exact k4⟩, ?_⟩
  have c1 := coded_pw (n := n + 5) (st := st) hs0 hp0 (by omega)
  have c2 := coded_lw (n := n + 5) (st := st) hs0 hp0
  have c3 := lsettled_ok (n := n + 5) (st := st) fs2
  rw [k4] at c3
  have i1 : idxD (.tup (ss.map encStp)) (.int j) st = some (encStp ss[j]) := by
    rw [idx_tup, List.length_map, ixn_nat hj]
    simp [hj]
  have q1 := is_sta (n := n + 3) (st := st) (s := coded s ss[j])
  have m1 := cls_put hk
  have p1 := put_step_ok (n := n + 4) (st := st) hk ht2 (fun st => coded_pw ht hp0 (by omega)) (by omega) (by rw [List.length_append] at hlB; omega)
  generalize hS : settled (coded t ss[j]) = S at *
  generalize hT : cutS (coded t ss[j]) = t' at *
  rw [List.length_append] at hlB
  have q2 := is_ints (n := n + 3) (st := st.set w (wCell (B ++ S) t')) (B := S) (by omega)
  have s1 : cut ((B ++ S).map D.int) (some (B.length : Int)) none = S.map D.int := by
    rw [cut_from, List.map_append, List.drop_append_of_le_length (by rw [List.length_map]; omega), List.drop_of_length_le (by rw [List.length_map]; omega), List.nil_append]
  have s2 : cut ((B ++ S).map D.int) none (some (B.length : Int)) = B.map D.int := by
    rw [cut_to, List.map_append, List.take_append_of_le_length (by rw [List.length_map]; omega), List.take_of_length_le (by rw [List.length_map]; omega)]
  have hw : w < st.length := by
    obtain ⟨h, _⟩ := List.getElem?_eq_some_iff.mp hk
    exact h
  have hk2 : (st.set w (wCell (B ++ S) t'))[w]? = some (wCell (B ++ S) t') := List.getElem?_set_self hw
  have m2 := cls_code hk2
  have p2 := code_so_far_ok (n := n + 2) hk2 k2 k1 (by rw [List.length_append]; omega)
  rw [code_behind k2 k1 k3 fs2] at p2
  have p3 := lstate_code_ok (n := n + 4) (st := st.set w (wCell (B ++ S) t')) fs2 (by omega)
  have q3 := is_str (n := n + 4) (st := st.set w (wCell (B ++ S) t')) (s := codeOf (coded s ss[j]))
  have sb := settled_bytes_ok (n := n + 3) (st := st.set w (wCell (B ++ S) t')) (take_ok hp (j + 1)) (by rw [List.length_take]; omega)
  rw [hst, k4] at sb
  have q4 := is_ints (n := n + 3) (st := st.set w (wCell (B ++ S) t')) (B := B ++ S) (by rw [List.length_append]; omega)
  have s3 : cut (ss.map encStp) none (some ((j : Int) + 1)) = (ss.take (j + 1)).map encStp := by
    have : ((j : Int) + 1) = ((j + 1 : Nat) : Int) := by omega
    rw [this, cut_to, List.map_take]
  have ne := ne_ints (st := st.set w (wCell (B ++ S) t')) (B := B)
  have hin : cmpD .In (.int j) (.tup [.int 3, .int 11]) (st.set w (wCell (B ++ S) t')) = some (isIn (.int j) [.int 3, .int 11]) := rfl
  generalize hb : isIn (.int j) [.int 3, .int 11] = b at hin
  have hx : ixn ss.length (j : Int) = some j := ixn_nat hj
  simp only [encSta] at q1 c1 c2 c3 p3
  simp at s1 s2 s3 ne c3 q2 q4 sb
  simp [loop1, encSta, hx, hj, c1, c2, c3, q1, m1, p1, s1, q2, s2, ne, m2, p2, p3, q3, hin]
  cases b with
  | false => simp
  | true => simp [s3, sb, q4]
end
end K51
end
section
set_option linter.all false
set_option maxRecDepth 10000
namespace K51
open MP
open PySem (Operator CmpOp)
section
variable {n : Nat} {st : Store}
theorem inv_zero (ss : List Stp) : Inv ss 0 [] (0, 4294967296, 32) := by
  refine ⟨fun b hb => by simp at hb, ⟨by decide, by decide, by decide, by decide⟩, ?_, ?_⟩
  · show stateOf [] = _
    rfl
  · show settled (stateOf []) = []
    decide +kernel
theorem loop1_ok {sc kk dr : D} {ss : List Stp} (hp : ∀ p, p ∈ ss → OkStp p) (hl : ss.length ≤ 60) :
    ∃ B t, Inv ss ss.length B t ∧ frL .non [] (bindT [7] true) (bodyK (Phi T G (n + 6)) G [7, 11, 12] loop1) ((List.range ss.length).map fun (i : Nat) => .int (0 + (i : Int) * 1))
      [some sc, some kk, some dr, some (.tup (ss.map encStp)), some (.ref st.length), some (encSta (0, 4294967296, 32)), some (.tup []), none, none, none, none, none, none] (st ++ [wCell [] (0, 4294967296, 32)])
      = .nx [some sc, some kk, some dr, some (.tup (ss.map encStp)), some (.ref st.length), some (encSta (stateOf ss)), some (.tup (B.map .int)), none, none, none, none, none, none] (st ++ [wCell B t]) := by
  have key := frL_inv (src := .non) (all := []) (bnd := bindT [7] true) (f := fun (i : Nat) => D.int (0 + (i : Int) * 1)) (body := bodyK (Phi T G (n + 6)) G [7, 11, 12] loop1)
    (fun l ρ st' => ∃ j B t, l = List.range' j (ss.length - j) ∧ j ≤ ss.length ∧ Inv ss j B t ∧ ρ = [some sc, some kk, some dr, some (.tup (ss.map encStp)), some (.ref st.length), some (encSta (stateOf (ss.take j))), some (.tup (B.map .int)), none, none, none, none, none, none] ∧ st' = st ++ [wCell B t])
    (fun _ _ _ _ => still_non) (by
      rintro i l ρ st' ⟨j, B, t, e, hj, I, rfl, rfl⟩
      have hlt : j < ss.length := by
        rcases Nat.lt_or_ge j ss.length with q | q
        · exact q
        · rw [show ss.length - j = 0 by omega] at e; simp at e
      rw [show ss.length - j = (ss.length - (j + 1)) + 1 by omega, List.range'_succ] at e
      injection e with e1 e2
      subst e1
      obtain ⟨B', t', I', h⟩ := turn1 (n := n) (sc := sc) (kk := kk) (dr := dr) (st := st ++ [wCell B t]) (w := st.length) hp hl hlt I get_end
      rw [set_end] at h
      refine ⟨_, by simp only [bnd_1, List.set]; rfl, _, _, ?_, i + 1, B', t', e2, hlt, I', rfl, rfl⟩
      rw [show (0 : Int) + (i : Int) * 1 = i by omega]
      exact h)
    (List.range ss.length) _ _ ⟨0, [], (0, 4294967296, 32), by rw [List.range_eq_range']; rfl, Nat.zero_le _, inv_zero ss, rfl, rfl⟩
  obtain ⟨ρ', st', e1, j, B, t, e2, hj, I, e3, e4⟩ := key
  have hj2 : j = ss.length := by
    have := congrArg List.length e2
    rw [List.length_range', List.length_nil] at this
    omega
  subst hj2 e3 e4
  rw [List.take_length] at e1
  exact ⟨B, t, I, e1⟩
theorem norm_mod (f : Nat) : ∀ (s : Sta), (norm f s).2.2 % 8 = s.2.2 % 8 := by
  induction f with
  | zero => intro s; rfl
  | succ f ih =>
    intro s
    rw [norm]
    split
    · rw [ih]
      show (s.2.2 + 8) % 8 = _
      omega
    · rfl
theorem state_mod : ∀ (ss : List Stp) (s : Sta), (ss.foldl coded s).2.2 % 8 = s.2.2 % 8
  | [], s => rfl
  | p :: ss, s => by
    rw [List.foldl_cons, state_mod ss, coded, norm_mod]
/-! the last loop -/
def loop2 : Sms := (.cons (.ife (.not (.val (.call "_law_is" (.cons (.call "is_within_weight" (.cons (.var 3) (.cons (.var 10) .nil))) (.cons (.call "_law_within" (.cons (.var 3) (.cons (.var 10) .nil))) .nil)))))
(.cons (.ret (.bl false))
.nil)
.nil)
.nil)
theorem loop2_ok {d0 d1 d2 d4 d5 d6 d7 d8 d9 d11 d12 : Option D} {src : List D} {all : List D} {ss : List Stp} (hp : ∀ p, p ∈ ss → OkStp p) (hl : ss.length ≤ 60) : ∀ (l : List Int) (d10 : Option D),
    frL (.tup src) all (bindT [10] true) (bodyK (Phi T G (n + 6)) G [10] loop2) (l.map .int) [d0, d1, d2, some (.tup (ss.map encStp)), d4, d5, d6, d7, d8, d9, none, d11, d12] st
      = .nx [d0, d1, d2, some (.tup (ss.map encStp)), d4, d5, d6, d7, d8, d9, none, d11, d12] st
  | [], _ => by simp [frL]
  | x :: l, _ => by
    have a := is_within_ok (n := n + 4) (st := st) (x := x) hp hl
    have b := lwithin_ok (n := n + 5) (st := st) (x := x) hp hl
    have c := is_bl (n := n + 4) (st := st) (s := within ss x)
    have r := loop2_ok (d0 := d0) (d1 := d1) (d2 := d2) (d4 := d4) (d5 := d5) (d6 := d6) (d7 := d7) (d8 := d8) (d9 := d9) (d11 := d11) (d12 := d12) (src := src) (all := all) hp hl l none
    rw [List.map_cons, frL, if_pos still_tup]
    simp only [bnd_1, List.set]
    have e : bodyK (Phi T G (n + 6)) G [10] loop2 [d0, d1, d2, some (.tup (ss.map encStp)), d4, d5, d6, d7, d8, d9, some (.int x), d11, d12] st = .nx [d0, d1, d2, some (.tup (ss.map encStp)), d4, d5, d6, d7, d8, d9, none, d11, d12] st := by
      simp [loop2, a, b, c]
    rw [e]
    exact r
theorem loop2_first {d0 d1 d2 d4 d5 d6 d7 d8 d9 d10 d11 d12 : Option D} {src : List D} {all : List D} {ss : List Stp} (hp : ∀ p, p ∈ ss → OkStp p) (hl : ss.length ≤ 60) (x : Int) (l : List Int) :
    frL (.tup src) all (bindT [10] true) (bodyK (Phi T G (n + 6)) G [10] loop2) ((x :: l).map .int) [d0, d1, d2, some (.tup (ss.map encStp)), d4, d5, d6, d7, d8, d9, d10, d11, d12] st
      = .nx [d0, d1, d2, some (.tup (ss.map encStp)), d4, d5, d6, d7, d8, d9, none, d11, d12] st := by
  have r := loop2_ok (n := n) (st := st) (d0 := d0) (d1 := d1) (d2 := d2) (d4 := d4) (d5 := d5) (d6 := d6) (d7 := d7) (d8 := d8) (d9 := d9) (d11 := d11) (d12 := d12) (src := src) (all := all) hp hl (x :: l) none
  rw [List.map_cons, frL, if_pos still_tup] at r ⊢
  exact r
def loopK : Sms := match f_law.body with
  | .cons (.fr _ _ _ b _) _ => b
  | _ => .nil
theorem first_code : codeOf (0, 4294967296, 32) = [] := by decide +kernel
theorem turnK {ns : List Int} {k : Nat} (hk : k < 3) : ∃ st', bodyK (Phi T G (n + 6)) G [1, 2, 3, 4, 5, 6, 7, 8, 9, 10, 11, 12] loopK [some (.scr (ns.map .int)), some (.int k), none, none, none, none, none, none, none, none, none, none, none] st
    = .nx [some (.scr (ns.map .int)), none, none, none, none, none, none, none, none, none, none, none, none] st' := by
  obtain ⟨c, hc⟩ := Law.cell_ok (n := n + 5) (G := G) (st := st) (ns := ns) (k := k) cT
  obtain ⟨ds, hd1, hd2, hd3⟩ := Law.draws_ok (n := n + 5) (G := G) (st := st) (c := c) (k := 90) dT (by decide)
  have h0 := hd2 ds[0] (List.getElem_mem _)
  obtain ⟨z, hz⟩ : ∃ z : Nat, ds[0] % 25 = z := ⟨(ds[0] % 25).toNat, by omega⟩
  obtain ⟨ss, hs1, hs2, hs3⟩ := made_ok (n := n + 5) (st := st) (ds := ds.drop 2) (k := z) (fun d hd => (hd2 d (List.mem_of_mem_drop hd)).1) (by rw [List.length_drop]; omega) (by omega)
  have hl : ss.length ≤ 60 := by omega
  obtain ⟨B, t, I, h1⟩ := loop1_ok (n := n) (st := st) (sc := .scr (ns.map .int)) (kk := .int k) (dr := .lst (ds.map .int)) hs2 hl
  obtain ⟨okB, ft, beh, heq⟩ := I
  rw [List.take_length] at beh heq
  have hs := ok_state hs2
  have fs := hs.fine (by omega)
  have hS := hs.2.2.2.2
  have x0 : idxD (.lst (ds.map .int)) (.int 0) st = some (.int ds[0]) := by
    rw [idx_lst, List.length_map, ixn_0 (by omega)]
    simp [hd1]
  have s0 : cut (ds.map D.int) (some 2) none = (ds.drop 2).map D.int := by
    rw [show (2 : Int) = ((2 : Nat) : Int) from rfl, cut_from, List.map_drop]
  have hw : (st ++ [wCell [] (0, 4294967296, 32)])[st.length]? = some (wCell [] (0, 4294967296, 32)) := get_end
  have cl := cls_code hw
  have c0 := code_so_far_ok (n := n + 2) hw (inv_zero ss).okB (inv_zero ss).fine (by decide)
  rw [first_code] at c0
  have c0 : Phi T G (n + 6) (.mt "RangeWriter" "code_so_far") [.ref st.length] (st ++ [wCell [] (0, 4294967296, 32)]) = .ok (.str []) (st ++ [wCell [] (0, 4294967296, 32)]) := c0
  have r1 := rng_1 (j := (ss.length : Int)) (by omega) (by omega)
  rw [Int.toNat_natCast, rngL_map] at r1
  have q0 := is_str (n := n + 4) (st := st ++ [wCell [] (0, 4294967296, 32)]) (s := [])
  generalize hst2 : st ++ [wCell B t] = st2 at *
  have a1 := lstate_code_ok (n := n + 4) (st := st2) fs (by omega)
  have a2 := state_of_ok (n := n + 4) (st := st2) hs2 hl
  have a3 := is_sta (n := n + 3) (st := st2) (s := stateOf ss)
  have a4 := code_of_ok (n := n + 2) (st := st2) hs2 hl
  have a5 := is_str (n := n + 4) (st := st2) (s := codeOf (stateOf ss))
  have a6 := code_len_ok (n := n + 3) (st := st2) hs2 hl
  have a7 := is_int (n := n + 4) (st := st2) (s := (codeOf (stateOf ss)).length)
  have a8 := settled_bytes_ok (n := n + 3) (st := st2) hs2 hl
  have hB : 8 * B.length ≤ (stateOf ss).2.2 := by rw [← heq]; exact sett_len _ _ _ _
  have a9 := is_ints (n := n + 3) (st := st2) (B := B) (by omega)
  rw [heq] at a8
  have b1 := lwithin_ok (n := n + 5) (st := st2) (x := (codeOf (stateOf ss)).length) hs2 hl
  have b2 := is_within_ok (n := n + 4) (st := st2) (x := (codeOf (stateOf ss)).length) hs2 hl
  rw [code_within hs2 hl] at b1 b2
  have b3 := is_bl (n := n + 4) (st := st2) (s := true)
  have hf := figs_le fs
  have hcl : (codeOf (stateOf ss)).length = (stateOf ss).2.2 - figs (stateOf ss) := fixedL_len
  have e1 : ((stateOf ss).2.2 : Int) - ((codeOf (stateOf ss)).length : Int) = (figs (stateOf ss) : Int) := by omega
  have b4 : binD false .Mult (.str [48]) (.int (figs (stateOf ss) : Nat)) st2 = .ok (.str (List.replicate (figs (stateOf ss)) 48)) st2 := by
    rw [bin_mulS0 ⟨by omega, by omega, by simp [line]; omega⟩]
    simp [reps]
  have b5 := code_full fs
  have b6 : (codeOf (stateOf ss)).length + figs (stateOf ss) ≤ 16777216 := by omega
  have hm8 : (stateOf ss).2.2 % 8 = 0 := state_mod ss (0, 4294967296, 32)
  have b7 := whole_ok (n := n + 5) (st := st2) (bits := fixedL (codeX (stateOf ss)) (stateOf ss).2.2) (m := (stateOf ss).2.2 / 8) (by rw [fixedL_len]; omega) (by omega)
  have b8 := whole_code (m := (stateOf ss).2.2 / 8) fs (by omega)
  rw [heq] at b8
  have b9 : cut ((wholeB (fixedL (codeX (stateOf ss)) (stateOf ss).2.2) ((stateOf ss).2.2 / 8)).map D.int) none (some (B.length : Int)) = B.map D.int := by
    rw [cut_to, ← List.map_take, b8]
  have d1 := ne_ints (st := st2) (B := B)
  have d2 : (fixedL (codeX (stateOf ss)) (stateOf ss).2.2).length = (stateOf ss).2.2 := fixedL_len
  have x1 : idxD (.lst (ds.map .int)) (.int 1) st2 = some (.int ds[1]) := by
    rw [idx_lst, List.length_map, ixn_1 (by omega)]
    simp [hd1]
  have pw : binI .Pow 10 20 = some 100000000000000000000 := by
    rw [binI_pow (by decide)]
    rfl
  simp only [encSta, loop1] at h1 a1 a2 a3
  simp at x0 s0 r1 h1 b9 d1 b1 b2 a7 a8 a9 hd3 hs3
  refine ⟨st2, ?_⟩
  have e25 : (ds[0] : Int) % 25 = (z : Int) := hz
  have hx0 : ixn 90 0 = some 0 := by decide
  simp [loopK, f_law, hc, hd3, hd1, s0, e25, hs3, init_ok, cl, c0, q0, r1, h1, encSta, a1, a2, a3, a4, a5, a6, a7, a8, a9, b1, b2, b3, e1, b4, ← b5, b6, b7, b8, b9, d1, d2, x1, pw]
  have h2 := loop2_first (n := n) (st := st2) (d0 := some (.scr (ns.map .int))) (d1 := some (.int k)) (d2 := some (.lst (ds.map .int))) (d4 := some (.ref st.length)) (d5 := some (.tup [.int (stateOf ss).1, .int (stateOf ss).2.1, .int (stateOf ss).2.2])) (d6 := some (.tup (B.map .int))) (d7 := none) (d8 := some (.str (codeOf (stateOf ss)))) (d9 := some (.str (fixedL (codeX (stateOf ss)) (stateOf ss).2.2)))
    (d10 := some (.int (codeOf (stateOf ss)).length)) (d11 := none) (d12 := none) (src := [.int 0, .int 1, .int ((codeOf (stateOf ss)).length + 1), .int ((codeOf (stateOf ss)).length + 2), .int ((codeOf (stateOf ss)).length + 9), .int (-1), .int 100000000000000000000, .int (-100000000000000000000), .int (ds[1] % 400)])
    (all := [.int 0, .int 1, .int ((codeOf (stateOf ss)).length + 1), .int ((codeOf (stateOf ss)).length + 2), .int ((codeOf (stateOf ss)).length + 9), .int (-1), .int 100000000000000000000, .int (-100000000000000000000), .int (ds[1] % 400)])
    hs2 hl 0 [1, ((codeOf (stateOf ss)).length + 1 : Int), ((codeOf (stateOf ss)).length + 2 : Int), ((codeOf (stateOf ss)).length + 9 : Int), -1, 100000000000000000000, -100000000000000000000, ds[1] % 400]
  simp only [loop2, List.map_cons, List.map_nil] at h2
  rw [h2]
  simp
end
end K51
end
section
set_option linter.all false
set_option maxRecDepth 10000
namespace K51
open MP
open PySem (Operator CmpOp)
theorem loopK_eq : f_law.body = .cons (.fr [1] true (.rng (.cons (.int 3) .nil)) loopK [1, 2, 3, 4, 5, 6, 7, 8, 9, 10, 11, 12]) (match f_law.body with
  | .cons _ r => r
  | _ => .nil) := rfl
theorem two_code : codeOf (stateOf [(1, 1, 2), (0, 1, 4)]) = [49] := by decide +kernel
theorem zero_set : settled (stateOf []) = [] := by decide +kernel
theorem law_true (ns : List Int) : ∃ st', Phi T G 12 (.fn "law") [.scr (ns.map .int)] [] = .ok (.bl true) st' := by
  rw [phi_run (n := 11) T_f_law rfl, loopK_eq]
  have key := frL_inv (src := .non) (all := []) (bnd := bindT [1] true) (f := fun (i : Nat) => D.int (0 + (i : Int) * 1)) (body := bodyK (Phi T G 11) G [1, 2, 3, 4, 5, 6, 7, 8, 9, 10, 11, 12] loopK)
    (fun l ρ _ => ρ = [some (.scr (ns.map .int)), none, none, none, none, none, none, none, none, none, none, none, none] ∧ ∀ i, i ∈ l → i < 3)
    (fun _ _ _ _ => still_non) (by
      rintro i l ρ st ⟨rfl, h⟩
      obtain ⟨st', e⟩ := turnK (n := 5) (ns := ns) (st := st) (h i List.mem_cons_self)
      refine ⟨_, by simp only [bnd_1, List.set]; rfl, _, st', ?_, rfl, fun j hj => h j (List.mem_cons_of_mem _ hj)⟩
      rw [show (0 : Int) + (i : Int) * 1 = i by omega]
      exact e)
    (List.range 3) _ [] ⟨rfl, fun i hi => List.mem_range.mp hi⟩
  obtain ⟨ρ', st', e1, rfl, _⟩ := key
  have r1 := rng_1 (j := 3) (by omega) (by omega)
  rw [rngL_map] at r1
  have p0 : ∀ p : Stp, p ∈ ([] : List Stp) → OkStp p := fun p h => by simp at h
  have p2 : ∀ p : Stp, p ∈ ([(1, 1, 2), (0, 1, 4)] : List Stp) → OkStp p := by
    intro p h
    simp at h
    rcases h with rfl | rfl
    · exact ⟨by decide, by decide, by decide, by decide⟩
    · exact ⟨by decide, by decide, by decide, by decide⟩
  have a1 := settled_bytes_ok (n := 8) (st := st') (ss := []) p0 (by decide)
  rw [zero_set] at a1
  have a2 := is_ints (n := 8) (st := st') (B := []) (by decide)
  have a3 := code_of_ok (n := 7) (st := st') (ss := []) p0 (by decide)
  rw [show codeOf (stateOf []) = [] from first_code] at a3
  have a4 := is_str (n := 9) (st := st') (s := [])
  have a5 := code_len_ok (n := 8) (st := st') (ss := []) p0 (by decide)
  rw [show codeOf (stateOf []) = [] from first_code] at a5
  have a6 := is_int (n := 9) (st := st') (s := 0)
  have a7 := state_of_ok (n := 9) (st := st') (ss := []) p0 (by decide)
  have a8 := is_sta (n := 8) (st := st') (s := (0, 4294967296, 32))
  rw [show stateOf [] = (0, 4294967296, 32) from rfl] at a7
  have a9 := code_of_ok (n := 7) (st := st') (ss := [(1, 1, 2), (0, 1, 4)]) p2 (by decide)
  rw [two_code] at a9
  have b1 := is_str (n := 9) (st := st') (s := [49])
  simp only [encSta] at a7 a8
  simp [encStp] at a1 a2 a3 a5 a7 a8 a9 e1 r1
  refine ⟨[], ?_⟩
  generalize loopK = lk at e1
  simp [f_law, startE, r1, e1, a1, a2, a3, a4, a5, a6, a7, a8, a9, b1]
  exact callRes_rtA (st := []) (cs := st') rfl
end K51
end
section
set_option Elab.async false
set_option linter.all false
set_option maxRecDepth 100000
set_option maxHeartbeats 0
namespace K51
open PySem PySem.Spec PyProof.Rows L2
open MP (Fn FnF Wf Phi Gb Tb namesOf psOf)

def top (i : Nat) : Stmt := PySem.Challenge.pw_psaltery_k51_whole_codes_of_steps.main.body.getD i (.Pass ⟨0, 0, 0, 0⟩)
def tb : Tb := ⟨["_law_cell", "_law_coded", "_law_draws", "_law_fixed", "_law_is", "_law_is_integer", "_law_made_steps", "_law_settled", "_law_state_code", "_law_whole_bytes", "_law_within", "bits_of", "code_length", "code_of_steps", "coded_state", "first_state", "fixed", "free_figures", "has_multiple", "is_within_weight", "settled_bytes", "size_of", "state_code", "state_of_steps", "state_settled", "weight_pair", "law"], ["RangeWriter"], ["sent", "state"], ["abs", "all", "bool", "int", "isinstance", "len", "range", "str", "tuple"], ["BEGINNING", "LEAST", "LOSS", "MOST_LENGTH"]⟩
def d_f_fixed : He.DefD := ⟨("fixed", none), "fixed", "fixed", defArgs (top 1), defBody (top 1), defScope (top 1), [], []⟩
def d_f_size_of : He.DefD := ⟨("size_of", none), "size_of", "size_of", defArgs (top 2), defBody (top 2), defScope (top 2), [], []⟩
def d_f_bits_of : He.DefD := ⟨("bits_of", none), "bits_of", "bits_of", defArgs (top 4), defBody (top 4), defScope (top 4), [], []⟩
def d_f_weight_pair : He.DefD := ⟨("weight_pair", none), "weight_pair", "weight_pair", defArgs (top 6), defBody (top 6), defScope (top 6), [], []⟩
def d_f_first_state : He.DefD := ⟨("first_state", none), "first_state", "first_state", defArgs (top 12), defBody (top 12), defScope (top 12), [], []⟩
def d_f_coded_state : He.DefD := ⟨("coded_state", none), "coded_state", "coded_state", defArgs (top 13), defBody (top 13), defScope (top 13), [], []⟩
def d_f_state_of_steps : He.DefD := ⟨("state_of_steps", none), "state_of_steps", "state_of_steps", defArgs (top 14), defBody (top 14), defScope (top 14), [], []⟩
def d_f_has_multiple : He.DefD := ⟨("has_multiple", none), "has_multiple", "has_multiple", defArgs (top 15), defBody (top 15), defScope (top 15), [], []⟩
def d_f_free_figures : He.DefD := ⟨("free_figures", none), "free_figures", "free_figures", defArgs (top 16), defBody (top 16), defScope (top 16), [], []⟩
def d_f_state_code : He.DefD := ⟨("state_code", none), "state_code", "state_code", defArgs (top 17), defBody (top 17), defScope (top 17), [], []⟩
def d_f_state_settled : He.DefD := ⟨("state_settled", none), "state_settled", "state_settled", defArgs (top 18), defBody (top 18), defScope (top 18), [], []⟩
def d_f_code_of_steps : He.DefD := ⟨("code_of_steps", none), "code_of_steps", "code_of_steps", defArgs (top 19), defBody (top 19), defScope (top 19), [], []⟩
def d_f_code_length : He.DefD := ⟨("code_length", none), "code_length", "code_length", defArgs (top 20), defBody (top 20), defScope (top 20), [], []⟩
def d_f_settled_bytes : He.DefD := ⟨("settled_bytes", none), "settled_bytes", "settled_bytes", defArgs (top 21), defBody (top 21), defScope (top 21), [], []⟩
def d_f_is_within_weight : He.DefD := ⟨("is_within_weight", none), "is_within_weight", "is_within_weight", defArgs (top 22), defBody (top 22), defScope (top 22), [], []⟩
def d_m_RangeWriter_init : He.DefD := ⟨("RangeWriter", some "__init__"), "__init__", "RangeWriter.__init__", defArgs (inClass (top 23) 0), defBody (inClass (top 23) 0), defScope (inClass (top 23) 0), [], []⟩
def d_m_RangeWriter_put_step : He.DefD := ⟨("RangeWriter", some "put_step"), "put_step", "RangeWriter.put_step", defArgs (inClass (top 23) 1), defBody (inClass (top 23) 1), defScope (inClass (top 23) 1), [], []⟩
def d_m_RangeWriter_code_so_far : He.DefD := ⟨("RangeWriter", some "code_so_far"), "code_so_far", "RangeWriter.code_so_far", defArgs (inClass (top 23) 2), defBody (inClass (top 23) 2), defScope (inClass (top 23) 2), [], []⟩
def d_g_cell : He.DefD := ⟨("_law_cell", none), "_law_cell", "_law_cell", defArgs (top 25), defBody (top 25), defScope (top 25), [], []⟩
def d_g_draws : He.DefD := ⟨("_law_draws", none), "_law_draws", "_law_draws", defArgs (top 26), defBody (top 26), defScope (top 26), [], []⟩
def d_g_is_integer : He.DefD := ⟨("_law_is_integer", none), "_law_is_integer", "_law_is_integer", defArgs (top 27), defBody (top 27), defScope (top 27), [], []⟩
def d_g_is : He.DefD := ⟨("_law_is", none), "_law_is", "_law_is", defArgs (top 28), defBody (top 28), defScope (top 28), [], []⟩
def d_g_fixed : He.DefD := ⟨("_law_fixed", none), "_law_fixed", "_law_fixed", defArgs (top 29), defBody (top 29), defScope (top 29), [], []⟩
def d_g_whole_bytes : He.DefD := ⟨("_law_whole_bytes", none), "_law_whole_bytes", "_law_whole_bytes", defArgs (top 30), defBody (top 30), defScope (top 30), [], []⟩
def d_g_coded : He.DefD := ⟨("_law_coded", none), "_law_coded", "_law_coded", defArgs (top 31), defBody (top 31), defScope (top 31), [], []⟩
def d_g_state_code : He.DefD := ⟨("_law_state_code", none), "_law_state_code", "_law_state_code", defArgs (top 32), defBody (top 32), defScope (top 32), [], []⟩
def d_g_made_steps : He.DefD := ⟨("_law_made_steps", none), "_law_made_steps", "_law_made_steps", defArgs (top 33), defBody (top 33), defScope (top 33), [], []⟩
def d_g_settled : He.DefD := ⟨("_law_settled", none), "_law_settled", "_law_settled", defArgs (top 34), defBody (top 34), defScope (top 34), [], []⟩
def d_g_within : He.DefD := ⟨("_law_within", none), "_law_within", "_law_within", defArgs (top 35), defBody (top 35), defScope (top 35), [], []⟩
def d_f_law : He.DefD := ⟨("law", none), "law", "law", defArgs (top 36), defBody (top 36), defScope (top 36), [], []⟩
def fn0 : List He.DefD := [d_f_fixed, d_f_size_of, d_f_bits_of, d_f_weight_pair, d_f_first_state, d_f_coded_state, d_f_state_of_steps, d_f_has_multiple, d_f_free_figures, d_f_state_code, d_f_state_settled, d_f_code_of_steps, d_f_code_length, d_f_settled_bytes, d_f_is_within_weight, d_m_RangeWriter_init, d_m_RangeWriter_put_step, d_m_RangeWriter_code_so_far, d_g_cell, d_g_draws, d_g_is_integer, d_g_is, d_g_fixed, d_g_whole_bytes, d_g_coded, d_g_state_code, d_g_made_steps, d_g_settled, d_g_within, d_f_law]
def fn : List He.DefD := fn0
def fa0 : List He.Fa := [.glo "_law_cell", .glo "_law_coded", .glo "_law_draws", .glo "_law_fixed", .glo "_law_is", .glo "_law_is_integer", .glo "_law_made_steps", .glo "_law_settled", .glo "_law_state_code", .glo "_law_whole_bytes", .glo "_law_within", .glo "bits_of", .glo "code_length", .glo "code_of_steps", .glo "coded_state", .glo "first_state", .glo "fixed", .glo "free_figures", .glo "has_multiple", .glo "is_within_weight", .glo "settled_bytes", .glo "size_of", .glo "state_code", .glo "state_of_steps", .glo "state_settled", .glo "weight_pair", .glo "law", .free "abs", .free "all", .free "bool"]
def fa1 : List He.Fa := [.free "int", .free "isinstance", .free "len", .free "range", .free "str", .free "tuple", .int "BEGINNING" 32, .int "LEAST" 16777216, .int "LOSS" 4096, .int "MOST_LENGTH" 20000, .glo "RangeWriter", .cls "RangeWriter", .mkr "RangeWriter", .meth "RangeWriter" "put_step", .meth "RangeWriter" "code_so_far", .noat "RangeWriter" "sent", .noat "RangeWriter" "state"]
def fa : List He.Fa := fa0 ++ fa1
abbrev R : PySem.W.OpenRow := PySem.W.OpenLaw.row PySem.Challenge.rw_psaltery_k51_whole_codes_of_steps
abbrev hk : PySem.W.Hook := He.hookD 6 fa fn
def ob (s : PySem.W.SharedT) : He.AlD := He.obsDG 6 fa fn (HandSHeadRun.getT s)
theorem ob_eq (s : PySem.W.SharedT) : ob s = hk.obs s.abs := He.obsDG_eq (HandSHeadRun.getT_eq s)
def loose0 : List Str := ["__name__", "fixed", "size_of", "bits_of", "weight_pair", "BEGINNING", "LEAST", "LOSS", "MOST_LENGTH", "first_state", "coded_state", "state_of_steps", "has_multiple", "free_figures", "state_code", "state_settled", "code_of_steps", "code_length", "settled_bytes", "is_within_weight", "RangeWriter", "_law_cell", "_law_draws", "_law_is_integer", "_law_is", "_law_fixed", "_law_whole_bytes", "_law_coded", "_law_state_code", "_law_made_steps"]
def loose1 : List Str := ["_law_settled", "_law_within"]
def loose : List Str := loose0 ++ loose1
theorem run (w : World) : HandSHeadRun.RunEq R (PySem.W.view R.prog [36]) hk ob 20000 loose w := by
  intro os
  kernel_rfl
theorem s_f_fixed : FnScope (namesOf f_fixed) (psOf f_fixed) d_f_fixed.scope := ⟨rfl, rfl, rfl, by decide +kernel, by decide +kernel, by decide +kernel, by decide +kernel⟩
theorem c_f_fixed : MP.cSs tb (namesOf f_fixed) d_f_fixed.scope (fun _ => true) f_fixed.body d_f_fixed.body = true := by decide +kernel
theorem s_f_size_of : FnScope (namesOf f_size_of) (psOf f_size_of) d_f_size_of.scope := ⟨rfl, rfl, rfl, by decide +kernel, by decide +kernel, by decide +kernel, by decide +kernel⟩
theorem c_f_size_of : MP.cSs tb (namesOf f_size_of) d_f_size_of.scope (fun _ => true) f_size_of.body d_f_size_of.body = true := by decide +kernel
theorem s_f_bits_of : FnScope (namesOf f_bits_of) (psOf f_bits_of) d_f_bits_of.scope := ⟨rfl, rfl, rfl, by decide +kernel, by decide +kernel, by decide +kernel, by decide +kernel⟩
theorem c_f_bits_of : MP.cSs tb (namesOf f_bits_of) d_f_bits_of.scope (fun _ => true) f_bits_of.body d_f_bits_of.body = true := by decide +kernel
theorem s_f_weight_pair : FnScope (namesOf f_weight_pair) (psOf f_weight_pair) d_f_weight_pair.scope := ⟨rfl, rfl, rfl, by decide +kernel, by decide +kernel, by decide +kernel, by decide +kernel⟩
theorem c_f_weight_pair : MP.cSs tb (namesOf f_weight_pair) d_f_weight_pair.scope (fun _ => true) f_weight_pair.body d_f_weight_pair.body = true := by decide +kernel
theorem s_f_first_state : FnScope (namesOf f_first_state) (psOf f_first_state) d_f_first_state.scope := ⟨rfl, rfl, rfl, by decide +kernel, by decide +kernel, by decide +kernel, by decide +kernel⟩
theorem c_f_first_state : MP.cSs tb (namesOf f_first_state) d_f_first_state.scope (fun _ => true) f_first_state.body d_f_first_state.body = true := by decide +kernel
theorem s_f_coded_state : FnScope (namesOf f_coded_state) (psOf f_coded_state) d_f_coded_state.scope := ⟨rfl, rfl, rfl, by decide +kernel, by decide +kernel, by decide +kernel, by decide +kernel⟩
theorem c_f_coded_state : MP.cSs tb (namesOf f_coded_state) d_f_coded_state.scope (fun _ => true) f_coded_state.body d_f_coded_state.body = true := by decide +kernel
theorem s_f_state_of_steps : FnScope (namesOf f_state_of_steps) (psOf f_state_of_steps) d_f_state_of_steps.scope := ⟨rfl, rfl, rfl, by decide +kernel, by decide +kernel, by decide +kernel, by decide +kernel⟩
theorem c_f_state_of_steps : MP.cSs tb (namesOf f_state_of_steps) d_f_state_of_steps.scope (fun _ => true) f_state_of_steps.body d_f_state_of_steps.body = true := by decide +kernel
theorem s_f_has_multiple : FnScope (namesOf f_has_multiple) (psOf f_has_multiple) d_f_has_multiple.scope := ⟨rfl, rfl, rfl, by decide +kernel, by decide +kernel, by decide +kernel, by decide +kernel⟩
theorem c_f_has_multiple : MP.cSs tb (namesOf f_has_multiple) d_f_has_multiple.scope (fun _ => true) f_has_multiple.body d_f_has_multiple.body = true := by decide +kernel
theorem s_f_free_figures : FnScope (namesOf f_free_figures) (psOf f_free_figures) d_f_free_figures.scope := ⟨rfl, rfl, rfl, by decide +kernel, by decide +kernel, by decide +kernel, by decide +kernel⟩
theorem c_f_free_figures : MP.cSs tb (namesOf f_free_figures) d_f_free_figures.scope (fun _ => true) f_free_figures.body d_f_free_figures.body = true := by decide +kernel
theorem s_f_state_code : FnScope (namesOf f_state_code) (psOf f_state_code) d_f_state_code.scope := ⟨rfl, rfl, rfl, by decide +kernel, by decide +kernel, by decide +kernel, by decide +kernel⟩
theorem c_f_state_code : MP.cSs tb (namesOf f_state_code) d_f_state_code.scope (fun _ => true) f_state_code.body d_f_state_code.body = true := by decide +kernel
theorem s_f_state_settled : FnScope (namesOf f_state_settled) (psOf f_state_settled) d_f_state_settled.scope := ⟨rfl, rfl, rfl, by decide +kernel, by decide +kernel, by decide +kernel, by decide +kernel⟩
theorem c_f_state_settled : MP.cSs tb (namesOf f_state_settled) d_f_state_settled.scope (fun _ => true) f_state_settled.body d_f_state_settled.body = true := by decide +kernel
theorem s_f_code_of_steps : FnScope (namesOf f_code_of_steps) (psOf f_code_of_steps) d_f_code_of_steps.scope := ⟨rfl, rfl, rfl, by decide +kernel, by decide +kernel, by decide +kernel, by decide +kernel⟩
theorem c_f_code_of_steps : MP.cSs tb (namesOf f_code_of_steps) d_f_code_of_steps.scope (fun _ => true) f_code_of_steps.body d_f_code_of_steps.body = true := by decide +kernel
theorem s_f_code_length : FnScope (namesOf f_code_length) (psOf f_code_length) d_f_code_length.scope := ⟨rfl, rfl, rfl, by decide +kernel, by decide +kernel, by decide +kernel, by decide +kernel⟩
theorem c_f_code_length : MP.cSs tb (namesOf f_code_length) d_f_code_length.scope (fun _ => true) f_code_length.body d_f_code_length.body = true := by decide +kernel
theorem s_f_settled_bytes : FnScope (namesOf f_settled_bytes) (psOf f_settled_bytes) d_f_settled_bytes.scope := ⟨rfl, rfl, rfl, by decide +kernel, by decide +kernel, by decide +kernel, by decide +kernel⟩
theorem c_f_settled_bytes : MP.cSs tb (namesOf f_settled_bytes) d_f_settled_bytes.scope (fun _ => true) f_settled_bytes.body d_f_settled_bytes.body = true := by decide +kernel
theorem s_f_is_within_weight : FnScope (namesOf f_is_within_weight) (psOf f_is_within_weight) d_f_is_within_weight.scope := ⟨rfl, rfl, rfl, by decide +kernel, by decide +kernel, by decide +kernel, by decide +kernel⟩
theorem c_f_is_within_weight : MP.cSs tb (namesOf f_is_within_weight) d_f_is_within_weight.scope (fun _ => true) f_is_within_weight.body d_f_is_within_weight.body = true := by decide +kernel
theorem s_m_RangeWriter_init : FnScope (namesOf m_RangeWriter_init) (psOf m_RangeWriter_init) d_m_RangeWriter_init.scope := ⟨rfl, rfl, rfl, by decide +kernel, by decide +kernel, by decide +kernel, by decide +kernel⟩
theorem c_m_RangeWriter_init : MP.cSs tb (namesOf m_RangeWriter_init) d_m_RangeWriter_init.scope (fun _ => true) m_RangeWriter_init.body d_m_RangeWriter_init.body = true := by decide +kernel
theorem s_m_RangeWriter_put_step : FnScope (namesOf m_RangeWriter_put_step) (psOf m_RangeWriter_put_step) d_m_RangeWriter_put_step.scope := ⟨rfl, rfl, rfl, by decide +kernel, by decide +kernel, by decide +kernel, by decide +kernel⟩
theorem c_m_RangeWriter_put_step : MP.cSs tb (namesOf m_RangeWriter_put_step) d_m_RangeWriter_put_step.scope (fun _ => true) m_RangeWriter_put_step.body d_m_RangeWriter_put_step.body = true := by decide +kernel
theorem s_m_RangeWriter_code_so_far : FnScope (namesOf m_RangeWriter_code_so_far) (psOf m_RangeWriter_code_so_far) d_m_RangeWriter_code_so_far.scope := ⟨rfl, rfl, rfl, by decide +kernel, by decide +kernel, by decide +kernel, by decide +kernel⟩
theorem c_m_RangeWriter_code_so_far : MP.cSs tb (namesOf m_RangeWriter_code_so_far) d_m_RangeWriter_code_so_far.scope (fun _ => true) m_RangeWriter_code_so_far.body d_m_RangeWriter_code_so_far.body = true := by decide +kernel
theorem s_g_cell : FnScope (namesOf g_cell) (psOf g_cell) d_g_cell.scope := ⟨rfl, rfl, rfl, by decide +kernel, by decide +kernel, by decide +kernel, by decide +kernel⟩
theorem c_g_cell : MP.cSs tb (namesOf g_cell) d_g_cell.scope (fun _ => true) g_cell.body d_g_cell.body = true := by decide +kernel
theorem s_g_draws : FnScope (namesOf g_draws) (psOf g_draws) d_g_draws.scope := ⟨rfl, rfl, rfl, by decide +kernel, by decide +kernel, by decide +kernel, by decide +kernel⟩
theorem c_g_draws : MP.cSs tb (namesOf g_draws) d_g_draws.scope (fun _ => true) g_draws.body d_g_draws.body = true := by decide +kernel
theorem s_g_is_integer : FnScope (namesOf g_is_integer) (psOf g_is_integer) d_g_is_integer.scope := ⟨rfl, rfl, rfl, by decide +kernel, by decide +kernel, by decide +kernel, by decide +kernel⟩
theorem c_g_is_integer : MP.cSs tb (namesOf g_is_integer) d_g_is_integer.scope (fun _ => true) g_is_integer.body d_g_is_integer.body = true := by decide +kernel
theorem s_g_is : FnScope (namesOf g_is) (psOf g_is) d_g_is.scope := ⟨rfl, rfl, rfl, by decide +kernel, by decide +kernel, by decide +kernel, by decide +kernel⟩
theorem c_g_is : MP.cSs tb (namesOf g_is) d_g_is.scope (fun _ => true) g_is.body d_g_is.body = true := by decide +kernel
theorem s_g_fixed : FnScope (namesOf g_fixed) (psOf g_fixed) d_g_fixed.scope := ⟨rfl, rfl, rfl, by decide +kernel, by decide +kernel, by decide +kernel, by decide +kernel⟩
theorem c_g_fixed : MP.cSs tb (namesOf g_fixed) d_g_fixed.scope (fun _ => true) g_fixed.body d_g_fixed.body = true := by decide +kernel
theorem s_g_whole_bytes : FnScope (namesOf g_whole_bytes) (psOf g_whole_bytes) d_g_whole_bytes.scope := ⟨rfl, rfl, rfl, by decide +kernel, by decide +kernel, by decide +kernel, by decide +kernel⟩
theorem c_g_whole_bytes : MP.cSs tb (namesOf g_whole_bytes) d_g_whole_bytes.scope (fun _ => true) g_whole_bytes.body d_g_whole_bytes.body = true := by decide +kernel
theorem s_g_coded : FnScope (namesOf g_coded) (psOf g_coded) d_g_coded.scope := ⟨rfl, rfl, rfl, by decide +kernel, by decide +kernel, by decide +kernel, by decide +kernel⟩
theorem c_g_coded : MP.cSs tb (namesOf g_coded) d_g_coded.scope (fun _ => true) g_coded.body d_g_coded.body = true := by decide +kernel
theorem s_g_state_code : FnScope (namesOf g_state_code) (psOf g_state_code) d_g_state_code.scope := ⟨rfl, rfl, rfl, by decide +kernel, by decide +kernel, by decide +kernel, by decide +kernel⟩
theorem c_g_state_code : MP.cSs tb (namesOf g_state_code) d_g_state_code.scope (fun _ => true) g_state_code.body d_g_state_code.body = true := by decide +kernel
theorem s_g_made_steps : FnScope (namesOf g_made_steps) (psOf g_made_steps) d_g_made_steps.scope := ⟨rfl, rfl, rfl, by decide +kernel, by decide +kernel, by decide +kernel, by decide +kernel⟩
theorem c_g_made_steps : MP.cSs tb (namesOf g_made_steps) d_g_made_steps.scope (fun _ => true) g_made_steps.body d_g_made_steps.body = true := by decide +kernel
theorem s_g_settled : FnScope (namesOf g_settled) (psOf g_settled) d_g_settled.scope := ⟨rfl, rfl, rfl, by decide +kernel, by decide +kernel, by decide +kernel, by decide +kernel⟩
theorem c_g_settled : MP.cSs tb (namesOf g_settled) d_g_settled.scope (fun _ => true) g_settled.body d_g_settled.body = true := by decide +kernel
theorem s_g_within : FnScope (namesOf g_within) (psOf g_within) d_g_within.scope := ⟨rfl, rfl, rfl, by decide +kernel, by decide +kernel, by decide +kernel, by decide +kernel⟩
theorem c_g_within : MP.cSs tb (namesOf g_within) d_g_within.scope (fun _ => true) g_within.body d_g_within.body = true := by decide +kernel
theorem s_f_law : FnScope (namesOf f_law) (psOf f_law) d_f_law.scope := ⟨rfl, rfl, rfl, by decide +kernel, by decide +kernel, by decide +kernel, by decide +kernel⟩
theorem c_f_law : MP.cSs tb (namesOf f_law) d_f_law.scope (fun _ => true) f_law.body d_f_law.body = true := by decide +kernel
section
variable {K : PySem.W.Frag} (c : He.SaysD fa fn K)
include c
theorem F_f_fixed : FnF K tb f_fixed (He.fAd K ("fixed", none)) := by
  obtain ⟨fdt, D⟩ := c.def_ 0 (d := d_f_fixed) (by rfl)
  have b : Binds K fdt (psOf f_fixed) [] := D.bindsN (ps := psOf f_fixed) fun _ _ _ _ _ _ us hl => match us, (show us.length = 2 from hl) with | [_, _], _ => rfl
  exact ⟨fdt, _, _, _, _, _, D, s_f_fixed, b, c_f_fixed⟩
theorem F_f_size_of : FnF K tb f_size_of (He.fAd K ("size_of", none)) := by
  obtain ⟨fdt, D⟩ := c.def_ 1 (d := d_f_size_of) (by rfl)
  have b : Binds K fdt (psOf f_size_of) [] := D.bindsN (ps := psOf f_size_of) fun _ _ _ _ _ _ us hl => match us, (show us.length = 1 from hl) with | [_], _ => rfl
  exact ⟨fdt, _, _, _, _, _, D, s_f_size_of, b, c_f_size_of⟩
theorem F_f_bits_of : FnF K tb f_bits_of (He.fAd K ("bits_of", none)) := by
  obtain ⟨fdt, D⟩ := c.def_ 2 (d := d_f_bits_of) (by rfl)
  have b : Binds K fdt (psOf f_bits_of) [] := D.bindsN (ps := psOf f_bits_of) fun _ _ _ _ _ _ us hl => match us, (show us.length = 1 from hl) with | [_], _ => rfl
  exact ⟨fdt, _, _, _, _, _, D, s_f_bits_of, b, c_f_bits_of⟩
theorem F_f_weight_pair : FnF K tb f_weight_pair (He.fAd K ("weight_pair", none)) := by
  obtain ⟨fdt, D⟩ := c.def_ 3 (d := d_f_weight_pair) (by rfl)
  have b : Binds K fdt (psOf f_weight_pair) [] := D.bindsN (ps := psOf f_weight_pair) fun _ _ _ _ _ _ us hl => match us, (show us.length = 1 from hl) with | [_], _ => rfl
  exact ⟨fdt, _, _, _, _, _, D, s_f_weight_pair, b, c_f_weight_pair⟩
theorem F_f_first_state : FnF K tb f_first_state (He.fAd K ("first_state", none)) := by
  obtain ⟨fdt, D⟩ := c.def_ 4 (d := d_f_first_state) (by rfl)
  have b : Binds K fdt (psOf f_first_state) [] := D.bindsN (ps := psOf f_first_state) fun _ _ _ _ _ _ us hl => match us, (show us.length = 0 from hl) with | [], _ => rfl
  exact ⟨fdt, _, _, _, _, _, D, s_f_first_state, b, c_f_first_state⟩
theorem F_f_coded_state : FnF K tb f_coded_state (He.fAd K ("coded_state", none)) := by
  obtain ⟨fdt, D⟩ := c.def_ 5 (d := d_f_coded_state) (by rfl)
  have b : Binds K fdt (psOf f_coded_state) [] := D.bindsN (ps := psOf f_coded_state) fun _ _ _ _ _ _ us hl => match us, (show us.length = 2 from hl) with | [_, _], _ => rfl
  exact ⟨fdt, _, _, _, _, _, D, s_f_coded_state, b, c_f_coded_state⟩
theorem F_f_state_of_steps : FnF K tb f_state_of_steps (He.fAd K ("state_of_steps", none)) := by
  obtain ⟨fdt, D⟩ := c.def_ 6 (d := d_f_state_of_steps) (by rfl)
  have b : Binds K fdt (psOf f_state_of_steps) [] := D.bindsN (ps := psOf f_state_of_steps) fun _ _ _ _ _ _ us hl => match us, (show us.length = 1 from hl) with | [_], _ => rfl
  exact ⟨fdt, _, _, _, _, _, D, s_f_state_of_steps, b, c_f_state_of_steps⟩
theorem F_f_has_multiple : FnF K tb f_has_multiple (He.fAd K ("has_multiple", none)) := by
  obtain ⟨fdt, D⟩ := c.def_ 7 (d := d_f_has_multiple) (by rfl)
  have b : Binds K fdt (psOf f_has_multiple) [] := D.bindsN (ps := psOf f_has_multiple) fun _ _ _ _ _ _ us hl => match us, (show us.length = 2 from hl) with | [_, _], _ => rfl
  exact ⟨fdt, _, _, _, _, _, D, s_f_has_multiple, b, c_f_has_multiple⟩
theorem F_f_free_figures : FnF K tb f_free_figures (He.fAd K ("free_figures", none)) := by
  obtain ⟨fdt, D⟩ := c.def_ 8 (d := d_f_free_figures) (by rfl)
  have b : Binds K fdt (psOf f_free_figures) [] := D.bindsN (ps := psOf f_free_figures) fun _ _ _ _ _ _ us hl => match us, (show us.length = 1 from hl) with | [_], _ => rfl
  exact ⟨fdt, _, _, _, _, _, D, s_f_free_figures, b, c_f_free_figures⟩
theorem F_f_state_code : FnF K tb f_state_code (He.fAd K ("state_code", none)) := by
  obtain ⟨fdt, D⟩ := c.def_ 9 (d := d_f_state_code) (by rfl)
  have b : Binds K fdt (psOf f_state_code) [] := D.bindsN (ps := psOf f_state_code) fun _ _ _ _ _ _ us hl => match us, (show us.length = 1 from hl) with | [_], _ => rfl
  exact ⟨fdt, _, _, _, _, _, D, s_f_state_code, b, c_f_state_code⟩
theorem F_f_state_settled : FnF K tb f_state_settled (He.fAd K ("state_settled", none)) := by
  obtain ⟨fdt, D⟩ := c.def_ 10 (d := d_f_state_settled) (by rfl)
  have b : Binds K fdt (psOf f_state_settled) [] := D.bindsN (ps := psOf f_state_settled) fun _ _ _ _ _ _ us hl => match us, (show us.length = 1 from hl) with | [_], _ => rfl
  exact ⟨fdt, _, _, _, _, _, D, s_f_state_settled, b, c_f_state_settled⟩
theorem F_f_code_of_steps : FnF K tb f_code_of_steps (He.fAd K ("code_of_steps", none)) := by
  obtain ⟨fdt, D⟩ := c.def_ 11 (d := d_f_code_of_steps) (by rfl)
  have b : Binds K fdt (psOf f_code_of_steps) [] := D.bindsN (ps := psOf f_code_of_steps) fun _ _ _ _ _ _ us hl => match us, (show us.length = 1 from hl) with | [_], _ => rfl
  exact ⟨fdt, _, _, _, _, _, D, s_f_code_of_steps, b, c_f_code_of_steps⟩
theorem F_f_code_length : FnF K tb f_code_length (He.fAd K ("code_length", none)) := by
  obtain ⟨fdt, D⟩ := c.def_ 12 (d := d_f_code_length) (by rfl)
  have b : Binds K fdt (psOf f_code_length) [] := D.bindsN (ps := psOf f_code_length) fun _ _ _ _ _ _ us hl => match us, (show us.length = 1 from hl) with | [_], _ => rfl
  exact ⟨fdt, _, _, _, _, _, D, s_f_code_length, b, c_f_code_length⟩
theorem F_f_settled_bytes : FnF K tb f_settled_bytes (He.fAd K ("settled_bytes", none)) := by
  obtain ⟨fdt, D⟩ := c.def_ 13 (d := d_f_settled_bytes) (by rfl)
  have b : Binds K fdt (psOf f_settled_bytes) [] := D.bindsN (ps := psOf f_settled_bytes) fun _ _ _ _ _ _ us hl => match us, (show us.length = 1 from hl) with | [_], _ => rfl
  exact ⟨fdt, _, _, _, _, _, D, s_f_settled_bytes, b, c_f_settled_bytes⟩
theorem F_f_is_within_weight : FnF K tb f_is_within_weight (He.fAd K ("is_within_weight", none)) := by
  obtain ⟨fdt, D⟩ := c.def_ 14 (d := d_f_is_within_weight) (by rfl)
  have b : Binds K fdt (psOf f_is_within_weight) [] := D.bindsN (ps := psOf f_is_within_weight) fun _ _ _ _ _ _ us hl => match us, (show us.length = 2 from hl) with | [_, _], _ => rfl
  exact ⟨fdt, _, _, _, _, _, D, s_f_is_within_weight, b, c_f_is_within_weight⟩
theorem F_m_RangeWriter_init : FnF K tb m_RangeWriter_init (He.fAd K ("RangeWriter", some "__init__")) := by
  obtain ⟨fdt, D⟩ := c.def_ 15 (d := d_m_RangeWriter_init) (by rfl)
  have b : Binds K fdt (psOf m_RangeWriter_init) [] := D.bindsN (ps := psOf m_RangeWriter_init) fun _ _ _ _ _ _ us hl => match us, (show us.length = 1 from hl) with | [_], _ => rfl
  exact ⟨fdt, _, _, _, _, _, D, s_m_RangeWriter_init, b, c_m_RangeWriter_init⟩
theorem F_m_RangeWriter_put_step : FnF K tb m_RangeWriter_put_step (He.fAd K ("RangeWriter", some "put_step")) := by
  obtain ⟨fdt, D⟩ := c.def_ 16 (d := d_m_RangeWriter_put_step) (by rfl)
  have b : Binds K fdt (psOf m_RangeWriter_put_step) [] := D.bindsN (ps := psOf m_RangeWriter_put_step) fun _ _ _ _ _ _ us hl => match us, (show us.length = 2 from hl) with | [_, _], _ => rfl
  exact ⟨fdt, _, _, _, _, _, D, s_m_RangeWriter_put_step, b, c_m_RangeWriter_put_step⟩
theorem F_m_RangeWriter_code_so_far : FnF K tb m_RangeWriter_code_so_far (He.fAd K ("RangeWriter", some "code_so_far")) := by
  obtain ⟨fdt, D⟩ := c.def_ 17 (d := d_m_RangeWriter_code_so_far) (by rfl)
  have b : Binds K fdt (psOf m_RangeWriter_code_so_far) [] := D.bindsN (ps := psOf m_RangeWriter_code_so_far) fun _ _ _ _ _ _ us hl => match us, (show us.length = 1 from hl) with | [_], _ => rfl
  exact ⟨fdt, _, _, _, _, _, D, s_m_RangeWriter_code_so_far, b, c_m_RangeWriter_code_so_far⟩
theorem F_g_cell : FnF K tb g_cell (He.fAd K ("_law_cell", none)) := by
  obtain ⟨fdt, D⟩ := c.def_ 18 (d := d_g_cell) (by rfl)
  have b : Binds K fdt (psOf g_cell) [] := D.bindsN (ps := psOf g_cell) fun _ _ _ _ _ _ us hl => match us, (show us.length = 2 from hl) with | [_, _], _ => rfl
  exact ⟨fdt, _, _, _, _, _, D, s_g_cell, b, c_g_cell⟩
theorem F_g_draws : FnF K tb g_draws (He.fAd K ("_law_draws", none)) := by
  obtain ⟨fdt, D⟩ := c.def_ 19 (d := d_g_draws) (by rfl)
  have b : Binds K fdt (psOf g_draws) [] := D.bindsN (ps := psOf g_draws) fun _ _ _ _ _ _ us hl => match us, (show us.length = 2 from hl) with | [_, _], _ => rfl
  exact ⟨fdt, _, _, _, _, _, D, s_g_draws, b, c_g_draws⟩
theorem F_g_is_integer : FnF K tb g_is_integer (He.fAd K ("_law_is_integer", none)) := by
  obtain ⟨fdt, D⟩ := c.def_ 20 (d := d_g_is_integer) (by rfl)
  have b : Binds K fdt (psOf g_is_integer) [] := D.bindsN (ps := psOf g_is_integer) fun _ _ _ _ _ _ us hl => match us, (show us.length = 1 from hl) with | [_], _ => rfl
  exact ⟨fdt, _, _, _, _, _, D, s_g_is_integer, b, c_g_is_integer⟩
theorem F_g_is : FnF K tb g_is (He.fAd K ("_law_is", none)) := by
  obtain ⟨fdt, D⟩ := c.def_ 21 (d := d_g_is) (by rfl)
  have b : Binds K fdt (psOf g_is) [] := D.bindsN (ps := psOf g_is) fun _ _ _ _ _ _ us hl => match us, (show us.length = 2 from hl) with | [_, _], _ => rfl
  exact ⟨fdt, _, _, _, _, _, D, s_g_is, b, c_g_is⟩
theorem F_g_fixed : FnF K tb g_fixed (He.fAd K ("_law_fixed", none)) := by
  obtain ⟨fdt, D⟩ := c.def_ 22 (d := d_g_fixed) (by rfl)
  have b : Binds K fdt (psOf g_fixed) [] := D.bindsN (ps := psOf g_fixed) fun _ _ _ _ _ _ us hl => match us, (show us.length = 2 from hl) with | [_, _], _ => rfl
  exact ⟨fdt, _, _, _, _, _, D, s_g_fixed, b, c_g_fixed⟩
theorem F_g_whole_bytes : FnF K tb g_whole_bytes (He.fAd K ("_law_whole_bytes", none)) := by
  obtain ⟨fdt, D⟩ := c.def_ 23 (d := d_g_whole_bytes) (by rfl)
  have b : Binds K fdt (psOf g_whole_bytes) [] := D.bindsN (ps := psOf g_whole_bytes) fun _ _ _ _ _ _ us hl => match us, (show us.length = 1 from hl) with | [_], _ => rfl
  exact ⟨fdt, _, _, _, _, _, D, s_g_whole_bytes, b, c_g_whole_bytes⟩
theorem F_g_coded : FnF K tb g_coded (He.fAd K ("_law_coded", none)) := by
  obtain ⟨fdt, D⟩ := c.def_ 24 (d := d_g_coded) (by rfl)
  have b : Binds K fdt (psOf g_coded) [] := D.bindsN (ps := psOf g_coded) fun _ _ _ _ _ _ us hl => match us, (show us.length = 2 from hl) with | [_, _], _ => rfl
  exact ⟨fdt, _, _, _, _, _, D, s_g_coded, b, c_g_coded⟩
theorem F_g_state_code : FnF K tb g_state_code (He.fAd K ("_law_state_code", none)) := by
  obtain ⟨fdt, D⟩ := c.def_ 25 (d := d_g_state_code) (by rfl)
  have b : Binds K fdt (psOf g_state_code) [] := D.bindsN (ps := psOf g_state_code) fun _ _ _ _ _ _ us hl => match us, (show us.length = 1 from hl) with | [_], _ => rfl
  exact ⟨fdt, _, _, _, _, _, D, s_g_state_code, b, c_g_state_code⟩
theorem F_g_made_steps : FnF K tb g_made_steps (He.fAd K ("_law_made_steps", none)) := by
  obtain ⟨fdt, D⟩ := c.def_ 26 (d := d_g_made_steps) (by rfl)
  have b : Binds K fdt (psOf g_made_steps) [] := D.bindsN (ps := psOf g_made_steps) fun _ _ _ _ _ _ us hl => match us, (show us.length = 2 from hl) with | [_, _], _ => rfl
  exact ⟨fdt, _, _, _, _, _, D, s_g_made_steps, b, c_g_made_steps⟩
theorem F_g_settled : FnF K tb g_settled (He.fAd K ("_law_settled", none)) := by
  obtain ⟨fdt, D⟩ := c.def_ 27 (d := d_g_settled) (by rfl)
  have b : Binds K fdt (psOf g_settled) [] := D.bindsN (ps := psOf g_settled) fun _ _ _ _ _ _ us hl => match us, (show us.length = 1 from hl) with | [_], _ => rfl
  exact ⟨fdt, _, _, _, _, _, D, s_g_settled, b, c_g_settled⟩
theorem F_g_within : FnF K tb g_within (He.fAd K ("_law_within", none)) := by
  obtain ⟨fdt, D⟩ := c.def_ 28 (d := d_g_within) (by rfl)
  have b : Binds K fdt (psOf g_within) [] := D.bindsN (ps := psOf g_within) fun _ _ _ _ _ _ us hl => match us, (show us.length = 2 from hl) with | [_, _], _ => rfl
  exact ⟨fdt, _, _, _, _, _, D, s_g_within, b, c_g_within⟩
theorem F_f_law : FnF K tb f_law (He.fAd K ("law", none)) := by
  obtain ⟨fdt, D⟩ := c.def_ 29 (d := d_f_law) (by rfl)
  have b : Binds K fdt (psOf f_law) [] := D.bindsN (ps := psOf f_law) fun _ _ _ _ _ _ us hl => match us, (show us.length = 1 from hl) with | [_], _ => rfl
  exact ⟨fdt, _, _, _, _, _, D, s_f_law, b, c_f_law⟩
end
def CA (K : PySem.W.Frag) (x : String) : Option Addr := if x = "RangeWriter" then some (He.ga K "RangeWriter") else none
section
variable {K : PySem.W.Frag} {h : Heap} {mg : Str → Option Value} (X : K.In h) (G0 : h.Ns mainGlobals mg) (c : He.SaysD fa fn K)
include X G0 c
theorem wf_fn : ∀ f, f ∈ tb.fns → ∃ fd a, T (.fn f) = some fd ∧ mg (Str.ofString f) = some (.ref a) ∧ FnF K tb fd a := by
  intro f hf
  simp only [tb, List.mem_cons, List.not_mem_nil, or_false] at hf
  rcases hf with rfl | rfl | rfl | rfl | rfl | rfl | rfl | rfl | rfl | rfl | rfl | rfl | rfl | rfl | rfl | rfl | rfl | rfl | rfl | rfl | rfl | rfl | rfl | rfl | rfl | rfl | rfl
  · exact ⟨g_cell, _, T_g_cell, He.glo_ok X G0 (c.fact 0 (by rfl)), F_g_cell c⟩
  · exact ⟨g_coded, _, T_g_coded, He.glo_ok X G0 (c.fact 1 (by rfl)), F_g_coded c⟩
  · exact ⟨g_draws, _, T_g_draws, He.glo_ok X G0 (c.fact 2 (by rfl)), F_g_draws c⟩
  · exact ⟨g_fixed, _, T_g_fixed, He.glo_ok X G0 (c.fact 3 (by rfl)), F_g_fixed c⟩
  · exact ⟨g_is, _, T_g_is, He.glo_ok X G0 (c.fact 4 (by rfl)), F_g_is c⟩
  · exact ⟨g_is_integer, _, T_g_is_integer, He.glo_ok X G0 (c.fact 5 (by rfl)), F_g_is_integer c⟩
  · exact ⟨g_made_steps, _, T_g_made_steps, He.glo_ok X G0 (c.fact 6 (by rfl)), F_g_made_steps c⟩
  · exact ⟨g_settled, _, T_g_settled, He.glo_ok X G0 (c.fact 7 (by rfl)), F_g_settled c⟩
  · exact ⟨g_state_code, _, T_g_state_code, He.glo_ok X G0 (c.fact 8 (by rfl)), F_g_state_code c⟩
  · exact ⟨g_whole_bytes, _, T_g_whole_bytes, He.glo_ok X G0 (c.fact 9 (by rfl)), F_g_whole_bytes c⟩
  · exact ⟨g_within, _, T_g_within, He.glo_ok X G0 (c.fact 10 (by rfl)), F_g_within c⟩
  · exact ⟨f_bits_of, _, T_f_bits_of, He.glo_ok X G0 (c.fact 11 (by rfl)), F_f_bits_of c⟩
  · exact ⟨f_code_length, _, T_f_code_length, He.glo_ok X G0 (c.fact 12 (by rfl)), F_f_code_length c⟩
  · exact ⟨f_code_of_steps, _, T_f_code_of_steps, He.glo_ok X G0 (c.fact 13 (by rfl)), F_f_code_of_steps c⟩
  · exact ⟨f_coded_state, _, T_f_coded_state, He.glo_ok X G0 (c.fact 14 (by rfl)), F_f_coded_state c⟩
  · exact ⟨f_first_state, _, T_f_first_state, He.glo_ok X G0 (c.fact 15 (by rfl)), F_f_first_state c⟩
  · exact ⟨f_fixed, _, T_f_fixed, He.glo_ok X G0 (c.fact 16 (by rfl)), F_f_fixed c⟩
  · exact ⟨f_free_figures, _, T_f_free_figures, He.glo_ok X G0 (c.fact 17 (by rfl)), F_f_free_figures c⟩
  · exact ⟨f_has_multiple, _, T_f_has_multiple, He.glo_ok X G0 (c.fact 18 (by rfl)), F_f_has_multiple c⟩
  · exact ⟨f_is_within_weight, _, T_f_is_within_weight, He.glo_ok X G0 (c.fact 19 (by rfl)), F_f_is_within_weight c⟩
  · exact ⟨f_settled_bytes, _, T_f_settled_bytes, He.glo_ok X G0 (c.fact 20 (by rfl)), F_f_settled_bytes c⟩
  · exact ⟨f_size_of, _, T_f_size_of, He.glo_ok X G0 (c.fact 21 (by rfl)), F_f_size_of c⟩
  · exact ⟨f_state_code, _, T_f_state_code, He.glo_ok X G0 (c.fact 22 (by rfl)), F_f_state_code c⟩
  · exact ⟨f_state_of_steps, _, T_f_state_of_steps, He.glo_ok X G0 (c.fact 23 (by rfl)), F_f_state_of_steps c⟩
  · exact ⟨f_state_settled, _, T_f_state_settled, He.glo_ok X G0 (c.fact 24 (by rfl)), F_f_state_settled c⟩
  · exact ⟨f_weight_pair, _, T_f_weight_pair, He.glo_ok X G0 (c.fact 25 (by rfl)), F_f_weight_pair c⟩
  · exact ⟨f_law, _, T_f_law, He.glo_ok X G0 (c.fact 26 (by rfl)), F_f_law c⟩
theorem wf_free : ∀ b, b ∈ tb.free → mg (Str.ofString b) = none := by
  intro b hb
  simp only [tb, List.mem_cons, List.not_mem_nil, or_false] at hb
  rcases hb with rfl | rfl | rfl | rfl | rfl | rfl | rfl | rfl | rfl
  · exact He.free_ok X G0 (c.fact 27 (by rfl))
  · exact He.free_ok X G0 (c.fact 28 (by rfl))
  · exact He.free_ok X G0 (c.fact 29 (by rfl))
  · exact He.free_ok X G0 (c.fact 30 (by rfl))
  · exact He.free_ok X G0 (c.fact 31 (by rfl))
  · exact He.free_ok X G0 (c.fact 32 (by rfl))
  · exact He.free_ok X G0 (c.fact 33 (by rfl))
  · exact He.free_ok X G0 (c.fact 34 (by rfl))
  · exact He.free_ok X G0 (c.fact 35 (by rfl))
theorem wf_cst : ∀ x, x ∈ tb.csts → ∃ u v d, mg (Str.ofString x) = some u ∧ RelV v u ∧ G.cst x = some d ∧ ∀ F as, MP.RepD K F as d v := by
  intro x hx
  simp only [tb, List.mem_cons, List.not_mem_nil, or_false] at hx
  rcases hx with rfl | rfl | rfl | rfl
  · obtain ⟨t, ht⟩ := He.int_ok X G0 (x := "BEGINNING") (i := 32) (c.fact 36 (by rfl))
    exact ⟨_, .int 32, _, ht, ⟨t, rfl⟩, by rfl, fun F as => .int _⟩
  · obtain ⟨t, ht⟩ := He.int_ok X G0 (x := "LEAST") (i := 16777216) (c.fact 37 (by rfl))
    exact ⟨_, .int 16777216, _, ht, ⟨t, rfl⟩, by rfl, fun F as => .int _⟩
  · obtain ⟨t, ht⟩ := He.int_ok X G0 (x := "LOSS") (i := 4096) (c.fact 38 (by rfl))
    exact ⟨_, .int 4096, _, ht, ⟨t, rfl⟩, by rfl, fun F as => .int _⟩
  · obtain ⟨t, ht⟩ := He.int_ok X G0 (x := "MOST_LENGTH") (i := 20000) (c.fact 39 (by rfl))
    exact ⟨_, .int 20000, _, ht, ⟨t, rfl⟩, by rfl, fun F as => .int _⟩
theorem wf_mkr : ∀ x, x ∈ tb.cls → ∃ C a fd, CA K x = some C ∧ mg (Str.ofString x) = some (.ref C) ∧ Mk K C a ∧ T (.mt x "__init__") = some fd ∧ FnF K tb fd a := by
  intro x hx
  simp only [tb, List.mem_cons, List.not_mem_nil, or_false] at hx
  rcases hx with rfl
  · exact ⟨He.ga K "RangeWriter", _, m_RangeWriter_init, by simp [CA], He.glo_ok X G0 (c.fact 40 (by rfl)), He.mkr_ok (c.fact 42 (by rfl)), T_m_RangeWriter_init, F_m_RangeWriter_init c⟩
theorem ca_of {x : String} {C : Addr} (h : CA K x = some C) : x ∈ tb.cls ∧ C = He.ga K (Str.ofString x) := by
  unfold CA at h
  split at h
  · rename_i e
    cases h
    subst e
    exact ⟨by decide, rfl⟩
  cases h
theorem wf_mt : ∀ x C m, CA K x = some C → G.has x m = true → ∃ a fd, Meth K C (Str.ofString m) a ∧ T (.mt x m) = some fd ∧ FnF K tb fd a := by
  intro x C m hC hm
  obtain ⟨h1, rfl⟩ := ca_of X G0 c hC
  simp only [G, List.contains_iff_mem, List.mem_cons, List.not_mem_nil, or_false, Prod.mk.injEq] at hm
  rcases hm with ⟨rfl, rfl⟩ | ⟨rfl, rfl⟩
  · exact ⟨_, m_RangeWriter_put_step, He.meth_ok (c.fact 43 (by rfl)), T_m_RangeWriter_put_step, F_m_RangeWriter_put_step c⟩
  · exact ⟨_, m_RangeWriter_code_so_far, He.meth_ok (c.fact 44 (by rfl)), T_m_RangeWriter_code_so_far, F_m_RangeWriter_code_so_far c⟩
theorem wf_cl : ∀ x C, CA K x = some C → Cls K C ∧ ∀ f, f ∈ tb.flds → NoAttr K C (Str.ofString f) := by
  intro x C hC
  obtain ⟨h1, rfl⟩ := ca_of X G0 c hC
  simp only [tb, List.mem_cons, List.not_mem_nil, or_false] at h1
  rcases h1 with rfl
  · refine ⟨He.cls_ok (c.fact 41 (by rfl)), fun f hf => ?_⟩
    simp only [tb, List.mem_cons, List.not_mem_nil, or_false] at hf
    rcases hf with rfl | rfl
    · exact He.noat_ok (c.fact 45 (by rfl))
    · exact He.noat_ok (c.fact 46 (by rfl))
theorem wf : Wf K mg (CA K) G tb T := ⟨wf_fn X G0 c, wf_mkr X G0 c, wf_mt X G0 c, wf_cl X G0 c, wf_free X G0 c, wf_cst X G0 c⟩
end
abbrev LawTrue : Prop := ∀ ns : List Int, ns.length ≤ 63 → ∃ st', Phi T G 12 (.fn "law") [.scr (ns.map MP.D.int)] [] = .ok (.bl true) st'
theorem facts (ht : LawTrue) {P : Program} {w : World} {K : PySem.W.Frag} {h : Heap} {mg : Str → Option Value} {f : Addr} (X : K.In h) (G0 : h.Ns mainGlobals mg) (hfa : mg ("law" : Str) = some (.ref f)) (c : He.SaysD fa fn K) :
    ∃ (fd : FuncData) (sp : Sp), (∀ (s : Shared) (v : Value), BindsTo s fd ⟨[v], []⟩ [("script", v)]) ∧
      (∀ (H : Hp) (a : Addr) (ns : List Int), ns.length ≤ 63 → Only H → SqL K H a (ns.map V.int) → sp [.ref a] H (fun v _ => v = .bl true) fun _ _ _ => False) ∧
      ∀ base : Heap, K.In base → base.Ns mainGlobals mg → FnOk P w K mg base (MP.CXe P) 24 f fd ["script"] sp := by
  obtain ⟨fdt, D⟩ := c.def_ 29 (d := d_f_law) (by rfl)
  have e := hfa.symm.trans (He.glo_ok X G0 (c.fact 26 (f := .glo "law") (by rfl)))
  cases e
  have b := D.bindsA (ps := ["script"]) fun _ _ _ _ _ _ us hl => match us, hl with | [_], _ => rfl
  have b0 : Binds K fdt (psOf f_law) [] := D.bindsN (ps := psOf f_law) fun _ _ _ _ _ _ us hl => match us, (show us.length = 1 from hl) with | [_], _ => rfl
  refine ⟨fdt, MP.spM K (CA K) (fun _ => none) (Phi T G 12 (.fn "law")) 1, fun s v => b s [v] rfl, fun H a ns hl _ hS => MP.sp_law (ht ns hl) hS, fun base _ _ => ?_⟩
  obtain ⟨k1, k2, k3, k4⟩ := Wf.fnOk (P := P) (w := w) (base := base) (EF := fun _ => none) (wf X G0 c) 12 (.fn "law") _ _ fdt T_f_law ⟨_, _, _, _, _, D, s_f_law, b0, c_f_law⟩
  exact MP.FnOk.toE k4
end K51
open PySem PySem.W PySem.Calls PyProof.Rows
theorem K51_holds (ht : K51.LawTrue) : PySem.Challenge.rw_psaltery_k51_whole_codes_of_steps.Holds := by
  w_on; o_law
  refine HandSHeadRun.head_any (r := OpenLaw.row PySem.Challenge.rw_psaltery_k51_whole_codes_of_steps) (q := view (OpenLaw.row PySem.Challenge.rw_psaltery_k51_whole_codes_of_steps).prog [36]) (H := K51.hk) (ob := K51.ob) (M := 20000) (loose := K51.loose) (d := HandSHeadRun.topDef (OpenLaw.row PySem.Challenge.rw_psaltery_k51_whole_codes_of_steps).prog 36) (kwd := []) K51.ob_eq
    (by kernel_rfl) (fun s => by kernel_rfl) K51.run (by kernel_rfl) (by kernel_rfl) (by kernel_rfl) (by rfl) (by first | assumption | decide +kernel) (by decide +kernel) ⟨rfl, rfl, rfl, rfl, rfl, by decide +kernel⟩ ?hw ?hc
  case hw => w_witness2
  case hc =>
    refine L2.walk_ofE (l := PySem.Challenge.rw_psaltery_k51_whole_codes_of_steps) (n := 63) (k := 24) (x := "script") (CX := MP.CXe PySem.Challenge.pw_psaltery_k51_whole_codes_of_steps) rfl (by decide) (by kernel_rfl) ⟨rfl, by decide, by decide⟩ ?F MP.CXe_none
    intro w mg fa h Y G hmg0
    obtain ⟨K, KX, c⟩ := Y
    have hmg : mg ("law" : PySem.Str) = some (.ref fa) := by
      have e : (HandSHeadRun.topDef (OpenLaw.row PySem.Challenge.rw_psaltery_k51_whole_codes_of_steps).prog 36).name = ("law" : PySem.Str) := by kernel_rfl
      rw [← e]
      exact hmg0
    obtain ⟨fd, sp, hb, hs, hF⟩ := K51.facts ht (P := (PySem.Challenge.rw_psaltery_k51_whole_codes_of_steps).prog) (w := w) KX G hmg c
    exact ⟨K, fd, sp, KX, hb, hs, hF⟩
end
open PySem PySem.W PyProof.Rows
set_option Elab.async false
set_option maxRecDepth 100000 in
set_option maxHeartbeats 8000000 in
theorem PySem.Challenge.cw_psaltery_k51_whole_codes_of_steps_holds : PySem.Challenge.rw_psaltery_k51_whole_codes_of_steps.Holds := by
  exact K51_holds fun ns _ => K51.law_true ns
