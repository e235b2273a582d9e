import PyProof.Rows.All
import Wide.All
import OpenK.AllK
import Wide.FinOn
import PySem.Syntax
import KE.KDictPairs
import HandS.Base
import HandS.Call
import HandS.List
import HandS.Comp
import HandS.Dict
import HandS.Iter
import HandS.Ends
import HandS.Exc
import HandS.ExcOwn
import HandS.TupAny
import HandS.SortRule
import HandS.SortInts
import HandS.Wide
import HandS.Flow
import HandS.Style
import HandS.Deep
import HandS.Text
import HandS.More
import HandS.IsInst
import HandS.CallSlots
import HandS.Property
import HandS.ClsMeth
import HandS.Defaults
import HandS.Star
import HandS.NoneIn
import KE.GoesMore
import KE.GoesEnum
import HandS.Small
import PyProof.Rows.MatchSeqLen
import HandS.HeadHook1
import HandS.HeadHook2
import HandS.HeadNt
import HandS.Head0
import HandS.Head1
import HandS.Head2
import HandS.HeadEnd
import HandS.Words
import PySem.Challenge.RW_heapeffects_k38_whole_nothing_is_lost
-- PL
set_option linter.all false
namespace PL
open PySem (Str CmpOp Operator)
abbrev Key := Sum Int Str
/-! ### data -/
inductive D where
  | non | bl (b : Bool) | int (i : Int) | str (s : Str)
  | tup (ds : List D)
  | lst (o : Bool) (ds : List D)
  | dct (o : Bool) (ks : List Key) (vs : List D)
  | set (is : List Int)
  | ins (o : Bool) (c : Str) (fs : List Str) (vs : List D)
  | exo (c : Str) (fs : List Str) (vs : List D)
  | glb (g : Str)
  | scr (is : List Int)
  deriving Inhabited, Repr
mutual
def D.beq : D → D → Bool
  | .non, .non => true
  | .bl a, .bl b => a == b
  | .int a, .int b => a == b
  | .str a, .str b => a == b
  | .tup a, .tup b => D.beqL a b
  | .lst o a, .lst p b => o == p && D.beqL a b
  | .dct o k a, .dct p l b => o == p && decide (k = l) && D.beqL a b
  | .set a, .set b => a == b
  | .ins o c f a, .ins p d g b => o == p && c == d && f == g && D.beqL a b
  | .exo c f a, .exo d g b => c == d && f == g && D.beqL a b
  | .glb a, .glb b => a == b
  | .scr a, .scr b => a == b
  | _, _ => false
def D.beqL : List D → List D → Bool
  | [], [] => true
  | x :: xs, y :: ys => D.beq x y && D.beqL xs ys
  | _, _ => false
end
mutual
theorem D.beq_eq : ∀ {a b : D}, D.beq a b = true → a = b
  | a, b, h => by
    cases a <;> cases b <;> simp [D.beq] at h <;> try rfl
    all_goals first
      | (rw [h]; done)
      | (rw [D.beqL_eq h]; done)
      | (rw [h.1, D.beqL_eq h.2]; done)
      | (rw [h.1.1, h.1.2, D.beqL_eq h.2]; done)
      | (rw [h.1.1.1, h.1.1.2, h.1.2, D.beqL_eq h.2]; done)
theorem D.beqL_eq : ∀ {a b : List D}, D.beqL a b = true → a = b
  | [], [], _ => rfl
  | [], _ :: _, h => by simp [D.beqL] at h
  | _ :: _, [], h => by simp [D.beqL] at h
  | x :: xs, y :: ys, h => by
    simp [D.beqL] at h
    rw [D.beq_eq h.1, D.beqL_eq h.2]
end
mutual
theorem D.beq_refl : ∀ a : D, D.beq a a = true
  | .non => rfl
  | .bl b => by simp [D.beq]
  | .int i => by simp [D.beq]
  | .str s => by simp [D.beq]
  | .tup ds => by simp [D.beq, D.beqL_refl ds]
  | .lst o ds => by simp [D.beq, D.beqL_refl ds]
  | .dct o k ds => by simp [D.beq, D.beqL_refl ds]
  | .set s => by simp [D.beq]
  | .ins o c f ds => by simp [D.beq, D.beqL_refl ds]
  | .exo c f ds => by simp [D.beq, D.beqL_refl ds]
  | .glb s => by simp [D.beq]
  | .scr s => by simp [D.beq]
theorem D.beqL_refl : ∀ a : List D, D.beqL a a = true
  | [] => rfl
  | x :: xs => by simp [D.beqL, D.beq_refl x, D.beqL_refl xs]
end
instance : DecidableEq D := fun a b =>
  match h : D.beq a b with
  | true => isTrue (D.beq_eq h)
  | false => isFalse fun e => by subst e; rw [D.beq_refl] at h; cases h
end PL

-- PL2
set_option linter.all false
namespace PL
open PySem (Str CmpOp Operator)

/-! ### results -/
abbrev Env := List (Option D)
inductive R (α : Type) where
  | ok (a : α) (e : Env)
  | exc (x : D) (e : Env)
  | bad
@[simp] def R.bind {α β : Type} (r : R α) (f : α → Env → R β) : R β := match r with
  | .ok a e => f a e
  | .exc x e => .exc x e
  | .bad => .bad
def M (α : Type) := Env → R α
@[simp] def M.pure {α : Type} (a : α) : M α := fun e => .ok a e
@[simp] def M.bind {α β : Type} (m : M α) (f : α → M β) : M β := fun e => (m e).bind fun a => f a
@[simp] def M.bad {α : Type} : M α := fun _ => .bad
@[simp] def M.opt {α : Type} : Option α → M α
  | some a => fun e => .ok a e
  | none => fun _ => .bad
/-- no exception comes out -/
@[simp] def M.nox {α : Type} (m : M α) : M α := fun e => match m e with
  | .exc _ _ => .bad
  | r => r
abbrev FnKey := Str × Option Str
/-- a call's end: the value (or the exception), and what stands in the lent parameters -/
inductive CR where
  | ret (d : D) (fin : List (Option D))
  | exc (x : D) (fin : List (Option D))
  | bad
abbrev CF := FnKey → List D → CR

/-! ### syntax -/
inductive Blt where
  | len | abs | min | max | sum | sorted | sortedR | tuple | list | dict | set | any | all | int | str | repr
  deriving DecidableEq, Repr
inductive ItK where
  | seq | rng | rrng | enum | zip | items | values
  deriving DecidableEq, Repr
inductive Tgt where
  | nm (i : Nat)
  | tup (ts : List Tgt)
mutual
inductive PE where
  | var (i : Nat) | lit (d : D) | glob (g : Str)
  | bin (op : Operator) (a b : PE) | neg (a : PE) | not (a : PE) | and (a b : PE) | or (a b : PE)
  | cmp (op : CmpOp) (a b : PE) | chain (op op' : CmpOp) (a b c : PE) | isN (n : Bool) (a : PE) | isB (n b : Bool) (a : PE)
  | ite (c : PB) (a b : PE)
  | tup (es : List PE) | lst (es : List PE) | dct (ks vs : List PE)
  | sub (a b : PE) | sl (a : PE) (lo hi : Option PE) | rev (a : PE)
  | attr (a : PE) (f : Str)
  | call (k : Str) (es : List PE)
  | mk (c : Str) (es : List PE)
  | mkV (i : Nat) (es : List PE)
  | meth (o : PE) (m : Str) (es : List PE)
  | bmeth (o : PE) (m : Str) (es : List PE)
  | smeth (c : Str) (m : Str) (es : List PE)
  | callK (k : Str) (es : List PE) (kn : List Str) (ks : List PE)
  | mkK (c : Str) (es : List PE) (kn : List Str) (ks : List PE)
  | methK (o : PE) (m : Str) (es : List PE) (kn : List Str) (ks : List PE)
  | smethK (c : Str) (m : Str) (es : List PE) (kn : List Str) (ks : List PE)
  | sup (k : FnKey) (es : List PE)
  | blt (b : Blt) (es : List PE)
  | minD (a d : PE)
  | isi (a : PE) (ts : List Str)
  | ofIt (b : Blt) (k : ItK) (es : List PE)
  | comp (elt : PE) (tg : Tgt) (own : List Nat) (k : ItK) (it : List PE) (ifs : List PB)
  | compD (vals : Bool) (elt : PE) (tg : Tgt) (own : List Nat) (i : Nat) (ifs : List PB)
  | comp2 (elt : PE) (tg : Tgt) (own : List Nat) (k : ItK) (it : List PE) (tg2 : Tgt) (k2 : ItK) (it2 : List PE)
  | dcomp (ke ve : PE) (tg : Tgt) (own : List Nat) (k : ItK) (it : List PE)
  | fstr (ps : List PE) (rs : List Bool)
  | bad
/-- a test -/
inductive PB where
  | val (e : PE)
  | not (a : PB)
  | and (a b : PB)
  | or (a b : PB)
end
mutual
/-- the slots that a target fills -/
def Tgt.slots : Tgt → List Nat
  | .nm i => [i]
  | .tup ts => Tgt.slotss ts
def Tgt.slotss : List Tgt → List Nat
  | [] => []
  | t :: ts => t.slots ++ Tgt.slotss ts
end
inductive STgt where
  | tg (t : Tgt)
  | sub (a b : PE)
  | attr (a : PE) (f : Str)
inductive PS where
  | expr (e : PE)
  | asg (t : Tgt) (e : PE)
  | par (ts : List Nat) (es : List PE)
  | asgSub (a b e : PE)
  | asgAttr (a : PE) (f : Str) (e : PE)
  | aug (i : Nat) (op : Operator) (e : PE)
  | augAttr (a : PE) (f : Str) (op : Operator) (e : PE)
  | ite (c : PB) (a b : List PS)
  | wh (c : PB) (b : List PS)
  | for_ (t : Tgt) (k : ItK) (it : List PE) (b : List PS)
  | ret (e : PE)
  | raise_ (c : Str) (es : List PE)
  | brk | cont | pass | bad
  | try_ (b : List PS) (hs : List (List Str)) (nm : List (Option Nat)) (bs : List (List PS))
  | mtch (e : PE) (pats : List (List Nat)) (gs : List (Option PB)) (bs : List (List PS)) (dfl : List PS)
mutual
/-- the slots that a statement fills -/
def PS.asgs : PS → List Nat
  | .asg t _ => t.slots
  | .par ts _ => ts
  | .aug i _ _ => [i]
  | .ite _ a b => PS.asgss a ++ PS.asgss b
  | .wh _ b => PS.asgss b
  | .for_ t _ _ b => t.slots ++ PS.asgss b
  | .try_ b _ nm bs => PS.asgss b ++ (nm.filterMap id ++ PS.asgsss bs)
  | .mtch _ pats _ bs dfl => pats.flatten ++ (PS.asgsss bs ++ PS.asgss dfl)
  | _ => []
def PS.asgss : List PS → List Nat
  | [] => []
  | s :: ss => s.asgs ++ PS.asgss ss
def PS.asgsss : List (List PS) → List Nat
  | [] => []
  | s :: ss => PS.asgss s ++ PS.asgsss ss
end
structure Fn where
  ps : List Str
  npos : Nat
  star : Bool := false
  dfl : List (Str × D) := []
  ns : Nat
  asg : List Nat := []
  body : List PS
inductive MK where
  | inst | stat | clsm | prop
  deriving DecidableEq, Repr
structure Cls where
  mro : List Str
  frz : Bool := true
  exf : Option (Option Str) := none
  flds : List Str := []
structure Prog where
  fns : List (FnKey × Fn)
  cls : List (Str × Cls)
  con : List (Str × D)
  meth : List ((Str × Str) × (MK × FnKey))
  ccon : List ((Str × Str) × D)
  stars : List (FnKey × Fn) := []

/-! ### values -/
def D.own : D → Bool
  | .lst o _ => o
  | .dct o _ _ => o
  | .ins o _ _ _ => o
  | _ => false
def D.frz : D → D
  | .lst _ ds => .lst false ds
  | .dct _ ks vs => .dct false ks vs
  | .ins _ c fs vs => .ins false c fs vs
  | d => d
def D.key : D → Option Key
  | .int i => some (.inl i)
  | .str s => some (.inr s)
  | _ => none
/-- a key that stands for a value as it is -/
def keyOk : Key → Bool
  | .inl _ => true
  | .inr s => s.cps.all (fun c => decide (c < 1114112)) && decide (s.cps.size ≤ 16777216)
def D.ofKey : Key → D
  | .inl i => .int i
  | .inr s => .str s
mutual
def D.depth : D → Nat
  | .tup ds => D.depthL ds + 1
  | .lst _ ds => D.depthL ds + 1
  | _ => 0
def D.depthL : List D → Nat
  | [] => 0
  | d :: ds => Nat.max (D.depth d) (D.depthL ds)
end
mutual
/-- nothing but None, bools, intL, texts, tuples, lists -/
def D.plain : D → Bool
  | .non => true
  | .bl _ => true
  | .int _ => true
  | .str _ => true
  | .tup ds => D.plainL ds
  | .lst _ ds => D.plainL ds
  | _ => false
def D.plainL : List D → Bool
  | [] => true
  | d :: ds => D.plain d && D.plainL ds
end
mutual
/-- Python's == of plain data -/
def D.eqv : D → D → Bool
  | .non, .non => true
  | .bl a, .bl b => a == b
  | .bl a, .int j => (if a then 1 else 0) == j
  | .int i, .bl b => i == (if b then 1 else 0)
  | .int i, .int j => i == j
  | .str x, .str y => x == y
  | .lst _ xs, .lst _ ys => D.eqvL xs ys
  | .tup xs, .tup ys => D.eqvL xs ys
  | _, _ => false
def D.eqvL : List D → List D → Bool
  | [], [] => true
  | x :: xs, y :: ys => D.eqv x y && D.eqvL xs ys
  | _, _ => false
end
def pyEq (a b : D) : Option Bool := if a.plain && b.plain && decide (a.depth ≤ 60) && decide (b.depth ≤ 60) then some (D.eqv a b) else none
def D.truth : D → Option Bool
  | .non => some false
  | .bl b => some b
  | .int i => some (i != 0)
  | .str s => some (s.cps.size != 0)
  | .tup ds => some (!ds.isEmpty)
  | .lst _ ds => some (!ds.isEmpty)
  | _ => none
/-- most items of a list, a tuple -/
def LINE : Nat := 16777216
def small64 (i : Int) : Bool := decide (-(2 ^ 64) < i ∧ i < 2 ^ 64)
def mulOk (i j : Int) : Bool := small64 i || small64 j || decide (i.natAbs.log2 + j.natAbs.log2 < 1000000)
def divOk (j : Int) : Bool := decide (0 < j ∧ j.natAbs.log2 < 9000)
def binop : Operator → D → D → Option D
  | .Add, .int i, .int j => some (.int (i + j))
  | .Add, .tup a, .tup b => if a.length + b.length ≤ LINE then some (.tup (a ++ b)) else none
  | .Add, .lst _ a, .lst _ b => if a.length + b.length ≤ LINE then some (.lst true (a ++ b)) else none
  | .Add, .str a, .str b => if a.cps.size + b.cps.size ≤ LINE then some (.str ⟨a.cps ++ b.cps⟩) else none
  | .Sub, .int i, .int j => some (.int (i - j))
  | .Mult, .int i, .int j => if mulOk i j then some (.int (i * j)) else none
  | .Mult, .lst _ a, .int j => if a.length * j.toNat ≤ LINE ∧ -(2 ^ 63) ≤ j ∧ j < 2 ^ 63 then some (.lst true (List.replicate j.toNat a).flatten) else none
  | .FloorDiv, .int i, .int j => if divOk j then some (.int (i / j)) else none
  | .Mod, .int i, .int j => if 0 < j then some (.int (i % j)) else none
  | .Pow, .int i, .int j => if 0 ≤ j ∧ j ≤ 1000000 ∧ i.natAbs < 2 ^ 64 then some (.int (i ^ j.toNat)) else none
  | _, _, _ => none
def negD : D → Option D
  | .int i => some (.int (-i))
  | _ => none
def memD (a : D) (ds : List D) : Option Bool := if a.plain && D.plainL ds && decide (a.depth ≤ 60) && decide (D.depthL ds ≤ 60) then some (ds.any fun z => D.eqv z a) else none
def cmpop : CmpOp → D → D → Option Bool
  | .Lt, .int i, .int j => some (decide (i < j))
  | .LtE, .int i, .int j => some (decide (i ≤ j))
  | .Gt, .int i, .int j => some (decide (j < i))
  | .GtE, .int i, .int j => some (decide (j ≤ i))
  | .Eq, a, b => pyEq a b
  | .NotEq, a, b => (pyEq a b).map (!·)
  | .In, a, .lst _ ds => memD a ds
  | .NotIn, a, .lst _ ds => (memD a ds).map (!·)
  | _, _, _ => none
def seqOf : D → Option (List D)
  | .tup ds => some ds
  | .lst _ ds => some ds
  | .scr is => some (is.map D.int)
  | _ => none
/-- a place of a list of so many items -/
def place (n : Nat) (i : Int) : Option Nat := if 0 ≤ i then (if i < n then some i.toNat else none) else if -(n : Int) ≤ i then some (i + n).toNat else none
def subscr : D → D → Option D
  | .tup ds, .int i => (place ds.length i).bind fun k => ds[k]?
  | .lst _ ds, .int i => (place ds.length i).bind fun k => ds[k]?
  | .scr is, .int i => (place is.length i).bind fun k => is[k]?.map D.int
  | .str s, .int i => (place s.cps.size i).bind fun k => s.cps[k]?.map fun c => .str ⟨#[c]⟩
  | _, _ => none
def intOf : D → Option Int
  | .int i => some i
  | _ => none
/-- a slice's bound -/
def bnd (n : Nat) (dfl : Nat) : Option Int → Nat
  | none => dfl
  | some i => if i < 0 then (i + n).toNat else min i.toNat n
def slice : D → Option Int → Option Int → Option D
  | .tup ds, lo, hi => some (.tup ((ds.take (bnd ds.length ds.length hi)).drop (bnd ds.length 0 lo)))
  | .lst _ ds, lo, hi => some (.lst true ((ds.take (bnd ds.length ds.length hi)).drop (bnd ds.length 0 lo)))
  | .scr is, lo, hi => some (.lst true (((is.take (bnd is.length is.length hi)).drop (bnd is.length 0 lo)).map D.int))
  | .str s, lo, hi => some (.str ⟨(((s.cps.toList).take (bnd s.cps.size s.cps.size hi)).drop (bnd s.cps.size 0 lo)).toArray⟩)
  | _, _, _ => none
def revD : D → Option D
  | .lst _ ds => some (.lst true ds.reverse)
  | _ => none
def intL : List D → Option (List Int)
  | [] => some []
  | .int i :: ds => (intL ds).map (i :: ·)
  | _ :: _ => none
def pairs : List D → Option (List (Int × Int))
  | [] => some []
  | .tup [.int i, .int j] :: ds => (pairs ds).map ((i, j) :: ·)
  | _ :: _ => none
def insert {α : Type} (lt : α → α → Bool) (a : α) : List α → List α
  | [] => [a]
  | b :: l => if lt b a then b :: insert lt a l else a :: b :: l
def isort {α : Type} (lt : α → α → Bool) : List α → List α
  | [] => []
  | a :: l => insert lt a (isort lt l)
def ltI (a b : Int) : Bool := decide (a < b)
def ltP (a b : Int × Int) : Bool := decide (a.1 < b.1) || (decide (a.1 = b.1) && decide (a.2 < b.2))
def pairD (p : Int × Int) : D := .tup [.int p.1, .int p.2]
def sortD (ds : List D) : Option (List D) := match intL ds with
  | some is => some ((isort ltI is).map D.int)
  | none => match pairs ds with
    | some ps => some ((isort ltP ps).map pairD)
    | none => none
def dedup (is : List Int) : List Int := is.foldr (fun i l => if l.contains i then l else i :: l) []
def sumI : List Int → Int
  | [] => 0
  | i :: is => i + sumI is
def minI (i : Int) (is : List Int) : Int := is.foldl (fun a b => if b < a then b else a) i
def maxI (i : Int) (is : List Int) : Int := is.foldl (fun a b => if b > a then b else a) i
def bools : List D → Option (List Bool)
  | [] => some []
  | .bl b :: ds => (bools ds).map (b :: ·)
  | _ :: _ => none
def dictPut {α : Type} (k : Key) (v : α) (ks : List Key) (vs : List α) : List Key × List α :=
  if ks.any (fun k' => decide (k' = k)) then (ks, List.zipWith (fun k' x => if k' = k then v else x) ks vs) else (ks ++ [k], vs ++ [v])
def dictGet {α : Type} (k : Key) (ks : List Key) (vs : List α) : Option α := ((ks.zip vs).find? fun p => decide (p.1 = k)).map (·.2)
def pairsK : List D → Option (List (Key × D))
  | [] => some []
  | .tup [k, v] :: ds => match k.key, pairsK ds with
    | some k, some r => some ((k, v) :: r)
    | _, _ => none
  | _ :: _ => none
def dictAll {α : Type} (kvs : List (Key × α)) : List Key × List α := kvs.foldl (fun acc p => dictPut p.1 p.2 acc.1 acc.2) ([], [])
def dictOf (ds : List D) : Option (List Key × List D) := (pairsK ds).map dictAll
def setOf (ds : List D) : Option D := (intL ds).map fun is => .set (dedup is)
def lenD : D → Option Int
  | .str s => some s.cps.size
  | .tup ds => some ds.length
  | .lst _ ds => some ds.length
  | .scr is => some is.length
  | _ => none
/-- a list's items -/
def listOf : D → Option (List D)
  | .lst _ ds => some ds
  | .scr is => some (is.map D.int)
  | _ => none
def intsOf (d : D) : Option (List Int) := (listOf d).bind intL
def minmax (mx : Bool) : List D → Option D
  | [.int i, .int j] => some (.int (if mx then (if j > i then j else i) else (if j < i then j else i)))
  | [d] => match intsOf d with
    | some (i :: is) => some (.int (if mx then maxI i is else minI i is))
    | _ => none
  | _ => none
def sortedD : D → Option D
  | d => ((listOf d).bind sortD).map (.lst true)
def dictD : D → Option D
  | .dct _ ks vs => some (.dct true ks vs)
  | d => ((seqOf d).bind dictOf).map fun p => .dct true p.1 p.2
def intD : D → Option D
  | .int i => some (.int i)
  | .bl b => some (.int (if b then 1 else 0))
  | _ => none
def blt1 (b : Blt) (d : D) : Option D := match b with
  | .len => (lenD d).map .int
  | .abs => (match d with
    | .int i => some (.int (if i < 0 then -i else i))
    | _ => none)
  | .min => minmax false [d]
  | .max => minmax true [d]
  | .sum => (intsOf d).map fun is => .int (sumI is)
  | .sorted => sortedD d
  | .sortedR => (intsOf d).map fun is => .lst true ((isort ltI is).reverse.map D.int)
  | .tuple => (seqOf d).map .tup
  | .list => (seqOf d).map (.lst true)
  | .set => (seqOf d).bind setOf
  | .dict => dictD d
  | .any => ((listOf d).bind bools).map fun bs => .bl (bs.any id)
  | .all => ((listOf d).bind bools).map fun bs => .bl (bs.all id)
  | .int => intD d
  | .str => none
  | .repr => none
def bltin (b : Blt) (ds : List D) : Option D := match ds with
  | [d] => blt1 b d
  | [x, y] => (match b with
    | .min => minmax false [x, y]
    | .max => minmax true [x, y]
    | _ => none)
  | _ => none
def tyNames : D → List Str
  | .non => ["NoneType"]
  | .bl _ => ["bool", "int"]
  | .int _ => ["int"]
  | .str _ => ["str"]
  | .tup _ => ["tuple"]
  | .lst _ _ => ["list"]
  | .dct _ _ _ => ["dict"]
  | .set _ => ["set"]
  | .scr _ => ["list"]
  | _ => []
def tyIs (d : D) (t : Str) : Bool := (tyNames d).contains t
def Prog.mroOf (G : Prog) (c : Str) : List Str := match G.cls.lookup c with
  | some k => k.mro
  | none => []
def isinst (G : Prog) (d : D) (t : Str) : Bool := match d with
  | .ins _ c _ _ => (G.mroOf c).contains t
  | .exo c _ _ => (G.mroOf c).contains t
  | d => tyIs d t

/-- a class of plain instances -/
def Prog.oc (G : Prog) (c : Str) : Bool := (G.cls.lookup c).any fun k => k.exf.isNone
def isiD (G : Prog) (d : D) (ts : List Str) : Option Bool := match d with
  | .glb _ => none
  | .set _ => none
  | .exo _ _ _ => none
  | .ins o c fs vs => if G.oc c then some (ts.any (isinst G (.ins o c fs vs))) else none
  | d => some (ts.any (isinst G d))

/-! ### slots -/
inductive Opd where
  | val (d : D)
  | slot (i : Nat)
@[simp] def getS (i : Nat) : M D := fun e => match e[i]? with
  | some (some d) => .ok d e
  | _ => .bad
@[simp] def Opd.get : Opd → M D
  | .val d => M.pure d
  | .slot i => getS i
@[simp] def getAll : List Opd → M (List D)
  | [] => M.pure []
  | o :: os => M.bind o.get fun d => M.bind (getAll os) fun ds => M.pure (d :: ds)
/-- a name as a value: what is owned is from now on shared -/
@[simp] def rdV (i : Nat) : M D := fun e => match e[i]? with
  | some (some d) => if d.own then .ok d.frz (e.set i (some d.frz)) else .ok d e
  | _ => .bad
def isVar : PE → Option Nat
  | .var i => some i
  | _ => none
@[simp] theorem isVar_var (i : Nat) : isVar (.var i) = some i := rfl
@[simp] theorem isVar_lit {x0} : isVar (.lit x0) = none := rfl
@[simp] theorem isVar_glob {x0} : isVar (.glob x0) = none := rfl
@[simp] theorem isVar_bin {x0 x1 x2} : isVar (.bin x0 x1 x2) = none := rfl
@[simp] theorem isVar_neg {x0} : isVar (.neg x0) = none := rfl
@[simp] theorem isVar_not {x0} : isVar (.not x0) = none := rfl
@[simp] theorem isVar_and {x0 x1} : isVar (.and x0 x1) = none := rfl
@[simp] theorem isVar_or {x0 x1} : isVar (.or x0 x1) = none := rfl
@[simp] theorem isVar_cmp {x0 x1 x2} : isVar (.cmp x0 x1 x2) = none := rfl
@[simp] theorem isVar_chain {x0 x1 x2 x3 x4} : isVar (.chain x0 x1 x2 x3 x4) = none := rfl
@[simp] theorem isVar_isN {x0 x1} : isVar (.isN x0 x1) = none := rfl
@[simp] theorem isVar_ite {x0 x1 x2} : isVar (.ite x0 x1 x2) = none := rfl
@[simp] theorem isVar_tup {x0} : isVar (.tup x0) = none := rfl
@[simp] theorem isVar_lst {x0} : isVar (.lst x0) = none := rfl
@[simp] theorem isVar_dct {x0 x1} : isVar (.dct x0 x1) = none := rfl
@[simp] theorem isVar_sub {x0 x1} : isVar (.sub x0 x1) = none := rfl
@[simp] theorem isVar_sl {x0 x1 x2} : isVar (.sl x0 x1 x2) = none := rfl
@[simp] theorem isVar_rev {x0} : isVar (.rev x0) = none := rfl
@[simp] theorem isVar_attr {x0 x1} : isVar (.attr x0 x1) = none := rfl
@[simp] theorem isVar_call {x0 x1} : isVar (.call x0 x1) = none := rfl
@[simp] theorem isVar_mk {x0 x1} : isVar (.mk x0 x1) = none := rfl
@[simp] theorem isVar_mkV {x0 x1} : isVar (.mkV x0 x1) = none := rfl
@[simp] theorem isVar_meth {x0 x1 x2} : isVar (.meth x0 x1 x2) = none := rfl
@[simp] theorem isVar_bmeth {x0 x1 x2} : isVar (.bmeth x0 x1 x2) = none := rfl
@[simp] theorem isVar_smeth {x0 x1 x2} : isVar (.smeth x0 x1 x2) = none := rfl
@[simp] theorem isVar_callK {x0 x1 x2 x3} : isVar (.callK x0 x1 x2 x3) = none := rfl
@[simp] theorem isVar_mkK {x0 x1 x2 x3} : isVar (.mkK x0 x1 x2 x3) = none := rfl
@[simp] theorem isVar_methK {x0 x1 x2 x3 x4} : isVar (.methK x0 x1 x2 x3 x4) = none := rfl
@[simp] theorem isVar_smethK {x0 x1 x2 x3 x4} : isVar (.smethK x0 x1 x2 x3 x4) = none := rfl
@[simp] theorem isVar_sup {x0 x1} : isVar (.sup x0 x1) = none := rfl
@[simp] theorem isVar_blt {x0 x1} : isVar (.blt x0 x1) = none := rfl
@[simp] theorem isVar_minD {x0 x1} : isVar (.minD x0 x1) = none := rfl
@[simp] theorem isVar_isi {x0 x1} : isVar (.isi x0 x1) = none := rfl
@[simp] theorem isVar_ofIt {x0 x1 x2} : isVar (.ofIt x0 x1 x2) = none := rfl
@[simp] theorem isVar_comp {x0 x1 x2 x3 x4 x5} : isVar (.comp x0 x1 x2 x3 x4 x5) = none := rfl
@[simp] theorem isVar_compD {x0 x1 x2 x3 x4 x5} : isVar (.compD x0 x1 x2 x3 x4 x5) = none := rfl
@[simp] theorem isVar_isB {x0 x1 x2} : isVar (.isB x0 x1 x2) = none := rfl
@[simp] theorem isVar_comp2 {x0 x1 x2 x3 x4 x5 x6 x7} : isVar (.comp2 x0 x1 x2 x3 x4 x5 x6 x7) = none := rfl
@[simp] theorem isVar_dcomp {x0 x1 x2 x3 x4 x5} : isVar (.dcomp x0 x1 x2 x3 x4 x5) = none := rfl
@[simp] theorem isVar_fstr {x0 x1} : isVar (.fstr x0 x1) = none := rfl
@[simp] theorem isVar_bad : isVar .bad = none := rfl
def opd (p : PE) (v : M D) : M Opd := match isVar p with
  | some i => fun e => match e[i]? with
    | some (some _) => .ok (.slot i) e
    | _ => .bad
  | none => M.bind v fun d => M.pure (.val d)
@[simp] def setS (i : Nat) (d : D) : M Unit := fun e => .ok () (e.set i (some d))
mutual
def asgT : Tgt → D → M Unit
  | .nm i, d => setS i d
  | .tup ts, .tup ds => asgTs ts ds
  | .tup ts, .lst _ ds => asgTs ts ds
  | .tup ts, _ => M.bad
def asgTs : List Tgt → List D → M Unit
  | [], [] => M.pure ()
  | t :: ts, d :: ds => M.bind (asgT t d) fun _ => asgTs ts ds
  | _, _ => M.bad
end

/-! ### calls -/
def bindKw {α : Type} (G : Fn) (inj : D → α) (pos : List α) (kn : List Str) (kv : List α) : Nat → List Str → Option (List α)
  | _, [] => some []
  | j, p :: ps => match (if j < G.npos then pos[j]? else none), (kn.zip kv).lookup p, G.dfl.lookup p, bindKw G inj pos kn kv (j + 1) ps with
    | some a, _, _, some r => some (a :: r)
    | none, some a, _, some r => some (a :: r)
    | none, none, some d, some r => some (inj d :: r)
    | _, _, _, _ => none
def bindArgs {α : Type} (G : Fn) (inj : D → α) (pos : List α) (kn : List Str) (kv : List α) : Option (List α) :=
  if kn.isEmpty && pos.length == G.ps.length && pos.length == G.npos then some pos
  else if pos.length ≤ G.npos then bindKw G inj pos kn kv 0 G.ps else none
/-- what stood in the lent places comes back -/
def backTo : List Opd → List (Option D) → Env → Env
  | .slot i :: os, f :: fs, e => backTo os fs (match e[i]? with
    | some (some d) => if d.own then e.set i f else e
    | _ => e)
  | .val _ :: os, _ :: fs, e => backTo os fs e
  | _, _, e => e
def ownSlots : List Opd → Env → List Nat
  | [], _ => []
  | .slot i :: os, e => match e[i]? with
    | some (some d) => if d.own then i :: ownSlots os e else ownSlots os e
    | _ => ownSlots os e
  | .val _ :: os, e => ownSlots os e
def nodupN : List Nat → Bool
  | [] => true
  | i :: is => !is.contains i && nodupN is
def callO (cf : CF) (k : FnKey) (os : List Opd) : M D := fun e => match getAll os e with
  | .ok ds e => if nodupN (ownSlots os e) then (match cf k ds with
    | .ret d fin => .ok d (backTo os fin e)
    | .exc x fin => .exc x (backTo os fin e)
    | .bad => .bad) else .bad
  | _ => .bad
def starArgs (n : Nat) (ds : List D) : List D := ds.take (n - 1) ++ [.tup ((ds.drop (n - 1)).map D.frz)]
def callB (G : Prog) (cf : CF) (k : FnKey) (pos : List Opd) (kn : List Str) (kv : List Opd) : M D := match G.stars.lookup k with
  | some f => (match kn with
      | [] => M.bind (getAll pos) fun ds => if f.npos ≤ ds.length + 1 ∧ ds.length ≤ LINE ∧ ds.all (fun d => !d.own) ∧ f.ps.length = f.npos then callO cf k ((starArgs f.npos ds).map .val) else M.bad
      | _ => M.bad)
  | none => match G.fns.lookup k with
    | none => M.bad
    | some f => match bindArgs f .val pos kn kv with
      | some os => callO cf k os
      | none => M.bad
/-- every parameter by its place -/
def callX (G : Prog) (cf : CF) (k : FnKey) (os : List Opd) : M D := match G.fns.lookup k with
  | some f => if os.length = f.ps.length then callO cf k os else M.bad
  | none => M.bad
/-- what C(..) runs -/
def makeK (G : Prog) (c : Str) : Option (Cls × FnKey × Fn) := match G.cls.lookup c, G.meth.lookup (c, ("__init__" : Str)) with
  | some k, some (.inst, key) => match G.fns.lookup key with
    | some f => some (k, key, f)
    | none => none
  | _, _ => none
/-- C(..), every parameter by its place -/
def makeX (cf : CF) (c : Str) (k : Cls) (key : FnKey) (f : Fn) (pos : List Opd) : M D := fun e => if pos.length + 1 = f.ps.length then (match getAll pos e with
  | .ok ds e => if nodupN (ownSlots pos e) then (match cf key (.ins true c [] [] :: ds) with
    | .ret .non (some d :: fin) => .ok (if k.frz then d.frz else d) (backTo pos fin e)
    | .exc x (_ :: fin) => .exc x (backTo pos fin e)
    | _ => .bad) else .bad
  | _ => .bad) else .bad
/-- C(..) -/
def makeC (G : Prog) (cf : CF) (c : Str) (pos : List Opd) (kn : List Str) (kv : List Opd) : M D := match G.cls.lookup c, G.meth.lookup (c, ("__init__" : Str)) with
  | some k, some (.inst, key) => match G.fns.lookup key with
    | some f => match bindArgs f .val (.val (.ins true c [] []) :: pos) kn kv with
      | some os => fun e => match getAll os e with
        | .ok ds e => if nodupN (ownSlots os e) then (match cf key ds with
          | .ret .non (some d :: fin) => .ok (if k.frz then d.frz else d) (backTo (os.drop 1) fin e)
          | .exc x (_ :: fin) => .exc x (backTo (os.drop 1) fin e)
          | _ => .bad) else .bad
        | _ => .bad
      | none => M.bad
    | none => M.bad
  | _, _ => M.bad
def Prog.fld (G : Prog) (c f : Str) : Bool := match G.cls.lookup c with
  | some k => k.flds.contains f
  | none => false
/-- an attribute read -/
def getAttr (G : Prog) (cf : CF) (o : Opd) (f : Str) : M D := M.bind o.get fun d => match d with
  | .ins _ c fs vs => match (fs.zip vs).lookup f with
    | some v => if G.fld c f then M.pure v else M.bad
    | none => match G.meth.lookup (c, f) with
      | some (.prop, k) => M.nox (callX G cf k [o])
      | some _ => M.bad
      | none => match G.ccon.lookup (c, f) with
        | some v => M.pure v
        | none => M.bad
  | .exo _ fs vs => M.bad
  | _ => M.bad
/-- o.m(..) of a list, a dict: what is left of o, the answer -/
def bmeth : D → Str → List D → Option (D × D)
  | .lst true ds, m, [d] => if m = "append" then (if ds.length < LINE then some (.lst true (ds ++ [d.frz]), .non) else none)
    else if m = "extend" then (match d with
      | .lst _ xs => if ds.length + xs.length ≤ LINE then some (.lst true (ds ++ xs), .non) else none
      | _ => none)
    else none
  | .lst true ds, m, [] => if m = "pop" then (match ds.getLast? with
      | some d => some (.lst true ds.dropLast, d)
      | none => none) else none
  | .dct o ks vs, m, [k, d] => if m = "get" then k.key.map fun k => (.dct o ks vs, (dictGet k ks vs).getD d) else none
  | .dct o ks vs, m, [k] => if m = "get" then k.key.map fun k => (.dct o ks vs, (dictGet k ks vs).getD .non) else none
  | _, _, _ => none
def putBack (o : Opd) (d : D) : M Unit := match o with
  | .slot i => setS i d
  | .val _ => M.pure ()
def callM (G : Prog) (cf : CF) (o : Opd) (m : Str) (pos : List Opd) (kn : List Str) (kv : List Opd) : M D := M.bind o.get fun d => match d with
  | .ins _ c _ _ => match G.meth.lookup (c, m) with
    | some (.inst, k) => callB G cf k (o :: pos) kn kv
    | some (.stat, k) => callB G cf k pos kn kv
    | some (.clsm, k) => callB G cf k (.val (.glb c) :: pos) kn kv
    | _ => M.bad
  | d => match kn with
    | [] => M.bind (getAll pos) fun ds => match bmeth d m ds with
      | some (d', r) => M.bind (if d.own then putBack o d' else M.pure ()) fun _ => M.pure r
      | none => M.bad
    | _ => M.bad
/-- which def o.m is: with o ahead (true) or its class -/
def methK (G : Prog) (d : D) (m : Str) : Option (Bool × FnKey × Str) := match d with
  | .ins _ c fs _ => if fs.contains m then none else match G.meth.lookup (c, m) with
    | some (.inst, k) => if (G.fns.lookup k).isSome then some (true, k, c) else none
    | some (.clsm, k) => if (G.fns.lookup k).isSome then some (false, k, c) else none
    | _ => none
  | _ => none
def bmOk (m : Str) : D → Bool
  | .lst _ _ => m == "append" || m == "extend" || m == "pop"
  | .dct _ _ _ => m == "get"
  | _ => false
/-- o.m(..) of a list, a dict -/
def callBM (o : Opd) (m : Str) (ds : List D) : M D := M.bind o.get fun d => match bmeth d m ds with
  | some (d', r) => M.bind (if d.own then putBack o d' else M.pure ()) fun _ => M.pure r
  | none => M.bad
def rangeD (i j : Int) : Option (List D) := if -(2 ^ 62) ≤ i ∧ i < 2 ^ 62 ∧ -(2 ^ 62) ≤ j ∧ j < 2 ^ 62 then some ((List.range (j - i).toNat).map fun (k : Nat) => D.int (i + (k : Int))) else none
def zipD : List (List D) → List D
  | [a, b] => (a.zip b).map fun p => .tup [p.1, p.2]
  | [a, b, c] => (a.zip (b.zip c)).map fun p => .tup [p.1, p.2.1, p.2.2]
  | _ => []
/-- what a for walks -/
def items (k : ItK) (ds : List D) : Option (List D) := match k, ds with
  | .seq, [d] => seqOf d
  | .rng, [.int j] => rangeD 0 j
  | .rng, [.int i, .int j] => rangeD i j
  | .rrng, [.int j] => (rangeD 0 j).map List.reverse
  | .rrng, [.int i, .int j] => (rangeD i j).map List.reverse
  | .enum, [d] => (seqOf d).map fun xs => xs.zipIdx.map fun p => .tup [.int p.2, p.1]
  | .zip, ds => (ds.mapM seqOf).map zipD
  | .items, [.dct _ ks vs] => some ((ks.zip vs).map fun p => .tup [D.ofKey p.1, p.2])
  | .values, [.dct _ ks vs] => some vs
  | _, _ => none
/-- the owned things that are walked: they must stay as they are -/
def watch : List Opd → Env → List (Nat × D)
  | [], _ => []
  | .slot i :: os, e => match e[i]? with
    | some (some d) => if d.own then (i, d) :: watch os e else watch os e
    | _ => watch os e
  | .val _ :: os, e => watch os e
def still (w : List (Nat × D)) (e : Env) : Bool := w.all fun p => decide (e[p.1]? = some (some p.2))
def noAsg (w : List (Nat × D)) (is : List Nat) : Bool := w.all fun p => !is.contains p.1
/-- slots given back -/
def wipeSlots (own : List Nat) (e : Env) : Env := own.foldl (fun e i => e.set i none) e
/-- a comprehension's turns -/
def compL (turn : D → M (Option D)) (w : List (Nat × D)) : List D → List D → M (List D)
  | [], acc => M.pure acc
  | d :: ds, acc => M.bind (M.nox (turn d)) fun r e => if still w e then (match r with
    | some v => if acc.length < LINE then compL turn w ds (acc ++ [v]) e else .bad
    | none => compL turn w ds acc e) else .bad
def innerL (turn : D → M D) : List D → List D → M (List D)
  | [], acc => M.pure acc
  | d :: ds, acc => M.bind (turn d) fun v => innerL turn ds (acc ++ [v])
def condsL : List (M Bool) → M Bool
  | [] => M.pure true
  | c :: cs => M.bind c fun r => if r then condsL cs else M.pure false
/-- a turn: the block's own names are new -/
def turnC (own : List Nat) (asg : D → M Unit) (cond : M Bool) (elt : M D) (d : D) : M (Option D) := fun e =>
  ((M.bind (asg d) fun _ => M.bind cond fun c => if c then M.bind elt fun v => M.pure (some v.frz) else M.pure none) e).bind fun r e' => .ok r (wipeSlots own e')
def comp2L (its : D → M (List D)) (turn : D → M D) (w : List (Nat × D)) : List D → List D → M (List D)
  | [], acc => M.pure acc
  | d :: ds, acc => M.bind (its d) fun xs => M.bind (innerL turn xs acc) fun acc e => if still w e then comp2L its turn w ds acc e else .bad
def ofKind (k : Blt) (ds : List D) : Option D := if ds.length ≤ LINE then (match k with
  | .list => some (.lst true ds)
  | k => bltin k [.lst true ds]) else none

def fmt (r : Bool) : D → Option Str
  | .int i => some (toString i)
  | .str s => if r then none else some s
  | _ => none
def fmts : List D → List Bool → Option Str
  | [], [] => some ⟨#[]⟩
  | d :: ds, r :: rs => match fmt r d, fmts ds rs with
    | some a, some b => some ⟨a.cps ++ b.cps⟩
    | _, _ => none
  | _, _ => none

def test (m : M Opd) : M Bool := M.bind m fun x => M.bind x.get fun d => M.opt d.truth
/-- an operand's value, kept -/
@[simp] def valO : Opd → M D
  | .val d => M.pure d
  | .slot i => rdV i
mutual
def evE (G : Prog) (cf : CF) : PE → M D
  | .var i => rdV i
  | .lit d => M.pure d
  | .glob g => M.opt (G.con.lookup g)
  | .bin op a b => M.bind (opd a (evE G cf a)) fun x => M.bind (opd b (evE G cf b)) fun y => M.bind x.get fun d => M.bind y.get fun d' => M.opt (binop op d d')
  | .neg a => M.bind (opd a (evE G cf a)) fun x => M.bind x.get fun d => M.opt (negD d)
  | .not a => M.bind (opd a (evE G cf a)) fun x => M.bind x.get fun d => M.opt (d.truth.map fun b => .bl !b)
  | .and a b => M.bind (opd a (evE G cf a)) fun x => M.bind x.get fun d => match d.truth with
    | some true => evE G cf b
    | some false => valO x
    | none => M.bad
  | .or a b => M.bind (opd a (evE G cf a)) fun x => M.bind x.get fun d => match d.truth with
    | some true => valO x
    | some false => evE G cf b
    | none => M.bad
  | .cmp op a b => M.bind (opd a (evE G cf a)) fun x => M.bind (opd b (evE G cf b)) fun y => M.bind x.get fun d => M.bind y.get fun d' => M.opt ((cmpop op d d').map D.bl)
  | .chain op op' a b c => M.bind (opd a (evE G cf a)) fun x => M.bind (opd b (evE G cf b)) fun y => M.bind x.get fun d => M.bind y.get fun d' => M.bind (M.opt (cmpop op d d')) fun r => match r with
    | false => M.pure (.bl false)
    | true => M.bind (opd c (evE G cf c)) fun z => M.bind y.get fun d' => M.bind z.get fun d'' => M.bind (M.opt (cmpop op' d' d'')) fun r => M.pure (.bl r)
  | .isN n a => M.bind (opd a (evE G cf a)) fun x => M.bind x.get fun d => M.pure (.bl (decide (d = .non) != n))
  | .isB n b a => M.bind (opd a (evE G cf a)) fun x => M.bind x.get fun d => M.pure (.bl (decide (d = .bl b) != n))
  | .ite c a b => M.bind (evT G cf c) fun r => if r then evE G cf a else evE G cf b
  | .tup es => M.bind (evEs G cf es) fun ds => if ds.length ≤ LINE then M.pure (.tup ds) else M.bad
  | .lst es => M.bind (evEs G cf es) fun ds => if ds.length ≤ LINE then M.pure (.lst true ds) else M.bad
  | .dct ks vs => M.bind (evEs G cf ks) fun kd => M.bind (evEs G cf vs) fun vd => match dictOf ((kd.zip vd).map fun p => .tup [p.1, p.2]) with
    | some p => M.pure (.dct true p.1 p.2)
    | none => M.bad
  | .sub a b => M.bind (opd a (evE G cf a)) fun x => M.bind (opd b (evE G cf b)) fun y => M.bind x.get fun d => M.bind y.get fun d' => M.opt (subscr d d')
  | .sl a lo hi => M.bind (opd a (evE G cf a)) fun x => M.bind (evOp G cf lo) fun l => M.bind (evOp G cf hi) fun h => M.bind x.get fun d => M.opt (slice d l h)
  | .rev a => M.bind (opd a (evE G cf a)) fun x => M.bind x.get fun d => M.opt (revD d)
  | .attr a f => M.bind (opd a (evE G cf a)) fun x => getAttr G cf x f
  | .call k es => M.bind (evOs G cf es) fun os => callX G cf (k, none) os
  | .mk c es => match makeK G c with
    | some (k, key, f) => M.bind (evOs G cf es) fun os => makeX cf c k key f os
    | none => M.bad
  | .mkV i es => M.bind (getS i) fun d => match d with
    | .glb c => (match makeK G c with
      | some (k, key, f) => M.bind (evOs G cf es) fun os => makeX cf c k key f os
      | none => M.bad)
    | _ => M.bad
  | .meth o m es => M.bind (opd o (evE G cf o)) fun x => M.bind x.get fun d => match methK G d m with
    | some (i, k, c) => M.bind (evOs G cf es) fun os => callX G cf k ((if i then x else .val (.glb c)) :: os)
    | none => M.bad
  | .bmeth o m es => M.bind (opd o (evE G cf o)) fun x => M.bind x.get fun d => if bmOk m d then M.bind (evEs G cf es) fun ds => callBM x m ds else M.bad
  | .smeth c m es => match G.meth.lookup (c, m) with
    | some (.stat, k) => M.bind (evOs G cf es) fun os => callX G cf k os
    | some (.clsm, k) => M.bind (evOs G cf es) fun os => callX G cf k (.val (.glb c) :: os)
    | _ => M.bad
  | .callK k es kn ks => M.bind (evOs G cf es) fun os => M.bind (evOs G cf ks) fun kv => callB G cf (k, none) os kn kv
  | .mkK c es kn ks => M.bind (evOs G cf es) fun os => M.bind (evOs G cf ks) fun kv => makeC G cf c os kn kv
  | .methK o m es kn ks => M.bind (opd o (evE G cf o)) fun x => M.bind (evOs G cf es) fun os => M.bind (evOs G cf ks) fun kv => callM G cf x m os kn kv
  | .smethK c m es kn ks => M.bind (evOs G cf es) fun os => M.bind (evOs G cf ks) fun kv => match G.meth.lookup (c, m) with
    | some (.stat, k) => callB G cf k os kn kv
    | some (.clsm, k) => callB G cf k (.val (.glb c) :: os) kn kv
    | _ => M.bad
  | .sup k es => M.bind (evOs G cf es) fun os => callB G cf k (.slot 0 :: os) [] []
  | .blt b es => M.bind (evOs G cf es) fun os => M.bind (getAll os) fun ds => M.opt (bltin b ds)
  | .minD a d => M.bind (opd a (evE G cf a)) fun x => M.bind (evE G cf d) fun d0 => M.bind x.get fun d => match intsOf d with
    | some [] => M.pure d0
    | some (i :: is) => M.pure (.int (minI i is))
    | none => M.bad
  | .isi a ts => M.bind (opd a (evE G cf a)) fun x => M.bind x.get fun d => M.opt ((isiD G d ts).map D.bl)
  | .ofIt b k es => M.bind (evOs G cf es) fun os => M.bind (getAll os) fun ds => M.bind (M.opt (items k ds)) fun xs => M.opt (ofKind b xs)
  | .comp elt tg own k it ifs => M.bind (evOs G cf it) fun os => M.bind (getAll os) fun ds => M.bind (M.opt (items k ds)) fun xs => fun e =>
      if still (watch os e) (wipeSlots own e) then (compL (turnC own (asgT tg) (condsL (evTs G cf ifs)) (evE G cf elt)) (watch os e) xs [] (wipeSlots own e)).bind fun ds e' => .ok (.lst true ds) e' else .bad
  | .compD vals elt tg own i ifs => fun e => match e[i]? with
    | some (some (.dct true ks vs)) => if !vals && !ks.all keyOk then .bad else (compL (turnC own (asgT tg) (condsL (evTs G cf ifs)) (evE G cf elt)) []
        (if vals then vs else (ks.zip vs).map fun p => .tup [D.ofKey p.1, p.2]) [] (wipeSlots own (e.set i none))).bind fun ds e' => .ok (.lst true ds) (e'.set i (some (.dct true ks vs)))
    | _ => .bad
  | .comp2 elt tg own k it tg2 k2 it2 => M.bind (evOs G cf it) fun os => M.bind (getAll os) fun ds => M.bind (M.opt (items k ds)) fun xs => fun e =>
      (comp2L (fun d => M.nox (M.bind (asgT tg d) fun _ => M.bind (evOs G cf it2) fun os => M.bind (getAll os) fun ds => M.opt (items k2 ds))) (fun d => M.nox (M.bind (asgT tg2 d) fun _ => M.bind (evE G cf elt) fun v => M.pure v.frz)) (watch os e) xs []
        (wipeSlots own e)).bind fun ds e' => M.opt (ofKind .list ds) (wipeSlots own e')
  | .dcomp ke ve tg own k it => M.bind (evOs G cf it) fun os => M.bind (getAll os) fun ds => M.bind (M.opt (items k ds)) fun xs => fun e =>
      (compL (fun d => fun e => (M.bind (asgT tg d) fun _ => M.bind (evE G cf ke) fun a => M.bind (evE G cf ve) fun v => M.pure (some (.tup [a, v.frz]))) (wipeSlots own e)) (watch os e) xs [] e).bind fun ds e' => M.opt ((dictOf ds).map fun p => .dct true p.1 p.2) (wipeSlots own e')
  | .fstr ps rs => M.bind (evEs G cf ps) fun ds => M.bind (M.opt (fmts ds rs)) fun s => M.pure (.str s)
  | .bad => M.bad
def evEs (G : Prog) (cf : CF) : List PE → M (List D)
  | [] => M.pure []
  | e :: es => M.bind (evE G cf e) fun d => M.bind (evEs G cf es) fun ds => M.pure (d.frz :: ds)
def evRs (G : Prog) (cf : CF) : List PE → M (List D)
  | [] => M.pure []
  | e :: es => M.bind (evE G cf e) fun d => M.bind (evRs G cf es) fun ds => M.pure (d :: ds)
def evOs (G : Prog) (cf : CF) : List PE → M (List Opd)
  | [] => M.pure []
  | e :: es => M.bind (opd e (evE G cf e)) fun d => M.bind (evOs G cf es) fun ds => M.pure (d :: ds)
def evT (G : Prog) (cf : CF) : PB → M Bool
  | .val e => test (opd e (evE G cf e))
  | .not a => M.bind (evT G cf a) fun r => M.pure (!r)
  | .and a b => M.bind (evT G cf a) fun r => if r then evT G cf b else M.pure false
  | .or a b => M.bind (evT G cf a) fun r => if r then M.pure true else evT G cf b
def evTs (G : Prog) (cf : CF) : List PB → List (M Bool)
  | [] => []
  | e :: es => evT G cf e :: evTs G cf es
def evOp (G : Prog) (cf : CF) : Option PE → M (Option Int)
  | none => M.pure none
  | some e => M.bind (evE G cf e) fun d => M.opt ((intOf d).map some)
end

/-! ### statements -/
inductive Fl where
  | nx | rt (d : D) | bk | ct
def forL (turn : D → M Fl) (w : List (Nat × D)) : List D → M Fl
  | [] => M.pure .nx
  | d :: ds => M.bind (turn d) fun f e => match f with
    | .bk => .ok .nx e
    | .rt v => .ok (.rt v) e
    | _ => if still w e then forL turn w ds e else .bad
def whL (c : M Bool) (turn : M Fl) : Nat → M Fl
  | 0 => M.bad
  | n + 1 => M.bind c fun b => if b then M.bind turn fun f => match f with
      | .bk => M.pure .nx
      | .rt v => M.pure (.rt v)
      | _ => whL c turn n
    else M.pure .nx
/-- most turns of a while -/
def TURNS : Nat := 1000000
def augD (op : Operator) (a b : D) : Option D := match op, a, b with
  | .Add, .int _, .int _ => binop op a b
  | .Sub, .int _, .int _ => binop op a b
  | .Add, .str _, .str _ => binop op a b
  | _, _, _ => none
def setAt (d : D) (k v : D) : Option D := match d, k with
  | .lst true ds, .int i => (place ds.length i).map fun j => .lst true (ds.set j v)
  | .dct true ks vs, k => if ks.length < LINE then k.key.map fun k => .dct true (dictPut k v ks vs).1 (dictPut k v ks vs).2 else none
  | _, _ => none
def putAttr (f : Str) (v : D) : List Str → List D → List Str × List D
  | g :: fs, x :: vs => if g = f then (g :: fs, v :: vs) else (g :: (putAttr f v fs vs).1, x :: (putAttr f v fs vs).2)
  | _, _ => ([f], [v])
def setAttrD (G : Prog) (d : D) (f : Str) (v : D) : Option D := match d with
  | .ins true c fs vs => if fs.length < 900 ∧ G.fld c f = true then some (.ins true c (putAttr f v fs vs).1 (putAttr f v fs vs).2) else none
  | _ => none
/-- which case, with what in its names: [word, a, ..] of a sequence -/
def excOf (G : Prog) (c : Str) (ds : List D) : Option D := match G.cls.lookup c with
  | some k => match k.exf, ds with
    | some none, [] => some (.exo c [] [])
    | some (some f), [d] => some (.exo c [f] [d.frz])
    | _, _ => none
  | none => none
def catches (G : Prog) (cs : List Str) : D → Bool
  | .exo c _ _ => cs.any ((G.mroOf c).contains)
  | _ => false
def bindAll : List Nat → List D → M Unit
  | [], [] => M.pure ()
  | i :: is, d :: ds => M.bind (setS i d) fun _ => bindAll is ds
  | _, _ => M.bad
/-- what is handed back: an own thing goes out as it is -/
def retV (p : PE) (v : M D) : M Fl := match isVar p with
  | some i => M.bind (getS i) fun d e => .ok (.rt d) (if d.own then e.set i none else e)
  | none => M.bind v fun d => M.pure (.rt d)
/-- [a, b, ..] of n names: the items, or no match -/
def caseOf (d : D) (n : Nat) : Option (Option (List D)) := match d with
  | .tup ds => if ds.length = n then some (some ds) else some none
  | .non => some none
  | .bl _ => some none
  | .int _ => some none
  | .str _ => some none
  | _ => none
mutual
def evS (G : Prog) (cf : CF) : PS → M Fl
  | .expr e => M.bind (evE G cf e) fun _ => M.pure .nx
  | .asg t e => M.bind (evE G cf e) fun d => M.bind (asgT t d) fun _ => M.pure .nx
  | .par ts es => M.bind (evRs G cf es) fun ds => M.bind (bindAll ts ds) fun _ => M.pure .nx
  | .asgSub a b e => M.bind (evE G cf e) fun v => M.bind (opd a (M.bad)) fun x => M.bind (opd b (evE G cf b)) fun y => M.bind x.get fun d => M.bind y.get fun k => match setAt d k v.frz with
    | some d' => M.bind (putBack x d') fun _ => M.pure .nx
    | none => M.bad
  | .asgAttr a f e => M.bind (evE G cf e) fun v => M.bind (opd a (M.bad)) fun x => M.bind x.get fun d => match setAttrD G d f v.frz with
    | some d' => M.bind (putBack x d') fun _ => M.pure .nx
    | none => M.bad
  | .aug i op e => M.bind (getS i) fun d => M.bind (opd e (evE G cf e)) fun y => M.bind y.get fun d' => match augD op d d' with
    | some r => M.bind (setS i r) fun _ => M.pure .nx
    | none => M.bad
  | .augAttr a f op e => M.bad
  | .ite c a b => M.bind (evT G cf c) fun r => if r then evSs G cf a else evSs G cf b
  | .wh c b => whL (evT G cf c) (evSs G cf b) TURNS
  | .for_ t k it b => M.bind (evOs G cf it) fun os => M.bind (getAll os) fun ds => M.bind (M.opt (items k ds)) fun xs => fun e =>
      if noAsg (watch os e) (t.slots ++ PS.asgss b) then forL (fun d => M.bind (asgT t d) fun _ => evSs G cf b) (watch os e) xs e else .bad
  | .ret e => retV e (evE G cf e)
  | .raise_ c es => M.bind (evEs G cf es) fun ds => match excOf G c ds with
    | some x => fun e => .exc x e
    | none => M.bad
  | .brk => M.pure .bk
  | .cont => M.pure .ct
  | .pass => M.pure .nx
  | .bad => M.bad
  | .try_ b hs nm bs => fun e => match evSs G cf b e with
    | .exc x e => evHs G cf x hs nm bs e
    | r => r
  | .mtch s pats gs bs dfl => M.bind (evE G cf s) fun d => evCs G cf d.frz pats gs bs (evSs G cf dfl)
def evSs (G : Prog) (cf : CF) : List PS → M Fl
  | [] => M.pure .nx
  | s :: ss => M.bind (evS G cf s) fun f => match f with
    | .nx => evSs G cf ss
    | f => M.pure f
def evHs (G : Prog) (cf : CF) (x : D) : List (List Str) → List (Option Nat) → List (List PS) → M Fl
  | h :: hs, n :: nm, b :: bs => if catches G h x then (match n with
      | some i => M.bind (setS i x) fun _ => M.bind (evSs G cf b) fun f e => .ok f (e.set i none)
      | none => evSs G cf b)
    else evHs G cf x hs nm bs
  | _, _, _ => fun e => .exc x e
def evCs (G : Prog) (cf : CF) (d : D) : List (List Nat) → List (Option PB) → List (List PS) → M Fl → M Fl
  | p :: pats, g :: gs, b :: bs, dfl => match caseOf d p.length with
    | some (some ds) => M.bind (bindAll p ds) fun _ => (match g with
        | none => evSs G cf b
        | some c => M.bind (evT G cf c) fun r => if r then evSs G cf b else evCs G cf d pats gs bs dfl)
    | some none => evCs G cf d pats gs bs dfl
    | none => M.bad
  | [], [], [], dfl => dfl
  | _, _, _, _ => M.bad
end
/-- what is left in the lent parameters -/
def fins (asg : List Nat) : Nat → List D → Env → List (Option D)
  | j, d :: ds, o :: e => (if d.own && !asg.contains j then o else none) :: fins asg (j + 1) ds e
  | _, _, _ => []
def runF (G : Prog) (cf : CF) (f : Fn) (ds : List D) : CR := match evSs G cf f.body (ds.map some ++ List.replicate (f.ns - ds.length) none) with
  | .ok (.rt d) e => .ret d (fins f.asg 0 ds e)
  | .ok .nx e => .ret .non (fins f.asg 0 ds e)
  | .exc x e => .exc x (fins f.asg 0 ds e)
  | _ => .bad
def evF (G : Prog) : Nat → CF
  | 0 => fun _ _ => .bad
  | n + 1 => fun k ds => match G.fns.lookup k with
    | some f => if ds.length = f.ps.length then runF G (evF G n) f ds else .bad
    | none => match G.stars.lookup k with
      | some f => if ds.length = f.ps.length then runF G (evF G n) f ds else .bad
      | none => .bad
end PL

-- S0
set_option Elab.async false
set_option linter.all false
set_option maxRecDepth 100000
set_option maxHeartbeats 1000000
/-! tuples known to their object: made by the same steps as the layer's, told with the object -/
namespace L2
open PySem PySem.Spec PyProof.Rows
/-- a tuple whose object has no dict of its own -/
def Tz (K : PySem.W.Frag) (H : Hp) (a : Addr) (xs : List V) : Prop := (∃ o : Obj, o.dict = none ∧ H a = some (.frz o (.tup xs))) ∨
  ∃ (o : Obj) (its : Array Value) (n : Nat), K.lookup a = some o ∧ o.cls = .type "tuple" ∧ o.dict = none ∧ o.data = .seq its n ∧ its.size ≤ sizeLine ∧ Vals xs its.toList
theorem Tz.sq {K : PySem.W.Frag} {H : Hp} {a : Addr} {xs : List V} (h : Tz K H a xs) : SqT K H a xs := by
  rcases h with ⟨o, _, e⟩ | ⟨o, its, n, h1, h2, _, h4, h5, h6⟩
  · exact .inl (.inr ⟨o, e⟩)
  · exact .inr ⟨o, its, n, h1, h2, h4, h5, h6⟩
theorem Tz.up {K : PySem.W.Frag} {H H' : Hp} {a : Addr} {xs : List V} (h : Tz K H a xs) (k : ∀ a o, H a = some o → H' a = some o) : Tz K H' a xs := by
  rcases h with ⟨o, d, e⟩ | h
  · exact .inl ⟨o, d, k _ _ e⟩
  · exact .inr h
/-- a new tuple, laid -/
theorem Inv.zlaid {X : Cx} {pins : List (Addr × Obj)} {σ : St} {H : Hp} {s : Shared} {xs : List V} {its : List Value} (I : Inv X pins σ H s) (r : Vals xs its) (z : xs.length ≤ sizeLine) :
    Inv X pins σ (upd H s.heap.objs.size (.frz { cls := .type "tuple", data := .seq its.toArray } (.tup xs))) { s with heap := s.heap.push { cls := .type "tuple", data := .seq its.toArray } } :=
  I.laid (t' := s.toks) (fun _ _ e => Heap.get?_push_of_some _ e) (Nat.le_refl _) ⟨Heap.get?_push_size _ rfl, z, its, r, IsTup.new _ _⟩
/-- what is wanted of a new tuple -/
abbrev NewT (H : Hp) (xs : List V) (Q : VK) : Prop := ∀ (p : Addr) (o : Obj), o.dict = none → H p = none → Q (.ref p) (upd H p (.frz o (.tup xs)))
section
variable {X : Cx} {es : List Expr} {t : TA} {pos : Pos}
def zTup (t : TA) : TE := fun σ H Q => t σ H fun xs H1 => xs.length ≤ sizeLine ∧ NewT H1 xs Q
theorem ze_tup {k : Nat} (h : PA X es t) : PE X (.Tuple es k pos) (zTup t) := ⟨fun pins s σ H Q I hq =>
  wpAny_Tuple_spliced (thn (h.run pos pins s σ H _ I hq) fun us s1 ⟨xs, H1, I1, r, z, q⟩ => ⟨by rw [← r.length]; exact z, .ref s1.heap.objs.size, _, I1.zlaid r z, rfl, q _ _ rfl I1.fresh⟩)⟩
def zCat (K : PySem.W.Frag) : R2 := fun x y H Q => ∃ a b xs ys, x = .ref a ∧ y = .ref b ∧ SqT K H a xs ∧ SqT K H b ys ∧ xs.length + ys.length ≤ sizeLine ∧
  (xs = [] → Q (.ref b) H) ∧ (xs ≠ [] → ys = [] → Q (.ref a) H) ∧ (xs ≠ [] → ys ≠ [] → NewT H (xs ++ ys) Q)
theorem zo_cat : OpR X (binaryOp .Add) (zCat X.K) := by
  rintro pins s σ H x y v u Q I rx ry ⟨a, b, xs, ys, rfl, rfl, ha, hb, hz, q0, q1, q2⟩
  cases rx
  cases ry
  obtain ⟨is1, r1, p1, _⟩ := I.tuple ha
  obtain ⟨is2, r2, p2, _⟩ := I.tuple hb
  by_cases hx : xs = []
  · subst hx
    cases r1
    exact cat_tup0 p1 p2 ⟨.ref b, H, I, rfl, q0 rfl⟩
  · exact HT.cat_tup p1 p2 (fun z => hx (r1.nil_iff.mp z)) (fun z => ⟨.ref a, H, I, rfl, q1 hx (r2.nil_iff.mp z)⟩)
      (fun z => ⟨.ref s.heap.objs.size, _, I.zlaid (r1.append r2) (by rw [List.length_append]; exact hz), rfl, q2 hx (fun w => z (r2.nil_iff.mpr w)) _ _ rfl I.fresh⟩) (by rw [← r1.length, ← r2.length]; exact hz)
def zSl (K : PySem.W.Frag) : V → Option Int → Option Int → Hp → VK → Prop := fun x lo hi H Q => ∃ a xs, x = .ref a ∧ SqT K H a xs ∧
  (HT.sIx xs.length 0 lo = 0 ∧ HT.sIx xs.length xs.length hi = xs.length → Q (.ref a) H) ∧ (¬ (HT.sIx xs.length 0 lo = 0 ∧ HT.sIx xs.length xs.length hi = xs.length) → NewT H (cutV xs lo hi) Q)
theorem zs_tup : SlR X (zSl X.K) := by
  rintro pins s σ H x v vl vu lo hi sl Q I rx hs pl pu ⟨a, xs, rfl, hx, q1, q2⟩
  cases rx
  obtain ⟨is, r, ht, hz⟩ := I.tuple hx
  have hl : is.toArray.size = xs.length := by rw [List.size_toArray]; exact r.length.symm
  refine ⟨"tuple", _, PyProof.Rows.slot_tuple_getitem.lookup, ht.typeIs, ?_⟩
  by_cases hw : HT.sIx xs.length 0 lo = 0 ∧ HT.sIx xs.length xs.length hi = xs.length
  · exact getItem_tuple_whole ht hs pl pu (by rw [hl]; exact hw) ⟨.ref a, H, I, rfl, q1 hw⟩
  · refine HT.getItem_tuple_cut ht hs pl pu (by rw [hl]; exact hw) ?_ (by rw [hl]; exact hz)
    rw [hl]
    exact ⟨.ref s.heap.objs.size, _, I.zlaid ((r.drop (HT.sIx xs.length 0 lo)).take (HT.sIx xs.length xs.length hi - HT.sIx xs.length 0 lo)) (Nat.le_trans (cutV_length xs lo hi) hz), rfl, q2 hw _ _ rfl I.fresh⟩
/-- tuple(xs), a list -/
theorem zc_tuple : CallR X (.type "tuple") (fun xs H Q => ∃ p ys, xs = [.ref p] ∧ SqL X.K H p ys ∧ NewT H ys Q) := by
  rintro pins s σ H xs us Q I r ⟨p, ys, rfl, hq, q⟩
  obtain ⟨u, rfl, rx⟩ := vals1 r
  cases rx
  obtain ⟨is, r', pl, hz⟩ := I.list hq
  have hl := r'.length
  refine call_tuple_list pl.isList (fun h' kp => ?_) (by simp only [List.size_toArray]; omega)
  have I1 : Inv X pins σ H { s with heap := h' } := I.kept (t' := s.toks) kp
  exact ⟨.ref h'.objs.size, _, I1.zlaid r' hz, rfl, q _ _ rfl I1.fresh⟩
/-- dict(t) of a tuple of pairs (key, value): later ones win, the place is the first one's -/
theorem zc_dict (hc : X.calm = true) : CallR X (.type "dict") (fun xs H Q => ∃ (a : Addr) (ps : List Addr) (kvs : List (Key × V)), xs = [.ref a] ∧ Tz X.K H a (ps.map V.ref) ∧ Paired (fun p kv => SqT X.K H p [kV kv.1, kv.2]) ps kvs ∧
    ∀ p, H p = none → Q (.ref p) (upd H p (.dK (mergeK [] kvs)))) := by
  rintro pins s σ H xs us Q I r ⟨a, ps, kvs, rfl, hq, hp, q⟩
  obtain ⟨u, rfl, rx⟩ := vals1 r
  cases rx
  obtain ⟨prs, rel, hl, hpr⟩ := pairs_of I hp
  -- the tuple's object
  have ob : ∃ (o : Obj) (its : List Value) (n : Nat), s.heap.get? a = some o ∧ o.cls = .type "tuple" ∧ o.dict = none ∧ o.data = .seq its.toArray n ∧ Vals (ps.map V.ref) its ∧ its.length ≤ sizeLine := by
    rcases hq with ⟨o, hd, e⟩ | ⟨o, its, n, h1, h2, h3, h4, h5, h6⟩
    · obtain ⟨e1, z, its, rv, ob⟩ := I.hok a _ e
      obtain ⟨o2, e2, c2, n, d2⟩ := ob
      rw [e1] at e2
      cases e2
      exact ⟨o, its, n, e1, c2, hd, d2, rv, by rw [← rv.length]; exact z⟩
    · exact ⟨o, its.toList, n, I.kIn a o h1, h2, h3, by simpa using h4, h6, by simpa using h5⟩
  obtain ⟨o, its, n, e1, c1, d1, t1, rv, z⟩ := ob
  have ei := refs_at rv
  subst ei
  rw [List.length_map] at z
  have pl : PySem.PlainSeq "tuple" s.heap a (ps.map Value.ref).toArray := ⟨o, n, e1, c1, d1, t1⟩
  -- the values of the pairs' keys
  have hk : ∃ (ks : List (Value × Value)), ks.length = prs.length ∧ ∀ (j : Nat) (k v : Value), ks[j]? = some (k, v) → ∃ (b : Addr) (q : Key × Value), ps[j]? = some b ∧ prs[j]? = some q ∧ q.2 = v ∧ IsTup s.heap b #[k, v] ∧ keyIs q.1 k = true := by
    have all : ∀ j, j < prs.length → ∃ kv : Value × Value, ∃ (b : Addr) (q : Key × Value), ps[j]? = some b ∧ prs[j]? = some q ∧ q.2 = kv.2 ∧ IsTup s.heap b #[kv.1, kv.2] ∧ keyIs q.1 kv.1 = true := fun j hj => by
      obtain ⟨b, u, x1, x2, x3⟩ := hpr j prs[j] (List.getElem?_eq_getElem hj)
      exact ⟨(u, (prs[j]).2), b, prs[j], x1, List.getElem?_eq_getElem hj, rfl, x2, x3⟩
    refine ⟨List.ofFn fun j : Fin prs.length => Classical.choose (all j.1 j.2), by simp, fun j k v e => ?_⟩
    obtain ⟨hj, e'⟩ := List.getElem?_eq_some_iff.mp e
    rw [List.length_ofFn] at hj
    rw [List.getElem_ofFn] at e'
    have sp := Classical.choose_spec (all j hj)
    rw [e'] at sp
    exact sp
  obtain ⟨ks, lk, hks⟩ := hk
  refine PySem.call_dict_pairs (knd := mixKind X.prog X.w) (kvs := prs) (PySem.PairArg.tuple a (ps.map Value.ref).toArray (fun j => ps.getD j 0) ks) (I.ok.hd hc) ⟨pl, by simp [lk, hl], fun j k v e => ?_⟩ ⟨lk.symm, fun j k v e => ?_⟩ (by rw [lk, hl]; exact z) fun h' tk hd' kp => ?_
  · obtain ⟨b, q', x1, x2, x3, x4, x5⟩ := hks j k v e
    have eb : ps.getD j 0 = b := by rw [List.getD_eq_getElem?_getD, x1]; rfl
    exact ⟨by simp [eb, x1], .inl (show s.heap.IsTuple (ps.getD j 0) #[k, v] by rw [eb]; exact x4)⟩
  · obtain ⟨b, q', x1, x2, x3, x4, x5⟩ := hks j k v e
    refine ⟨q'.1, ?_, by rw [mixKind_is]; exact x5⟩
    rw [x2, ← x3]
  · have hm : (s.heap.objs.size == sysModules) = false := beq_eq_false_iff_ne.mpr (Nat.ne_of_gt I.big)
    have hlen : (mergeK [] kvs).length ≤ sizeLine := by
      refine Nat.le_trans (length_mergeK kvs []) ?_
      rw [List.length_nil, Nat.zero_add, rel.length, hl]
      exact z
    have kp' : ∀ b o, s.heap.get? b = some o → h'.get? b = some o := fun b o e => kp b o (by simp) e
    exact ⟨.ref s.heap.objs.size, _, I.laid (t' := tk) kp' (Nat.le_refl _) (show ObjOk X.prog X.w _ _ _ (.dK (mergeK [] kvs)) from ⟨hlen, hm, merged [] prs, KV.merge rel .nil, hd'⟩), rfl, q _ I.fresh⟩
/-- sorted(xs), xs a list of pairs of intL -/
theorem zc_sortedP : CallR X (.builtin "sorted") (fun vs H Q => ∃ (a : Addr) (xs : List V) (k : V → Int × Int), vs = [V.ref a] ∧ SqL X.K H a xs ∧ (∀ x ∈ xs, ∃ t, x = V.ref t ∧ SqT X.K H t [.int (k x).1, .int (k x).2]) ∧
    ∀ ys p, SrtO.Srtd (ltP k) ys → SrtO.Stb (ltP k) ys xs → H p = none → Q (.ref p) (upd H p (.lst ys))) := by
  rintro pins s σ H vs us Q I r ⟨a, xs, k, rfl, hs, hx, q⟩
  obtain ⟨its, rv, hl, hz⟩ := I.list hs
  obtain ⟨u, rfl, ru⟩ := vals1 r
  obtain rfl : u = Value.ref a := ru
  obtain ⟨e1, e2⟩ := refs_back rv fun x m => (hx x m).imp fun _ z => z.1
  refine SrtO.sorted_pairsO (k := fun u => k (backV u)) hl.isList (by rw [← rv.length]; exact hz) (fun v hv => ?_) fun h' d out h1 h2 kp hd hn => ?_
  · obtain ⟨t, rfl⟩ := e2 v hv
    have hm : V.ref t ∈ xs := by rw [e1]; exact List.mem_map.mpr ⟨_, hv, rfl⟩
    obtain ⟨t', e, ht⟩ := hx _ hm
    cases e
    obtain ⟨its2, r2, ⟨o, ho, ho2, n, ho3⟩, _⟩ := I.tuple ht
    obtain ⟨u1, u2, rfl, ri, rj⟩ := vals2 r2
    obtain ⟨t1, rfl⟩ := ri
    obtain ⟨t2, rfl⟩ := rj
    exact ⟨t, o, t1, t2, n, rfl, ho, ho2, ho3⟩
  · have h3 : ∀ u ∈ out, ∃ a, u = Value.ref a := fun u hu => e2 u (h2.perm.mem_iff.mp hu)
    obtain ⟨n, hn⟩ := hn
    have hb : SrtO.Stb (ltP k) (out.map backV) xs := by rw [e1]; exact h2.map (ltP_swo k) backV
    exact ⟨.ref d, upd H d (.lst (out.map backV)), I.laid (t' := s.toks) kp hd ⟨by rw [hb.len]; exact hz, out, n, vals_back h3, hn⟩, rfl, q _ d (SrtO.srtd_map h1) hb (I.hok.fresh hd)⟩
end
end L2

-- S1
set_option Elab.async false
set_option linter.all false
set_option maxRecDepth 100000
set_option maxHeartbeats 1000000
namespace PL
open PySem (Str Addr Value Shared Expr Stmt Pos Scope)
open L2 (V HO Hp SqL SqT upd upd_same upd_ne St VK TE XK WX)
/-! ### what a value stands for -/
section
variable (K : PySem.W.Frag) (mg : Str → Option Value)
mutual
/-- shared data: nothing in it changes any more (Fz: the shared part of the heap) -/
inductive RF (Fz : Hp) : V → D → Prop where
  | non : RF Fz .non .non
  | bl (b : Bool) : RF Fz (.bl b) (.bl b)
  | int (i : Int) : RF Fz (.int i) (.int i)
  | str (s : Str) (h : PySem.PyData.strOk s = true) (h2 : s.cps.size ≤ LINE) : RF Fz (.str s) (.str s)
  | tup {a : Addr} {xs : List V} {ds : List D} : L2.Tz K Fz a xs → RFs Fz xs ds → RF Fz (.ref a) (.tup ds)
  | lst {a : Addr} {xs : List V} {ds : List D} : Fz a = some (.lst xs) → RFs Fz xs ds → RF Fz (.ref a) (.lst false ds)
  | scr {a : Addr} {is : List Int} : SqL K Fz a (is.map V.int) → RF Fz (.ref a) (.scr is)
  | dct {a : Addr} {ks : List L2.Key} {xs : List V} {ds : List D} : ks.length = xs.length → Fz a = some (.dK (ks.zip xs)) → RFs Fz xs ds → RF Fz (.ref a) (.dct false ks ds)
  | ins {a C dx : Addr} {c : Str} {fs : List Str} {xs : List V} {ds : List D} : fs.length = xs.length → Fz a = some (.ins C dx (fs.zip xs)) → Fz dx = some (.own a) → mg c = some (.ref C) → RFs Fz xs ds →
      RF Fz (.ref a) (.ins false c fs ds)
  | glb {g : Str} {a : Addr} : mg g = some (.ref a) → RF Fz (.ref a) (.glb g)
inductive RFs (Fz : Hp) : List V → List D → Prop where
  | nil : RFs Fz [] []
  | cons {v : V} {vs : List V} {d : D} {ds : List D} : RF Fz v d → RFs Fz vs ds → RFs Fz (v :: vs) (d :: ds)
end
/-- a value with what it owns (the addresses B) -/
inductive RO (Fz H : Hp) : V → D → List Addr → Prop where
  | sh {v : V} {d : D} : RF K mg Fz v d → RO Fz H v d []
  | lst {a : Addr} {xs : List V} {ds : List D} : H a = some (.lst xs) → RFs K mg Fz xs ds → RO Fz H (.ref a) (.lst true ds) [a]
  | dct {a : Addr} {ks : List L2.Key} {xs : List V} {ds : List D} : ks.length = xs.length → H a = some (.dK (ks.zip xs)) → RFs K mg Fz xs ds → RO Fz H (.ref a) (.dct true ks ds) [a]
  | ins {a C dx : Addr} {c : Str} {fs : List Str} {xs : List V} {ds : List D} : fs.length = xs.length → H a = some (.ins C dx (fs.zip xs)) → H dx = some (.own a) → mg c = some (.ref C) → RFs K mg Fz xs ds →
      RO Fz H (.ref a) (.ins true c fs ds) [a, dx]
/-- values in a row with what they own -/
inductive ROs (Fz H : Hp) : List V → List D → List Addr → Prop where
  | nil : ROs Fz H [] [] []
  | cons {v : V} {vs : List V} {d : D} {ds : List D} {A B : List Addr} : RO K mg Fz H v d A → ROs Fz H vs ds B → ROs Fz H (v :: vs) (d :: ds) (A ++ B)
/-- the slots -/
inductive RE (Fz H : Hp) : St → Env → List Addr → Prop where
  | nil : RE Fz H [] [] []
  | no {o : Option V} {σ : St} {e : Env} {A : List Addr} : RE Fz H σ e A → RE Fz H (o :: σ) (none :: e) A
  | so {v : V} {d : D} {σ : St} {e : Env} {A B : List Addr} : RO K mg Fz H v d A → RE Fz H σ e B → RE Fz H (some v :: σ) (some d :: e) (A ++ B)
end
/-- the ghost state: the shared part, the heap, what is owned -/
structure G3 where
  Fz : Hp
  H : Hp
  A : List Addr
/-- it is in order -/
structure Ok3 (s : G3) : Prop where
  sub : ∀ a o, s.Fz a = some o → s.H a = some o
  nd : s.A.Nodup
  nf : ∀ a ∈ s.A, s.Fz a = none
  dom : ∀ a ∈ s.A, s.H a ≠ none
/-- from s to t: what is not owned stays, what is shared stays shared, what is owned or shared anew was owned or is new -/
structure Step (s t : G3) : Prop where
  frm : ∀ a o, s.H a = some o → a ∉ s.A → t.H a = some o
  fz : ∀ a o, s.Fz a = some o → t.Fz a = some o
  own : ∀ a ∈ t.A, a ∈ s.A ∨ s.H a = none
  nfz : ∀ a o, t.Fz a = some o → s.Fz a = some o ∨ a ∈ s.A ∨ s.H a = none
  dom : ∀ a, s.H a ≠ none → t.H a ≠ none
theorem Step.refl (s : G3) : Step s s := ⟨fun _ _ e _ => e, fun _ _ e => e, fun _ h => .inl h, fun _ _ e => .inl e, fun _ h => h⟩
theorem Step.trans {s t u : G3} (p : Step s t) (q : Step t u) : Step s u where
  frm := fun a o e h => q.frm a o (p.frm a o e h) fun z => (p.own a z).elim h fun n => by rw [e] at n; cases n
  fz := fun a o e => q.fz a o (p.fz a o e)
  own := fun a h => (q.own a h).elim (p.own a) fun n => by
    by_cases z : s.H a = none
    · exact .inr z
    · exact absurd n (p.dom a z)
  nfz := fun a o e => by
    rcases q.nfz a o e with h | h | h
    · exact p.nfz a o h
    · rcases p.own a h with h | h
      · exact .inr (.inl h)
      · exact .inr (.inr h)
    · by_cases z : s.H a = none
      · exact .inr (.inr z)
      · exact absurd h (p.dom a z)
  dom := fun a h => q.dom a (p.dom a h)
/-- fewer owned ahead, more forgotten behind -/
theorem Step.sub {s t : G3} {A' : List Addr} (p : Step s t) (h : ∀ a ∈ A', a ∈ t.A) : Step s { t with A := A' } := ⟨p.frm, p.fz, fun a z => p.own a (h a z), p.nfz, p.dom⟩
/-- what else is owned is carried along -/
theorem Step.frame {s t : G3} {B : List Addr} (p : Step s t) : Step { s with A := s.A ++ B } { t with A := t.A ++ B } :=
  ⟨fun a o e h => p.frm a o e fun z => h (List.mem_append_left _ z), p.fz, fun a h => (List.mem_append.mp h).elim (fun z => (p.own a z).imp (List.mem_append_left _) id) fun z => .inl (List.mem_append_right _ z),
    fun a o e => (p.nfz a o e).imp id (.imp (List.mem_append_left _) id), p.dom⟩
section
variable {K : PySem.W.Frag} {mg : Str → Option Value} {Fz Fz' H H' : Hp} {v : V} {d : D} {B : List Addr}
theorem SqT.up {a : Addr} {xs : List V} (h : SqT K Fz a xs) (k : ∀ a o, Fz a = some o → Fz' a = some o) : SqT K Fz' a xs := by
  rcases h with (h | ⟨o, h⟩) | h
  · exact .inl (.inl (k _ _ h))
  · exact .inl (.inr ⟨o, k _ _ h⟩)
  · exact .inr h
theorem SqL.up {a : Addr} {xs : List V} (h : SqL K Fz a xs) (k : ∀ a o, Fz a = some o → Fz' a = some o) : SqL K Fz' a xs := by
  rcases h with (h | ⟨o, h⟩) | h
  · exact .inl (.inl (k _ _ h))
  · exact .inl (.inr ⟨o, k _ _ h⟩)
  · exact .inr h
mutual
theorem RF.up (k : ∀ a o, Fz a = some o → Fz' a = some o) : ∀ {v : V} {d : D}, RF K mg Fz v d → RF K mg Fz' v d
  | _, _, .non => .non
  | _, _, .bl b => .bl b
  | _, _, .int i => .int i
  | _, _, .str s h h2 => .str s h h2
  | _, _, .tup h r => .tup (h.up k) (RFs.up k r)
  | _, _, .lst h r => .lst (k _ _ h) (RFs.up k r)
  | _, _, .scr h => .scr (SqL.up h k)
  | _, _, .dct l h r => .dct l (k _ _ h) (RFs.up k r)
  | _, _, .ins l h h2 g r => .ins l (k _ _ h) (k _ _ h2) g (RFs.up k r)
  | _, _, .glb g => .glb g
theorem RFs.up (k : ∀ a o, Fz a = some o → Fz' a = some o) : ∀ {vs : List V} {ds : List D}, RFs K mg Fz vs ds → RFs K mg Fz' vs ds
  | _, _, .nil => .nil
  | _, _, .cons h t => .cons (RF.up k h) (RFs.up k t)
end
theorem RO.up (k : ∀ a o, Fz a = some o → Fz' a = some o) (m : ∀ a o, a ∈ B → H a = some o → H' a = some o) (r : RO K mg Fz H v d B) : RO K mg Fz' H' v d B := by
  cases r with
  | sh r => exact .sh (r.up k)
  | lst h r => exact .lst (m _ _ (by simp) h) (r.up k)
  | dct l h r => exact .dct l (m _ _ (by simp) h) (r.up k)
  | ins l h h2 g r => exact .ins l (m _ _ (by simp) h) (m _ _ (by simp) h2) g (r.up k)
theorem ROs.up (k : ∀ a o, Fz a = some o → Fz' a = some o) : ∀ {vs : List V} {ds : List D} {B : List Addr}, (∀ a o, a ∈ B → H a = some o → H' a = some o) → ROs K mg Fz H vs ds B → ROs K mg Fz' H' vs ds B
  | _, _, _, _, .nil => .nil
  | _, _, _, m, .cons h t => .cons (h.up k fun a o z => m a o (List.mem_append_left _ z)) (ROs.up k (fun a o z => m a o (List.mem_append_right _ z)) t)
theorem RE.up (k : ∀ a o, Fz a = some o → Fz' a = some o) : ∀ {σ : St} {e : Env} {B : List Addr}, (∀ a o, a ∈ B → H a = some o → H' a = some o) → RE K mg Fz H σ e B → RE K mg Fz' H' σ e B
  | _, _, _, _, .nil => .nil
  | _, _, _, m, .no t => .no (RE.up k m t)
  | _, _, _, m, .so h t => .so (h.up k fun a o z => m a o (List.mem_append_left _ z)) (RE.up k (fun a o z => m a o (List.mem_append_right _ z)) t)
theorem RO.dom (r : RO K mg Fz H v d B) : ∀ a ∈ B, H a ≠ none := by
  cases r with
  | sh r => intro a h; cases h
  | lst h r => intro a z; rw [List.mem_singleton] at z; subst z; rw [h]; simp
  | dct l h r => intro a z; rw [List.mem_singleton] at z; subst z; rw [h]; simp
  | ins l h h2 g r =>
    intro a z
    rcases List.mem_cons.mp z with z | z
    · subst z; rw [h]; simp
    · rw [List.mem_singleton] at z; subst z; rw [h2]; simp
theorem RO.nil_of (r : RO K mg Fz H v d B) (h : d.own = false) : B = [] ∧ RF K mg Fz v d := by
  cases r with
  | sh r => exact ⟨rfl, r⟩
  | _ => simp [D.own] at h
theorem RF.notown {v : V} {d : D} (r : RF K mg Fz v d) : d.own = false := by
  cases r <;> rfl
/-- what is owned becomes shared -/
theorem RO.freeze {s : G3} {A : List Addr} {v : V} {d : D} {B : List Addr} (r : RO K mg s.Fz s.H v d B) (ok : Ok3 s) (hs : ∀ a ∈ B, a ∈ s.A) (hA : ∀ a ∈ A, a ∈ s.A ∧ a ∉ B) (nd : A.Nodup) :
    ∃ Fz', RF K mg Fz' v d.frz ∧ Step s ⟨Fz', s.H, A⟩ ∧ Ok3 ⟨Fz', s.H, A⟩ := by
  have gen : ∀ (Fz' : Hp), (∀ a o, s.Fz a = some o → Fz' a = some o) → (∀ a o, Fz' a = some o → s.Fz a = some o ∨ (a ∈ B ∧ s.H a = some o)) → Step s ⟨Fz', s.H, A⟩ ∧ Ok3 ⟨Fz', s.H, A⟩ := fun Fz' k k' => by
    refine ⟨⟨fun _ _ e _ => e, k, fun a h => .inl (hA a h).1, fun a o e => ?_, fun _ h => h⟩, ⟨fun a o e => ?_, nd, fun a h => ?_, fun a h => ok.dom a (hA a h).1⟩⟩
    · rcases k' a o e with h | ⟨h, _⟩
      · exact .inl h
      · exact .inr (.inl (hs a h))
    · rcases k' a o e with h | ⟨_, h⟩
      · exact ok.sub a o h
      · exact h
    · show Fz' a = none
      cases e : Fz' a with
      | none => rfl
      | some o =>
        rcases k' a o e with q | ⟨q, _⟩
        · rw [ok.nf a (hA a h).1] at q; cases q
        · exact absurd q (hA a h).2
  cases r with
  | sh r =>
    refine ⟨s.Fz, ?_, gen s.Fz (fun _ _ e => e) fun _ _ e => .inl e⟩
    have e : d.frz = d := by cases r <;> rfl
    rw [e]; exact r
  | @lst a xs ds h r =>
    have nf : s.Fz a = none := ok.nf a (hs a (by simp))
    have k : ∀ b o, s.Fz b = some o → upd s.Fz a (.lst xs) b = some o := fun b o e => by rw [upd_ne (L2.ne_of_none e nf)]; exact e
    refine ⟨upd s.Fz a (.lst xs), .lst upd_same (r.up k), gen _ k fun b o e => ?_⟩
    by_cases z : b = a
    · subst z; rw [upd_same] at e; cases e; exact .inr ⟨by simp, h⟩
    · rw [upd_ne z] at e; exact .inl e
  | @dct a ks xs ds l h r =>
    have nf : s.Fz a = none := ok.nf a (hs a (by simp))
    have k : ∀ b o, s.Fz b = some o → upd s.Fz a (.dK (ks.zip xs)) b = some o := fun b o e => by rw [upd_ne (L2.ne_of_none e nf)]; exact e
    refine ⟨upd s.Fz a (.dK (ks.zip xs)), .dct l upd_same (r.up k), gen _ k fun b o e => ?_⟩
    by_cases z : b = a
    · subst z; rw [upd_same] at e; cases e; exact .inr ⟨by simp, h⟩
    · rw [upd_ne z] at e; exact .inl e
  | @ins a C dx c fs xs ds l h h2 g r =>
    have nf : s.Fz a = none := ok.nf a (hs a (by simp))
    have nf2 : s.Fz dx = none := ok.nf dx (hs dx (by simp))
    have ne : dx ≠ a := L2.ne_of h2 h (fun e => nomatch e)
    have k : ∀ b o, s.Fz b = some o → upd (upd s.Fz a (.ins C dx (fs.zip xs))) dx (.own a) b = some o := fun b o e => by
      rw [upd_ne (L2.ne_of_none e nf2), upd_ne (L2.ne_of_none e nf)]; exact e
    refine ⟨upd (upd s.Fz a (.ins C dx (fs.zip xs))) dx (.own a), .ins l (by rw [upd_ne ne.symm]; exact upd_same) upd_same g (r.up k), gen _ k fun b o e => ?_⟩
    by_cases z : b = dx
    · subst z; rw [upd_same] at e; cases e; exact .inr ⟨by simp, h2⟩
    · rw [upd_ne z] at e
      by_cases z2 : b = a
      · subst z2; rw [upd_same] at e; cases e; exact .inr ⟨by simp, h⟩
      · rw [upd_ne z2] at e; exact .inl e
end
end PL

-- S2
set_option Elab.async false
set_option linter.all false
set_option maxRecDepth 100000
set_option maxHeartbeats 1000000
namespace PL
open PySem (Str Addr Value Shared Expr Stmt Pos Scope Obj)
open L2 (V HO Hp SqL SqT upd upd_same upd_ne St VK TE XK WX PE Inv Cx)
/-- what an exception's value stands for -/
inductive RX (K : PySem.W.Frag) (mg : Str → Option Value) (Fz H : Hp) : D → Value → Option Addr → Prop where
  | one {c f : Str} {C d : Addr} {v : V} {x : D} : mg c = some (.ref C) → H d = some (.xd [(f, v)]) → RF K mg Fz v x → RX K mg Fz H (.exo c [f] [x]) (.ref C) (some d)
  | no {c : Str} {C : Addr} : mg c = some (.ref C) → RX K mg Fz H (.exo c [] []) (.ref C) none
abbrev Rel (ν α : Type) := St → Hp → Hp → ν → α → List Addr → Prop
section
variable (X : Cx) (W : WX)
/-- what follows a run r from the state s -/
def Cont {ν α : Type} (σ : St) (s : G3) (r : R α) (Re : Rel ν α) (Q : ν → Hp → Prop) : Prop := match r with
  | .ok a e => ∀ (v : ν) (Fz H : Hp) (A B : List Addr), Ok3 ⟨Fz, H, A ++ B⟩ → RE X.K X.mg Fz H σ e A → Re σ Fz H v a B → Step s ⟨Fz, H, A ++ B⟩ → Q v H
  | .exc x e => ∀ (Fz H : Hp) (A : List Addr) (cls : Value) (dx : Option Addr), Ok3 ⟨Fz, H, A⟩ → RE X.K X.mg Fz H σ e A → Step s ⟨Fz, H, A⟩ → RX X.K X.mg Fz H x cls dx → W cls dx σ H
  | .bad => False
/-- the reading of a run -/
def tM {ν α : Type} (m : M α) (Re : Rel ν α) : St → Hp → (ν → Hp → Prop) → Prop := fun σ H Q => ∃ (s : G3) (e : Env), s.H = H ∧ Ok3 s ∧ RE X.K X.mg s.Fz s.H σ e s.A ∧ Cont X W σ s (m e) Re Q
/-- a value -/
def relE : Rel V D := fun _ Fz H v d B => RO X.K X.mg Fz H v d B
/-- an operand -/
def relO : Rel V Opd := fun σ Fz H v o B => match o with
  | .val d => RO X.K X.mg Fz H v d B
  | .slot i => σ[i]? = some (some v) ∧ B = []
abbrev tE (m : M D) : TE := tM X W m (relE X)
abbrev tO (m : M Opd) : TE := tM X W m (relO X)
end
section
variable {X : Cx} {W : WX} {σ : St} {s t : G3} {e : Env} {α β ν μ : Type} {Re : Rel ν α} {Re' : Rel μ β}
theorem Cont.from {Q : ν → Hp → Prop} {r : R α} (h : Cont X W σ s r Re Q) (p : Step s t) : Cont X W σ t r Re Q := by
  cases r with
  | ok a e => exact fun v Fz H A B k r q st => h v Fz H A B k r q (p.trans st)
  | exc x e => exact fun Fz H A cls dx k r st q => h Fz H A cls dx k r (p.trans st) q
  | bad => exact h
/-- what is held beside is carried along -/
theorem Ok3.frame {Fz Fz' H H' : Hp} {A A' B : List Addr} (ok : Ok3 ⟨Fz, H, A ++ B⟩) (ok' : Ok3 ⟨Fz', H', A'⟩) (p : Step ⟨Fz, H, A⟩ ⟨Fz', H', A'⟩) : Ok3 ⟨Fz', H', A' ++ B⟩ ∧ Step ⟨Fz, H, A ++ B⟩ ⟨Fz', H', A' ++ B⟩ := by
  have nd := List.nodup_append.mp ok.nd
  have inB : ∀ a ∈ B, a ∉ A := fun a h z => nd.2.2 a z a h rfl
  have dm : ∀ a ∈ B, H a ≠ none := fun a h => ok.dom a (List.mem_append_right _ h)
  refine ⟨⟨ok'.sub, ?_, fun a h => ?_, fun a h => ?_⟩, p.frame⟩
  · refine List.nodup_append.mpr ⟨ok'.nd, nd.2.1, fun a h b hb z => ?_⟩
    subst z
    rcases p.own a h with q | q
    · exact inB a hb q
    · exact dm a hb q
  · show Fz' a = none
    rcases List.mem_append.mp h with h | h
    · exact ok'.nf a h
    · cases q : Fz' a with
      | none => rfl
      | some o =>
        rcases p.nfz a o q with z | z | z
        · have := ok.nf a (List.mem_append_right _ h)
          have z' : Fz a = some o := z
          rw [show Fz a = none from this] at z'; cases z'
        · exact absurd z (inB a h)
        · exact absurd z (dm a h)
  · rcases List.mem_append.mp h with h | h
    · exact ok'.dom a h
    · exact p.dom a (dm a h)
theorem Ok3.of_sub {Fz H : Hp} {A B : List Addr} (ok : Ok3 ⟨Fz, H, A⟩) (h : ∀ a ∈ B, a ∈ A) (nd : B.Nodup) : Ok3 ⟨Fz, H, B⟩ :=
  ⟨ok.sub, nd, fun a z => ok.nf a (h a z), fun a z => ok.dom a (h a z)⟩
theorem Ok3.left {Fz H : Hp} {A B : List Addr} (ok : Ok3 ⟨Fz, H, A ++ B⟩) : Ok3 ⟨Fz, H, A⟩ := ok.of_sub (fun _ h => List.mem_append_left _ h) (List.nodup_append.mp ok.nd).1
theorem Ok3.right {Fz H : Hp} {A B : List Addr} (ok : Ok3 ⟨Fz, H, A ++ B⟩) : Ok3 ⟨Fz, H, B⟩ := ok.of_sub (fun _ h => List.mem_append_right _ h) (List.nodup_append.mp ok.nd).2.1
/-- what is held through a step keeps its meaning -/
theorem held {Fz Fz' H H' : Hp} {A A' B : List Addr} (ok : Ok3 ⟨Fz, H, A ++ B⟩) (p : Step ⟨Fz, H, A⟩ ⟨Fz', H', A'⟩) : ∀ a o, a ∈ B → H a = some o → H' a = some o := fun a o h e =>
  p.frm a o e fun z => (List.nodup_append.mp ok.nd).2.2 a z a h rfl
/-- in a row: what m's reading needs, from the whole's -/
theorem tM_bind {Q : μ → Hp → Prop} {m : M α} {k : α → M β} {H : Hp} (h : tM X W (M.bind m k) Re' σ H Q) :
    tM X W m Re σ H fun v H1 => ∃ (a : α) (Fz : Hp) (A B : List Addr) (e : Env), Ok3 ⟨Fz, H1, A ++ B⟩ ∧ RE X.K X.mg Fz H1 σ e A ∧ Re σ Fz H1 v a B ∧ Cont X W σ ⟨Fz, H1, A ++ B⟩ (k a e) Re' Q := by
  obtain ⟨s, e, rfl, ok, re, c⟩ := h
  refine ⟨s, e, rfl, ok, re, ?_⟩
  show Cont X W σ s (m e) Re _
  have c' : Cont X W σ s ((m e).bind fun a => k a) Re' Q := c
  cases r : m e with
  | ok a e1 =>
    rw [r] at c'
    exact fun v Fz H A B ok1 re1 rr st => ⟨a, Fz, A, B, e1, ok1, re1, rr, Cont.from c' st⟩
  | exc x e1 =>
    rw [r] at c'
    exact c'
  | bad =>
    rw [r] at c'
    exact c'
/-- the next part of a row, while B is held -/
theorem tM_next {Q : μ → Hp → Prop} {m : M α} {k : α → M β} {Fz H : Hp} {A B : List Addr} (ok : Ok3 ⟨Fz, H, A ++ B⟩) (re : RE X.K X.mg Fz H σ e A) (c : Cont X W σ ⟨Fz, H, A ++ B⟩ (M.bind m k e) Re' Q) :
    tM X W m Re σ H fun v H1 => ∃ (a : α) (Fz1 : Hp) (A1 B1 : List Addr) (e1 : Env), Ok3 ⟨Fz1, H1, (A1 ++ B1) ++ B⟩ ∧ RE X.K X.mg Fz1 H1 σ e1 A1 ∧ Re σ Fz1 H1 v a B1 ∧ Step ⟨Fz, H, A⟩ ⟨Fz1, H1, A1 ++ B1⟩ ∧
      Cont X W σ ⟨Fz1, H1, (A1 ++ B1) ++ B⟩ (k a e1) Re' Q := by
  refine ⟨⟨Fz, H, A⟩, e, rfl, ok.left, re, ?_⟩
  have c' : Cont X W σ ⟨Fz, H, A ++ B⟩ ((m e).bind fun a => k a) Re' Q := c
  cases r : m e with
  | ok a e1 =>
    rw [r] at c'
    intro v Fz1 H1 A1 B1 ok1 re1 rr st
    obtain ⟨ok2, st2⟩ := Ok3.frame ok ok1 st
    exact ⟨a, Fz1, A1, B1, e1, ok2, re1, rr, st, Cont.from c' st2⟩
  | exc x e1 =>
    rw [r] at c'
    intro Fz1 H1 A1 cls dx ok1 re1 st rx
    obtain ⟨ok2, st2⟩ := Ok3.frame ok ok1 st
    exact c' Fz1 H1 A1 cls dx ok1 re1 (st2.sub fun a h => List.mem_append_left _ h) rx
  | bad =>
    rw [r] at c'
    exact c'
theorem RE.at : ∀ {K : PySem.W.Frag} {mg : Str → Option Value} {Fz H : Hp} {σ : St} {e : Env} {A : List Addr} {i : Nat} {d : D}, RE K mg Fz H σ e A → e[i]? = some (some d) → ∃ v B, σ[i]? = some (some v) ∧ RO K mg Fz H v d B ∧ ∀ a ∈ B, a ∈ A
  | _, _, _, _, _, _, _, _, _, .nil, h => by simp at h
  | _, _, _, _, _, _, _, 0, _, .no t, h => by simp at h
  | _, _, _, _, _, _, _, i + 1, _, .no t, h => by
    obtain ⟨v, B, h1, h2, h3⟩ := RE.at (i := i) t (by simpa using h)
    exact ⟨v, B, by simpa using h1, h2, h3⟩
  | _, _, _, _, _, _, _, 0, _, .so (v := v) (A := A) r t, h => by
    simp at h; subst h
    exact ⟨v, A, rfl, r, fun a z => List.mem_append_left _ z⟩
  | _, _, _, _, _, _, _, i + 1, _, .so r t, h => by
    obtain ⟨v, B, h1, h2, h3⟩ := RE.at (i := i) t (by simpa using h)
    exact ⟨v, B, by simpa using h1, h2, fun a z => List.mem_append_right _ (h3 a z)⟩
theorem RE.len {K : PySem.W.Frag} {mg : Str → Option Value} {Fz H : Hp} {σ : St} {e : Env} {A : List Addr} (r : RE K mg Fz H σ e A) : σ.length = e.length := by
  induction r with
  | nil => rfl
  | no t ih => simp [ih]
  | so r t ih => simp [ih]
/-- an operand's value when it is wanted -/
theorem opd_get {o : Opd} {Fz H Fz' H' : Hp} {A B A' : List Addr} {v : V} {d : D} {e e' : Env} (h : o.get e = .ok d e') (r : relO X σ Fz H v o B) (re : RE X.K X.mg Fz' H' σ e A')
    (k : ∀ a x, Fz a = some x → Fz' a = some x) (m : ∀ a x, a ∈ B → H a = some x → H' a = some x) : e' = e ∧ ∃ C, RO X.K X.mg Fz' H' v d C ∧ ∀ a ∈ C, a ∈ A' ++ B := by
  cases o with
  | val d' =>
    simp only [Opd.get, M.pure, R.ok.injEq] at h
    obtain ⟨rfl, rfl⟩ := h
    exact ⟨rfl, B, RO.up k m r, fun a z => List.mem_append_right _ z⟩
  | slot i =>
    obtain ⟨r1, rfl⟩ := r
    simp only [Opd.get, getS] at h
    cases q : e[i]? with
    | none => rw [q] at h; cases h
    | some z =>
      rw [q] at h
      cases z with
      | none => cases h
      | some d' =>
        simp only [R.ok.injEq] at h
        obtain ⟨rfl, rfl⟩ := h
        obtain ⟨v', C, h1, h2, h3⟩ := re.at q
        rw [r1] at h1
        simp only [Option.some.injEq] at h1
        subst h1
        exact ⟨rfl, C, h2, fun a z => List.mem_append_left _ (h3 a z)⟩
theorem opd_run (o : Opd) (e : Env) : (∃ d, o.get e = .ok d e) ∨ o.get e = .bad := by
  cases o with
  | val d => exact .inl ⟨d, rfl⟩
  | slot i =>
    simp only [Opd.get, getS]
    split
    · exact .inl ⟨_, rfl⟩
    · exact .inr rfl
/-- something newly made -/
def New (X : Cx) (Fz H : Hp) (r : D) (Q : VK) : Prop := ∀ (v : V) (Fz' H' : Hp) (B : List Addr), (∀ a o, H a = some o → H' a = some o) → (∀ a o, Fz a = some o → Fz' a = some o) → (∀ a o, Fz' a = some o → H' a = some o) →
  RO X.K X.mg Fz' H' v r B → B.Nodup → (∀ b ∈ B, H b = none ∧ Fz' b = none) → (∀ a o, Fz' a = some o → Fz a = some o ∨ H a = none) → Q v H'
/-- an end that is newly made -/
theorem Cont.new {Q : VK} {r : D} {Fz H : Hp} {A B : List Addr} (ok : Ok3 ⟨Fz, H, A ++ B⟩) (re : RE X.K X.mg Fz H σ e A) (c : Cont X W σ ⟨Fz, H, A ++ B⟩ (.ok r e) (relE X) Q) : New X Fz H r Q := by
  intro v Fz' H' C k kf sb ro nd fr nf
  have okA := ok.left
  have hA : ∀ a ∈ A, a ∉ C := fun a h z => okA.dom a h (fr a z).1
  refine c v Fz' H' A C ⟨sb, List.nodup_append.mpr ⟨okA.nd, nd, fun a h b hb z => hA a h (z ▸ hb)⟩, fun a h => ?_, fun a h => ?_⟩ (re.up kf fun a o _ e => k a o e) ro ⟨fun a o e _ => k a o e, kf, fun a h => ?_, fun a o e => ?_, fun a h => ?_⟩
  · show Fz' a = none
    rcases List.mem_append.mp h with h | h
    · cases q : Fz' a with
      | none => rfl
      | some o =>
        rcases nf a o q with z | z
        · have := okA.nf a h
          rw [show Fz a = none from this] at z; cases z
        · exact absurd z (okA.dom a h)
    · exact (fr a h).2
  · show H' a ≠ none
    rcases List.mem_append.mp h with h | h
    · have := okA.dom a h
      cases q : H a with
      | none => exact absurd q this
      | some o => rw [k a o q]; simp
    · exact ro.dom a h
  · rcases List.mem_append.mp h with h | h
    · exact .inl (List.mem_append_left _ h)
    · exact .inr (fr a h).1
  · rcases nf a o e with z | z
    · exact .inl z
    · exact .inr (.inr z)
  · show H' a ≠ none
    cases q : H a with
    | none => exact absurd q h
    | some o => rw [k a o q]; simp
end
end PL

-- S3
set_option Elab.async false
set_option linter.all false
set_option maxRecDepth 100000
set_option maxHeartbeats 1000000
namespace PL
open PySem (Str Addr Value Shared Expr Stmt Pos Scope Obj Sem Operator CmpOp binaryOp compareOp inplaceOp sizeLine)
open L2 (V HO Hp SqL SqT upd upd_same upd_ne St VK TE TT XK WX PE PT Inv Cx R2 OpR rI rI0 tOp)
section
variable {X : Cx} {K : PySem.W.Frag} {mg : Str → Option Value} {Fz H : Hp} {x v : V} {B : List Addr} {Q : VK}
theorem line_eq : LINE = sizeLine := by unfold LINE; rw [PySem.sizeLine_eq]
theorem RO.int {i : Int} (r : RO K mg Fz H x (.int i) B) : x = .int i := by cases r with | sh r => cases r; rfl
theorem RO.bl {b : Bool} (r : RO K mg Fz H x (.bl b) B) : x = .bl b := by cases r with | sh r => cases r; rfl
theorem RO.non (r : RO K mg Fz H x .non B) : x = .non := by cases r with | sh r => cases r; rfl
theorem RO.str {s : Str} (r : RO K mg Fz H x (.str s) B) : x = .str s ∧ PySem.PyData.strOk s = true ∧ s.cps.size ≤ LINE := by cases r with | sh r => cases r with | str _ h h2 => exact ⟨rfl, h, h2⟩
theorem RO.tup {ds : List D} (r : RO K mg Fz H x (.tup ds) B) : ∃ a xs, x = .ref a ∧ L2.Tz K Fz a xs ∧ RFs K mg Fz xs ds := by cases r with | sh r => cases r with | tup h r => exact ⟨_, _, rfl, h, r⟩
theorem RO.scr {is : List Int} (r : RO K mg Fz H x (.scr is) B) : ∃ a, x = .ref a ∧ SqL K Fz a (is.map V.int) := by cases r with | sh r => cases r with | scr h => exact ⟨_, rfl, h⟩
theorem RO.lst' {o : Bool} {ds : List D} (r : RO K mg Fz H x (.lst o ds) B) (sub : ∀ a o, Fz a = some o → H a = some o) : ∃ a xs, x = .ref a ∧ H a = some (.lst xs) ∧ RFs K mg Fz xs ds := by
  cases r with
  | sh r => cases r with | lst h r => exact ⟨_, _, rfl, sub _ _ h, r⟩
  | lst h r => exact ⟨_, _, rfl, h, r⟩
theorem RO.dct' {o : Bool} {ks : List L2.Key} {ds : List D} (r : RO K mg Fz H x (.dct o ks ds) B) (sub : ∀ a o, Fz a = some o → H a = some o) : ∃ a xs, x = .ref a ∧ ks.length = xs.length ∧ H a = some (.dK (ks.zip xs)) ∧ RFs K mg Fz xs ds := by
  cases r with
  | sh r => cases r with | dct l h r => exact ⟨_, _, rfl, l, sub _ _ h, r⟩
  | dct l h r => exact ⟨_, _, rfl, l, h, r⟩
theorem RFs.len : ∀ {xs : List V} {ds : List D}, RFs K mg Fz xs ds → xs.length = ds.length
  | _, _, .nil => rfl
  | _, _, .cons _ t => by simp [RFs.len t]
theorem RFs.app : ∀ {xs ys : List V} {ds es : List D}, RFs K mg Fz xs ds → RFs K mg Fz ys es → RFs K mg Fz (xs ++ ys) (ds ++ es)
  | _, _, _, _, .nil, r => r
  | _, _, _, _, .cons h t, r => .cons h (RFs.app t r)
theorem RFs.at : ∀ {xs : List V} {ds : List D} {i : Nat} {d : D}, RFs K mg Fz xs ds → ds[i]? = some d → ∃ v, xs[i]? = some v ∧ RF K mg Fz v d
  | _, _, _, _, .nil, h => by simp at h
  | _, _, 0, _, .cons r t, h => by simp at h; subst h; exact ⟨_, rfl, r⟩
  | _, _, i + 1, _, .cons r t, h => by
    obtain ⟨v, h1, h2⟩ := RFs.at (i := i) t (by simpa using h)
    exact ⟨v, by simpa using h1, h2⟩
theorem RFs.take : ∀ {xs : List V} {ds : List D} (n : Nat), RFs K mg Fz xs ds → RFs K mg Fz (xs.take n) (ds.take n)
  | _, _, 0, _ => .nil
  | _, _, _ + 1, .nil => .nil
  | _, _, n + 1, .cons r t => .cons r (RFs.take n t)
theorem RFs.drop : ∀ {xs : List V} {ds : List D} (n : Nat), RFs K mg Fz xs ds → RFs K mg Fz (xs.drop n) (ds.drop n)
  | _, _, 0, r => r
  | _, _, _ + 1, .nil => .nil
  | _, _, n + 1, .cons r t => RFs.drop n t
theorem RFs.rev : ∀ {xs : List V} {ds : List D}, RFs K mg Fz xs ds → RFs K mg Fz xs.reverse ds.reverse
  | _, _, .nil => .nil
  | _, _, .cons r t => by rw [List.reverse_cons, List.reverse_cons]; exact (RFs.rev t).app (.cons r .nil)
theorem RFs.rep {xs : List V} {ds : List D} (r : RFs K mg Fz xs ds) : ∀ n, RFs K mg Fz (List.replicate n xs).flatten (List.replicate n ds).flatten
  | 0 => .nil
  | n + 1 => by rw [List.replicate_succ, List.replicate_succ, List.flatten_cons, List.flatten_cons]; exact r.app (RFs.rep r n)
theorem RFs.intL : ∀ is : List Int, RFs K mg Fz (is.map V.int) (is.map D.int)
  | [] => .nil
  | i :: is => .cons (.int i) (RFs.intL is)
/-! ### what is newly made -/
variable {r : D}
theorem New.val (n : New X Fz H r Q) (sub : ∀ a o, Fz a = some o → H a = some o) (h : RF X.K X.mg Fz v r) : Q v H :=
  n v Fz H [] (fun _ _ e => e) (fun _ _ e => e) sub (.sh h) .nil (fun _ z => nomatch z) fun _ _ e => .inl e
theorem New.tup {ds : List D} {xs : List V} (n : New X Fz H (.tup ds) Q) (sub : ∀ a o, Fz a = some o → H a = some o) (h : RFs X.K X.mg Fz xs ds) : L2.NewT H xs Q := fun p ob hob hp => by
  have nf : Fz p = none := by
    cases e : Fz p with
    | none => rfl
    | some o => rw [sub _ _ e] at hp; cases hp
  have k : ∀ a o, Fz a = some o → upd Fz p (.frz ob (.tup xs)) a = some o := fun a o e => by rw [upd_ne (L2.ne_of_none e nf)]; exact e
  refine n (.ref p) (upd Fz p (.frz ob (.tup xs))) (upd H p (.frz ob (.tup xs))) [] (fun a o e => by rw [upd_ne (L2.ne_of_none e hp)]; exact e) k (fun a o e => ?_) (.sh (.tup (.inl ⟨ob, hob, upd_same⟩) (RFs.up k h))) .nil (fun _ z => nomatch z) fun a o e => ?_
  · by_cases z : a = p
    · subst z; rw [upd_same] at e ⊢; exact e
    · rw [upd_ne z] at e ⊢; exact sub _ _ e
  · by_cases z : a = p
    · subst z; exact .inr hp
    · rw [upd_ne z] at e; exact .inl e
theorem New.lst {ds : List D} {xs : List V} {p : Addr} (n : New X Fz H (.lst true ds) Q) (sub : ∀ a o, Fz a = some o → H a = some o) (h : RFs X.K X.mg Fz xs ds) (hp : H p = none) : Q (.ref p) (upd H p (.lst xs)) := by
  have nf : Fz p = none := by
    cases e : Fz p with
    | none => rfl
    | some o => rw [sub _ _ e] at hp; cases hp
  have k : ∀ a o, H a = some o → upd H p (.lst xs) a = some o := fun a o e => by rw [upd_ne (L2.ne_of_none e hp)]; exact e
  exact n (.ref p) Fz (upd H p (.lst xs)) [p] k (fun _ _ e => e) (fun a o e => k _ _ (sub _ _ e)) (.lst upd_same h) (by simp) (fun b z => by rw [List.mem_singleton] at z; subst z; exact ⟨hp, nf⟩) fun _ _ e => .inl e
theorem New.dct {ks : List L2.Key} {ds : List D} {xs : List V} {p : Addr} (n : New X Fz H (.dct true ks ds) Q) (sub : ∀ a o, Fz a = some o → H a = some o) (l : ks.length = xs.length) (h : RFs X.K X.mg Fz xs ds) (hp : H p = none) :
    Q (.ref p) (upd H p (.dK (ks.zip xs))) := by
  have nf : Fz p = none := by
    cases e : Fz p with
    | none => rfl
    | some o => rw [sub _ _ e] at hp; cases hp
  have k : ∀ a o, H a = some o → upd H p (.dK (ks.zip xs)) a = some o := fun a o e => by rw [upd_ne (L2.ne_of_none e hp)]; exact e
  exact n (.ref p) Fz (upd H p (.dK (ks.zip xs))) [p] k (fun _ _ e => e) (fun a o e => k _ _ (sub _ _ e)) (.dct l upd_same h) (by simp) (fun b z => by rw [List.mem_singleton] at z; subst z; exact ⟨hp, nf⟩) fun _ _ e => .inl e
/-! ### operations on data -/
def rD (X : Cx) (g : D → D → Option D) : R2 := fun x y H Q => ∃ (Fz : Hp) (d d' r : D) (B C : List Addr), (∀ a o, Fz a = some o → H a = some o) ∧ RO X.K X.mg Fz H x d B ∧ RO X.K X.mg Fz H y d' C ∧ g d d' = some r ∧ New X Fz H r Q
theorem opD_add : OpR X (binaryOp .Add) (rD X (binop .Add)) := by
  rintro pins s σ H x y v u Q I rx ry ⟨Fz, d, d', r, B, C, sub, r1, r2, e, n⟩
  cases d <;> cases d' <;> simp only [binop] at e <;> try contradiction
  · obtain rfl := r1.int
    obtain rfl := r2.int
    cases e
    exact L2.op_add pins s σ H _ _ v u Q I rx ry ⟨_, _, rfl, rfl, n.val sub (.int _)⟩
  · obtain ⟨rfl, h1, l1⟩ := r1.str
    obtain ⟨rfl, h2, l2⟩ := r2.str
    split at e
    · rename_i hz
      cases e
      refine L2.op_add_str pins s σ H _ _ v u Q I rx ry ⟨_, _, rfl, rfl, by rw [← line_eq]; exact hz, n.val sub (.str _ ?_ ?_)⟩
      · rename_i a b
        show PySem.PyData.strOk ⟨a.cps ++ b.cps⟩ = true
        unfold PySem.PyData.strOk at h1 h2 ⊢
        rw [Array.all_append, h1, h2]; rfl
      · rename_i a b
        show (a.cps ++ b.cps).size ≤ LINE
        rw [Array.size_append]; exact hz
    · cases e
  · obtain ⟨a, xs, rfl, h1, t1⟩ := r1.tup
    obtain ⟨b, ys, rfl, h2, t2⟩ := r2.tup
    split at e
    · rename_i hz
      cases e
      refine L2.zo_cat pins s σ H _ _ v u Q I rx ry ⟨a, b, xs, ys, rfl, rfl, (h1.up sub).sq, (h2.up sub).sq, by rw [t1.len, t2.len, ← line_eq]; exact hz, fun z => ?_, fun _ z => ?_, fun _ _ => n.tup sub (t1.app t2)⟩
      · subst z
        cases t1
        exact n.val sub (.tup h2 t2)
      · subst z
        cases t2
        rw [List.append_nil] at n
        exact n.val sub (.tup h1 t1)
    · cases e
  · obtain ⟨a, xs, rfl, h1, t1⟩ := r1.lst' sub
    obtain ⟨b, ys, rfl, h2, t2⟩ := r2.lst' sub
    split at e
    · rename_i hz
      cases e
      exact L2.op_cat pins s σ H _ _ v u Q I rx ry ⟨a, b, xs, ys, rfl, rfl, h1, h2, by rw [t1.len, t2.len, ← line_eq]; exact hz, fun p hp => n.lst sub (t1.app t2) hp⟩
    · cases e
theorem opD_sub : OpR X (binaryOp .Sub) (rD X (binop .Sub)) := by
  rintro pins s σ H x y v u Q I rx ry ⟨Fz, d, d', r, B, C, sub, r1, r2, e, n⟩
  cases d <;> cases d' <;> simp only [binop] at e <;> try contradiction
  obtain rfl := r1.int
  obtain rfl := r2.int
  cases e
  exact L2.op_sub pins s σ H _ _ v u Q I rx ry ⟨_, _, rfl, rfl, n.val sub (.int _)⟩
theorem opD_mul : OpR X (binaryOp .Mult) (rD X (binop .Mult)) := by
  rintro pins s σ H x y v u Q I rx ry ⟨Fz, d, d', r, B, C, sub, r1, r2, e, n⟩
  cases d <;> cases d' <;> simp only [binop] at e <;> try contradiction
  · obtain rfl := r1.int
    obtain rfl := r2.int
    split at e
    · rename_i i j hz
      cases e
      unfold mulOk at hz
      rw [Bool.or_eq_true, Bool.or_eq_true] at hz
      rcases hz with (hz | hz) | hz
      · exact L2.op_mul pins s σ H _ _ v u Q I rx ry ⟨_, _, rfl, rfl, .inl (of_decide_eq_true hz), n.val sub (.int _)⟩
      · exact L2.op_mul pins s σ H _ _ v u Q I rx ry ⟨_, _, rfl, rfl, .inr (of_decide_eq_true hz), n.val sub (.int _)⟩
      · have hz' : i.natAbs.log2 + j.natAbs.log2 < 1000000 := of_decide_eq_true hz
        exact L2.op_mulW pins s σ H _ _ v u Q I rx ry ⟨_, _, rfl, rfl, hz', n.val sub (.int _)⟩
    · cases e
  · obtain ⟨a, xs, rfl, h1, t1⟩ := r1.lst' sub
    obtain rfl := r2.int
    split at e
    · rename_i hz
      cases e
      exact L2.op_rep pins s σ H _ _ v u Q I rx ry ⟨a, _, xs, rfl, rfl, h1, hz.2.1, hz.2.2, by rw [t1.len, ← line_eq]; exact hz.1, fun p hp => n.lst sub (t1.rep _) hp⟩
    · cases e
theorem opD_fdiv : OpR X (binaryOp .FloorDiv) (rD X (binop .FloorDiv)) := by
  rintro pins s σ H x y v u Q I rx ry ⟨Fz, d, d', r, B, C, sub, r1, r2, e, n⟩
  cases d <;> cases d' <;> simp only [binop] at e <;> try contradiction
  obtain rfl := r1.int
  obtain rfl := r2.int
  split at e
  · rename_i i j hz
    cases e
    have hz' : 0 < j ∧ j.natAbs.log2 < 9000 := of_decide_eq_true hz
    exact L2.op_fdivW pins s σ H _ _ v u Q I rx ry ⟨_, _, rfl, rfl, hz', n.val sub (.int _)⟩
  · cases e
theorem opD_mod : OpR X (binaryOp .Mod) (rD X (binop .Mod)) := by
  rintro pins s σ H x y v u Q I rx ry ⟨Fz, d, d', r, B, C, sub, r1, r2, e, n⟩
  cases d <;> cases d' <;> simp only [binop] at e <;> try contradiction
  obtain rfl := r1.int
  obtain rfl := r2.int
  split at e
  · rename_i hz
    cases e
    exact L2.op_mod pins s σ H _ _ v u Q I rx ry ⟨_, _, rfl, rfl, hz, n.val sub (.int _)⟩
  · cases e
theorem opD_pow : OpR X (binaryOp .Pow) (rD X (binop .Pow)) := by
  rintro pins s σ H x y v u Q I rx ry ⟨Fz, d, d', r, B, C, sub, r1, r2, e, n⟩
  cases d <;> cases d' <;> simp only [binop] at e <;> try contradiction
  obtain rfl := r1.int
  obtain rfl := r2.int
  split at e
  · rename_i hz
    cases e
    exact L2.op_pow pins s σ H _ _ v u Q I rx ry ⟨_, _, rfl, rfl, hz, n.val sub (.int _)⟩
  · cases e
theorem opD_no {op : Operator} (h : ∀ d d', binop op d d' = none) : OpR X (binaryOp op) (rD X (binop op)) := by
  rintro pins s σ H x y v u Q I rx ry ⟨Fz, d, d', r, B, C, sub, r1, r2, e, n⟩
  rw [h] at e; cases e
theorem opD (op : Operator) : OpR X (binaryOp op) (rD X (binop op)) := by
  cases op with
  | Add => exact opD_add
  | Sub => exact opD_sub
  | Mult => exact opD_mul
  | FloorDiv => exact opD_fdiv
  | Mod => exact opD_mod
  | Pow => exact opD_pow
  | _ => exact opD_no fun d d' => by cases d <;> cases d' <;> rfl
end
end PL

-- S4
set_option Elab.async false
set_option linter.all false
set_option maxRecDepth 100000
set_option maxHeartbeats 1000000
namespace PL
open PySem (Str Addr Value Shared Expr Stmt Pos Scope Obj Sem Operator CmpOp binaryOp compareOp inplaceOp sizeLine PyData)
open L2 (V HO Hp SqL SqT upd upd_same upd_ne St VK TE TT XK WX PE PT Inv Cx R2 OpR rI rI0 tOp Dp DpAll)
mutual
def D.py : D → PyData
  | .non => .none
  | .bl b => .bool b
  | .int i => .int i
  | .str s => .str s
  | .tup ds => .tuple (D.pyL ds)
  | .lst _ ds => .list (D.pyL ds)
  | _ => .none
def D.pyL : List D → List PyData
  | [] => []
  | d :: ds => D.py d :: D.pyL ds
end
mutual
theorem D.py_depth : ∀ d : D, d.plain = true → (D.py d).depth = d.depth
  | .non, _ => rfl
  | .bl _, _ => rfl
  | .int _, _ => rfl
  | .str _, _ => rfl
  | .tup ds, h => by
    show PyData.depthAll (D.pyL ds) + 1 = D.depthL ds + 1
    rw [D.pyL_depth ds h]
  | .lst _ ds, h => by
    show PyData.depthAll (D.pyL ds) + 1 = D.depthL ds + 1
    rw [D.pyL_depth ds h]
  | .dct _ _ _, h => by cases h
  | .set _, h => by cases h
  | .ins _ _ _ _, h => by cases h
  | .exo _ _ _, h => by cases h
  | .glb _, h => by cases h
  | .scr _, h => by cases h
theorem D.pyL_depth : ∀ ds : List D, D.plainL ds = true → PyData.depthAll (D.pyL ds) = D.depthL ds
  | [], _ => rfl
  | d :: ds, h => by
    have h' : D.plain d = true ∧ D.plainL ds = true := by simpa [D.plainL] using h
    show max (D.py d).depth (PyData.depthAll (D.pyL ds)) = Nat.max d.depth (D.depthL ds)
    rw [D.py_depth d h'.1, D.pyL_depth ds h'.2]
end
mutual
theorem D.py_eqv : ∀ a b : D, a.plain = true → b.plain = true → PyData.eqv (D.py a) (D.py b) = D.eqv a b
  | a, b, ha, hb => by
    cases a <;> first
      | (cases b <;> first
          | rfl
          | (exact Bool.noConfusion hb)
          | (exact Bool.noConfusion ha)
          | (rename_i xs ys; exact D.pyL_eqv xs ys ha hb)
          | (rename_i o xs o2 ys; exact D.pyL_eqv xs ys ha hb))
theorem D.pyL_eqv : ∀ a b : List D, D.plainL a = true → D.plainL b = true → PyData.eqvAll (D.pyL a) (D.pyL b) = D.eqvL a b
  | [], [], _, _ => rfl
  | [], _ :: _, _, _ => rfl
  | _ :: _, [], _, _ => rfl
  | x :: xs, y :: ys, ha, hb => by
    have ha' : D.plain x = true ∧ D.plainL xs = true := by simpa [D.plainL] using ha
    have hb' : D.plain y = true ∧ D.plainL ys = true := by simpa [D.plainL] using hb
    show (PyData.eqv (D.py x) (D.py y) && PyData.eqvAll (D.pyL xs) (D.pyL ys)) = (D.eqv x y && D.eqvL xs ys)
    rw [D.py_eqv x y ha'.1 hb'.1, D.pyL_eqv xs ys ha'.2 hb'.2]
end
section
variable {X : Cx} {K : PySem.W.Frag} {mg : Str → Option Value} {Fz H : Hp} {x v : V} {B : List Addr} {Q : VK}
mutual
theorem RF.dp (sub : ∀ a o, Fz a = some o → H a = some o) : ∀ {v : V} {d : D}, RF K mg Fz v d → d.plain = true → Dp K H v d.py ∧ d.py.canLay0 = true
  | _, _, .non, _ => ⟨.non, rfl⟩
  | _, _, .bl b, _ => ⟨.bl b, rfl⟩
  | _, _, .int i, _ => ⟨.int i, rfl⟩
  | _, _, .str s h _, _ => ⟨.str s, h⟩
  | _, _, .tup h r, p => let ⟨q1, q2⟩ := RFs.dp sub r p; ⟨.tup (h.up sub).sq q1, q2⟩
  | _, _, .lst h r, p => let ⟨q1, q2⟩ := RFs.dp sub r p; ⟨.lst (SqL.of (sub _ _ h)) q1, q2⟩
  | _, _, .scr _, p => nomatch p
  | _, _, .dct _ _ _, p => nomatch p
  | _, _, .ins _ _ _ _ _, p => nomatch p
  | _, _, .glb _, p => nomatch p
theorem RFs.dp (sub : ∀ a o, Fz a = some o → H a = some o) : ∀ {vs : List V} {ds : List D}, RFs K mg Fz vs ds → D.plainL ds = true → DpAll K H vs (D.pyL ds) ∧ PyData.canLayAll0 (D.pyL ds) = true
  | _, _, .nil, _ => ⟨.nil, rfl⟩
  | _, _, .cons h t, p => by
    have p' := Bool.and_eq_true_iff.mp p
    obtain ⟨q1, q2⟩ := RF.dp sub h p'.1
    obtain ⟨q3, q4⟩ := RFs.dp sub t p'.2
    refine ⟨.cons q1 q3, ?_⟩
    show (PyData.canLay0 _ && PyData.canLayAll0 _) = true
    rw [q2, q4]; rfl
end
theorem RO.dp {d : D} (r : RO K mg Fz H v d B) (sub : ∀ a o, Fz a = some o → H a = some o) (p : d.plain = true) : Dp K H v d.py ∧ d.py.canLay0 = true := by
  cases r with
  | sh r => exact r.dp sub p
  | lst h r =>
    obtain ⟨q1, q2⟩ := RFs.dp sub r p
    exact ⟨.lst (SqL.of h) q1, q2⟩
  | dct l h r => exact nomatch p
  | ins l h h2 g r => exact nomatch p
theorem RO.shaped {d : D} (r : RO K mg Fz H v d B) (sub : ∀ a o, Fz a = some o → H a = some o) (p : d.plain = true) (z : d.depth ≤ 60) : PySem.SeqAt.shaped d.py = true := by
  unfold PySem.SeqAt.shaped
  rw [(r.dp sub p).2, D.py_depth d p]
  exact decide_eq_true (by omega)
/-- comparisons of data -/
def rC (X : Cx) (g : D → D → Option Bool) : R2 := fun x y H Q => ∃ (Fz : Hp) (d d' : D) (b : Bool) (B C : List Addr), (∀ a o, Fz a = some o → H a = some o) ∧ RO X.K X.mg Fz H x d B ∧ RO X.K X.mg Fz H y d' C ∧ g d d' = some b ∧ Q (.bl b) H
theorem pyEq_ok {d d' : D} {b : Bool} (h : pyEq d d' = some b) : d.plain = true ∧ d'.plain = true ∧ d.depth ≤ 60 ∧ d'.depth ≤ 60 ∧ D.eqv d d' = b := by
  unfold pyEq at h
  split at h
  · rename_i z
    simp only [Bool.and_eq_true, decide_eq_true_eq] at z
    exact ⟨z.1.1.1, z.1.1.2, z.1.2, z.2, Option.some.inj h⟩
  · cases h
theorem opC_eq (hu : X.A.units + 64 < PySem.cLine) : OpR X (compareOp .Eq) (rC X (cmpop .Eq)) := by
  rintro pins s σ H x y v u Q I rx ry ⟨Fz, d, d', b, B, C, sub, r1, r2, e, q⟩
  obtain ⟨p1, p2, z1, z2, e⟩ := pyEq_ok (show pyEq d d' = some b by simpa [cmpop] using e)
  exact L2.op_eqD hu pins s σ H x y v u Q I rx ry ⟨d.py, d'.py, (r1.dp sub p1).1, (r2.dp sub p2).1, r1.shaped sub p1 z1, r2.shaped sub p2 z2, by rw [D.py_eqv d d' p1 p2, e]; exact q⟩
theorem opC_ne (hu : X.A.units + 64 < PySem.cLine) : OpR X (compareOp .NotEq) (rC X (cmpop .NotEq)) := by
  rintro pins s σ H x y v u Q I rx ry ⟨Fz, d, d', b, B, C, sub, r1, r2, e, q⟩
  obtain ⟨c, ec, eb⟩ := Option.map_eq_some_iff.mp (show (pyEq d d').map (!·) = some b by simpa [cmpop] using e)
  obtain ⟨p1, p2, z1, z2, e⟩ := pyEq_ok ec
  exact L2.op_neD hu pins s σ H x y v u Q I rx ry ⟨d.py, d'.py, (r1.dp sub p1).1, (r2.dp sub p2).1, r1.shaped sub p1 z1, r2.shaped sub p2 z2, by rw [D.py_eqv d d' p1 p2, e, eb]; exact q⟩
theorem cmp_ints {op : CmpOp} {g : Int → Int → Bool} (h : ∀ d d' b, cmpop op d d' = some b → ∃ i j, d = .int i ∧ d' = .int j ∧ b = g i j) (o : OpR X (compareOp op) (rI0 fun i j => .bl (g i j))) : OpR X (compareOp op) (rC X (cmpop op)) := by
  rintro pins s σ H x y v u Q I rx ry ⟨Fz, d, d', b, B, C, sub, r1, r2, e, q⟩
  obtain ⟨i, j, rfl, rfl, rfl⟩ := h _ _ _ e
  obtain rfl := r1.int
  obtain rfl := r2.int
  exact o pins s σ H _ _ v u Q I rx ry ⟨_, _, rfl, rfl, q⟩
theorem memD_ok {a : D} {ds : List D} {b : Bool} (h : memD a ds = some b) : a.plain = true ∧ D.plainL ds = true ∧ a.depth ≤ 60 ∧ D.depthL ds ≤ 60 ∧ (ds.any fun z => D.eqv z a) = b := by
  unfold memD at h
  split at h
  · rename_i z
    simp only [Bool.and_eq_true, decide_eq_true_eq] at z
    exact ⟨z.1.1.1, z.1.1.2, z.1.2, z.2, Option.some.inj h⟩
  · cases h
theorem any_py {a : D} (pa : a.plain = true) : ∀ {ds : List D}, D.plainL ds = true → ((D.pyL ds).any fun z => PyData.eqv z a.py) = ds.any fun z => D.eqv z a
  | [], _ => rfl
  | d :: ds, h => by
    have h' : D.plain d = true ∧ D.plainL ds = true := by simpa [D.plainL] using h
    show (PyData.eqv d.py a.py || (D.pyL ds).any _) = (D.eqv d a || ds.any _)
    rw [D.py_eqv d a h'.1 pa, any_py pa h'.2]
theorem opC_in (hu : X.A.units + 65 < PySem.cLine) : OpR X (compareOp .In) (rC X (cmpop .In)) := by
  rintro pins s σ H x y v u Q I rx ry ⟨Fz, d, d', b, B, C, sub, r1, r2, e, q⟩
  have : ∃ o ds, d' = .lst o ds ∧ memD d ds = some b := by
    unfold cmpop at e
    split at e <;> first | contradiction | (exact ⟨_, _, rfl, e⟩)
  obtain ⟨o, ds, rfl, e⟩ := this
  obtain ⟨p1, p2, z1, z2, e⟩ := memD_ok e
  have d2 : D.depth (.lst o ds) ≤ 61 := by show D.depthL ds + 1 ≤ 61; omega
  refine L2.op_inD hu pins s σ H x y v u Q I rx ry ⟨d.py, D.pyL ds, (r1.dp sub p1).1, (r2.dp sub p2).1, r1.shaped sub p1 z1, ?_, by rw [any_py p1 p2, e]; exact q⟩
  have c := (r2.dp sub p2).2
  have dd := D.py_depth (.lst o ds) p2
  unfold PySem.SeqAt.shaped
  rw [show (PyData.list (D.pyL ds)).canLay0 = true from c]
  refine decide_eq_true ?_
  have : (PyData.list (D.pyL ds)).depth = D.depth (.lst o ds) := dd
  omega
theorem opC_notin (hu : X.A.units + 65 < PySem.cLine) : OpR X (compareOp .NotIn) (rC X (cmpop .NotIn)) := by
  rintro pins s σ H x y v u Q I rx ry ⟨Fz, d, d', b, B, C, sub, r1, r2, e, q⟩
  have : ∃ o ds, d' = .lst o ds ∧ (memD d ds).map (!·) = some b := by
    unfold cmpop at e
    split at e <;> first | contradiction | (exact ⟨_, _, rfl, e⟩)
  obtain ⟨o, ds, rfl, e⟩ := this
  obtain ⟨c, e, eb⟩ := Option.map_eq_some_iff.mp e
  obtain ⟨p1, p2, z1, z2, e⟩ := memD_ok e
  have d2 : D.depth (.lst o ds) ≤ 61 := by show D.depthL ds + 1 ≤ 61; omega
  refine L2.op_notInD hu pins s σ H x y v u Q I rx ry ⟨d.py, D.pyL ds, (r1.dp sub p1).1, (r2.dp sub p2).1, r1.shaped sub p1 z1, ?_, by rw [any_py p1 p2, e, eb]; exact q⟩
  have c := (r2.dp sub p2).2
  have dd := D.py_depth (.lst o ds) p2
  unfold PySem.SeqAt.shaped
  rw [show (PyData.list (D.pyL ds)).canLay0 = true from c]
  refine decide_eq_true ?_
  have : (PyData.list (D.pyL ds)).depth = D.depth (.lst o ds) := dd
  omega
theorem opC (hu : X.A.units + 65 < PySem.cLine) (op : CmpOp) : OpR X (compareOp op) (rC X (cmpop op)) := by
  have no : ∀ op', (∀ d d', cmpop op' d d' = none) → OpR X (compareOp op') (rC X (cmpop op')) := fun op' h => by
    rintro pins s σ H x y v u Q I rx ry ⟨Fz, d, d', b, B, C, sub, r1, r2, e, q⟩
    rw [h] at e; cases e
  cases op with
  | Eq => exact opC_eq (by omega)
  | NotEq => exact opC_ne (by omega)
  | Lt => exact cmp_ints (g := fun i j => decide (i < j)) (fun d d' b e => by unfold cmpop at e; split at e <;> first | contradiction | (cases e; exact ⟨_, _, rfl, rfl, rfl⟩)) L2.op_lt
  | LtE => exact cmp_ints (g := fun i j => decide (i ≤ j)) (fun d d' b e => by unfold cmpop at e; split at e <;> first | contradiction | (cases e; exact ⟨_, _, rfl, rfl, rfl⟩)) L2.op_le
  | Gt => exact cmp_ints (g := fun i j => decide (j < i)) (fun d d' b e => by unfold cmpop at e; split at e <;> first | contradiction | (cases e; exact ⟨_, _, rfl, rfl, rfl⟩)) L2.op_gt
  | GtE => exact cmp_ints (g := fun i j => decide (j ≤ i)) (fun d d' b e => by unfold cmpop at e; split at e <;> first | contradiction | (cases e; exact ⟨_, _, rfl, rfl, rfl⟩)) L2.op_ge
  | In => exact opC_in hu
  | NotIn => exact opC_notin hu
  | Is => exact no _ fun d d' => rfl
  | IsNot => exact no _ fun d d' => rfl
theorem truth_ok {d : D} {k : Bool} (sub : ∀ a o, Fz a = some o → H a = some o) (r : RO K mg Fz H v d B) (h : d.truth = some k) : L2.TruV K v H k := by
  cases d with
  | non => obtain rfl := r.non; cases h; rfl
  | bl b => obtain rfl := r.bl; cases h; rfl
  | int i => obtain rfl := r.int; cases h; rfl
  | str s =>
    obtain ⟨rfl, _, l⟩ := r.str
    refine ⟨by rw [← line_eq]; exact l, ?_⟩
    have e : (s.cps.size != 0) = k := Option.some.inj h
    rw [← e]
    show (s.cps.size != 0) = (((s.cps.size : Nat) : Int) != 0)
    by_cases z : s.cps.size = 0
    · rw [z]; rfl
    · have z' : ((s.cps.size : Nat) : Int) ≠ 0 := by omega
      rw [bne_iff_ne.mpr z, bne_iff_ne.mpr z']
  | tup ds =>
    obtain ⟨a, xs, rfl, q, t⟩ := r.tup
    refine .inr (.inl ⟨xs, (q.up sub).sq, ?_⟩)
    have e : (!ds.isEmpty) = k := Option.some.inj h
    rw [← e]
    cases t <;> rfl
  | lst o ds =>
    obtain ⟨a, xs, rfl, q, t⟩ := r.lst' sub
    refine .inl ⟨xs, SqL.of q, ?_⟩
    have e : (!ds.isEmpty) = k := Option.some.inj h
    rw [← e]
    cases t <;> rfl
  | _ => cases h
end
end PL

-- S5
set_option Elab.async false
set_option linter.all false
set_option maxRecDepth 100000
set_option maxHeartbeats 1000000
namespace PL
open PySem (Str Addr Value Shared Expr Stmt Pos Scope Obj Sem Operator CmpOp binaryOp compareOp inplaceOp sizeLine PyData)
open L2 (V HO Hp SqL SqT upd upd_same upd_ne St VK TE TT XK WX PE PT PW Inv Cx R2 OpR rI rI0 tOp Room)
/-! ### a slot taken out of the row -/
theorem RE.split : ∀ {K : PySem.W.Frag} {mg : Str → Option Value} {Fz H : Hp} {σ : St} {e : Env} {A : List Addr} {i : Nat} {d : D}, RE K mg Fz H σ e A → e[i]? = some (some d) →
    ∃ (v : V) (B A1 A2 : List Addr), A = A1 ++ (B ++ A2) ∧ σ[i]? = some (some v) ∧ RO K mg Fz H v d B ∧
      (∀ (Fz' H' : Hp), (∀ a o, Fz a = some o → Fz' a = some o) → (∀ a o, a ∈ A1 ∨ a ∈ A2 → H a = some o → H' a = some o) → (∀ d' B', RO K mg Fz' H' v d' B' → RE K mg Fz' H' σ (e.set i (some d')) (A1 ++ (B' ++ A2))) ∧ RE K mg Fz' H' σ (e.set i none) (A1 ++ A2))
  | _, _, _, _, _, _, _, _, _, .nil, h => by simp at h
  | _, _, _, _, _, _, _, 0, _, .no t, h => by simp at h
  | _, _, _, _, _, _, _, i + 1, _, .no t, h => by
    obtain ⟨v, B, A1, A2, rfl, h1, h2, h3⟩ := RE.split (i := i) t (by simpa using h)
    refine ⟨v, B, A1, A2, rfl, by simpa using h1, h2, fun Fz' H' k m => ?_⟩
    obtain ⟨q1, q2⟩ := h3 Fz' H' k m
    exact ⟨fun d' B' r => .no (q1 d' B' r), .no q2⟩
  | _, _, _, _, _, _, _, 0, _, .so (v := v) (A := A) (B := B) r t, h => by
    simp at h; subst h
    refine ⟨v, A, [], B, rfl, rfl, r, fun Fz' H' k m => ⟨fun d' B' r' => ?_, .no (t.up k fun a o z => m a o (.inr z))⟩⟩
    show RE _ _ _ _ _ _ (B' ++ B)
    exact .so r' (t.up k fun a o z => m a o (.inr z))
  | _, _, _, _, _, _, _, i + 1, _, .so (v := v) (A := A) r t, h => by
    obtain ⟨v', B, A1, A2, rfl, h1, h2, h3⟩ := RE.split (i := i) t (by simpa using h)
    refine ⟨v', B, A ++ A1, A2, by simp, by simpa using h1, h2, fun Fz' H' k m => ?_⟩
    obtain ⟨q1, q2⟩ := h3 Fz' H' k fun a o z => m a o (z.imp (List.mem_append_right _) id)
    have r' := r.up (H' := H') k fun a o z => m a o (.inl (List.mem_append_left _ z))
    refine ⟨fun d' B' x => ?_, ?_⟩
    · rw [List.append_assoc]; exact .so r' (q1 d' B' x)
    · rw [List.append_assoc]; exact .so r' q2
section
variable {X : Cx} {W : WX} {σ : St} {α β ν : Type} {Q Q' : ν → Hp → Prop} {Re : Rel ν α} {H : Hp}
theorem tM_mono {m : M α} (h : tM X W m Re σ H Q) (q : ∀ v H, Q v H → Q' v H) : tM X W m Re σ H Q' := by
  obtain ⟨s, e, rfl, ok, re, c⟩ := h
  refine ⟨s, e, rfl, ok, re, ?_⟩
  cases r : m e with
  | ok a e1 =>
    rw [r] at c
    exact fun v Fz H A B k1 k2 k3 k4 => q _ _ (c v Fz H A B k1 k2 k3 k4)
  | exc x e1 =>
    rw [r] at c
    exact c
  | bad =>
    rw [r] at c
    exact c
theorem PE.imp {e : Expr} {t t' : TE} (h : L2.PE X e t) (k : ∀ σ H Q, t' σ H Q → t σ H Q) : L2.PE X e t' := ⟨fun pins s σ H Q I q => h.run pins s σ H Q I (k σ H Q q)⟩
theorem PT.imp {e : Expr} {t t' : TT} (h : PT X e t) (k : ∀ σ H Q, t' σ H Q → t σ H Q) : PT X e t' := ⟨fun pins s σ H Q I q => h.run pins s σ H Q I (k σ H Q q)⟩
/-- a test's reading -/
def relB : Rel V Bool := fun _ _ _ v b B => v = .bl b ∧ B = []
def tT (X : Cx) (W : WX) (m : M Bool) : TT := fun σ H Q => tM X W m relB σ H fun v H1 => ∀ b, v = .bl b → Q b H1
end
/-- an expression and what it was made into -/
structure GE (X : Cx) (W : WX) (G : Prog) (cf : CF) (e : Expr) (pe : PE) : Prop where
  val : L2.PE X e (tE X W (evE G cf pe))
  opd : L2.PE X e (tO X W (opd pe (evE G cf pe)))
section
variable {X : Cx} {W : WX} {G : Prog} {cf : CF} {e : Expr} {pe : PE}
theorem GE.of (v : L2.PE X e (tE X W (evE G cf pe))) (h : isVar pe = none) : GE X W G cf e pe := by
  refine ⟨v, PE.imp v fun σ H Q q => ?_⟩
  have e1 : PL.opd pe (evE G cf pe) = M.bind (evE G cf pe) fun d => M.pure (.val d) := by unfold PL.opd; rw [h]
  rw [e1] at q
  refine tM_mono (tM_bind (Re := relE X) q) fun v H1 ⟨a, Fz, A, B, e', ok, re, rr, c⟩ => ?_
  exact c v Fz H1 A B ok re rr (Step.refl _)
/-! ### names and constants -/
/-- a slot read as a value -/
theorem rd_slot {i : Nat} {e : Env} {σ : St} {Fz H : Hp} {A B : List Addr} {Q : VK} (ok : Ok3 ⟨Fz, H, A ++ B⟩) (re : RE X.K X.mg Fz H σ e A) (c : Cont X W σ ⟨Fz, H, A ++ B⟩ (rdV i e) (relE X) Q) : ∃ v, σ[i]? = some (some v) ∧ Q v H := by
  unfold rdV at c
  cases z : e[i]? with
  | none => rw [z] at c; exact False.elim c
  | some o =>
    rw [z] at c
    cases o with
    | none => exact False.elim c
    | some d =>
      obtain ⟨v, C, A1, A2, eA, h1, h2, h3⟩ := re.split z
      refine ⟨v, h1, ?_⟩
      dsimp only at c
      by_cases w : d.own = true
      · rw [if_pos w] at c
        have okA := ok.left
        have nd := okA.nd
        rw [show (⟨Fz, H, A⟩ : G3).A = A from rfl, eA] at nd
        have nd1 := List.nodup_append.mp nd
        have nd2 := List.nodup_append.mp nd1.2.1
        have ndA : (A1 ++ A2).Nodup := List.nodup_append.mpr ⟨nd1.1, nd2.2.1, fun a ha b hb => nd1.2.2 a ha b (List.mem_append_right _ hb)⟩
        obtain ⟨Fz', rf, st, ok'⟩ := RO.freeze (s := ⟨Fz, H, A⟩) (A := A1 ++ A2) h2 okA (fun a h => by show a ∈ A; rw [eA]; simp [h]) (fun a h => by
          rcases List.mem_append.mp h with h | h
          · exact ⟨by show a ∈ A; rw [eA]; simp [h], fun z => nd1.2.2 a h a (List.mem_append_left _ z) rfl⟩
          · exact ⟨by show a ∈ A; rw [eA]; simp [h], fun z => nd2.2.2 a z a h rfl⟩) ndA
        have re' := (h3 Fz' H st.fz fun a o _ e => e).1 _ _ (.sh rf)
        refine c v Fz' H (A1 ++ ([] ++ A2)) [] (by simpa using ok') re' (.sh rf) ?_
        have st2 : Step ⟨Fz, H, A ++ B⟩ ⟨Fz', H, (A1 ++ A2) ++ B⟩ := st.frame
        exact st2.sub fun a h => by simp at h ⊢; rcases h with h | h <;> simp [h]
      · rw [if_neg w] at c
        obtain ⟨eB, rf⟩ := h2.nil_of (by simpa using w)
        exact c v Fz H A [] (by simpa using ok.left) re (.sh rf) ((Step.refl _).sub fun a h => by simp at h ⊢; exact .inl h)
/-- an operand as a value -/
theorem rd_opd {o : Opd} {x : V} {e : Env} {σ : St} {Fz H : Hp} {A B : List Addr} {Q : VK} (ok : Ok3 ⟨Fz, H, A ++ B⟩) (re : RE X.K X.mg Fz H σ e A) (r : relO X σ Fz H x o B) (c : Cont X W σ ⟨Fz, H, A ++ B⟩ (valO o e) (relE X) Q) : Q x H := by
  cases o with
  | val d => exact c x Fz H A B ok re r (Step.refl _)
  | slot i =>
    obtain ⟨v, h1, h2⟩ := rd_slot ok re c
    rw [r.1] at h1
    cases h1; exact h2
theorem ge_var {i : Nat} {x : Str} {pos : Pos} (hN : X.N[i]? = some x) (hv : L2.Vis X.env.scope x) (hd : (x == ("__debug__" : Str)) = false) (hcd : (x == ("__classdict__" : Str)) = false) : GE X W G cf (.Name x pos) (.var i) := by
  have base := L2.pe_var (X := X) (pos := pos) hN hv hd hcd
  refine ⟨PE.imp base fun σ H Q q => ?_, PE.imp base fun σ H Q q => ?_⟩
  · obtain ⟨s, e, rfl, ok, re, c⟩ := q
    have c' : Cont X W σ s (rdV i e) (relE X) Q := by simpa only [evE] using c
    exact rd_slot (B := []) (by simpa using ok) re (by simpa using c')
  · obtain ⟨s, e, rfl, ok, re, c⟩ := q
    show ∃ v, σ[i]? = some (some v) ∧ Q v s.H
    have c' : Cont X W σ s (PL.opd (.var i) (evE G cf (.var i)) e) (relO X) Q := c
    unfold PL.opd at c'
    simp only [isVar_var] at c'
    cases z : e[i]? with
    | none => rw [z] at c'; exact False.elim c'
    | some o =>
      rw [z] at c'
      cases o with
      | none => exact False.elim c'
      | some d =>
        obtain ⟨v, B, h1, h2, h3⟩ := re.at z
        exact ⟨v, h1, c' v s.Fz s.H s.A [] (by simpa using ok) re ⟨h1, rfl⟩ (by simpa using Step.refl s)⟩
theorem tE_pure {d : D} {σ : St} {H : Hp} {Q : VK} {v : V} (q : tE X W (M.pure d) σ H Q) (r : ∀ Fz, RF X.K X.mg Fz v d) : Q v H := by
  obtain ⟨s, e, rfl, ok, re, c⟩ := q
  exact c v s.Fz s.H s.A [] (by simpa using ok) re (.sh (r _)) (by simpa using Step.refl s)
theorem ge_int {i : Int} {j : Nat} {pos : Pos} : GE X W G cf (.Constant (.int i) j pos) (.lit (.int i)) :=
  .of (PE.imp L2.pe_int fun σ H Q q => tE_pure (by simpa only [evE] using q) fun _ => .int i) rfl
theorem ge_bl {b : Bool} {j : Nat} {pos : Pos} : GE X W G cf (.Constant (.bool b) j pos) (.lit (.bl b)) :=
  .of (PE.imp L2.pe_bl fun σ H Q q => tE_pure (by simpa only [evE] using q) fun _ => .bl b) rfl
theorem ge_non {j : Nat} {pos : Pos} : GE X W G cf (.Constant .none j pos) (.lit .non) :=
  .of (PE.imp L2.pe_non fun σ H Q q => tE_pure (by simpa only [evE] using q) fun _ => .non) rfl
theorem ge_str {s : Str} {j : Nat} {pos : Pos} (h : PySem.PyData.strOk s = true) (h2 : s.cps.size ≤ LINE) : GE X W G cf (.Constant (.str s) j pos) (.lit (.str s)) :=
  .of (PE.imp L2.pe_str fun σ H Q q => tE_pure (by simpa only [evE] using q) fun _ => .str s h h2) rfl
/-- a constant of the module -/
theorem ge_glob {x : Str} {v : V} {u : Value} {d : D} {pos : Pos} (hg : L2.Gl X x) (hm : X.mg x = some u) (r : L2.RelV v u) (hd : (x == ("__debug__" : Str)) = false) (hc : G.con.lookup x = some d) (rf : ∀ Fz, RF X.K X.mg Fz v d) :
    GE X W G cf (.Name x pos) (.glob x) :=
  .of (PE.imp (L2.pe_glob hg hm r hd) fun σ H Q q => by
    refine tE_pure (W := W) (σ := σ) (d := d) ?_ rf
    have q' : tE X W (M.opt (G.con.lookup x)) σ H Q := by simpa only [evE] using q
    rw [hc] at q'
    exact q') rfl
/-- what is not made: no promise -/
theorem ge_bad {e : Expr} {pe : PE} (h : ∀ en, evE G cf pe en = .bad) (hv : isVar pe = none) : GE X W G cf e pe :=
  .of ⟨fun pins s σ H Q I q => by
    obtain ⟨s', e', _, _, _, c⟩ := q
    rw [h] at c
    exact False.elim c⟩ hv
/-! ### two operands, an operation -/
/-- the readings of two operands and what is then known -/
theorem two_opds {γ ν : Type} {Re : Rel ν γ} {m1 m2 : M Opd} {k : Opd → Opd → M γ} {σ : St} {H : Hp} {Q : ν → Hp → Prop} {R : V → V → Hp → Prop}
    (q : tM X W (M.bind m1 fun x => M.bind m2 fun y => k x y) Re σ H Q)
    (h : ∀ (x y : V) (ox oy : Opd) (Fz H : Hp) (A B : List Addr) (e : Env), Ok3 ⟨Fz, H, A ++ B⟩ → RE X.K X.mg Fz H σ e A →
      (∀ {d e'}, ox.get e = .ok d e' → ∃ C, RO X.K X.mg Fz H x d C ∧ ∀ a ∈ C, a ∈ A ++ B) → (∀ {d e'}, oy.get e = .ok d e' → ∃ C, RO X.K X.mg Fz H y d C ∧ ∀ a ∈ C, a ∈ A ++ B) →
      Cont X W σ ⟨Fz, H, A ++ B⟩ (k ox oy e) Re Q → R x y H) :
    tO X W m1 σ H fun x H1 => tO X W m2 σ H1 fun y H2 => R x y H2 := by
  refine tM_mono (tM_bind (Re := relO X) q) fun x H1 ⟨ox, Fz1, A1, B1, e1, ok1, re1, rx, c1⟩ => ?_
  refine tM_mono (tM_next (Re := relO X) ok1 re1 c1) fun y H2 ⟨oy, Fz2, A2, B2, e2, ok2, re2, ry, st, c2⟩ => ?_
  rw [List.append_assoc] at ok2 c2
  refine h x y ox oy Fz2 H2 A2 (B2 ++ B1) e2 ok2 re2 (fun {d e'} g => ?_) (fun {d e'} g => ?_) c2
  · obtain ⟨_, C, r, sb⟩ := opd_get (A := A1) g rx re2 st.fz (held ok1 st)
    exact ⟨C, r, fun a z => by have := sb a z; simp at this ⊢; rcases this with h | h <;> simp [h]⟩
  · obtain ⟨_, C, r, sb⟩ := opd_get (A := A1) g ry re2 (fun _ _ e => e) fun _ _ _ e => e
    exact ⟨C, r, fun a z => by have := sb a z; simp at this ⊢; rcases this with h | h <;> simp [h]⟩
theorem get_inv {o : Opd} {e : Env} {γ ν : Type} {Re : Rel ν γ} {k : D → M γ} {σ : St} {s : G3} {Q : ν → Hp → Prop} (c : Cont X W σ s (M.bind o.get k e) Re Q) : ∃ d, o.get e = .ok d e ∧ Cont X W σ s (k d e) Re Q := by
  rcases opd_run o e with ⟨d, h⟩ | h
  · refine ⟨d, h, ?_⟩
    have c' : Cont X W σ s ((o.get e).bind fun a => k a) Re Q := c
    rw [h] at c'; exact c'
  · have c' : Cont X W σ s ((o.get e).bind fun a => k a) Re Q := c
    rw [h] at c'; exact False.elim c'
theorem opt_inv {γ ν : Type} {o : Option γ} {e : Env} {Re : Rel ν γ} {σ : St} {s : G3} {Q : ν → Hp → Prop} (c : Cont X W σ s (M.opt o e) Re Q) : ∃ d, o = some d ∧ Cont X W σ s (.ok d e) Re Q := by
  cases o with
  | none => exact False.elim c
  | some d => exact ⟨d, rfl, c⟩
theorem ge_bin {a b : Expr} {pa pb : PE} {op : Operator} {pos : Pos} (ha : GE X W G cf a pa) (hb : GE X W G cf b pb) : GE X W G cf (.BinOp a op b pos) (.bin op pa pb) := by
  refine .of (PE.imp (L2.pe_op (opD op) ha.opd hb.opd) fun σ H Q q => ?_) rfl
  simp only [evE] at q
  refine two_opds (R := fun x y H2 => rD X (binop op) x y H2 Q) q fun x y ox oy Fz H A B e ok re gx gy c => ?_
  obtain ⟨d, h1, c⟩ := get_inv c
  obtain ⟨d', h2, c⟩ := get_inv c
  obtain ⟨r, h3, c⟩ := opt_inv c
  obtain ⟨C1, r1, _⟩ := gx h1
  obtain ⟨C2, r2, _⟩ := gy h2
  exact ⟨Fz, d, d', r, C1, C2, ok.sub, r1, r2, h3, c.new ok re⟩
end
end PL

-- S6
set_option Elab.async false
set_option linter.all false
set_option maxRecDepth 100000
set_option maxHeartbeats 1000000
namespace PL
open PySem (Str Addr Value Shared Expr Stmt Pos Scope Obj Sem Operator CmpOp binaryOp compareOp inplaceOp sizeLine PyData unaryOp)
open L2 (V HO Hp SqL SqT upd upd_same upd_ne St VK TE TT XK WX PT PW Inv Cx R2 OpR rI rI0 tOp Room)
section
variable {X : Cx} {W : WX} {G : Prog} {cf : CF} {a b c e : Expr} {pa pb pc pe : PE} {pos : Pos} {rest : List Expr}
/-- one operand, then the rest -/
theorem one_opd {γ ν : Type} {Re : Rel ν γ} {m1 : M Opd} {k : Opd → M γ} {σ : St} {H : Hp} {Q : ν → Hp → Prop} {R : V → Hp → Prop} (q : tM X W (M.bind m1 k) Re σ H Q)
    (h : ∀ (x : V) (ox : Opd) (Fz H : Hp) (A B : List Addr) (e : Env), Ok3 ⟨Fz, H, A ++ B⟩ → RE X.K X.mg Fz H σ e A → relO X σ Fz H x ox B →
      (∀ {d e'}, ox.get e = .ok d e' → ∃ C, RO X.K X.mg Fz H x d C ∧ ∀ a ∈ C, a ∈ A ++ B) → Cont X W σ ⟨Fz, H, A ++ B⟩ (k ox e) Re Q → R x H) : tO X W m1 σ H R := by
  refine tM_mono (tM_bind (Re := relO X) q) fun x H1 ⟨ox, Fz1, A1, B1, e1, ok1, re1, rx, c1⟩ => h x ox Fz1 H1 A1 B1 e1 ok1 re1 rx (fun {d e'} g => ?_) c1
  obtain ⟨_, C, r, sb⟩ := opd_get (A := A1) g rx re1 (fun _ _ e => e) fun _ _ _ e => e
  exact ⟨C, r, sb⟩
theorem ge_neg (ha : GE X W G cf a pa) : GE X W G cf (.UnaryOp .USub a pos) (.neg pa) := by
  refine .of (PE.imp (L2.pe_un L2.un_neg ha.opd) fun σ H Q q => ?_) rfl
  simp only [evE] at q
  refine one_opd (R := fun x H2 => L2.rU (fun i => .int (-i)) x H2 Q) q fun x ox Fz H A B e ok re rx gx c => ?_
  obtain ⟨d, h1, c⟩ := get_inv c
  obtain ⟨r, h3, c⟩ := opt_inv c
  obtain ⟨C1, r1, _⟩ := gx h1
  cases d <;> simp only [negD] at h3 <;> try contradiction
  cases h3
  exact ⟨_, r1.int, (c.new ok re).val ok.sub (.int _)⟩
theorem ge_not (ha : GE X W G cf a pa) : GE X W G cf (.UnaryOp .Not a pos) (.not pa) := by
  refine .of (PE.imp (L2.pe_notT ha.opd) fun σ H Q q => ?_) rfl
  simp only [evE] at q
  refine one_opd (R := fun x H1 => ∃ k, L2.TruV X.K x H1 k ∧ Q (.bl (!k)) H1) q fun x ox Fz H A B e ok re rx gx c => ?_
  obtain ⟨d, h1, c⟩ := get_inv c
  obtain ⟨r, h3, c⟩ := opt_inv c
  obtain ⟨C1, r1, _⟩ := gx h1
  obtain ⟨k, hk, rfl⟩ := Option.map_eq_some_iff.mp h3
  exact ⟨k, truth_ok ok.sub r1 hk, (c.new ok re).val ok.sub (.bl _)⟩
theorem ge_one {op : PySem.BoolOp} (ha : GE X W G cf a pa) : GE X W G cf (.BoolOp op [a] pos) pa := ⟨L2.pe_one ha.val, L2.pe_one ha.opd⟩
theorem ge_and (ha : GE X W G cf a pa) (hb : GE X W G cf (.BoolOp .And (b :: rest) pos) pb) : GE X W G cf (.BoolOp .And (a :: b :: rest) pos) (.and pa pb) := by
  refine .of (PE.imp (L2.pe_andT ha.opd hb.val) fun σ H Q q => ?_) rfl
  simp only [evE] at q
  refine one_opd (R := fun x H1 => ∃ k, L2.TruV X.K x H1 k ∧ if k = true then tE X W (evE G cf pb) σ H1 Q else Q x H1) q fun x ox Fz H A B e ok re rx gx c => ?_
  obtain ⟨d, h1, c⟩ := get_inv c
  obtain ⟨C1, r1, _⟩ := gx h1
  cases hk : d.truth with
  | none => rw [hk] at c; exact False.elim c
  | some k =>
    rw [hk] at c
    refine ⟨k, truth_ok ok.sub r1 hk, ?_⟩
    cases k with
    | true => exact ⟨⟨Fz, H, A⟩, e, rfl, ok.left, re, c.from ((Step.refl _).sub fun a h => List.mem_append_left _ h)⟩
    | false => exact rd_opd ok re rx c
theorem ge_or (ha : GE X W G cf a pa) (hb : GE X W G cf (.BoolOp .Or (b :: rest) pos) pb) : GE X W G cf (.BoolOp .Or (a :: b :: rest) pos) (.or pa pb) := by
  refine .of (PE.imp (L2.pe_orT ha.opd hb.val) fun σ H Q q => ?_) rfl
  simp only [evE] at q
  refine one_opd (R := fun x H1 => ∃ k, L2.TruV X.K x H1 k ∧ if k = true then Q x H1 else tE X W (evE G cf pb) σ H1 Q) q fun x ox Fz H A B e ok re rx gx c => ?_
  obtain ⟨d, h1, c⟩ := get_inv c
  obtain ⟨C1, r1, _⟩ := gx h1
  cases hk : d.truth with
  | none => rw [hk] at c; exact False.elim c
  | some k =>
    rw [hk] at c
    refine ⟨k, truth_ok ok.sub r1 hk, ?_⟩
    cases k with
    | false => exact ⟨⟨Fz, H, A⟩, e, rfl, ok.left, re, c.from ((Step.refl _).sub fun a h => List.mem_append_left _ h)⟩
    | true => exact rd_opd ok re rx c
/-! ### tests -/
/-- what the end of a test's run says -/
theorem tst_end {x : V} {ox : Opd} {Fz H : Hp} {A B : List Addr} {en : Env} {σ : St} {Q : Bool → Hp → Prop} (ok : Ok3 ⟨Fz, H, A ++ B⟩) (re : RE X.K X.mg Fz H σ en A)
    (gx : ∀ {d e'}, ox.get en = .ok d e' → ∃ C, RO X.K X.mg Fz H x d C ∧ ∀ a ∈ C, a ∈ A ++ B)
    (c : Cont X W σ ⟨Fz, H, A ++ B⟩ (M.bind ox.get (fun d => (M.opt d.truth : M Bool)) en) relB fun v H1 => ∀ b, v = .bl b → Q b H1) : ∃ k, L2.TruV X.K x H k ∧ Q k H := by
  obtain ⟨d, h1, c⟩ := get_inv c
  obtain ⟨C1, r1, _⟩ := gx h1
  cases hk : d.truth with
  | none => rw [hk] at c; exact False.elim c
  | some k =>
    rw [hk] at c
    refine ⟨k, truth_ok ok.sub r1 hk, ?_⟩
    exact c (.bl k) Fz H A [] (by simpa using ok.left) re ⟨rfl, rfl⟩ ((Step.refl _).sub fun a h => by simp at h ⊢; exact .inl h) k rfl
theorem gt_plain (h : GE X W G cf e pe) (he : ∀ whole, PySem.isTrue e X.env whole = (do let v ← whole; PySem.standAt e.pos; PySem.holding [v] (PySem.truthy v))) : PT X e (tT X W (evT G cf (.val pe))) :=
  PT.imp (L2.pt_truth h.opd he) fun σ H Q q => one_opd (R := fun x H' => ∃ k, L2.TruV X.K x H' k ∧ Q k H') (by simpa only [tT, evT, test] using q) fun x ox Fz H A B en ok re rx gx c => tst_end ok re gx c
/-- a bool's test, from its value -/
theorem tT_val {m : M D} {σ : St} {H : Hp} {Q : Bool → Hp → Prop} (hp : isVar pe = none) (q : tT X W (test (opd pe m)) σ H Q) : tE X W m σ H fun v H1 => ∀ b, v = .bl b → Q b H1 := by
  have e1 : opd pe m = M.bind m fun d => M.pure (.val d) := by unfold opd; rw [hp]
  have q' : tM X W (test (opd pe m)) relB σ H _ := q
  rw [e1] at q'
  obtain ⟨s, e, rfl, ok, re, c⟩ := q'
  refine ⟨s, e, rfl, ok, re, ?_⟩
  have c' : Cont X W σ s (((m e).bind fun d en => (R.ok (Opd.val d) en)).bind fun x en => M.bind x.get (fun d => (M.opt d.truth : M Bool)) en) relB _ := c
  cases r : m e with
  | bad => rw [r] at c'; exact c'
  | exc x e1 => rw [r] at c'; exact c'
  | ok d e1 =>
    rw [r] at c'
    intro v Fz H A B ok1 re1 rr st b hb
    subst hb
    have c2 : Cont X W σ s ((M.opt d.truth : M Bool) e1) relB _ := c'
    have : d = .bl b := by
      cases rr with
      | sh r => cases r with
        | bl b => rfl
    subst this
    exact c2 (.bl b) Fz H A [] (by simpa using ok1.left) re1 ⟨rfl, rfl⟩ (st.sub fun a h => by simp at h ⊢; exact .inl h) b rfl
/-- a comparison's rule hands on bools alone -/
def BoolR (r : R2) : Prop := ∀ (x y : V) (H : Hp) (Q Q' : VK), (∀ b H', Q (.bl b) H' → Q' (.bl b) H') → r x y H Q → r x y H Q'
theorem gt_cmp {op : CmpOp} {r : R2} (ho : OpR X (compareOp op) r) (hr : BoolR r) (ha : L2.PE X a (tO X W (opd pa (evE G cf pa)))) (hb : L2.PE X b (tO X W (opd pb (evE G cf pb)))) (hm : PySem.behindInMarks op b = false)
    (hq : ∀ σ H Q, tE X W (evE G cf (.cmp op pa pb)) σ H Q → tOp r (tO X W (opd pa (evE G cf pa))) (tO X W (opd pb (evE G cf pb))) σ H Q) : PT X (.Compare a [op] [b] pos) (tT X W (evT G cf (.val (.cmp op pa pb)))) := by
  refine PT.imp (L2.pt_cmpR ho ha hb hm) fun σ H Q q => ?_
  have q0 : tT X W (test (opd (.cmp op pa pb) (evE G cf (.cmp op pa pb)))) σ H Q := by simpa only [tT, evT] using q
  exact tM_mono (hq _ _ _ (tT_val rfl q0)) fun x H1 q2 => tM_mono q2 fun y H2 q3 => hr _ _ _ _ _ (fun b H' h => ⟨b, rfl, h b rfl⟩) q3
/-- a bool, then a run -/
theorem tT_bind {γ ν : Type} {Re : Rel ν γ} {m : M Bool} {k : Bool → M γ} {σ : St} {H : Hp} {Q : ν → Hp → Prop} {R : Bool → Hp → Prop} (q : tM X W (M.bind m k) Re σ H Q)
    (h : ∀ (b : Bool) (H : Hp), tM X W (k b) Re σ H Q → R b H) : tT X W m σ H R := by
  refine tM_mono (tM_bind (Re := relB) q) fun v H1 ⟨b, Fz, A, B, e, ok, re, rr, c⟩ b' hb => ?_
  obtain ⟨rfl, rfl⟩ := rr
  cases hb
  exact h b' H1 ⟨⟨Fz, H1, A⟩, e, rfl, ok.left, re, by simpa using c⟩
theorem tT_pure {b : Bool} {σ : St} {H : Hp} {Q : Bool → Hp → Prop} (q : tM X W (M.pure b) relB σ H fun v H1 => ∀ c, v = .bl c → Q c H1) : Q b H := by
  obtain ⟨s, e, rfl, ok, re, c⟩ := q
  exact c (.bl b) s.Fz s.H s.A [] (by simpa using ok) re ⟨rfl, rfl⟩ (by simpa using Step.refl s) b rfl
theorem gt_not {ta : PB} (ha : PT X a (tT X W (evT G cf ta))) : PT X (.UnaryOp .Not a pos) (tT X W (evT G cf (.not ta))) :=
  PT.imp (L2.pt_not ha) fun σ H Q q => tT_bind (by simpa only [tT, evT] using q) fun b H q => tT_pure q
theorem gt_and1 {ta : PB} (ha : PT X a (tT X W (evT G cf ta))) : PW X (.BoolOp .And [a] pos) (tT X W (evT G cf ta)) := L2.pw_and1 ha
theorem gt_or1 {ta : PB} (ha : PT X a (tT X W (evT G cf ta))) : PW X (.BoolOp .Or [a] pos) (tT X W (evT G cf ta)) := L2.pw_or1 ha
theorem PW.imp {e : Expr} {t t' : TT} (h : PW X e t) (k : ∀ σ H Q, t' σ H Q → t σ H Q) : PW X e t' := ⟨fun w pins s σ H Q I q => h.run w pins s σ H Q I (k σ H Q q)⟩
theorem gt_and {ta tb : PB} (ha : PT X a (tT X W (evT G cf ta))) (hb : PW X (.BoolOp .And (b :: rest) pos) (tT X W (evT G cf tb))) : PW X (.BoolOp .And (a :: b :: rest) pos) (tT X W (evT G cf (.and ta tb))) :=
  PW.imp (L2.pw_and ha hb) fun σ H Q q => tT_bind (by simpa only [tT, evT] using q) fun b H q => by
    cases b with
    | true => exact q
    | false => exact tT_pure q
theorem gt_or {ta tb : PB} (ha : PT X a (tT X W (evT G cf ta))) (hb : PW X (.BoolOp .Or (b :: rest) pos) (tT X W (evT G cf tb))) : PW X (.BoolOp .Or (a :: b :: rest) pos) (tT X W (evT G cf (.or ta tb))) :=
  PW.imp (L2.pw_or ha hb) fun σ H Q q => tT_bind (by simpa only [tT, evT] using q) fun b H q => by
    cases b with
    | true => exact tT_pure q
    | false => exact q
theorem ge_ite {ta : PB} (hc : PT X c (tT X W (evT G cf ta))) (ha : GE X W G cf a pa) (hb : GE X W G cf b pb) : GE X W G cf (.IfExp c a b pos) (.ite ta pa pb) := by
  refine .of (PE.imp (L2.pe_ifExp hc ha.val hb.val) fun σ H Q q => ?_) rfl
  simp only [evE] at q
  exact tT_bind q fun b H q => by
    cases b with
    | true => exact q
    | false => exact q
theorem ge_isN {n : Bool} {j : Nat} {pos' : Pos} (ha : GE X W G cf a pa) : GE X W G cf (.Compare a [if n then .IsNot else .Is] [.Constant .none j pos'] pos) (.isN n pa) := by
  have fin : ∀ σ H Q, tE X W (evE G cf (.isN n pa)) σ H Q → tO X W (opd pa (evE G cf pa)) σ H fun x H1 => Q (.bl (decide (x = .non) != n)) H1 := fun σ H Q q => by
    simp only [evE] at q
    refine one_opd q fun x ox Fz H A B e ok re rx gx c => ?_
    obtain ⟨d, h1, c⟩ := get_inv c
    obtain ⟨C1, r1, _⟩ := gx h1
    have e1 : decide (x = V.non) = decide (d = D.non) := by
      cases r1 with
      | sh r => cases r <;> rfl
      | _ => rfl
    rw [e1]
    exact (c.new (r := .bl (decide (d = .non) != n)) ok re).val ok.sub (.bl _)
  cases n with
  | true => exact .of (PE.imp (L2.pe_cmp (L2.pc_notN ha.opd)) fun σ H Q q => by simpa [L2.tNotN] using fin σ H Q q) rfl
  | false => exact .of (PE.imp (L2.pe_cmp (L2.pc_isN ha.opd)) fun σ H Q q => by simpa [L2.tIsN] using fin σ H Q q) rfl
end
end PL

-- S7
set_option Elab.async false
set_option linter.all false
set_option maxRecDepth 100000
set_option maxHeartbeats 1000000
namespace PL
open PySem (Str Addr Value Shared Expr Stmt Pos Scope Obj Sem Operator CmpOp binaryOp compareOp inplaceOp sizeLine PyData unaryOp)
open L2 (V HO Hp SqL SqT upd upd_same upd_ne St VK TE TT TA XK WX PT PW PA Inv Cx R2 OpR rI rI0 tOp Room)
theorem Ok3.perm {Fz H : Hp} {A B : List Addr} (ok : Ok3 ⟨Fz, H, A⟩) (p : A.Perm B) : Ok3 ⟨Fz, H, B⟩ :=
  ⟨ok.sub, p.nodup_iff.mp ok.nd, fun a h => ok.nf a (p.mem_iff.mpr h), fun a h => ok.dom a (p.mem_iff.mpr h)⟩
theorem perm3 (A B C : List Addr) : ((A ++ B) ++ C).Perm (A ++ (C ++ B)) := by
  rw [List.append_assoc]
  exact (List.perm_append_comm).append_left A
theorem Step.perm {s : G3} {Fz H : Hp} {A B : List Addr} (st : Step s ⟨Fz, H, A⟩) (p : A.Perm B) : Step s ⟨Fz, H, B⟩ := st.sub (t := ⟨Fz, H, A⟩) fun a h => p.mem_iff.mpr h
/-- operands in a row -/
inductive OsR (X : Cx) (σ : St) (Fz H : Hp) : List V → List Opd → List Addr → Prop where
  | nil : OsR X σ Fz H [] [] []
  | cons {v : V} {vs : List V} {o : Opd} {os : List Opd} {A B : List Addr} : relO X σ Fz H v o A → OsR X σ Fz H vs os B → OsR X σ Fz H (v :: vs) (o :: os) (A ++ B)
def relOs (X : Cx) : Rel (List V) (List Opd) := fun σ Fz H vs os B => OsR X σ Fz H vs os B
def relFs (X : Cx) : Rel (List V) (List D) := fun _ Fz _ vs ds B => RFs X.K X.mg Fz vs ds ∧ B = []
def relRs (X : Cx) : Rel (List V) (List D) := fun _ Fz H vs ds B => ROs X.K X.mg Fz H vs ds B
theorem relO.up {X : Cx} {σ : St} {Fz H Fz' H' : Hp} {v : V} {o : Opd} {B : List Addr} (r : relO X σ Fz H v o B) (k : ∀ a o, Fz a = some o → Fz' a = some o) (m : ∀ a o, a ∈ B → H a = some o → H' a = some o) : relO X σ Fz' H' v o B := by
  cases o with
  | val d => exact RO.up k m r
  | slot i => exact r
theorem OsR.up {X : Cx} {σ : St} {Fz H Fz' H' : Hp} (k : ∀ a o, Fz a = some o → Fz' a = some o) : ∀ {vs : List V} {os : List Opd} {B : List Addr}, (∀ a o, a ∈ B → H a = some o → H' a = some o) → OsR X σ Fz H vs os B → OsR X σ Fz' H' vs os B
  | _, _, _, _, .nil => .nil
  | _, _, _, m, .cons r t => .cons (r.up k fun a o z => m a o (List.mem_append_left _ z)) (OsR.up k (fun a o z => m a o (List.mem_append_right _ z)) t)
def notStar : Expr → Bool
  | .Starred _ _ => false
  | _ => true
theorem starEach_cons {e : Expr} (h : notStar e = true) (es : List Expr) (env : PySem.Env) : PySem.starEach (e :: es) env = (false, PySem.eval e env) :: PySem.starEach es env := by
  cases e <;> first | rfl | cases h
structure GA (X : Cx) (W : WX) (G : Prog) (cf : CF) (es : List Expr) (ps : List PE) : Prop where
  frz : PA X es (tM X W (evEs G cf ps) (relFs X))
  ops : PA X es (tM X W (evOs G cf ps) (relOs X))
  raw : PA X es (tM X W (evRs G cf ps) (relRs X))
section
variable {X : Cx} {W : WX} {G : Prog} {cf : CF} {a b c e : Expr} {pa pb pc pe : PE} {pos : Pos} {es : List Expr} {ps : List PE}
theorem PA.imp {es : List Expr} {t t' : TA} (h : PA X es t) (k : ∀ σ H Q, t' σ H Q → t σ H Q) : PA X es t' := ⟨fun pos pins s σ H Q I q => h.run pos pins s σ H Q I (k σ H Q q)⟩
theorem tM_pure0 {α ν : Type} {d : α} {v : ν} {Re : Rel ν α} {σ : St} {H : Hp} {Q : ν → Hp → Prop} (q : tM X W (M.pure d) Re σ H Q) (r : ∀ Fz, Re σ Fz H v d []) : Q v H := by
  obtain ⟨s, e, rfl, ok, re, c⟩ := q
  exact c v s.Fz s.H s.A [] (by simpa using ok) re (r _) (by simpa using Step.refl s)
theorem ga_nil : GA X W G cf [] [] := by
  refine ⟨PA.imp L2.pa_nil fun σ H Q q => ?_, PA.imp L2.pa_nil fun σ H Q q => ?_, PA.imp L2.pa_nil fun σ H Q q => ?_⟩
  · exact tM_pure0 (W := W) (σ := σ) (d := []) (Re := relFs X) (by simpa only [evEs] using q) fun _ => ⟨RFs.nil, rfl⟩
  · exact tM_pure0 (W := W) (σ := σ) (d := []) (Re := relOs X) (by simpa only [evOs] using q) fun _ => OsR.nil
  · exact tM_pure0 (W := W) (σ := σ) (d := []) (Re := relRs X) (by simpa only [evRs] using q) fun _ => ROs.nil
/-- a value just made becomes shared -/
theorem freeze_top {Fz H : Hp} {A B C : List Addr} {v : V} {d : D} (ok : Ok3 ⟨Fz, H, (A ++ B) ++ C⟩) (r : RO X.K X.mg Fz H v d B) : ∃ Fz', RF X.K X.mg Fz' v d.frz ∧ Step ⟨Fz, H, (A ++ B) ++ C⟩ ⟨Fz', H, A ++ C⟩ ∧ Ok3 ⟨Fz', H, A ++ C⟩ := by
  have n1 := List.nodup_append.mp ok.nd
  have n2 := List.nodup_append.mp n1.1
  refine RO.freeze r ok (fun a h => by show a ∈ (A ++ B) ++ C; simp [h]) (fun a h => ?_) (List.nodup_append.mpr ⟨n2.1, n1.2.1, fun a ha b hb => n1.2.2 a (List.mem_append_left _ ha) b hb⟩)
  rcases List.mem_append.mp h with h | h
  · exact ⟨by show a ∈ (A ++ B) ++ C; simp [h], fun z => n2.2.2 a h a z rfl⟩
  · exact ⟨by show a ∈ (A ++ B) ++ C; simp [h], fun z => n1.2.2 a (List.mem_append_right _ z) a h rfl⟩
theorem ga_cons (he : GE X W G cf e pe) (hs : notStar e = true) (ht : GA X W G cf es ps) : GA X W G cf (e :: es) (pe :: ps) := by
  have st0 := starEach_cons hs es X.env
  refine ⟨PA.imp (L2.pa_cons he.val ht.frz st0) fun σ H Q q => ?_, PA.imp (L2.pa_cons he.opd ht.ops st0) fun σ H Q q => ?_, PA.imp (L2.pa_cons he.val ht.raw st0) fun σ H Q q => ?_⟩
  · simp only [evEs] at q
    refine tM_mono (tM_bind (Re := relE X) q) fun x H1 ⟨d, Fz1, A1, B1, e1, ok1, re1, rx, c1⟩ => ?_
    obtain ⟨Fz', rf, st, ok2⟩ := freeze_top (A := A1) (B := B1) (C := []) (by simpa using ok1) rx
    have re2 := re1.up (H' := H1) st.fz fun a o _ e => e
    refine tM_mono (tM_next (A := A1) (B := []) (Re := relFs X) ok2 re2 (c1.from (by simpa using st))) fun xs H2 ⟨ds, Fz2, A2, B2, e2, ok3, re3, rs, st3, c3⟩ => ?_
    obtain ⟨r3, rfl⟩ := rs
    exact c3 (x :: xs) Fz2 H2 A2 [] (by simpa using ok3) re3 ⟨.cons (rf.up st3.fz) r3, rfl⟩ (by simpa using Step.refl _)
  · simp only [evOs] at q
    refine tM_mono (tM_bind (Re := relO X) q) fun x H1 ⟨o, Fz1, A1, B1, e1, ok1, re1, rx, c1⟩ => ?_
    refine tM_mono (tM_next (Re := relOs X) ok1 re1 c1) fun xs H2 ⟨os, Fz2, A2, B2, e2, ok2, re2, rs, st, c2⟩ => ?_
    exact c2 (x :: xs) Fz2 H2 A2 (B1 ++ B2) (ok2.perm (perm3 _ _ _)) re2 (.cons (rx.up st.fz (held ok1 st)) rs) ((Step.refl _).perm (perm3 _ _ _))
  · simp only [evRs] at q
    refine tM_mono (tM_bind (Re := relE X) q) fun x H1 ⟨d, Fz1, A1, B1, e1, ok1, re1, rx, c1⟩ => ?_
    refine tM_mono (tM_next (Re := relRs X) ok1 re1 c1) fun xs H2 ⟨ds, Fz2, A2, B2, e2, ok2, re2, rs, st, c2⟩ => ?_
    exact c2 (x :: xs) Fz2 H2 A2 (B1 ++ B2) (ok2.perm (perm3 _ _ _)) re2 (.cons (RO.up st.fz (held ok1 st) rx) rs) ((Step.refl _).perm (perm3 _ _ _))
/-! ### displays -/
theorem ge_tup {j : Nat} (ht : GA X W G cf es ps) : GE X W G cf (.Tuple es j pos) (.tup ps) := by
  refine .of (PE.imp (L2.ze_tup ht.frz) fun σ H Q q => ?_) rfl
  simp only [evE] at q
  refine tM_mono (tM_bind (Re := relFs X) q) fun xs H1 ⟨ds, Fz, A, B, e, ok, re, rs, c⟩ => ?_
  obtain ⟨rs, rfl⟩ := rs
  have c' : Cont X W σ ⟨Fz, H1, A ++ []⟩ ((if ds.length ≤ LINE then M.pure (.tup ds) else M.bad : M D) e) (relE X) Q := c
  by_cases h : ds.length ≤ LINE
  · rw [if_pos h] at c'
    exact ⟨by rw [rs.len, ← line_eq]; exact h, (Cont.new ok re c').tup ok.sub rs⟩
  · rw [if_neg h] at c'; exact False.elim c'
theorem ge_lst (ht : GA X W G cf es ps) : GE X W G cf (.List es pos) (.lst ps) := by
  refine .of (PE.imp (L2.pe_lst ht.frz) fun σ H Q q => ?_) rfl
  simp only [evE] at q
  refine tM_mono (tM_bind (Re := relFs X) q) fun xs H1 ⟨ds, Fz, A, B, e, ok, re, rs, c⟩ => ?_
  obtain ⟨rs, rfl⟩ := rs
  have c' : Cont X W σ ⟨Fz, H1, A ++ []⟩ ((if ds.length ≤ LINE then M.pure (.lst true ds) else M.bad : M D) e) (relE X) Q := c
  by_cases h : ds.length ≤ LINE
  · rw [if_pos h] at c'
    exact ⟨by rw [rs.len, ← line_eq]; exact h, fun p hp => (Cont.new ok re c').lst ok.sub rs hp⟩
  · rw [if_neg h] at c'; exact False.elim c'
theorem ge_dct0 : GE X W G cf (.Dict [] [] pos) (.dct [] []) := by
  refine .of (PE.imp L2.pe_dnewK fun σ H Q q => ?_) rfl
  simp only [evE] at q
  obtain ⟨s, e, rfl, ok, re, c⟩ := q
  intro d hd
  have c' : Cont X W σ s (.ok (.dct true [] []) e) (relE X) Q := c
  have n := Cont.new (A := s.A) (B := []) (by simpa using ok) re (by simpa using c')
  exact n.dct ok.sub rfl .nil hd
end
end PL

-- S8
set_option Elab.async false
set_option linter.all false
set_option maxRecDepth 100000
set_option maxHeartbeats 1000000
namespace PL
open PySem (Str Addr Value Shared Expr Stmt Pos Scope Obj Sem Operator CmpOp binaryOp compareOp inplaceOp sizeLine PyData unaryOp)
open L2 (V HO Hp SqL SqT upd upd_same upd_ne St VK TE TT TA XK WX PT PW PA Inv Cx R2 OpR rI rI0 tOp Room)
def notSlice : Expr → Bool
  | .Slice _ _ _ _ => false
  | .Constant _ _ _ => true
  | .Name _ _ => true
  | .BinOp _ _ _ _ => true
  | .UnaryOp _ _ _ => true
  | .Call _ _ _ _ => true
  | .Subscript _ _ _ => true
  | .Attribute _ _ _ => true
  | .Tuple _ _ _ => true
  | _ => false
theorem plainIx_of {b : Expr} (h : notSlice b = true) : L2.PlainIx b := by
  intro o i
  cases b <;> first | rfl | cases h
theorem place_ix (n : Nat) (i : Int) : place n i = L2.ixN n i := rfl
theorem bnd_ix (n d : Nat) (o : Option Int) : bnd n d o = HT.sIx n d o := by cases o <;> rfl
theorem cut_eq {α : Type} (xs : List α) (l h : Nat) : (xs.take h).drop l = (xs.drop l).take (h - l) := List.drop_take ..
section
variable {X : Cx} {W : WX} {G : Prog} {cf : CF} {a b c e : Expr} {pa pb pc pe : PE} {pos : Pos} {es : List Expr} {ps : List PE}
theorem atI_ok {ds : List D} {xs : List V} {Fz : Hp} {i : Int} {d : D} (r : RFs X.K X.mg Fz xs ds) (h : ((place ds.length i).bind fun k => ds[k]?) = some d) : ∃ v, L2.atI xs i = some v ∧ RF X.K X.mg Fz v d := by
  obtain ⟨k, h1, h2⟩ := Option.bind_eq_some_iff.mp h
  obtain ⟨v, e1, e2⟩ := r.at h2
  refine ⟨v, ?_, e2⟩
  unfold L2.atI
  rw [← place_ix, r.len, h1]
  exact e1
theorem ixD : L2.IxR X (rD X subscr) := by
  rintro value slice pins s σ H x y v u Q I rx ry ⟨Fz, d, d', r, B, C, sub, r1, r2, e, n⟩ hs
  cases d <;> cases d' <;> simp only [subscr] at e <;> try contradiction
  · obtain ⟨rfl, hok, hl⟩ := r1.str
    obtain rfl := r2.int
    obtain ⟨k, h1, h2⟩ := Option.bind_eq_some_iff.mp e
    obtain ⟨c, h3, h4⟩ := Option.map_eq_some_iff.mp h2
    subst h4
    rename_i z i
    have hc : c < 1114112 := by
      have := hok
      unfold PyData.strOk at this
      rw [Array.all_eq_true_iff_forall_mem] at this
      have hm : c ∈ z.cps := Array.mem_of_getElem? h3
      simpa using this c hm
    refine L2.ix_seq value slice pins s σ H _ _ v u Q I rx ry (.inr (.inr ⟨z, i, c, rfl, rfl, by rw [← line_eq]; exact hl, ?_, n.val sub (.str _ ?_ ?_)⟩)) hs
    · unfold L2.atI
      rw [← place_ix, Array.length_toList, h1]
      simpa using h3
    · unfold PyData.strOk; simp; omega
    · show 1 ≤ LINE; unfold LINE; omega
  · obtain ⟨a, xs, rfl, q, t⟩ := r1.tup
    obtain rfl := r2.int
    obtain ⟨v0, h1, h2⟩ := atI_ok t e
    exact L2.ix_seq value slice pins s σ H _ _ v u Q I rx ry (.inr (.inl ⟨a, xs, _, v0, rfl, rfl, (q.up sub).sq, h1, n.val sub h2⟩)) hs
  · obtain ⟨a, xs, rfl, q, t⟩ := r1.lst' sub
    obtain rfl := r2.int
    obtain ⟨v0, h1, h2⟩ := atI_ok t e
    exact L2.ix_seq value slice pins s σ H _ _ v u Q I rx ry (.inl ⟨a, xs, _, v0, rfl, rfl, SqL.of q, h1, n.val sub h2⟩) hs
  · obtain ⟨a, rfl, q⟩ := r1.scr
    obtain rfl := r2.int
    obtain ⟨k, h1, h2⟩ := Option.bind_eq_some_iff.mp e
    obtain ⟨j, h3, h4⟩ := Option.map_eq_some_iff.mp h2
    subst h4
    refine L2.ix_seq value slice pins s σ H _ _ v u Q I rx ry (.inl ⟨a, _, _, .int j, rfl, rfl, SqL.up q sub, ?_, n.val sub (.int j)⟩) hs
    unfold L2.atI
    rw [← place_ix, List.length_map, h1]
    simp [h3]
theorem ge_sub (ha : GE X W G cf a pa) (hb : GE X W G cf b pb) (hs : notSlice b = true) : GE X W G cf (.Subscript a b pos) (.sub pa pb) := by
  refine .of (PE.imp (L2.pe_ix ixD ha.opd hb.opd (plainIx_of hs)) fun σ H Q q => ?_) rfl
  simp only [evE] at q
  refine two_opds (R := fun x y H2 => rD X subscr x y H2 Q) q fun x y ox oy Fz H A B e ok re gx gy c => ?_
  obtain ⟨d, h1, c⟩ := get_inv c
  obtain ⟨d', h2, c⟩ := get_inv c
  obtain ⟨r, h3, c⟩ := opt_inv c
  obtain ⟨C1, r1, _⟩ := gx h1
  obtain ⟨C2, r2, _⟩ := gy h2
  exact ⟨Fz, d, d', r, C1, C2, ok.sub, r1, r2, h3, c.new ok re⟩
/-! ### slices -/
def rSlD (X : Cx) : V → Option Int → Option Int → Hp → VK → Prop := fun x lo hi H Q => ∃ (Fz : Hp) (d r : D) (B : List Addr), (∀ a o, Fz a = some o → H a = some o) ∧ RO X.K X.mg Fz H x d B ∧ slice d lo hi = some r ∧ New X Fz H r Q
theorem slD : L2.SlR X (rSlD X) := by
  rintro pins s σ H x v vl vu lo hi sl Q I rx hs pl pu ⟨Fz, d, r, B, sub, r1, e, n⟩
  cases d <;> simp only [slice] at e <;> try contradiction
  · obtain ⟨rfl, hok, hl⟩ := r1.str
    cases e
    rename_i z
    refine L2.sl_str pins s σ H _ v vl vu lo hi sl Q I rx hs pl pu ⟨z, rfl, by rw [← line_eq]; exact hl, ?_⟩
    have e : L2.cutS z lo hi = ⟨((z.cps.toList.take (bnd z.cps.size z.cps.size hi)).drop (bnd z.cps.size 0 lo)).toArray⟩ := by
      unfold L2.cutS
      rw [cut_eq, bnd_ix, bnd_ix]; rfl
    rw [e]
    refine n.val sub (.str _ ?_ ?_)
    · unfold PyData.strOk at hok ⊢
      rw [List.all_toArray, List.all_eq_true]
      intro c hc
      have hm : c ∈ z.cps := by
        have := List.mem_of_mem_take (List.mem_of_mem_drop hc)
        simpa using this
      exact (Array.all_eq_true_iff_forall_mem.mp hok) c hm
    · show (List.toArray _).size ≤ LINE
      rw [List.size_toArray, List.length_drop, List.length_take]
      have : z.cps.toList.length = z.cps.size := by simp
      omega
  · obtain ⟨a, xs, rfl, q, t⟩ := r1.tup
    cases e
    rw [cut_eq, bnd_ix, bnd_ix, ← t.len] at n
    refine L2.zs_tup pins s σ H _ v vl vu lo hi sl Q I rx hs pl pu ⟨a, xs, rfl, (q.up sub).sq, fun w => ?_, fun w => ?_⟩
    · rw [w.1, w.2, List.drop_zero, Nat.sub_zero, t.len, List.take_length] at n
      exact n.val sub (.tup q t)
    · unfold L2.cutV
      exact n.tup sub (t.drop _ |>.take _)
  · obtain ⟨a, xs, rfl, q, t⟩ := r1.lst' sub
    cases e
    rw [cut_eq, bnd_ix, bnd_ix, ← t.len] at n
    refine L2.sl_list pins s σ H _ v vl vu lo hi sl Q I rx hs pl pu ⟨a, xs, rfl, SqL.of q, fun p hp => ?_⟩
    unfold L2.cutV
    exact n.lst sub (t.drop _ |>.take _) hp
  · obtain ⟨a, rfl, q⟩ := r1.scr
    cases e
    rename_i is
    refine L2.sl_list pins s σ H _ v vl vu lo hi sl Q I rx hs pl pu ⟨a, _, rfl, SqL.up q sub, fun p hp => ?_⟩
    unfold L2.cutV
    rw [List.length_map]
    rw [cut_eq, bnd_ix, bnd_ix, List.map_take, List.map_drop] at n
    exact n.lst sub (RFs.take _ (RFs.drop _ (RFs.intL is))) hp
def relOI : Rel (Option Int) (Option Int) := fun _ _ _ v d B => v = d ∧ B = []
theorem PO.imp {e : Option Expr} {t t' : L2.TO} (h : L2.PO X e t) (k : ∀ σ H Q, t' σ H Q → t σ H Q) : L2.PO X e t' := ⟨fun pins s σ H Q I q => h.run pins s σ H Q I (k σ H Q q)⟩
theorem go_none : L2.PO X none (tM X W (evOp G cf none) relOI) := PO.imp L2.po_none fun σ H Q q => tM_pure0 (W := W) (σ := σ) (d := none) (Re := relOI) (by simpa only [evOp] using q) fun _ => ⟨rfl, rfl⟩
theorem go_some (h : GE X W G cf e pe) : L2.PO X (some e) (tM X W (evOp G cf (some pe)) relOI) := PO.imp (L2.po_some h.val) fun σ H Q q => by
  simp only [evOp] at q
  refine tM_mono (tM_bind (Re := relE X) q) fun x H1 ⟨d, Fz1, A1, B1, e1, ok1, re1, rx, c1⟩ => ?_
  obtain ⟨r, h3, c⟩ := opt_inv c1
  obtain ⟨i, h4, h5⟩ := Option.map_eq_some_iff.mp h3
  subst h5
  cases d <;> simp only [intOf] at h4 <;> try contradiction
  cases h4
  exact ⟨i, RO.int rx, c (some i) Fz1 H1 A1 [] (by simpa using ok1.left) re1 ⟨rfl, rfl⟩ ((Step.refl _).sub fun a h => by simp at h ⊢; exact .inl h)⟩
theorem ge_sl {lo hi : Option Expr} {plo phi : Option PE} {p2 : Pos} (ha : GE X W G cf a pa) (hl : L2.PO X lo (tM X W (evOp G cf plo) relOI)) (hh : L2.PO X hi (tM X W (evOp G cf phi) relOI)) : GE X W G cf (.Subscript a (.Slice lo hi none p2) pos) (.sl pa plo phi) := by
  refine .of (PE.imp (L2.pe_slice slD ha.opd hl hh) fun σ H Q q => ?_) rfl
  simp only [evE] at q
  refine tM_mono (tM_bind (Re := relO X) q) fun x H1 ⟨ox, Fz1, A1, B1, e1, ok1, re1, rx, c1⟩ => ?_
  refine tM_mono (tM_next (Re := relOI) ok1 re1 c1) fun l H2 ⟨ol, Fz2, A2, B2, e2, ok2, re2, rl, st, c2⟩ => ?_
  obtain ⟨rfl, rfl⟩ := rl
  rw [List.append_nil] at ok2 c2
  refine tM_mono (tM_next (Re := relOI) ok2 re2 c2) fun h H3 ⟨oh, Fz3, A3, B3, e3, ok3, re3, rh, st3, c3⟩ => ?_
  obtain ⟨rfl, rfl⟩ := rh
  rw [List.append_nil] at ok3 c3
  obtain ⟨d, h1, c⟩ := get_inv c3
  obtain ⟨r, h3, c⟩ := opt_inv c
  have rx2 := rx.up st.fz (held ok1 st)
  have rx3 := rx2.up st3.fz (held ok2 st3)
  obtain ⟨_, C, r1, _⟩ := opd_get (A := A1) h1 rx3 re3 (fun _ _ e => e) fun _ _ _ e => e
  exact ⟨Fz3, d, r, C, ok3.sub, r1, h3, c.new ok3 re3⟩
theorem ge_rev {k : Nat} {p1 p2 p3 : Pos} (ha : GE X W G cf a pa) : GE X W G cf (.Subscript a (.Slice none none (some (.UnaryOp .USub (.Constant (.int 1) k p1) p2)) p3) pos) (.rev pa) := by
  refine .of (PE.imp (L2.pe_revL ha.opd) fun σ H Q q => ?_) rfl
  simp only [evE] at q
  refine one_opd (R := fun x H1 => ∃ a xs, x = .ref a ∧ SqL X.K H1 a xs ∧ ∀ p, H1 p = none → Q (.ref p) (upd H1 p (.lst xs.reverse))) q fun x ox Fz H A B e ok re rx gx c => ?_
  obtain ⟨d, h1, c⟩ := get_inv c
  obtain ⟨r, h3, c⟩ := opt_inv c
  obtain ⟨C1, r1, _⟩ := gx h1
  cases d <;> simp only [revD] at h3 <;> try contradiction
  obtain ⟨a, xs, rfl, q, t⟩ := r1.lst' ok.sub
  cases h3
  exact ⟨a, xs, rfl, SqL.of q, fun p hp => (c.new ok re).lst ok.sub t.rev hp⟩
end
end PL

-- S9
set_option Elab.async false
set_option linter.all false
set_option maxRecDepth 100000
set_option maxHeartbeats 1000000
namespace PL
open PySem (Str Addr Value Shared Expr Stmt Pos Scope Obj Sem Operator CmpOp binaryOp compareOp inplaceOp sizeLine PyData unaryOp)
open L2 (V HO Hp SqL SqT upd upd_same upd_ne St VK TE TT TA XK WX PT PW PA Inv Cx R2 OpR rI rI0 tOp Room CallR)
/-! ### sorted lists are one -/
theorem insert_perm {α : Type} (lt : α → α → Bool) (a : α) : ∀ l, (insert lt a l).Perm (a :: l)
  | [] => .refl _
  | b :: l => by
    unfold insert
    split
    · exact ((insert_perm lt a l).cons b).trans (.swap a b l)
    · exact .refl _
theorem isort_perm {α : Type} (lt : α → α → Bool) : ∀ l, (isort lt l).Perm l
  | [] => .refl _
  | a :: l => (insert_perm lt a _).trans ((isort_perm lt l).cons a)
theorem insert_sorted {α : Type} {lt : α → α → Bool} (tr : ∀ a b c, lt b a = false → lt c b = false → lt c a = false) (tot : ∀ a b, lt a b = true → lt b a = false) (a : α) : ∀ {l : List α}, l.Pairwise (fun x y => lt y x = false) → (insert lt a l).Pairwise (fun x y => lt y x = false)
  | [], _ => by simp [insert]
  | b :: l, h => by
    obtain ⟨h1, h2⟩ := List.pairwise_cons.mp h
    unfold insert
    split
    · rename_i z
      refine List.pairwise_cons.mpr ⟨fun c hc => ?_, insert_sorted tr tot a h2⟩
      rcases List.mem_cons.mp ((insert_perm lt a l).mem_iff.mp hc) with e | hc
      · subst e; exact tot _ _ z
      · exact h1 c hc
    · rename_i z
      have z' : lt b a = false := by simpa using z
      refine List.pairwise_cons.mpr ⟨fun c hc => ?_, h⟩
      rcases List.mem_cons.mp hc with e | hc
      · subst e; exact z'
      · exact tr a b c z' (h1 c hc)
theorem isort_sorted {α : Type} {lt : α → α → Bool} (tr : ∀ a b c, lt b a = false → lt c b = false → lt c a = false) (tot : ∀ a b, lt a b = true → lt b a = false) : ∀ l : List α, (isort lt l).Pairwise (fun x y => lt y x = false)
  | [] => .nil
  | a :: l => insert_sorted tr tot a (isort_sorted tr tot l)
theorem isort_uniq {α : Type} {lt : α → α → Bool} (tr : ∀ a b c, lt b a = false → lt c b = false → lt c a = false) (tot : ∀ a b, lt a b = true → lt b a = false) (an : ∀ a b, lt a b = false → lt b a = false → a = b)
    {l m : List α} (p : m.Perm l) (s : m.Pairwise (fun x y => lt y x = false)) : m = isort lt l :=
  List.Perm.eq_of_pairwise (le := fun x y => lt y x = false) (fun a b _ _ h1 h2 => an a b h2 h1) s (isort_sorted tr tot l) (p.trans (isort_perm lt l).symm)
theorem ltI_tr (a b c : Int) (h : ltI b a = false) (h2 : ltI c b = false) : ltI c a = false := by
  unfold ltI at *; simp at *; omega
theorem ltI_tot (a b : Int) (h : ltI a b = true) : ltI b a = false := by unfold ltI at *; simp at *; omega
theorem ltI_an (a b : Int) (h : ltI a b = false) (h2 : ltI b a = false) : a = b := by unfold ltI at *; simp at *; omega
theorem ltP_no {a b : Int × Int} : ltP a b = false ↔ b.1 < a.1 ∨ (a.1 = b.1 ∧ b.2 ≤ a.2) := by
  unfold ltP
  simp only [Bool.or_eq_false_iff, decide_eq_false_iff_not, Bool.and_eq_false_iff]
  omega
theorem ltP_yes {a b : Int × Int} : ltP a b = true ↔ a.1 < b.1 ∨ (a.1 = b.1 ∧ a.2 < b.2) := by
  unfold ltP
  simp only [Bool.or_eq_true, decide_eq_true_eq, Bool.and_eq_true]
theorem ltP_tr (a b c : Int × Int) (h : ltP b a = false) (h2 : ltP c b = false) : ltP c a = false := by
  rw [ltP_no] at *; omega
theorem ltP_tot (a b : Int × Int) (h : ltP a b = true) : ltP b a = false := by
  rw [ltP_yes] at h; rw [ltP_no]; omega
theorem ltP_an (a b : Int × Int) (h : ltP a b = false) (h2 : ltP b a = false) : a = b := by
  rw [ltP_no] at h h2
  obtain ⟨x, y⟩ := a
  obtain ⟨x', y'⟩ := b
  simp only at h h2
  have e1 : x = x' := by omega
  have e2 : y = y' := by omega
  rw [e1, e2]
/-! ### data in a row, looked at -/
inductive Pks (X : Cx) (Fz H : Hp) : List V → List D → Prop where
  | nil : Pks X Fz H [] []
  | cons {v : V} {vs : List V} {d : D} {ds : List D} {C : List Addr} : RO X.K X.mg Fz H v d C → Pks X Fz H vs ds → Pks X Fz H (v :: vs) (d :: ds)
theorem getAll_inv {X : Cx} {W : WX} {σ : St} {Fz H : Hp} {A : List Addr} {e : Env} (re : RE X.K X.mg Fz H σ e A) {γ ν : Type} {Re : Rel ν γ} {Q : ν → Hp → Prop} {s : G3} : ∀ {vs : List V} {os : List Opd} {B : List Addr} {k : List D → M γ}, OsR X σ Fz H vs os B →
    Cont X W σ s (M.bind (getAll os) k e) Re Q → ∃ ds, getAll os e = .ok ds e ∧ Pks X Fz H vs ds ∧ Cont X W σ s (k ds e) Re Q
  | _, _, _, _, .nil, c => ⟨[], rfl, .nil, c⟩
  | _, _, _, k, .cons (o := o) (os := os) r t, c => by
    have c' : Cont X W σ s (M.bind o.get (fun d => M.bind (M.bind (getAll os) fun ds => M.pure (d :: ds)) k) e) Re Q := by
      have q : Cont X W σ s (((o.get e).bind fun d e' => (M.bind (getAll os) fun ds => M.pure (d :: ds)) e').bind fun ds => k ds) Re Q := c
      show Cont X W σ s ((o.get e).bind fun d e' => ((M.bind (getAll os) fun ds => M.pure (d :: ds)) e').bind fun ds => k ds) Re Q
      rcases opd_run o e with ⟨d, h⟩ | h
      · rw [h] at q ⊢; exact q
      · rw [h] at q; exact False.elim q
    obtain ⟨d, h1, c2⟩ := get_inv c'
    have c3 : Cont X W σ s (M.bind (getAll os) (fun ds => k (d :: ds)) e) Re Q := by
      have q : Cont X W σ s (((getAll os e).bind fun ds e' => R.ok (d :: ds) e').bind fun ds => k ds) Re Q := c2
      show Cont X W σ s ((getAll os e).bind fun ds => k (d :: ds)) Re Q
      cases h : getAll os e with
      | ok a e2 => rw [h] at q; exact q
      | exc x e2 => rw [h] at q; exact q
      | bad => rw [h] at q; exact q
    obtain ⟨ds, h2, p, c4⟩ := getAll_inv re t c3
    obtain ⟨_, C, ro, _⟩ := opd_get (A := A) h1 r re (fun _ _ e => e) fun _ _ _ e => e
    refine ⟨d :: ds, ?_, .cons ro p, c4⟩
    show ((o.get e).bind fun d e' => (M.bind (getAll os) fun ds => M.pure (d :: ds)) e') = _
    rw [h1]
    show ((getAll os e).bind fun ds e' => R.ok (d :: ds) e') = _
    rw [h2]; rfl
/-- a call on data -/
def rF (X : Cx) (g : List D → Option D) : List V → Hp → VK → Prop := fun vs H Q => ∃ (Fz : Hp) (ds : List D) (r : D), (∀ a o, Fz a = some o → H a = some o) ∧ Pks X Fz H vs ds ∧ g ds = some r ∧ New X Fz H r Q
section
variable {X : Cx} {W : WX} {G : Prog} {cf : CF} {a b c e : Expr} {pa pb pc pe : PE} {pos : Pos} {es : List Expr} {ps : List PE} {Fz H : Hp} {x v : V} {B : List Addr} {Q : VK}
theorem RO.seq {d : D} {ds : List D} (r : RO X.K X.mg Fz H x d B) (sub : ∀ a o, Fz a = some o → H a = some o) (h : listOf d = some ds) : ∃ a xs, x = .ref a ∧ SqL X.K H a xs ∧ RFs X.K X.mg Fz xs ds := by
  cases d <;> simp only [listOf] at h <;> try contradiction
  · cases h
    obtain ⟨a, xs, e, q, t⟩ := r.lst' sub
    exact ⟨a, xs, e, SqL.of q, t⟩
  · cases h
    obtain ⟨a, e, q⟩ := r.scr
    exact ⟨a, _, e, SqL.up q sub, RFs.intL _⟩
theorem RFs.ints_of : ∀ {xs : List V} {ds : List D} {is : List Int}, RFs X.K X.mg Fz xs ds → PL.intL ds = some is → xs = is.map V.int ∧ ds = is.map D.int
  | _, _, is, .nil, h => by cases h; exact ⟨rfl, rfl⟩
  | _, _, is, .cons (d := d) r t, h => by
    cases r <;> simp only [PL.intL] at h <;> try contradiction
    obtain ⟨js, h1, h2⟩ := Option.map_eq_some_iff.mp h
    obtain ⟨e1, e2⟩ := t.ints_of h1
    subst h2
    exact ⟨by rw [e1]; rfl, by rw [e2]; rfl⟩
theorem RFs.bools_of : ∀ {xs : List V} {ds : List D} {bs : List Bool}, RFs X.K X.mg Fz xs ds → PL.bools ds = some bs → xs = bs.map V.bl
  | _, _, bs, .nil, h => by cases h; rfl
  | _, _, bs, .cons r t, h => by
    cases r <;> simp only [PL.bools] at h <;> try contradiction
    obtain ⟨js, h1, h2⟩ := Option.map_eq_some_iff.mp h
    subst h2
    rw [t.bools_of h1]; rfl
theorem RO.intsOf {d : D} {is : List Int} (r : RO X.K X.mg Fz H x d B) (sub : ∀ a o, Fz a = some o → H a = some o) (h : PL.intsOf d = some is) : ∃ a, x = .ref a ∧ SqL X.K H a (is.map V.int) := by
  obtain ⟨ds, h1, h2⟩ := Option.bind_eq_some_iff.mp h
  obtain ⟨a, xs, e, q, t⟩ := r.seq sub h1
  exact ⟨a, e, by rw [← (t.ints_of h2).1]; exact q⟩
theorem sumI_eq : ∀ is : List Int, sumI is = is.sum
  | [] => rfl
  | i :: is => by rw [sumI, sumI_eq is, List.sum_cons]
theorem min_fold : ∀ (is : List Int) (i : Int), (minI i is = i ∨ minI i is ∈ is) ∧ minI i is ≤ i ∧ ∀ y ∈ is, minI i is ≤ y
  | [], i => ⟨.inl rfl, Int.le_refl _, fun _ h => nomatch h⟩
  | j :: is, i => by
    have e : minI i (j :: is) = minI (if j < i then j else i) is := rfl
    rw [e]
    by_cases z : j < i
    · rw [if_pos z]
      obtain ⟨h1, h2, h3⟩ := min_fold is j
      refine ⟨.inr (h1.elim (fun h => by rw [h]; exact List.mem_cons_self) fun h => List.mem_cons_of_mem _ h), by omega, fun y hy => ?_⟩
      rcases List.mem_cons.mp hy with hy | hy
      · rw [hy]; exact h2
      · exact h3 y hy
    · rw [if_neg z]
      obtain ⟨h1, h2, h3⟩ := min_fold is i
      refine ⟨h1.elim .inl fun h => .inr (List.mem_cons_of_mem _ h), h2, fun y hy => ?_⟩
      rcases List.mem_cons.mp hy with hy | hy
      · rw [hy]; omega
      · exact h3 y hy
theorem max_fold : ∀ (is : List Int) (i : Int), (maxI i is = i ∨ maxI i is ∈ is) ∧ i ≤ maxI i is ∧ ∀ y ∈ is, y ≤ maxI i is
  | [], i => ⟨.inl rfl, Int.le_refl _, fun _ h => nomatch h⟩
  | j :: is, i => by
    have e : maxI i (j :: is) = maxI (if j > i then j else i) is := rfl
    rw [e]
    by_cases z : j > i
    · rw [if_pos z]
      obtain ⟨h1, h2, h3⟩ := max_fold is j
      refine ⟨.inr (h1.elim (fun h => by rw [h]; exact List.mem_cons_self) fun h => List.mem_cons_of_mem _ h), by omega, fun y hy => ?_⟩
      rcases List.mem_cons.mp hy with hy | hy
      · rw [hy]; exact h2
      · exact h3 y hy
    · rw [if_neg z]
      obtain ⟨h1, h2, h3⟩ := max_fold is i
      refine ⟨h1.elim .inl fun h => .inr (List.mem_cons_of_mem _ h), h2, fun y hy => ?_⟩
      rcases List.mem_cons.mp hy with hy | hy
      · rw [hy]; omega
      · exact h3 y hy
theorem call_one {f : Value} {g : D → Option D} (h : ∀ (pins : List (Addr × Obj)) (s : Shared) (σ : St) (H : Hp) (x : V) (us : List Value) (Q : VK) (Fz : Hp) (d r : D) (B : List Addr), Inv X pins σ H s → L2.Vals [x] us → (∀ a o, Fz a = some o → H a = some o) → RO X.K X.mg Fz H x d B → g d = some r → New X Fz H r Q →
      PySem.wpAny (PySem.model X.prog X.w) X.A (PySem.call f us) (L2.EP X pins σ Q) X.xe s) : CallR X f (rF X fun ds => match ds with
        | [d] => g d
        | _ => none) := by
  rintro pins s σ H vs us Q I rv ⟨Fz, ds, r, sub, p, e, n⟩
  cases p with
  | nil => cases e
  | cons r1 t =>
    cases t with
    | nil => exact h pins s σ H _ us Q Fz _ _ _ I rv sub r1 e n
    | cons _ _ => cases e
end
end PL

-- S10
set_option Elab.async false
set_option linter.all false
set_option maxRecDepth 100000
set_option maxHeartbeats 1000000
namespace PL
open PySem (Str Addr Value Shared Expr Stmt Pos Scope Obj Sem Operator CmpOp binaryOp compareOp inplaceOp sizeLine PyData unaryOp)
open L2 (V HO Hp SqL SqT upd upd_same upd_ne St VK TE TT TA XK WX PT PW PA Inv Cx R2 OpR rI rI0 tOp Room CallR)
/-! ### dicts -/
theorem zip_any {α : Type} (k : L2.Key) : ∀ (ks : List L2.Key) (vs : List α), ks.length = vs.length → ((ks.zip vs).any fun kv => decide (kv.1 = k)) = ks.any fun k' => decide (k' = k)
  | [], [], _ => rfl
  | _ :: ks, _ :: vs, h => by
    show (_ || (ks.zip vs).any _) = (_ || ks.any _)
    rw [zip_any k ks vs (by simpa using h)]
  | [], _ :: _, h => by simp at h
  | _ :: _, [], h => by simp at h
theorem zip_map (k : L2.Key) (v : V) : ∀ (ks : List L2.Key) (vs : List V), ks.length = vs.length → (ks.zip vs).map (fun kv => if kv.1 = k then (kv.1, v) else kv) = ks.zip (List.zipWith (fun k' x => if k' = k then v else x) ks vs)
  | [], [], _ => rfl
  | k' :: ks, x :: vs, h => by
    show (if k' = k then (k', v) else (k', x)) :: (ks.zip vs).map _ = (k', if k' = k then v else x) :: ks.zip (List.zipWith _ ks vs)
    rw [zip_map k v ks vs (by simpa using h)]
    by_cases z : k' = k <;> simp [z]
  | [], _ :: _, h => by simp at h
  | _ :: _, [], h => by simp at h
theorem dictPut_len {α : Type} {k : Key} {v : α} {ks : List Key} {vs : List α} (h : ks.length = vs.length) : (dictPut k v ks vs).1.length = (dictPut k v ks vs).2.length := by
  unfold dictPut
  split <;> simp [h]
theorem putK_zip {k : L2.Key} {v : V} {ks : List L2.Key} {vs : List V} (h : ks.length = vs.length) : L2.putK (ks.zip vs) k v = (dictPut k v ks vs).1.zip (dictPut k v ks vs).2 := by
  unfold L2.putK dictPut
  rw [zip_any k ks vs h]
  split
  · exact zip_map k v ks vs h
  · show _ = (ks ++ [k]).zip (vs ++ [v])
    rw [List.zip_append h]; rfl
theorem dictPut_keys {α β : Type} (k : Key) (v : α) (w : β) (ks : List Key) (vs : List α) (ws : List β) : (dictPut k v ks vs).1 = (dictPut k w ks ws).1 := by
  unfold dictPut
  split <;> rfl
section
variable {X : Cx} {W : WX} {G : Prog} {cf : CF} {a b c e : Expr} {pa pb pc pe : PE} {pos : Pos} {es : List Expr} {ps : List PE} {K : PySem.W.Frag} {mg : Str → Option Value} {Fz H : Hp} {x v : V} {B : List Addr} {Q : VK}
theorem RFs.zipW (k : Key) {v : V} {d : D} (r : RF K mg Fz v d) : ∀ {ks : List Key} {xs : List V} {ds : List D}, RFs K mg Fz xs ds → RFs K mg Fz (List.zipWith (fun k' x => if k' = k then v else x) ks xs) (List.zipWith (fun k' x => if k' = k then d else x) ks ds)
  | [], _, _, _ => by simp; exact .nil
  | _ :: _, _, _, .nil => .nil
  | k' :: ks, _, _, .cons r1 t => by
    show RFs K mg Fz ((if k' = k then v else _) :: _) ((if k' = k then d else _) :: _)
    refine .cons ?_ (RFs.zipW k r t)
    by_cases z : k' = k
    · rw [if_pos z, if_pos z]; exact r
    · rw [if_neg z, if_neg z]; exact r1
theorem RFs.put {k : Key} {v : V} {d : D} {ks : List Key} {xs : List V} {ds : List D} (r : RF K mg Fz v d) (t : RFs K mg Fz xs ds) : RFs K mg Fz (dictPut k v ks xs).2 (dictPut k d ks ds).2 := by
  unfold dictPut
  split
  · exact RFs.zipW k r t
  · exact t.app (.cons r .nil)
/-- a row of pairs as a dict's content -/
theorem merge_zip : ∀ (kvs : List (L2.Key × V)) (ks : List L2.Key) (vs : List V), ks.length = vs.length →
    let r := kvs.foldl (fun acc p => dictPut p.1 p.2 acc.1 acc.2) (ks, vs)
    L2.mergeK (ks.zip vs) kvs = r.1.zip r.2 ∧ r.1.length = r.2.length
  | [], ks, vs, h => ⟨rfl, h⟩
  | p :: kvs, ks, vs, h => by
    have ih := merge_zip kvs (dictPut p.1 p.2 ks vs).1 (dictPut p.1 p.2 ks vs).2 (dictPut_len h)
    rw [← putK_zip h] at ih
    exact ih
theorem dictAll_rel : ∀ {kvs : List (Key × V)} {kds : List (Key × D)} {ks : List Key} {vs : List V} {ds : List D}, PySem.Paired (fun (p : Key × V) (q : Key × D) => p.1 = q.1 ∧ RF K mg Fz p.2 q.2) kvs kds → RFs K mg Fz vs ds →
    (kvs.foldl (fun acc p => dictPut p.1 p.2 acc.1 acc.2) (ks, vs)).1 = (kds.foldl (fun acc p => dictPut p.1 p.2 acc.1 acc.2) (ks, ds)).1 ∧
      RFs K mg Fz (kvs.foldl (fun acc p => dictPut p.1 p.2 acc.1 acc.2) (ks, vs)).2 (kds.foldl (fun acc p => dictPut p.1 p.2 acc.1 acc.2) (ks, ds)).2
  | _, _, ks, vs, ds, .nil, t => ⟨rfl, t⟩
  | _, _, ks, vs, ds, .cons (a := p) (b := q) h r, t => by
    have e1 := h.1
    have t2 : RFs K mg Fz (dictPut p.1 p.2 ks vs).2 (dictPut q.1 q.2 ks ds).2 := by rw [e1]; exact t.put h.2
    have ek : (dictPut p.1 p.2 ks vs).1 = (dictPut q.1 q.2 ks ds).1 := by rw [e1]; exact dictPut_keys ..
    have ih := dictAll_rel (ks := (dictPut p.1 p.2 ks vs).1) r t2
    show ((_ : List (Key × V)).foldl _ (dictPut p.1 p.2 ks vs)).1 = ((_ : List (Key × D)).foldl _ (dictPut q.1 q.2 ks ds)).1 ∧ RFs K mg Fz ((_ : List (Key × V)).foldl _ (dictPut p.1 p.2 ks vs)).2 ((_ : List (Key × D)).foldl _ (dictPut q.1 q.2 ks ds)).2
    have e2 : dictPut q.1 q.2 ks ds = ((dictPut p.1 p.2 ks vs).1, (dictPut q.1 q.2 ks ds).2) := by rw [ek]
    rw [e2]
    exact ih
/-- a key's value -/
theorem RF.key {d : D} {k : Key} (r : RF K mg Fz x d) (h : d.key = some k) : x = L2.kV k := by
  cases d <;> simp only [D.key] at h <;> try contradiction
  · cases h; cases r; rfl
  · cases h; cases r; rfl
theorem pairsK_rel : ∀ {xs : List V} {ds : List D} {kds : List (Key × D)}, (∀ a o, Fz a = some o → H a = some o) → RFs X.K X.mg Fz xs ds → pairsK ds = some kds →
    ∃ (ps : List Addr) (kvs : List (Key × V)), xs = ps.map V.ref ∧ PySem.Paired (fun p kv => SqT X.K H p [L2.kV kv.1, kv.2]) ps kvs ∧ PySem.Paired (fun (p : Key × V) (q : Key × D) => p.1 = q.1 ∧ RF X.K X.mg Fz p.2 q.2) kvs kds
  | _, _, _, _, .nil, h => by cases h; exact ⟨[], [], rfl, .nil, .nil⟩
  | _, _, kds, sub, .cons (v := v) (d := d) r t, h => by
    unfold pairsK at h
    split at h
    · rename_i heq; cases heq
    · rename_i k w ds' heq
      cases heq
      split at h
      · rename_i k' r' hk hr
        cases h
        obtain ⟨ps, kvs, e1, p1, p2⟩ := pairsK_rel sub t hr
        cases r with
        | tup hz rs =>
          cases rs with
          | cons ra rs =>
            cases rs with
            | cons rb rs =>
              cases rs
              rename_i a0 va vb
              have ea := ra.key hk
              subst ea
              exact ⟨a0 :: ps, (k', vb) :: kvs, by rw [e1]; rfl, .cons (hz.up sub).sq p1, .cons ⟨rfl, rb⟩ p2⟩
      · cases h
    · cases h
end
end PL

-- S11
set_option Elab.async false
set_option linter.all false
set_option maxRecDepth 100000
set_option maxHeartbeats 1000000
namespace PL
open PySem (Str Addr Value Shared Expr Stmt Pos Scope Obj Sem Operator CmpOp binaryOp compareOp inplaceOp sizeLine PyData unaryOp)
open L2 (V HO Hp SqL SqT upd upd_same upd_ne St VK TE TT TA XK WX PT PW PA Inv Cx R2 OpR rI rI0 tOp Room CallR)
section
variable {X : Cx} {W : WX} {G : Prog} {cf : CF} {a b c e : Expr} {pa pb pc pe : PE} {pos : Pos} {es : List Expr} {ps : List PE} {Fz H : Hp} {x v : V} {B : List Addr} {Q : VK}
abbrev CallD (X : Cx) (f : Value) (b : Blt) : Prop := CallR X f (rF X (bltin b))
theorem Pks.one {vs : List V} {d : D} (p : Pks X Fz H vs [d]) : ∃ x B, vs = [x] ∧ RO X.K X.mg Fz H x d B := by
  cases p with
  | cons r t => cases t; exact ⟨_, _, rfl, r⟩
theorem Pks.two {vs : List V} {d d' : D} (p : Pks X Fz H vs [d, d']) : ∃ x y B C, vs = [x, y] ∧ RO X.K X.mg Fz H x d B ∧ RO X.K X.mg Fz H y d' C := by
  cases p with
  | cons r t => cases t with | cons r2 t => cases t; exact ⟨_, _, _, _, rfl, r, r2⟩
/-- one argument alone -/
theorem call_d1 {f : Value} {b : Blt} {r : List V → Hp → VK → Prop} (h : CallR X f r) (h1 : ∀ ds r, bltin b ds = some r → ∃ d, ds = [d] ∧ blt1 b d = some r)
    (k : ∀ {x : V} {d z : D} {H Fz : Hp} {B : List Addr} {Q : VK}, (∀ a o, Fz a = some o → H a = some o) → RO X.K X.mg Fz H x d B → blt1 b d = some z → New X Fz H z Q → r [x] H Q) : CallD X f b := by
  rintro pins s σ H vs us Q I rv ⟨Fz, ds, z, sub, p, e, n⟩
  obtain ⟨d, rfl, e1⟩ := h1 _ _ e
  obtain ⟨x, B, rfl, r1⟩ := p.one
  exact h pins s σ H _ us Q I rv (k sub r1 e1 n)
theorem bltin_one {b : Blt} (h : b ≠ .min ∧ b ≠ .max) : ∀ ds r, bltin b ds = some r → ∃ d, ds = [d] ∧ blt1 b d = some r := by
  intro ds r e
  unfold bltin at e
  split at e
  · exact ⟨_, rfl, e⟩
  · cases b <;> simp at e h
  · cases e
theorem callD_len : CallD X (.builtin "len") .len := call_d1 L2.call_len (bltin_one (by decide)) fun {x d z H Fz B Q} sub r e n => by
  obtain ⟨k, h1, rfl⟩ := Option.map_eq_some_iff.mp e
  have key : ∃ m : Nat, L2.LenV X.K x H m ∧ (k = m) := by
    cases d <;> simp only [lenD] at h1 <;> try contradiction
    · obtain ⟨rfl, _, hl⟩ := r.str
      cases h1
      exact ⟨_, ⟨by rw [← line_eq]; exact hl, rfl⟩, rfl⟩
    · obtain ⟨a, xs, rfl, q, t⟩ := r.tup
      cases h1
      exact ⟨_, .inr ⟨xs, (q.up sub).sq, rfl⟩, by rw [t.len]⟩
    · obtain ⟨a, xs, rfl, q, t⟩ := r.lst' sub
      cases h1
      exact ⟨_, .inl ⟨xs, SqL.of q, rfl⟩, by rw [t.len]⟩
    · obtain ⟨a, rfl, q⟩ := r.scr
      cases h1
      exact ⟨_, .inl ⟨_, SqL.up q sub, rfl⟩, by rw [List.length_map]⟩
  obtain ⟨m, hm, rfl⟩ := key
  exact ⟨x, m, rfl, hm, n.val sub (.int _)⟩
theorem callD_abs : CallD X (.builtin "abs") .abs := call_d1 L2.call_abs (bltin_one (by decide)) fun {x d z H Fz B Q} sub r e n => by
  cases d <;> simp only [blt1] at e <;> try contradiction
  cases e
  obtain rfl := r.int
  exact ⟨_, rfl, n.val sub (.int _)⟩
theorem callD_sum (hc : X.calm = true) : CallD X (.builtin "sum") .sum := call_d1 (L2.cr_sum hc) (bltin_one (by decide)) fun {x d z H Fz B Q} sub r e n => by
  obtain ⟨is, h1, rfl⟩ := Option.map_eq_some_iff.mp e
  obtain ⟨a, rfl, q⟩ := r.intsOf sub h1
  exact ⟨a, is, rfl, q, by rw [← sumI_eq]; exact n.val sub (.int _)⟩
theorem callD_any (hc : X.calm = true) : CallD X (.builtin "any") .any := call_d1 (L2.cr_any hc) (bltin_one (by decide)) fun {x d z H Fz B Q} sub r e n => by
  obtain ⟨bs, h1, rfl⟩ := Option.map_eq_some_iff.mp e
  obtain ⟨ds, h2, h3⟩ := Option.bind_eq_some_iff.mp h1
  obtain ⟨a, xs, rfl, q, t⟩ := r.seq sub h2
  exact ⟨a, bs, rfl, by rw [← t.bools_of h3]; exact q, n.val sub (.bl _)⟩
theorem callD_all (hc : X.calm = true) : CallD X (.builtin "all") .all := call_d1 (L2.cr_all hc) (bltin_one (by decide)) fun {x d z H Fz B Q} sub r e n => by
  obtain ⟨bs, h1, rfl⟩ := Option.map_eq_some_iff.mp e
  obtain ⟨ds, h2, h3⟩ := Option.bind_eq_some_iff.mp h1
  obtain ⟨a, xs, rfl, q, t⟩ := r.seq sub h2
  exact ⟨a, bs, rfl, by rw [← t.bools_of h3]; exact q, n.val sub (.bl _)⟩
theorem callD_int : CallD X (.type "int") .int := call_d1 L2.call_int1 (bltin_one (by decide)) fun {x d z H Fz B Q} sub r e n => by
  cases d <;> simp only [blt1, intD] at e <;> try contradiction
  · cases e
    obtain rfl := r.bl
    exact .inr ⟨_, rfl, n.val sub (.int _)⟩
  · cases e
    obtain rfl := r.int
    exact .inl ⟨_, rfl, n.val sub (.int _)⟩
theorem callD_min (hc : X.calm = true) : CallD X (.builtin "min") .min := by
  rintro pins s σ H vs us Q I rv ⟨Fz, ds, z, sub, p, e, n⟩
  have cs : (∃ d, ds = [d]) ∨ (∃ d d', ds = [d, d']) := by
    unfold bltin at e
    split at e
    · exact .inl ⟨_, rfl⟩
    · exact .inr ⟨_, _, rfl⟩
    · cases e
  rcases cs with ⟨d, rfl⟩ | ⟨d, d', rfl⟩
  · obtain ⟨x, B, rfl, r1⟩ := p.one
    have e' : minmax false [d] = some z := e
    have e2 : ∃ i is, PL.intsOf d = some (i :: is) ∧ z = .int (minI i is) := by
      unfold minmax at e'
      split at e'
      · rename_i h; cases h
      · rename_i d0 h
        cases h
        split at e'
        · rename_i i is h; cases e'; exact ⟨i, is, h, rfl⟩
        · cases e'
      · cases e'
    obtain ⟨i, is, h1, rfl⟩ := e2
    obtain ⟨a, rfl, q⟩ := r1.intsOf sub h1
    refine L2.cr_min hc pins s σ H _ us Q I rv ⟨a, i :: is, rfl, q, by simp, fun m hm hl => ?_⟩
    obtain ⟨k1, k2, k3⟩ := min_fold is i
    have : minI i is = m := by
      have a1 : minI i is ∈ i :: is := k1.elim (fun h => by rw [h]; exact List.mem_cons_self) (List.mem_cons_of_mem _)
      have a2 := hl _ a1
      have a3 : minI i is ≤ m := by
        rcases List.mem_cons.mp hm with h | h
        · rw [h]; exact k2
        · exact k3 m h
      omega
    rw [← this]
    exact n.val sub (.int _)
  · obtain ⟨x, y, B, C, rfl, r1, r2⟩ := p.two
    have e' : minmax false [d, d'] = some z := e
    cases d <;> cases d' <;> simp only [minmax] at e' <;> try contradiction
    obtain rfl := r1.int
    obtain rfl := r2.int
    cases e'
    exact L2.call_min2 hc pins s σ H _ us Q I rv ⟨_, _, rfl, n.val sub (.int _)⟩
theorem callD_max (hc : X.calm = true) : CallD X (.builtin "max") .max := by
  rintro pins s σ H vs us Q I rv ⟨Fz, ds, z, sub, p, e, n⟩
  have cs : (∃ d, ds = [d]) ∨ (∃ d d', ds = [d, d']) := by
    unfold bltin at e
    split at e
    · exact .inl ⟨_, rfl⟩
    · exact .inr ⟨_, _, rfl⟩
    · cases e
  rcases cs with ⟨d, rfl⟩ | ⟨d, d', rfl⟩
  · obtain ⟨x, B, rfl, r1⟩ := p.one
    have e' : minmax true [d] = some z := e
    have e2 : ∃ i is, PL.intsOf d = some (i :: is) ∧ z = .int (maxI i is) := by
      unfold minmax at e'
      split at e'
      · rename_i h; cases h
      · rename_i d0 h
        cases h
        split at e'
        · rename_i i is h; cases e'; exact ⟨i, is, h, rfl⟩
        · cases e'
      · cases e'
    obtain ⟨i, is, h1, rfl⟩ := e2
    obtain ⟨a, rfl, q⟩ := r1.intsOf sub h1
    refine L2.cr_max hc pins s σ H _ us Q I rv ⟨a, i :: is, rfl, q, by simp, fun m hm hl => ?_⟩
    obtain ⟨k1, k2, k3⟩ := max_fold is i
    have : maxI i is = m := by
      have a1 : maxI i is ∈ i :: is := k1.elim (fun h => by rw [h]; exact List.mem_cons_self) (List.mem_cons_of_mem _)
      have a2 := hl _ a1
      have a3 : m ≤ maxI i is := by
        rcases List.mem_cons.mp hm with h | h
        · rw [h]; exact k2
        · exact k3 m h
      omega
    rw [← this]
    exact n.val sub (.int _)
  · obtain ⟨x, y, B, C, rfl, r1, r2⟩ := p.two
    have e' : minmax true [d, d'] = some z := e
    cases d <;> cases d' <;> simp only [minmax] at e' <;> try contradiction
    obtain rfl := r1.int
    obtain rfl := r2.int
    cases e'
    exact L2.call_max2 hc pins s σ H _ us Q I rv ⟨_, _, rfl, n.val sub (.int _)⟩
theorem callD_dict (hc : X.calm = true) : CallD X (.type "dict") .dict := by
  rintro pins s σ H vs us Q I rv ⟨Fz, ds, z, sub, p, e, n⟩
  obtain ⟨d, rfl, e1⟩ := bltin_one (b := .dict) (by decide) _ _ e
  obtain ⟨x, B, rfl, r1⟩ := p.one
  have e2 : dictD d = some z := e1
  have pr : ∀ {xs : List V} {ds : List D}, RFs X.K X.mg Fz xs ds → ((dictOf ds).map fun p => D.dct true p.1 p.2) = some z → ∃ (ps : List Addr) (kvs : List (Key × V)), xs = ps.map V.ref ∧ PySem.Paired (fun p kv => SqT X.K H p [L2.kV kv.1, kv.2]) ps kvs ∧
      ∀ p, H p = none → Q (.ref p) (upd H p (.dK (L2.mergeK [] kvs))) := fun {xs ds} t h => by
    obtain ⟨q, h1, h2⟩ := Option.map_eq_some_iff.mp h
    obtain ⟨kds, h3, h4⟩ := Option.map_eq_some_iff.mp h1
    obtain ⟨as, kvs, k1, k2, k3⟩ := pairsK_rel sub t h3
    refine ⟨as, kvs, k1, k2, fun p hp => ?_⟩
    obtain ⟨m1, m2⟩ := merge_zip kvs [] [] rfl
    obtain ⟨m3, m4⟩ := dictAll_rel (Fz := Fz) (ks := []) (vs := []) (ds := []) k3 .nil
    have em : L2.mergeK [] kvs = (kvs.foldl (fun acc p => dictPut p.1 p.2 acc.1 acc.2) ([], [])).1.zip (kvs.foldl (fun acc p => dictPut p.1 p.2 acc.1 acc.2) ([], [])).2 := m1
    subst h2 h4
    rw [em]
    unfold dictAll at n
    rw [← m3] at n
    exact n.dct sub m2 m4 hp
  cases d with
  | dct o ks vs =>
    obtain ⟨a, xs, rfl, l, q, t⟩ := r1.dct' sub
    cases e2
    exact L2.call_dictD pins s σ H _ us Q I rv ⟨a, _, rfl, .inl q, fun p hp => n.dct sub l t hp⟩
  | tup ds =>
    obtain ⟨a, xs, rfl, q, t⟩ := r1.tup
    obtain ⟨as, kvs, rfl, k2, k3⟩ := pr t e2
    exact L2.zc_dict hc pins s σ H _ us Q I rv ⟨a, as, kvs, rfl, q.up sub, k2, k3⟩
  | lst o ds =>
    obtain ⟨a, xs, rfl, q, t⟩ := r1.lst' sub
    obtain ⟨as, kvs, rfl, k2, k3⟩ := pr t e2
    exact L2.call_dictP hc pins s σ H _ us Q I rv ⟨a, as, kvs, rfl, SqL.of q, k2, k3⟩
  | scr is =>
    cases is with
    | nil =>
      obtain ⟨a, rfl, q⟩ := r1.scr
      obtain ⟨as, kvs, e0, k2, k3⟩ := pr (xs := []) (ds := []) .nil e2
      cases as with
      | nil => exact L2.call_dictP hc pins s σ H _ us Q I rv ⟨a, [], kvs, rfl, SqL.up q sub, k2, k3⟩
      | cons _ _ => cases e0
    | cons i is => simp [dictD, seqOf, dictOf, pairsK] at e2
  | _ => simp [dictD, seqOf] at e2
end
end PL

-- S12
set_option Elab.async false
set_option linter.all false
set_option maxRecDepth 100000
set_option maxHeartbeats 1000000
namespace PL
open PySem (Str Addr Value Shared Expr Stmt Pos Scope Obj Sem Operator CmpOp binaryOp compareOp inplaceOp sizeLine PyData unaryOp)
open L2 (V HO Hp SqL SqT upd upd_same upd_ne St VK TE TT TA XK WX PT PW PA Inv Cx R2 OpR rI rI0 tOp Room CallR)
section
variable {X : Cx} {W : WX} {G : Prog} {cf : CF} {a b c e : Expr} {pa pb pc pe : PE} {pos : Pos} {es : List Expr} {ps : List PE} {Fz H : Hp} {x v : V} {B : List Addr} {Q : VK}
theorem tz_uniq {K : PySem.W.Frag} {a : Addr} {i j i' j' : Int} (hK : ∀ a o, K.lookup a = some o → Fz a = none) (h : L2.Tz K Fz a [.int i, .int j]) (h' : L2.Tz K Fz a [.int i', .int j']) : i = i' ∧ j = j' := by
  have vi : ∀ {p q : Int} {its : List Value} {p' q' : Int}, L2.Vals [V.int p, V.int q] its → L2.Vals [V.int p', V.int q'] its → p = p' ∧ q = q' := fun {p q its p' q'} r r' => by
    cases r with
    | cons r1 t => cases t with
      | cons r2 t => cases t with
        | nil => cases r' with
          | cons r3 t' => cases t' with
            | cons r4 t' =>
              obtain ⟨_, e1⟩ := r1
              obtain ⟨_, e2⟩ := r2
              obtain ⟨_, e3⟩ := r3
              obtain ⟨_, e4⟩ := r4
              rw [e1] at e3
              rw [e2] at e4
              cases e3; cases e4
              exact ⟨rfl, rfl⟩
  rcases h with ⟨o, _, e⟩ | ⟨o, its, n, h1, h2, h3, h4, h5, h6⟩
  · rcases h' with ⟨o', _, e'⟩ | ⟨o', its', n', h1', _⟩
    · rw [e] at e'
      cases e'
      exact ⟨rfl, rfl⟩
    · rw [hK _ _ h1'] at e; cases e
  · rcases h' with ⟨o', _, e'⟩ | ⟨o', its', n', h1', h2', h3', h4', h5', h6'⟩
    · rw [hK _ _ h1] at e'; cases e'
    · rw [h1] at h1'
      cases h1'
      rw [h4] at h4'
      cases h4'
      exact vi h6 h6'
theorem pairD_inv {p : Int × Int} (r : RF X.K X.mg Fz x (pairD p)) : ∃ t, x = .ref t ∧ L2.Tz X.K Fz t [.int p.1, .int p.2] := by
  cases r with
  | tup h rs =>
    cases rs with
    | cons r1 rs => cases rs with
      | cons r2 rs => cases rs; cases r1; cases r2; exact ⟨_, rfl, h⟩
theorem pairs_of : ∀ {ds : List D} {ps : List (Int × Int)}, pairs ds = some ps → ds = ps.map pairD
  | [], ps, h => by cases h; rfl
  | d :: ds, ps, h => by
    unfold pairs at h
    split at h
    · rename_i heq; cases heq
    · rename_i i j ds' heq
      cases heq
      obtain ⟨qs, h1, h2⟩ := Option.map_eq_some_iff.mp h
      subst h2
      rw [pairs_of h1]; rfl
    · cases h
/-- the pair that stands at a value -/
noncomputable def pkOf (X : Cx) (Fz : Hp) (v : V) : Int × Int := open Classical in if h : ∃ p, RF X.K X.mg Fz v (pairD p) then Classical.choose h else (0, 0)
theorem pkOf_eq {p : Int × Int} (hK : ∀ a o, X.K.lookup a = some o → Fz a = none) (r : RF X.K X.mg Fz x (pairD p)) : pkOf X Fz x = p := by
  unfold pkOf
  have h : ∃ p, RF X.K X.mg Fz x (pairD p) := ⟨p, r⟩
  rw [dif_pos h]
  have r2 := Classical.choose_spec h
  obtain ⟨t, e1, z1⟩ := pairD_inv r
  obtain ⟨t', e2, z2⟩ := pairD_inv r2
  rw [e1] at e2
  cases e2
  obtain ⟨q1, q2⟩ := tz_uniq hK z2 z1
  exact Prod.ext q1 q2
theorem RFs.pks (hK : ∀ a o, X.K.lookup a = some o → Fz a = none) : ∀ {xs : List V} {ps : List (Int × Int)}, RFs X.K X.mg Fz xs (ps.map pairD) → xs.map (pkOf X Fz) = ps ∧ ∀ x ∈ xs, RF X.K X.mg Fz x (pairD (pkOf X Fz x))
  | [], [], _ => ⟨rfl, fun _ h => nomatch h⟩
  | x :: xs, p :: ps, .cons r t => by
    obtain ⟨h1, h2⟩ := RFs.pks hK (ps := ps) t
    have e := pkOf_eq hK r
    refine ⟨by rw [List.map_cons, h1, e], fun y hy => ?_⟩
    rcases List.mem_cons.mp hy with hy | hy
    · rw [hy, e]; exact r
    · exact h2 y hy
theorem rfs_all {f : V → D} : ∀ {ys : List V}, (∀ y ∈ ys, RF X.K X.mg Fz y (f y)) → RFs X.K X.mg Fz ys (ys.map f)
  | [], _ => .nil
  | y :: ys, h => .cons (h y List.mem_cons_self) (rfs_all fun z hz => h z (List.mem_cons_of_mem _ hz))
theorem callD_sorted : CallD X (.builtin "sorted") .sorted := by
  rintro pins s σ H vs us Q I rv ⟨Fz, ds, z, sub, p, e, n⟩
  obtain ⟨d, rfl, e1⟩ := bltin_one (b := .sorted) (by decide) _ _ e
  obtain ⟨x, B, rfl, r1⟩ := p.one
  have e2 : sortedD d = some z := e1
  obtain ⟨rs, h1, rfl⟩ := Option.map_eq_some_iff.mp e2
  obtain ⟨ds, h2, h3⟩ := Option.bind_eq_some_iff.mp h1
  obtain ⟨a, xs, rfl, q, t⟩ := r1.seq sub h2
  have hK : ∀ a o, X.K.lookup a = some o → Fz a = none := fun a o h => by
    have h1 := (I.bs a o (I.ok.mod.kin _ _ h)).2
    cases e : Fz a with
    | none => rfl
    | some u => rw [sub _ _ e] at h1; cases h1
  unfold sortD at h3
  split at h3
  · rename_i is hi
    cases h3
    have ex := (t.ints_of hi).1
    subst ex
    refine L2.cr_sortedI pins s σ H _ us Q I rv ⟨a, is, rfl, q, fun ns' p hp hs hh => ?_⟩
    have en : ns' = isort ltI is := isort_uniq ltI_tr ltI_tot ltI_an hp (hs.imp fun {x y} h => by unfold ltI; simpa using h)
    rw [en]
    exact n.lst sub (RFs.intL _) hh
  · split at h3
    · rename_i ps hp
      cases h3
      have ed := pairs_of hp
      rw [ed] at t
      obtain ⟨k1, k2⟩ := t.pks hK
      refine L2.zc_sortedP pins s σ H _ us Q I rv ⟨a, xs, pkOf X Fz, rfl, q, fun x hx => ?_, fun ys p hs hb hh => ?_⟩
      · obtain ⟨t, e, z⟩ := pairD_inv (k2 x hx)
        exact ⟨t, e, (z.up sub).sq⟩
      · have pm : (ys.map (pkOf X Fz)).Perm ps := by rw [← k1]; exact hb.perm.map _
        have so : (ys.map (pkOf X Fz)).Pairwise fun x y => ltP y x = false := List.pairwise_map.mpr (hs.imp fun {x y} h => by
          have h' := SrtO.lexB_no.mp h
          exact ltP_no.mpr (by omega))
        have e4 := isort_uniq ltP_tr ltP_tot ltP_an pm so
        have rr : RFs X.K X.mg Fz ys ((isort ltP ps).map pairD) := by
          rw [← e4, List.map_map]
          exact rfs_all fun y hy => k2 y (hb.perm.mem_iff.mp hy)
        exact n.lst sub rr hh
    · cases h3
theorem callD_tuple : CallD X (.type "tuple") .tuple := by
  rintro pins s σ H vs us Q I rv ⟨Fz, ds, z, sub, p, e, n⟩
  obtain ⟨d, rfl, e1⟩ := bltin_one (b := .tuple) (by decide) _ _ e
  obtain ⟨x, B, rfl, ro⟩ := p.one
  obtain ⟨ds, h1, rfl⟩ := Option.map_eq_some_iff.mp e1
  cases d <;> simp only [seqOf] at h1 <;> try contradiction
  · cases h1
    obtain ⟨a, xs, rfl, q, t⟩ := ro.tup
    exact L2.call_tupleT pins s σ H _ us Q I rv ⟨a, xs, rfl, (q.up sub).sq, n.val sub (.tup q t)⟩
  · cases h1
    obtain ⟨a, xs, rfl, q, t⟩ := ro.lst' sub
    exact L2.zc_tuple pins s σ H _ us Q I rv ⟨a, xs, rfl, SqL.of q, n.tup sub t⟩
  · cases h1
    obtain ⟨a, rfl, q⟩ := ro.scr
    exact L2.zc_tuple pins s σ H _ us Q I rv ⟨a, _, rfl, SqL.up q sub, n.tup sub (RFs.intL _)⟩
theorem callD_list : CallD X (.type "list") .list := by
  rintro pins s σ H vs us Q I rv ⟨Fz, ds, z, sub, p, e, n⟩
  obtain ⟨d, rfl, e1⟩ := bltin_one (b := .list) (by decide) _ _ e
  obtain ⟨x, B, rfl, ro⟩ := p.one
  obtain ⟨ds, h1, rfl⟩ := Option.map_eq_some_iff.mp e1
  cases d <;> simp only [seqOf] at h1 <;> try contradiction
  · cases h1
    obtain ⟨a, xs, rfl, q, t⟩ := ro.tup
    exact L2.call_list_of pins s σ H _ us Q I rv ⟨a, xs, rfl, .inr (q.up sub).sq, fun p hp => n.lst sub t hp⟩
  · cases h1
    obtain ⟨a, xs, rfl, q, t⟩ := ro.lst' sub
    exact L2.call_list_of pins s σ H _ us Q I rv ⟨a, xs, rfl, .inl (SqL.of q), fun p hp => n.lst sub t hp⟩
  · cases h1
    obtain ⟨a, rfl, q⟩ := ro.scr
    exact L2.call_list_of pins s σ H _ us Q I rv ⟨a, _, rfl, .inl (SqL.up q sub), fun p hp => n.lst sub (RFs.intL _) hp⟩
/-- b(e, ..) -/
theorem blt_imp {b : Blt} : ∀ σ H Q, tE X W (evE G cf (.blt b ps)) σ H Q → L2.tCB (rF X (bltin b)) (tM X W (evOs G cf ps) (relOs X)) σ H Q := fun σ H Q q => by
  simp only [evE] at q
  refine tM_mono (tM_bind (Re := relOs X) q) fun vs H1 ⟨os, Fz, A, B, e, ok, re, rs, c⟩ => ?_
  obtain ⟨ds, h1, p, c⟩ := getAll_inv re rs c
  obtain ⟨r, h3, c⟩ := opt_inv c
  exact ⟨Fz, ds, r, ok.sub, p, h3, c.new ok re⟩
theorem noStars : ∀ {es : List Expr}, es.all notStar = true → ∀ (pos : Pos) (env : PySem.Env), (PySem.backTo pos (PySem.starEach es env)).any (·.1) = false
  | [], _, _, _ => rfl
  | e :: es, h, pos, env => by
    rw [List.all_cons, Bool.and_eq_true] at h
    rw [starEach_cons h.1]
    have ih := noStars h.2 pos env
    show (false || _) = false
    rw [Bool.false_or]
    exact ih
theorem ge_callB {f : String} {b : Blt} {x : Str} {p : Pos} {e : Expr} {es : List Expr} (hc : CallD X (.builtin f) b) (hg : L2.Gl X x) (hm : X.mg x = none) (hv : PySem.bootBuiltins x = some (.builtin f)) (ha : GA X W G cf (e :: es) ps) (hst : (e :: es).all notStar = true)
    (hn : x ≠ ("__name__" : Str)) (hd : (x == ("__debug__" : Str)) = false) : GE X W G cf (.Call (.Name x p) (e :: es) [] pos) (.blt b ps) := by
  rw [List.all_cons, Bool.and_eq_true] at hst
  exact .of (PE.imp (L2.pe_callB hc hg hm hv ha.ops hn hd (starEach_cons hst.1 es X.env) (noStars hst.2 pos X.env)) blt_imp) rfl
theorem ge_callTy {f : String} {b : Blt} {x : Str} {p : Pos} {e : Expr} {es : List Expr} (hc : CallD X (.type f) b) (hg : L2.Gl X x) (hm : X.mg x = none) (hv : PySem.bootBuiltins x = some (.type f)) (ha : GA X W G cf (e :: es) ps) (hst : (e :: es).all notStar = true)
    (hn : x ≠ ("__name__" : Str)) (hd : (x == ("__debug__" : Str)) = false) : GE X W G cf (.Call (.Name x p) (e :: es) [] pos) (.blt b ps) := by
  rw [List.all_cons, Bool.and_eq_true] at hst
  exact .of (PE.imp (L2.pe_callTy hc hg hm hv ha.ops hn hd (starEach_cons hst.1 es X.env) (noStars hst.2 pos X.env)) blt_imp) rfl
end
end PL

-- S13
set_option Elab.async false
set_option linter.all false
set_option maxRecDepth 100000
set_option maxHeartbeats 1000000
namespace PL
open PySem (Str Addr Value Shared Expr Stmt Pos Scope Obj Sem Operator CmpOp binaryOp compareOp inplaceOp sizeLine PyData unaryOp)
open L2 (V HO Hp SqL SqT upd upd_same upd_ne St VK TE TT TA XK WX PT PW PA Inv Cx R2 OpR rI rI0 tOp Room CallR)
section
variable {K : PySem.W.Frag} {mg : Str → Option Value} {Fz H : Hp}
/-! ### a slot filled -/
theorem RE.put : ∀ {σ : St} {e : Env} {A : List Addr} {i : Nat} {v : V} {d : D} {C : List Addr}, RE K mg Fz H σ e A → σ[i]? = some (some v) → e[i]? = some none → RO K mg Fz H v d C → ∃ A', RE K mg Fz H σ (e.set i (some d)) A' ∧ A'.Perm (C ++ A)
  | _, _, _, _, _, _, _, .nil, h, _, _ => by simp at h
  | _, _, _, 0, v, d, C, .no t, h, _, r => by
    simp at h
    subst h
    exact ⟨_, .so r t, List.Perm.refl _⟩
  | _, _, _, i + 1, v, d, C, .no t, h, h2, r => by
    obtain ⟨A', h3, h4⟩ := RE.put (i := i) t (by simpa using h) (by simpa using h2) r
    exact ⟨A', .no h3, h4⟩
  | _, _, _, 0, _, _, _, .so _ _, _, h2, _ => by simp at h2
  | _, _, _, i + 1, v, d, C, .so (A := A1) (B := B1) r1 t, h, h2, r => by
    obtain ⟨A', h3, h4⟩ := RE.put (i := i) t (by simpa using h) (by simpa using h2) r
    refine ⟨A1 ++ A', .so r1 h3, (h4.append_left A1).trans ?_⟩
    rw [← List.append_assoc, ← List.append_assoc]
    exact (List.perm_append_comm).append_right B1
theorem own_mem : ∀ {os : List Opd} {e : Env} {i : Nat} {d : D}, e[i]? = some (some d) → d.own = true → Opd.slot i ∈ os → i ∈ ownSlots os e
  | .slot j :: os, e, i, d, h, w, m => by
    rcases List.mem_cons.mp m with m | m
    · cases m
      unfold ownSlots
      rw [h]
      dsimp only
      rw [if_pos w]
      exact List.mem_cons_self
    · have ih := own_mem h w m
      unfold ownSlots
      split
      · split
        · exact List.mem_cons_of_mem _ ih
        · exact ih
      · exact ih
  | .val d' :: os, e, i, d, h, w, m => by
    rcases List.mem_cons.mp m with m | m
    · cases m
    · exact own_mem (os := os) h w m
theorem own_set : ∀ {os : List Opd} {e : Env} {i : Nat} {o : Option D}, (∀ j, Opd.slot j ∈ os → j ≠ i) → ownSlots os (e.set i o) = ownSlots os e
  | [], _, _, _, _ => rfl
  | .slot j :: os, e, i, o, h => by
    have hj := h j List.mem_cons_self
    unfold ownSlots
    rw [List.getElem?_set_ne (fun z => hj z.symm), own_set (os := os) fun k m => h k (List.mem_cons_of_mem _ m)]
  | .val d :: os, e, i, o, h => own_set (os := os) fun k m => h k (List.mem_cons_of_mem _ m)
theorem back_set : ∀ {os : List Opd} {fs : List (Option D)} {e : Env} {i : Nat} {o : Option D}, (∀ j, Opd.slot j ∈ os → j ≠ i) → backTo os fs (e.set i o) = (backTo os fs e).set i o
  | [], fs, e, i, o, _ => by unfold backTo; rfl
  | .slot j :: os, [], e, i, o, h => by unfold backTo; rfl
  | .slot j :: os, f :: fs, e, i, o, h => by
    have hj := h j List.mem_cons_self
    have ih := fun e => back_set (os := os) (fs := fs) (e := e) (i := i) (o := o) fun k m => h k (List.mem_cons_of_mem _ m)
    have un : ∀ e : Env, backTo (.slot j :: os) (f :: fs) e = backTo os fs (match e[j]? with
      | some (some d) => if d.own then e.set j f else e
      | _ => e) := fun _ => rfl
    rw [un, un, List.getElem?_set_ne (fun z => hj z.symm)]
    cases q : e[j]? with
    | none => exact ih e
    | some p =>
      cases p with
      | none => exact ih e
      | some d =>
        dsimp only
        by_cases w : d.own = true
        · rw [if_pos w, if_pos w, ← ih, List.set_comm _ _ (fun z => hj z.symm)]
        · rw [if_neg w, if_neg w, ih]
  | .val d :: os, [], e, i, o, h => by unfold backTo; rfl
  | .val d :: os, f :: fs, e, i, o, h => by
    unfold backTo
    exact back_set (os := os) fun k m => h k (List.mem_cons_of_mem _ m)
theorem getAll_cons {o : Opd} {os : List Opd} {e e' : Env} {ds : List D} (h : getAll (o :: os) e = .ok ds e') : ∃ d ds', ds = d :: ds' ∧ o.get e = .ok d e ∧ getAll os e = .ok ds' e ∧ e' = e := by
  have h' : ((o.get e).bind fun d e1 => ((getAll os e1).bind fun ds e2 => (R.ok (d :: ds) e2 : R (List D)))) = .ok ds e' := h
  rcases opd_run o e with ⟨d, q⟩ | q
  · rw [q] at h'
    have h2 : ((getAll os e).bind fun ds e2 => (R.ok (d :: ds) e2 : R (List D))) = .ok ds e' := h'
    have env : ∀ (os : List Opd) (e e' : Env) (ds : List D), getAll os e = .ok ds e' → e' = e := by
      intro os
      induction os with
      | nil => intro e e' ds h; cases h; rfl
      | cons o os ih =>
        intro e e' ds h
        have h' : ((o.get e).bind fun d e1 => ((getAll os e1).bind fun ds e2 => (R.ok (d :: ds) e2 : R (List D)))) = .ok ds e' := h
        rcases opd_run o e with ⟨d, q⟩ | q
        · rw [q] at h'
          have h2 : ((getAll os e).bind fun ds e2 => (R.ok (d :: ds) e2 : R (List D))) = .ok ds e' := h'
          cases r : getAll os e with
          | ok a e3 =>
            rw [r] at h2
            have := ih _ _ _ r
            subst this
            cases h2; rfl
          | exc x e3 => rw [r] at h2; cases h2
          | bad => rw [r] at h2; cases h2
        · rw [q] at h'; cases h'
    cases r : getAll os e with
    | ok a e3 =>
      rw [r] at h2
      have := env _ _ _ _ r
      subst this
      cases h2
      exact ⟨d, a, rfl, q, rfl, rfl⟩
    | exc x e3 => rw [r] at h2; cases h2
    | bad => rw [r] at h2; cases h2
  · rw [q] at h'; cases h'
theorem getAll_set : ∀ {os : List Opd} {e : Env} {i : Nat} {o : Option D} {ds : List D}, (∀ j, Opd.slot j ∈ os → j ≠ i) → getAll os e = .ok ds e → getAll os (e.set i o) = .ok ds (e.set i o)
  | [], e, i, o, ds, _, h => by cases h; rfl
  | op :: os, e, i, o, ds, hn, h => by
    obtain ⟨d, ds', rfl, h1, h2, _⟩ := getAll_cons h
    have ih := getAll_set (o := o) (fun j m => hn j (List.mem_cons_of_mem _ m)) h2
    have h3 : op.get (e.set i o) = .ok d (e.set i o) := by
      cases op with
      | val d' => cases h1; rfl
      | slot j =>
        have q : e[j]? = some (some d) := by
          simp only [Opd.get, getS] at h1
          split at h1
          · cases h1; assumption
          · cases h1
        have q2 : (e.set i o)[j]? = some (some d) := by rw [List.getElem?_set_ne (fun z => hn j List.mem_cons_self z.symm)]; exact q
        simp only [Opd.get, getS]
        rw [q2]
    show ((op.get (e.set i o)).bind fun d e1 => ((getAll os e1).bind fun ds e2 => (R.ok (d :: ds) e2 : R (List D)))) = _
    rw [h3]
    show ((getAll os (e.set i o)).bind fun ds e2 => (R.ok (d :: ds) e2 : R (List D))) = _
    rw [ih]; rfl
theorem slot_at {i : Nat} {e e' : Env} {d : D} (h : (Opd.slot i).get e = .ok d e') : e[i]? = some (some d) := by
  simp only [Opd.get, getS] at h
  split at h
  · cases h; assumption
  · cases h
end
theorem perm_sub {A B : List Addr} (p : A.Perm B) {P : Addr → Prop} (h : ∀ a ∈ B, P a) : ∀ a ∈ A, P a := fun a m => h a (p.mem_iff.mp m)
section
variable {X : Cx} {σ : St} {Fz H : Hp}
/-- the arguments given, what the callee leaves put back -/
theorem call_args : ∀ {os : List Opd} {vs : List V} {ds : List D} {B A : List Addr} {e : Env}, OsR X σ Fz H vs os B → RE X.K X.mg Fz H σ e A → Ok3 ⟨Fz, H, A ++ B⟩ → getAll os e = .ok ds e → nodupN (ownSlots os e) = true →
    ∃ A' B' R, ((A' ++ B') ++ R).Perm (A ++ B) ∧ ROs X.K X.mg Fz H vs ds B' ∧
      ∀ (Fz' H' : Hp) (fin : List (Option D)) (Af : List Addr), (∀ a o, Fz a = some o → Fz' a = some o) → (∀ a o, a ∈ A' → H a = some o → H' a = some o) → RE X.K X.mg Fz' H' (vs.map some) fin Af →
        ∃ A'' R', RE X.K X.mg Fz' H' σ (backTo os fin e) A'' ∧ (A'' ++ R').Perm (Af ++ A')
  | _, _, ds, _, A, e, .nil, re, ok, hg, hn => by
    cases hg
    refine ⟨A, [], [], by simp, .nil, fun Fz' H' fin Af k m rf => ?_⟩
    cases rf
    exact ⟨A, [], re.up k m, by simp⟩
  | _, _, ds, _, A, e, .cons (v := v) (vs := vs) (o := .val d) (os := os) (A := B1) (B := B2) r t, re, ok, hg, hn => by
    obtain ⟨d', ds', rfl, h1, h2, _⟩ := getAll_cons hg
    cases h1
    have ok2 : Ok3 ⟨Fz, H, A ++ B2⟩ := ok.of_sub (fun a h => by simp at h ⊢; rcases h with h | h <;> simp [h]) (by
      have n1 := List.nodup_append.mp ok.nd
      have n2 := List.nodup_append.mp n1.2.1
      exact List.nodup_append.mpr ⟨n1.1, n2.2.1, fun a ha b hb => n1.2.2 a ha b (List.mem_append_right _ hb)⟩)
    obtain ⟨A', B', R, p, rs, k⟩ := call_args t re ok2 h2 hn
    refine ⟨A', B1 ++ B', R, ?_, .cons r rs, fun Fz' H' fin Af kf m rf => ?_⟩
    · have q1 : ((A' ++ (B1 ++ B')) ++ R).Perm (B1 ++ ((A' ++ B') ++ R)) := by
        rw [← List.append_assoc A' B1 B', List.append_assoc (A' ++ B1) B' R, List.append_assoc A' B' R, ← List.append_assoc B1 A' (B' ++ R)]
        exact (List.perm_append_comm).append_right _
      refine q1.trans ((p.append_left B1).trans ?_)
      rw [← List.append_assoc, ← List.append_assoc]
      exact (List.perm_append_comm).append_right _
    · cases rf with
      | no t' => exact k Fz' H' _ Af kf m t'
      | so r' t' =>
        obtain ⟨A'', R', q1, q2⟩ := k Fz' H' _ _ kf m t'
        rename_i d2 e2 C1 C2
        refine ⟨A'', R' ++ C1, q1, ?_⟩
        rw [← List.append_assoc]
        refine (q2.append_right C1).trans ?_
        rw [List.append_assoc C1]
        exact List.perm_append_comm
  | _, _, ds, _, A, e, .cons (v := v) (vs := vs) (o := .slot i) (os := os) (A := B1) (B := B2) r t, re, ok, hg, hn => by
    obtain ⟨r1, rfl⟩ := r
    obtain ⟨d, ds', rfl, h1, h2, _⟩ := getAll_cons hg
    have hi := slot_at h1
    by_cases w : d.own = true
    · have hn2 : (!(ownSlots os e).contains i && nodupN (ownSlots os e)) = true := by
        unfold ownSlots at hn
        rw [hi] at hn
        dsimp only at hn
        rw [if_pos w] at hn
        exact hn
      rw [Bool.and_eq_true] at hn2
      have hni : ∀ j, Opd.slot j ∈ os → j ≠ i := fun j m z => by
        subst z
        have := own_mem hi w m
        have h3 := hn2.1
        simp at h3
        exact h3 this
      obtain ⟨v', C, A1, A2, eA, q1, q2, q3⟩ := re.split hi
      rw [r1] at q1
      cases q1
      subst eA
      have re2 := (q3 Fz H (fun _ _ e => e) fun _ _ _ e => e).2
      have ok2 : Ok3 ⟨Fz, H, (A1 ++ A2) ++ B2⟩ := by
        have p : ((A1 ++ (C ++ A2)) ++ ([] ++ B2)).Perm (C ++ ((A1 ++ A2) ++ B2)) := by
          rw [List.nil_append, ← List.append_assoc C]
          refine List.Perm.append_right _ ?_
          rw [← List.append_assoc, ← List.append_assoc]
          exact (List.perm_append_comm).append_right _
        exact (ok.perm p).right
      obtain ⟨A', B', R, p, rs, k⟩ := call_args t re2 ok2 (getAll_set (o := none) hni h2) (by rw [own_set hni]; exact hn2.2)
      refine ⟨A', C ++ B', R, ?_, .cons q2 rs, fun Fz' H' fin Af kf m rf => ?_⟩
      · have z1 : ((A' ++ (C ++ B')) ++ R).Perm (C ++ ((A' ++ B') ++ R)) := by
          rw [← List.append_assoc A' C B', List.append_assoc (A' ++ C) B' R, List.append_assoc A' B' R, ← List.append_assoc C A' (B' ++ R)]
          exact (List.perm_append_comm).append_right _
        refine z1.trans ((p.append_left C).trans ?_)
        rw [List.nil_append, ← List.append_assoc C]
        refine List.Perm.append_right _ ?_
        rw [← List.append_assoc, ← List.append_assoc]
        exact (List.perm_append_comm).append_right _
      · have bk : ∀ (f : Option D) (fs : List (Option D)), backTo (.slot i :: os) (f :: fs) e = (backTo os fs (e.set i none)).set i f := fun f fs => by
          have e1 : backTo (.slot i :: os) (f :: fs) e = backTo os fs (e.set i f) := by
            show backTo os fs (match e[i]? with
              | some (some d) => if d.own then e.set i f else e
              | _ => e) = _
            rw [hi]
            dsimp only
            rw [if_pos w]
          rw [e1, back_set hni, back_set hni, List.set_set]
        have ni : ∀ (fs : List (Option D)), (backTo os fs (e.set i none))[i]? = some none := fun fs => by
          rw [back_set hni]
          have : i < (backTo os fs e).length := by
            have l1 : ∀ (os : List Opd) (fs : List (Option D)) (e : Env), (backTo os fs e).length = e.length := by
              intro os
              induction os with
              | nil => intro fs e; unfold backTo; rfl
              | cons o os ih =>
                intro fs e
                cases o with
                | slot j =>
                  cases fs with
                  | nil => unfold backTo; rfl
                  | cons f fs =>
                    unfold backTo
                    rw [ih]
                    split
                    · split
                      · exact List.length_set
                      · rfl
                    · rfl
                | val d =>
                  cases fs with
                  | nil => unfold backTo; rfl
                  | cons f fs => unfold backTo; exact ih fs e
            rw [l1]
            exact (List.getElem?_eq_some_iff.mp hi).1
          rw [List.getElem?_set_self this]
        cases rf with
        | no t' =>
          obtain ⟨A'', R', z1, z2⟩ := k Fz' H' _ Af kf m t'
          refine ⟨A'', R', ?_, z2⟩
          rw [bk]
          have ee : ∀ (l : Env), l[i]? = some none → l.set i none = l := fun l h => by
            obtain ⟨hl, h⟩ := List.getElem?_eq_some_iff.mp h
            conv => rhs; rw [← List.set_getElem_self hl]
            rw [h]
          rw [ee _ (ni _)]
          exact z1
        | so r' t' =>
          obtain ⟨A'', R', z1, z2⟩ := k Fz' H' _ _ kf m t'
          obtain ⟨A3, z3, z4⟩ := z1.put r1 (ni _) r'
          rename_i d2 e2 C1 C2
          refine ⟨A3, R', by rw [bk]; exact z3, ?_⟩
          refine (z4.append_right R').trans ?_
          rw [List.append_assoc, List.append_assoc]
          exact z2.append_left C1
    · obtain ⟨v', C, q1, q2, q3⟩ := re.at hi
      rw [r1] at q1
      cases q1
      obtain ⟨rfl, rf0⟩ := q2.nil_of (by simpa using w)
      have hn2 : nodupN (ownSlots os e) = true := by
        unfold ownSlots at hn
        rw [hi] at hn
        dsimp only at hn
        rw [if_neg w] at hn
        exact hn
      obtain ⟨A', B', R, p, rs, k⟩ := call_args t re (by simpa using ok) h2 hn2
      refine ⟨A', [] ++ B', R, by simpa using p, .cons (.sh rf0) rs, fun Fz' H' fin Af kf m rf => ?_⟩
      have bk : ∀ (f : Option D) (fs : List (Option D)), backTo (.slot i :: os) (f :: fs) e = backTo os fs e := fun f fs => by
        show backTo os fs (match e[i]? with
          | some (some d) => if d.own then e.set i f else e
          | _ => e) = _
        rw [hi]
        dsimp only
        rw [if_neg w]
      cases rf with
      | no t' => rw [bk]; exact k Fz' H' _ Af kf m t'
      | so r' t' =>
        obtain ⟨A'', R', z1, z2⟩ := k Fz' H' _ _ kf m t'
        rename_i d2 e2 C1 C2
        refine ⟨A'', R' ++ C1, by rw [bk]; exact z1, ?_⟩
        rw [← List.append_assoc]
        refine (z2.append_right C1).trans ?_
        rw [List.append_assoc C1]
        exact List.perm_append_comm
end
end PL

-- S14
set_option Elab.async false
set_option linter.all false
set_option maxRecDepth 100000
set_option maxHeartbeats 1000000
namespace PL
open PySem (Str Addr Value Shared Expr Stmt Pos Scope Obj Sem Operator CmpOp binaryOp compareOp inplaceOp sizeLine PyData unaryOp)
open L2 (V HO Hp SqL SqT upd upd_same upd_ne St VK TE TT TA XK WX PT PW PA Inv Cx R2 OpR rI rI0 tOp Room CallR FnR)
/-! ### a def's promise -/
/-- what follows a call's end -/
def ContF (K : PySem.W.Frag) (mg : Str → Option Value) (vs : List V) (s : G3) (r : CR) (Q : VK) (E : XK) : Prop := match r with
  | .ret d fin => ∀ (v : V) (Fz H : Hp) (A B : List Addr), Ok3 ⟨Fz, H, A ++ B⟩ → RE K mg Fz H (vs.map some) fin A → RO K mg Fz H v d B → Step s ⟨Fz, H, A ++ B⟩ → Q v H
  | .exc x fin => ∀ (Fz H : Hp) (A : List Addr) (cls : Value) (dx : Option Addr), Ok3 ⟨Fz, H, A⟩ → RE K mg Fz H (vs.map some) fin A → Step s ⟨Fz, H, A⟩ → RX K mg Fz H x cls dx → E cls dx H
  | .bad => False
def spF (K : PySem.W.Frag) (mg : Str → Option Value) (n : Nat) (r : List D → CR) : L2.Sp := fun vs H Q E => vs.length = n ∧ ∃ (Fz : Hp) (ds : List D) (B : List Addr), Ok3 ⟨Fz, H, B⟩ ∧ ROs K mg Fz H vs ds B ∧ ContF K mg vs ⟨Fz, H, B⟩ (r ds) Q E
theorem Step.wide {s t : G3} {A : List Addr} (h : ∀ a ∈ s.A, a ∈ A) (p : Step s t) : Step { s with A := A } t :=
  ⟨fun a o e n => p.frm a o e fun z => n (h a z), p.fz, fun a z => (p.own a z).imp (h a) id, fun a o e => (p.nfz a o e).imp id (.imp (h a) id), p.dom⟩
theorem getAll_env : ∀ {os : List Opd} {e e' : Env} {ds : List D}, getAll os e = .ok ds e' → e' = e
  | [], _, _, _, h => by cases h; rfl
  | _ :: _, _, _, _, h => (getAll_cons h).elim fun _ x => x.elim fun _ y => y.2.2.2
theorem getAll_exc : ∀ {os : List Opd} {e e' : Env} {x : D}, getAll os e = .exc x e' → False
  | [], _, _, _, h => by cases h
  | o :: os, e, e', x, h => by
    have h' : ((o.get e).bind fun d e1 => ((getAll os e1).bind fun ds e2 => (R.ok (d :: ds) e2 : R (List D)))) = .exc x e' := h
    rcases opd_run o e with ⟨d, q⟩ | q
    · rw [q] at h'
      have h2 : ((getAll os e).bind fun ds e2 => (R.ok (d :: ds) e2 : R (List D))) = .exc x e' := h'
      cases r : getAll os e with
      | ok a e3 => rw [r] at h2; cases h2
      | exc y e3 => exact getAll_exc r
      | bad => rw [r] at h2; cases h2
    · rw [q] at h'; cases h'
theorem OsR.len {X : Cx} {σ : St} {Fz H : Hp} {vs : List V} {os : List Opd} {B : List Addr} (r : OsR X σ Fz H vs os B) : vs.length = os.length := by
  induction r with
  | nil => rfl
  | cons _ _ ih => simp [ih]
section
variable {X : Cx} {W : WX} {G : Prog} {cf : CF} {a b c e : Expr} {pa pb pc pe : PE} {pos : Pos} {es : List Expr} {ps : List PE} {Fz H : Hp} {x v : V} {σ : St}
/-- behind a call: the caller's slots again -/
theorem back_ok {os : List Opd} {e : Env} {vs : List V} {ds : List D} {A B A' B' R : List Addr} {fin : List (Option D)} {Fz1 H1 : Hp} {Af Br : List Addr} (ok : Ok3 ⟨Fz, H, A ++ B⟩) (p : ((A' ++ B') ++ R).Perm (A ++ B))
    (k : ∀ (Fz' H' : Hp) (fin : List (Option D)) (Af : List Addr), (∀ a o, Fz a = some o → Fz' a = some o) → (∀ a o, a ∈ A' → H a = some o → H' a = some o) → RE X.K X.mg Fz' H' (vs.map some) fin Af →
      ∃ A'' R', RE X.K X.mg Fz' H' σ (backTo os fin e) A'' ∧ (A'' ++ R').Perm (Af ++ A'))
    (ok1 : Ok3 ⟨Fz1, H1, Af ++ Br⟩) (rf : RE X.K X.mg Fz1 H1 (vs.map some) fin Af) (st : Step ⟨Fz, H, B'⟩ ⟨Fz1, H1, Af ++ Br⟩) :
    ∃ A'', RE X.K X.mg Fz1 H1 σ (backTo os fin e) A'' ∧ Ok3 ⟨Fz1, H1, A'' ++ Br⟩ ∧ Step ⟨Fz, H, A ++ B⟩ ⟨Fz1, H1, A'' ++ Br⟩ := by
  have okp : Ok3 ⟨Fz, H, B' ++ A'⟩ := ((ok.perm p.symm).left).perm List.perm_append_comm
  obtain ⟨ok2, st2⟩ := Ok3.frame okp ok1 st
  obtain ⟨A'', R', r1, r2⟩ := k Fz1 H1 fin Af st.fz (held okp st) rf
  have pp : ((Af ++ Br) ++ A').Perm ((A'' ++ Br) ++ R') := by
    have q1 : ((Af ++ Br) ++ A').Perm ((Af ++ A') ++ Br) := by
      rw [List.append_assoc, List.append_assoc]
      exact (List.perm_append_comm).append_left Af
    have q2 : ((A'' ++ R') ++ Br).Perm ((A'' ++ Br) ++ R') := by
      rw [List.append_assoc, List.append_assoc]
      exact (List.perm_append_comm).append_left A''
    exact (q1.trans (r2.symm.append_right Br)).trans q2
  refine ⟨A'', r1, (ok2.perm pp).left, ?_⟩
  have st3 := (st2.perm pp).sub (A' := A'' ++ Br) fun a h => List.mem_append_left _ h
  exact Step.wide (s := ⟨Fz, H, B' ++ A'⟩) (fun a h => p.mem_iff.mp (by simp at h ⊢; rcases h with h | h <;> simp [h])) st3
theorem callO_sp {k : FnKey} {os : List Opd} {e : Env} {vs : List V} {A B : List Addr} {n : Nat} {Q : VK} (r : OsR X σ Fz H vs os B) (re : RE X.K X.mg Fz H σ e A) (ok : Ok3 ⟨Fz, H, A ++ B⟩) (hn : os.length = n)
    (c : Cont X W σ ⟨Fz, H, A ++ B⟩ (callO cf k os e) (relE X) Q) : spF X.K X.mg n (cf k) vs H Q (L2.WE W σ) := by
  refine ⟨by rw [r.len]; exact hn, ?_⟩
  unfold callO at c
  cases q : getAll os e with
  | bad => rw [q] at c; exact False.elim c
  | exc x e1 => exact (getAll_exc q).elim
  | ok ds e1 =>
    obtain rfl := getAll_env q
    rw [q] at c
    dsimp only at c
    by_cases w : nodupN (ownSlots os e1) = true
    · rw [if_pos w] at c
      obtain ⟨A', B', R, p, rs, k⟩ := call_args r re ok q w
      have okB : Ok3 ⟨Fz, H, B'⟩ := ((ok.perm p.symm).left).right
      refine ⟨Fz, ds, B', okB, rs, ?_⟩
      cases z : cf _ ds with
      | bad => rw [z] at c; exact c
      | ret d fin =>
        rw [z] at c
        intro v Fz1 H1 Af Br ok1 rf ro st
        obtain ⟨A'', r1, ok2, st2⟩ := back_ok (ds := ds) ok p k ok1 rf st
        exact c v Fz1 H1 A'' Br ok2 r1 ro st2
      | exc x fin =>
        rw [z] at c
        intro Fz1 H1 Af cls dx ok1 rf st rx
        obtain ⟨A'', r1, ok2, st2⟩ := back_ok (ds := ds) (Br := []) ok p k (by simpa using ok1) rf (by simpa using st)
        exact c Fz1 H1 A'' cls dx (by simpa using ok2) r1 (by simpa using st2) rx
    · rw [if_neg w] at c; exact False.elim c
/-- a function's fact -/
abbrev FnF (X : Cx) (cf : CF) (j : Nat) (k : FnKey) (n : Nat) (a : Addr) : Prop := FnR X.prog X.w X.K X.mg X.base (L2.CX X.prog X.w) j a (spF X.K X.mg n (cf k))
/-- the callee runs -/
theorem code_fn {pins : List (Addr × Obj)} {s : Shared} {j : Nat} {f : Addr} {sp : L2.Sp} {Q : VK} {us : List Value} {vs : List V} (F : FnR X.prog X.w X.K X.mg X.base (L2.CX X.prog X.w) j f sp) (hr : Room j X.A) (tk : L2.Takes X W) (I : Inv X pins σ H s)
    (r : L2.Vals vs us) (h : sp vs H Q (L2.WE W σ)) :
    PySem.codeAny (PySem.model X.prog X.w) X.A (.call (.ref f) ⟨us, []⟩) (fun r s' => match r with | .ok (.ret v) => L2.EP X pins σ Q v s' | .ok _ => False | .error e => X.xe e s') s := by
  refine PySem.codeAny_mono (F X.A X.stack s H us vs Q (L2.WE W σ) hr I.env0 r h) fun z s' hz => ?_
  match z, hz with
  | .error e, hz => exact L2.passAt tk σ pins H s e s' I hz
  | .ok (.ret u), hz => exact I.after hz
  | .ok .next, hz => exact hz.elim
  | .ok .brk, hz => exact hz.elim
  | .ok .cont, hz => exact hz.elim
/-- f(e, ..) -/
theorem pe_fn {x : Str} {p : Pos} {j : Nat} {f : Addr} {sp : L2.Sp} {t : TA} (F : FnR X.prog X.w X.K X.mg X.base (L2.CX X.prog X.w) j f sp) (hr : Room j X.A) (tk : L2.Takes X W) (hg : L2.Gl X x) (hm : X.mg x = some (.ref f)) (hk : PySem.W.keepIn X.K (.ref f) = true)
    (ha : PA X (e :: es) t) (hst : (e :: es).all notStar = true) (hd : (x == ("__debug__" : Str)) = false) : L2.PE X (.Call (.Name x p) (e :: es) [] pos) (fun σ H Q => t σ H fun vs H1 => sp vs H1 Q (L2.WE W σ)) := by
  rw [List.all_cons, Bool.and_eq_true] at hst
  refine ⟨fun pins s σ H Q I h => ?_⟩
  refine PySem.wpAny_Call_Name_kw (L2.ld_glob I hg hm ?_ hd)
  refine PySem.W.callWith_K (h₀ := X.base) I.ok.mod.kin hk (L2.thn (ha.run pos pins s σ H _ I h) fun us s1 ⟨vs, H1, I1, r, q⟩ => ⟨I1.kIn, ?_⟩) (starEach_cons hst.1 es X.env) (noStars hst.2 pos X.env)
  exact PySem.wpAny_call (code_fn F hr tk I1 r q)
theorem pe_fn0 {x : Str} {p : Pos} {j : Nat} {f : Addr} {sp : L2.Sp} (F : FnR X.prog X.w X.K X.mg X.base (L2.CX X.prog X.w) j f sp) (hr : Room j X.A) (tk : L2.Takes X W) (hg : L2.Gl X x) (hm : X.mg x = some (.ref f)) (hk : PySem.W.keepIn X.K (.ref f) = true)
    (hd : (x == ("__debug__" : Str)) = false) : L2.PE X (.Call (.Name x p) [] [] pos) (fun σ H Q => L2.tNil σ H fun vs H1 => sp vs H1 Q (L2.WE W σ)) := by
  refine ⟨fun pins s σ H Q I h => ?_⟩
  refine PySem.wpAny_Call_Name_kw (L2.ld_glob I hg hm ?_ hd)
  exact PySem.W.callWith_K0 I.kIn hk (PySem.wpAny_call (code_fn (us := []) F hr tk I .nil h))
theorem callX_inv {k : FnKey} {f : Fn} {os : List Opd} {e : Env} {s : G3} {Q : VK} (hG : G.fns.lookup k = some f) (c : Cont X W σ s (callX G cf k os e) (relE X) Q) : os.length = f.ps.length ∧ Cont X W σ s (callO cf k os e) (relE X) Q := by
  unfold callX at c
  rw [hG] at c
  dsimp only at c
  by_cases h : os.length = f.ps.length
  · rw [if_pos h] at c; exact ⟨h, c⟩
  · rw [if_neg h] at c; exact False.elim c
theorem call_imp {x : Str} {f : Fn} (hG : G.fns.lookup (x, none) = some f) : ∀ σ H Q, tE X W (evE G cf (.call x ps)) σ H Q → (tM X W (evOs G cf ps) (relOs X)) σ H fun vs H1 => spF X.K X.mg f.ps.length (cf (x, none)) vs H1 Q (L2.WE W σ) := fun σ H Q q => by
  simp only [evE] at q
  refine tM_mono (tM_bind (Re := relOs X) q) fun vs H1 ⟨os, Fz, A, B, e, ok, re, rs, c⟩ => ?_
  obtain ⟨h1, c⟩ := callX_inv hG c
  exact callO_sp rs re ok h1 c
/-- the reading of no arguments -/
theorem nil_imp {Q : List V → Hp → Prop} {H : Hp} (q : tM X W (evOs G cf []) (relOs X) σ H Q) : L2.tNil σ H Q := tM_pure0 (W := W) (σ := σ) (d := []) (Re := relOs X) (by simpa only [evOs] using q) fun _ => OsR.nil
theorem ge_call {x : Str} {p : Pos} {j : Nat} {adr : Addr} {f : Fn} (hG : G.fns.lookup (x, none) = some f) (F : FnF X cf j (x, none) f.ps.length adr) (hr : Room j X.A) (tk : L2.Takes X W) (hg : L2.Gl X x) (hm : X.mg x = some (.ref adr))
    (hk : PySem.W.keepIn X.K (.ref adr) = true) (ha : GA X W G cf (e :: es) ps) (hst : (e :: es).all notStar = true) (hd : (x == ("__debug__" : Str)) = false) : GE X W G cf (.Call (.Name x p) (e :: es) [] pos) (.call x ps) := by
  refine .of (PE.imp (pe_fn F hr tk hg hm hk ha.ops hst hd) (call_imp hG)) rfl

theorem ge_call0 {x : Str} {p : Pos} {j : Nat} {adr : Addr} {f : Fn} (hG : G.fns.lookup (x, none) = some f) (F : FnF X cf j (x, none) f.ps.length adr) (hr : Room j X.A) (tk : L2.Takes X W) (hg : L2.Gl X x) (hm : X.mg x = some (.ref adr))
    (hk : PySem.W.keepIn X.K (.ref adr) = true) (hd : (x == ("__debug__" : Str)) = false) : GE X W G cf (.Call (.Name x p) [] [] pos) (.call x []) :=
  .of (PE.imp (pe_fn0 F hr tk hg hm hk hd) fun σ H Q q => nil_imp (call_imp hG σ H Q q)) rfl
/-! ### the program's facts -/
structure PF (K : PySem.W.Frag) (mg : Str → Option Value) (G : Prog) (adr : FnKey → Addr) : Prop where
  fld : ∀ c f, G.fld c f = true → ∃ C, mg c = some (.ref C) ∧ L2.Cls K C ∧ L2.NoAttr K C f
  cls : ∀ c f kk, G.meth.lookup (c, f) = some kk → ∃ C, mg c = some (.ref C) ∧ L2.Cls K C
  prop : ∀ c f k, G.meth.lookup (c, f) = some (.prop, k) → ∀ C, mg c = some (.ref C) → ∃ p, L2.PropOf K C f p (adr k)
  inst : ∀ c m k, G.meth.lookup (c, m) = some (.inst, k) → ∀ C, mg c = some (.ref C) → L2.Meth K C m (adr k)
  clsm : ∀ c m k, G.meth.lookup (c, m) = some (.clsm, k) → ∀ C, mg c = some (.ref C) → (∃ mc p, ClX.CRead K C mc ∧ ClX.CMet K C mc m p (adr k)) ∧ ∃ p, ClX.CInst K C m p (adr k)
  ccon : ∀ c f d, G.ccon.lookup (c, f) = some d → ∀ C, mg c = some (.ref C) → L2.Cls K C ∧ ∃ v u, L2.Con K C f v u ∧ ∀ Fz, RF K mg Fz v d
  make : ∀ c kc key, G.cls.lookup c = some kc → G.meth.lookup (c, ("__init__" : Str)) = some (.inst, key) → ∃ C, mg c = some (.ref C) ∧ L2.Mk K C (adr key)
  con : ∀ x d, G.con.lookup x = some d → ∃ v u, mg x = some u ∧ L2.RelV v u ∧ ∀ Fz, RF K mg Fz v d
  top : ∀ x f, G.fns.lookup (x, none) = some f → mg x = some (.ref (adr (x, none))) ∧ PySem.W.keepIn K (.ref (adr (x, none))) = true
theorem RO.ins' {o : Bool} {c : Str} {fs : List Str} {ds : List D} {B : List Addr} (r : RO X.K X.mg Fz H x (.ins o c fs ds) B) (sub : ∀ a o, Fz a = some o → H a = some o) :
    ∃ a C dx xs, x = .ref a ∧ fs.length = xs.length ∧ H a = some (.ins C dx (fs.zip xs)) ∧ X.mg c = some (.ref C) ∧ RFs X.K X.mg Fz xs ds := by
  cases r with
  | sh r => cases r with | ins l h h2 g r => exact ⟨_, _, _, _, rfl, l, sub _ _ h, g, r⟩
  | ins l h h2 g r => exact ⟨_, _, _, _, rfl, l, h, g, r⟩
theorem RFs.lookup {f : Str} : ∀ {fs : List Str} {xs : List V} {ds : List D}, RFs X.K X.mg Fz xs ds → (∀ d, (fs.zip ds).lookup f = some d → ∃ v, (fs.zip xs).lookup f = some v ∧ RF X.K X.mg Fz v d) ∧ ((fs.zip ds).lookup f = none → (fs.zip xs).lookup f = none)
  | [], _, _, _ => ⟨fun d h => by simp at h, fun _ => by simp⟩
  | g :: fs, _, _, .nil => ⟨fun d h => by simp at h, fun _ => by simp⟩
  | g :: fs, _, _, .cons (v := v) (vs := vs) (d := d) (ds := ds) r t => by
    obtain ⟨h1, h2⟩ := RFs.lookup (f := f) (fs := fs) t
    rw [List.zip_cons_cons, List.zip_cons_cons, List.lookup_cons, List.lookup_cons]
    cases f == g with
    | true => exact ⟨fun d h => by cases h; exact ⟨v, rfl, r⟩, fun h => by cases h⟩
    | false => exact ⟨h1, h2⟩
/-! ### attributes -/
/-- an attribute of an instance by values: a field, a property, a constant of the class -/
def rAt (X : Cx) (j : Nat) (f : Str) : V → Hp → VK → Prop := fun x H Q => ∃ a C dx fs, x = .ref a ∧ H a = some (.ins C dx fs) ∧ L2.Cls X.K C ∧
  ((∃ v, L2.NoAttr X.K C f ∧ fs.lookup f = some v ∧ Q v H) ∨ (∃ g p sp, L2.PropOf X.K C f p g ∧ FnR X.prog X.w X.K X.mg X.base (L2.CX X.prog X.w) j g sp ∧ sp [.ref a] H Q (fun _ _ _ => False)) ∨
    (∃ v u, L2.Con X.K C f v u ∧ fs.lookup f = none ∧ Q v H))
theorem at_run {j : Nat} {f : Str} {pins : List (Addr × Obj)} {s : Shared} {u : Value} {Q : VK} {b : Bool} (hr : Room (j + 1) X.A) (I : Inv X pins σ H s) (rx : L2.RelV x u) (h : rAt X j f x H Q) :
    PySem.wpAny (PySem.model X.prog X.w) X.A (PySem.getAttr u f b) (L2.EP X pins σ Q) X.xe s := by
  obtain ⟨a, C, dx, fs, rfl, ea, c, h⟩ := h
  obtain rfl : u = Value.ref a := rx
  rcases h with ⟨v, n, l, q⟩ | ⟨g, p, sp, hp, F, h⟩ | ⟨v, u, k, l, q⟩
  · exact L2.getattr_ok I ea c n l fun u' s2 I2 ru => ⟨v, H, I2, ru, q⟩
  · obtain ⟨mA, O, _, _, _, _⟩ := L2.ins_get I.hok ea
    obtain ⟨od, J, _⟩ := O.look
    obtain ⟨rest, hrec⟩ := hp.rec_
    have I1 := I.tok (s.toks + 1)
    have hc : (PySem.W.clsIn X.K C).isSome = true := by
      obtain ⟨cd, hc, _⟩ := PySem.W.any_some c.hd
      rw [hc]; rfl
    refine PySem.W.get_bind I.kIn J (PySem.W.plainGet_of (c.get f)).1 (PySem.W.findObj_data hc hp.at_ hp.get hp.tak) (PySem.W.plainGet_of (c.get f)).2 (PySem.wpAny_call (PySem.W.prop_get (s := { s with toks := s.toks + 1 }) I.kIn hrec ?_))
    refine PySem.codeAny_mono (F X.A.in1 X.stack { s with toks := s.toks + 1 } H [.ref a] [.ref a] Q (fun _ _ _ => False) hr.in1 I1.env0.in1 (.cons rfl .nil) h) fun z s' hz => ?_
    match z, hz with
    | .error e, hz =>
      obtain ⟨_, _, _, _, _, _, _, _, _, _, _, _, z⟩ := hz
      exact z.elim
    | .ok (.ret u), hz =>
      obtain ⟨v, H', I3, rv, q3⟩ := I1.after hz
      show PySem.wpAny _ _ (PySem.handedOut u) _ _ _
      rw [PySem.W.handedOut_of (L2.handed_of rv)]
      exact PySem.wpAny_pure ⟨v, H', I3, rv, q3⟩
    | .ok .next, hz => exact hz.elim
    | .ok .brk, hz => exact hz.elim
    | .ok .cont, hz => exact hz.elim
  · exact L2.getcon_ok I ea c k l fun s2 I2 => ⟨v, H, I2, k.rel, q⟩
/-- no exception: for any wish -/
theorem cont_nox {α ν : Type} {W' : WX} {m : M α} {e : Env} {Re : Rel ν α} {s : G3} {Q : ν → Hp → Prop} (c : Cont X W σ s (M.nox m e) Re Q) : Cont X W' σ s (m e) Re Q := by
  unfold M.nox at c
  cases r : m e with
  | ok a e1 => rw [r] at c; exact c
  | exc x e1 => rw [r] at c; exact False.elim c
  | bad => rw [r] at c; exact False.elim c
theorem ge_attr {j : Nat} {adr : FnKey → Addr} {f : Str} (pf : PF X.K X.mg G adr) (hF : ∀ k f, G.fns.lookup k = some f → FnF X cf j k f.ps.length (adr k)) (hr : Room (j + 1) X.A) (ha : GE X W G cf a pa)
    (hb : PySem.attributeBase a f X.env (PySem.eval a X.env) = PySem.eval a X.env) : GE X W G cf (.Attribute a f pos) (.attr pa f) := by
  have base : L2.PE X (.Attribute a f pos) (fun σ H Q => tO X W (opd pa (evE G cf pa)) σ H fun x H1 => rAt X j f x H1 Q) :=
    ⟨fun pins s σ H Q I h => L2.attr_of hb (L2.thn (ha.opd.run pins s σ H _ I h) fun u s1 ⟨x, H1, I1, rx, q⟩ => at_run hr I1 rx q)⟩
  refine .of (PE.imp base fun σ H Q q => ?_) rfl
  simp only [evE] at q
  refine one_opd (R := fun x H1 => rAt X j f x H1 Q) q fun x ox Fz H A B e ok re rx gx c => ?_
  obtain ⟨d, h1, c⟩ := get_inv c
  obtain ⟨C1, r1, _⟩ := gx h1
  cases d <;> try exact False.elim c
  rename_i o cn fs ds
  obtain ⟨ad, C, dx, xs, rfl, hl, ea, gC, t⟩ := r1.ins' ok.sub
  obtain ⟨l1, l2⟩ := t.lookup (f := f) (fs := fs)
  dsimp only at c
  cases hlk : (fs.zip ds).lookup f with
  | some v =>
    rw [hlk] at c
    dsimp only at c
    by_cases w : G.fld cn f = true
    · rw [if_pos w] at c
      obtain ⟨C', e1, k1, k2⟩ := pf.fld _ _ w
      rw [gC] at e1
      cases e1
      obtain ⟨v', m1, m2⟩ := l1 v hlk
      exact ⟨ad, C, dx, _, rfl, ea, k1, .inl ⟨v', k2, m1, (Cont.new ok re c).val ok.sub m2⟩⟩
    · rw [if_neg w] at c; exact False.elim c
  | none =>
    rw [hlk] at c
    dsimp only at c
    cases hm : G.meth.lookup (cn, f) with
    | none =>
      rw [hm] at c
      dsimp only at c
      cases hk : G.ccon.lookup (cn, f) with
      | none => rw [hk] at c; exact False.elim c
      | some v =>
        rw [hk] at c
        obtain ⟨k1, v', u, k2, k3⟩ := pf.ccon _ _ _ hk C gC
        exact ⟨ad, C, dx, _, rfl, ea, k1, .inr (.inr ⟨v', u, k2, l2 hlk, (Cont.new ok re c).val ok.sub (k3 _)⟩)⟩
    | some kk =>
      obtain ⟨kd, key⟩ := kk
      rw [hm] at c
      cases kd <;> try exact False.elim c
      dsimp only at c
      have c2 := cont_nox (W' := fun _ _ _ _ => False) c
      obtain ⟨C', e1, k1⟩ := pf.cls _ _ _ hm
      rw [gC] at e1
      cases e1
      obtain ⟨p, hp⟩ := pf.prop _ _ _ hm C gC
      cases hf : G.fns.lookup key with
      | none => unfold callX at c2; rw [hf] at c2; exact False.elim c2
      | some fn =>
        obtain ⟨h2, c3⟩ := callX_inv hf c2
        refine ⟨ad, C, dx, _, rfl, ea, k1, .inr (.inl ⟨adr key, p, _, hp, hF key fn hf, ?_⟩)⟩
        exact callO_sp (W := fun _ _ _ _ => False) (B := B ++ []) (.cons rx .nil) re (by simpa using ok) h2 (by simpa using c3)
end
end PL

-- S15
set_option Elab.async false
set_option linter.all false
set_option maxRecDepth 100000
set_option maxHeartbeats 1000000
namespace PL
open PySem (Str Addr Value Shared Expr Stmt Pos Scope Obj Sem Operator CmpOp binaryOp compareOp inplaceOp sizeLine PyData unaryOp)
open L2 (V HO Hp SqL SqT upd upd_same upd_ne St VK TE TT TA XK WX PT PW PA Inv Cx R2 OpR rI rI0 tOp Room CallR FnR)
section
variable {X : Cx} {W : WX} {G : Prog} {cf : CF} {a b c e : Expr} {pa pb pc pe : PE} {pos : Pos} {es : List Expr} {ps : List PE} {Fz H : Hp} {x v : V} {σ : St}
/-! ### comparisons -/
theorem ge_cmp {op : CmpOp} (hu : X.A.units + 65 < PySem.cLine) (ha : GE X W G cf a pa) (hb : GE X W G cf b pb) (hm : PySem.behindInMarks op b = false) : GE X W G cf (.Compare a [op] [b] pos) (.cmp op pa pb) := by
  refine .of (PE.imp (L2.pe_cmpR (opC hu op) ha.opd hb.opd hm) fun σ H Q q => ?_) rfl
  simp only [evE] at q
  refine two_opds (R := fun x y H2 => rC X (cmpop op) x y H2 Q) q fun x y ox oy Fz H A B e ok re gx gy c => ?_
  obtain ⟨d, h1, c⟩ := get_inv c
  obtain ⟨d', h2, c⟩ := get_inv c
  obtain ⟨r, h3, c⟩ := opt_inv c
  obtain ⟨C1, r1, _⟩ := gx h1
  obtain ⟨C2, r2, _⟩ := gy h2
  obtain ⟨k, h4, rfl⟩ := Option.map_eq_some_iff.mp h3
  exact ⟨Fz, d, d', k, C1, C2, ok.sub, r1, r2, h4, (Cont.new ok re c).val ok.sub (.bl k)⟩
/-- the same as a test -/
theorem gt_cmpD {op : CmpOp} (hu : X.A.units + 65 < PySem.cLine) (ha : GE X W G cf a pa) (hb : GE X W G cf b pb) (hm : PySem.behindInMarks op b = false) : PT X (.Compare a [op] [b] pos) (tT X W (evT G cf (.val (.cmp op pa pb)))) := by
  refine gt_cmp (opC hu op) (fun x y H Q Q' h ⟨Fz, d, d', k, C1, C2, sub, r1, r2, h4, q⟩ => ⟨Fz, d, d', k, C1, C2, sub, r1, r2, h4, h _ _ q⟩) ha.opd hb.opd hm fun σ H Q q => ?_
  simp only [evE] at q
  refine two_opds (R := fun x y H2 => rC X (cmpop op) x y H2 Q) q fun x y ox oy Fz H A B e ok re gx gy c => ?_
  obtain ⟨d, h1, c⟩ := get_inv c
  obtain ⟨d', h2, c⟩ := get_inv c
  obtain ⟨r, h3, c⟩ := opt_inv c
  obtain ⟨C1, r1, _⟩ := gx h1
  obtain ⟨C2, r2, _⟩ := gy h2
  obtain ⟨k, h4, rfl⟩ := Option.map_eq_some_iff.mp h3
  exact ⟨Fz, d, d', k, C1, C2, ok.sub, r1, r2, h4, (Cont.new ok re c).val ok.sub (.bl k)⟩
/-! ### isinstance -/
/-- the built-in type of plain data -/
def D.ty : D → Option String
  | .non => some "NoneType"
  | .bl _ => some "bool"
  | .int _ => some "int"
  | .str _ => some "str"
  | .tup _ => some "tuple"
  | .lst _ _ => some "list"
  | .dct _ _ _ => some "dict"
  | .scr _ => some "list"
  | _ => none
theorem ty_ok {d : D} {t : String} {B : List Addr} (sub : ∀ a o, Fz a = some o → H a = some o) (r : RO X.K X.mg Fz H x d B) (h : d.ty = some t) : L2.TyX X.K H x (.type t) := by
  cases d <;> simp only [D.ty] at h <;> cases h
  · obtain rfl := r.non; exact .base .non
  · obtain rfl := r.bl; exact .base (.bl _)
  · obtain rfl := r.int; exact .base (.int _)
  · obtain ⟨rfl, _⟩ := r.str; exact .base (.str _)
  · obtain ⟨a, xs, rfl, q, t⟩ := r.tup
    rcases q with ⟨o, _, q⟩ | ⟨o, its, n, q1, q2, _⟩
    · exact .fTuple (sub _ _ q)
    · exact .kTuple q1 q2
  · obtain ⟨a, xs, rfl, q, t⟩ := r.lst' sub
    exact .base (.lst q)
  · obtain ⟨a, xs, rfl, l, q, t⟩ := r.dct' sub
    exact .base (.dK q)
  · obtain ⟨a, rfl, q⟩ := r.scr
    rcases SqL.up q sub with (q | ⟨o, q⟩) | ⟨o, its, n, q1, q2, _⟩
    · exact .base (.lst q)
    · exact .base (.frz q)
    · exact .kList q1 q2
/-- what is known of the classes -/
structure PT1 (K : PySem.W.Frag) (mg : Str → Option Value) (G : Prog) (t : Str) (u : Value) : Prop where
  base : ∀ (d : D) (s : String), d.ty = some s → PySem.W.kitOne K (.type s) u = some (tyIs d t)
  own : ∀ (c : Str) (C : Addr), G.oc c = true → mg c = some (.ref C) → PySem.W.kitOne K (.ref C) u = some ((G.mroOf c).contains t)
structure PI1 (K : PySem.W.Frag) (mg : Str → Option Value) (G : Prog) : Prop where
  ins : ∀ (c : Str) (C : Addr), G.oc c = true → mg c = some (.ref C) → L2.Cls K C ∧ PySem.W.findIn K (.ref C) "__class__" = some (some (.builtin "object.__class__")) ∧ PySem.W.mroIn K C (.type "object") = some true
  hn : PySem.W.specialIn K (.builtin "object.__class__") "__get__" = some (some (.builtin "getset_descriptor.__get__"))
  htk : PySem.W.takesIn K (.builtin "object.__class__") = some true
theorem boot_isi : PySem.bootBuiltins "isinstance" = some (.builtin "isinstance") := by decide +kernel
theorem ge_isi {T : Expr} {t : Str} {cv : V} {u : Value} {p : Pos} (pi : PI1 X.K X.mg G) (pt : PT1 X.K X.mg G t u) (hc : L2.ClsV cv u) (hg : L2.Gl X "isinstance") (hm : X.mg "isinstance" = none) (ha : GE X W G cf a pa) (hT : L2.PE X T (L2.tC cv)) (hst : notStar a = true) (hst2 : notStar T = true) :
    GE X W G cf (.Call (.Name "isinstance" p) [a, T] [] pos) (.isi pa [t]) := by
  have st1 := starEach_cons hst [T] X.env
  have st2 := starEach_cons hst2 [] X.env
  have hpl : (PySem.backTo pos (PySem.starEach [T] X.env)).any (·.1) = false := noStars (es := [T]) (by rw [List.all_cons, hst2]; rfl) pos X.env
  refine .of (PE.imp (L2.pe_callB L2.call_isi hg hm boot_isi (L2.pa_cons ha.opd (L2.pa_cons hT L2.pa_nil st2) st1) (by decide) (by decide) st1 hpl) fun σ H Q q => ?_) rfl
  simp only [evE] at q
  refine one_opd (R := fun x H1 => L2.rIsi X.K [x, cv] H1 Q) q fun x ox Fz H A B e ok re rx gx c => ?_
  obtain ⟨d, h1, c⟩ := get_inv c
  obtain ⟨r, h3, c⟩ := opt_inv c
  obtain ⟨C1, r1, _⟩ := gx h1
  obtain ⟨k, h4, rfl⟩ := Option.map_eq_some_iff.mp h3
  have n := (Cont.new ok re c).val ok.sub (.bl k)
  cases hd : d.ty with
  | some s =>
    have e1 : k = tyIs d t := by
      cases d <;> simp only [D.ty] at hd <;> (try cases hd) <;> simp [isiD, isinst] at h4 <;> exact h4.symm
    exact ⟨x, cv, .type s, u, k, rfl, hc, ty_ok ok.sub r1 hd, by rw [e1]; exact pt.base d s hd, n⟩
  | none =>
    cases d <;> simp only [D.ty] at hd <;> (try cases hd) <;> simp only [isiD] at h4 <;> (try cases h4)
    rename_i o cn fs ds
    obtain ⟨ad, C, dx, xs, rfl, hl, ea, gC, tt⟩ := r1.ins' ok.sub
    by_cases hs : G.oc cn = true
    · rw [if_pos hs] at h4
      cases h4
      obtain ⟨k1, k2, k3⟩ := pi.ins cn C hs gC
      refine ⟨_, cv, .ref C, u, _, rfl, hc, .base (.ins ea k1 k2 pi.hn pi.htk k3), ?_, n⟩
      rw [pt.own cn C hs gC]
      simp [isinst]
    · rw [if_neg hs] at h4; cases h4
end
end PL

-- S16
set_option Elab.async false
set_option linter.all false
set_option maxRecDepth 100000
set_option maxHeartbeats 1000000
namespace PL
open PySem (Str Addr Value Shared Expr Stmt Pos Scope Obj Sem Operator CmpOp binaryOp compareOp inplaceOp sizeLine PyData unaryOp)
open L2 (V HO Hp SqL SqT upd upd_same upd_ne St VK TE TT TA XK WX PT PW PA Inv Cx R2 OpR rI rI0 tOp Room CallR FnR)
section
variable {X : Cx} {W : WX} {G : Prog} {cf : CF} {a b c e : Expr} {pa pb pc pe : PE} {pos : Pos} {es : List Expr} {ps : List PE} {Fz H : Hp} {x v : V} {σ : St}
/-! ### an owned object rewritten -/
theorem upd_own {A : List Addr} {l : Addr} {o : HO} (ok : Ok3 ⟨Fz, H, A⟩) (hl : l ∈ A) : Ok3 ⟨Fz, upd H l o, A⟩ ∧ Step ⟨Fz, H, A⟩ ⟨Fz, upd H l o, A⟩ := by
  have nf := ok.nf l hl
  refine ⟨⟨fun a u e => ?_, ok.nd, ok.nf, fun a h => ?_⟩, ⟨fun a u e n => ?_, fun _ _ e => e, fun _ h => .inl h, fun _ _ e => .inl e, fun a h => ?_⟩⟩
  · show upd H l o a = some u
    have ne : a ≠ l := fun z => by
      subst z
      have e' : Fz a = some u := e
      rw [show Fz a = none from nf] at e'; cases e'
    rw [upd_ne ne]; exact ok.sub a u e
  · show upd H l o a ≠ none
    by_cases z : a = l
    · subst z; rw [upd_same]; simp
    · rw [upd_ne z]; exact ok.dom a h
  · show upd H l o a = some u
    have ne : a ≠ l := fun z => n (z ▸ hl)
    rw [upd_ne ne]; exact e
  · show upd H l o a ≠ none
    by_cases z : a = l
    · subst z; rw [upd_same]; simp
    · rw [upd_ne z]; exact h
/-- a list, a dict, of an operand: owned -/
theorem opd_own {o : Opd} {en : Env} {d : D} {A B : List Addr} (ok : Ok3 ⟨Fz, H, A ++ B⟩) (re : RE X.K X.mg Fz H σ en A) (rx : relO X σ Fz H x o B) (h : o.get en = .ok d en) :
    ∃ C, RO X.K X.mg Fz H x d C ∧ (∀ a ∈ C, a ∈ A ++ B) ∧ ∀ (d' : D) (H' : Hp), (∀ a, a ∉ C → H' a = H a) → RO X.K X.mg Fz H' x d' C → ∃ en', putBack o d' en = .ok () en' ∧ RE X.K X.mg Fz H' σ en' A := by
  cases o with
  | val d0 =>
    cases h
    refine ⟨B, rx, fun a m => List.mem_append_right _ m, fun d' H' fr _ => ⟨en, rfl, re.up (fun _ _ e => e) fun a u m e => ?_⟩⟩
    rw [fr a fun z => (List.nodup_append.mp ok.nd).2.2 a m a z rfl]; exact e
  | slot i =>
    have hi := slot_at h
    obtain ⟨v', C, A1, A2, rfl, h1, h2, h3⟩ := re.split hi
    rw [rx.1] at h1
    cases h1
    refine ⟨C, h2, fun a m => by simp [m], fun d' H' fr r' => ⟨_, rfl, (h3 Fz H' (fun _ _ e => e) fun a u m e => ?_).1 d' C r'⟩⟩
    have n1 := List.nodup_append.mp ok.nd
    have n2 := List.nodup_append.mp n1.1
    have n3 := List.nodup_append.mp n2.2.1
    rw [fr a ?_]; exact e
    intro z
    rcases m with m | m
    · exact n2.2.2 a m a (List.mem_append_left _ z) rfl
    · exact n3.2.2 a z a m rfl
/-! ### methods of lists and dicts -/
theorem valV_zip {k : Key} : ∀ {ks : List Key} {xs : List V} {ds : List D}, RFs X.K X.mg Fz xs ds → (∀ d, dictGet k ks ds = some d → ∃ v, L2.valV (ks.zip xs) k = some v ∧ RF X.K X.mg Fz v d) ∧ (dictGet k ks ds = none → L2.valV (ks.zip xs) k = none)
  | [], _, _, _ => ⟨fun d h => by simp [dictGet] at h, fun _ => by simp [L2.valV]⟩
  | _ :: _, _, _, .nil => ⟨fun d h => by simp [dictGet] at h, fun _ => by simp [L2.valV]⟩
  | k' :: ks, _, _, .cons (v := v) (vs := xs) (d := d) (ds := ds) r t => by
    obtain ⟨h1, h2⟩ := valV_zip (k := k) (ks := ks) t
    have e1 : dictGet k (k' :: ks) (d :: ds) = if k' = k then some d else dictGet k ks ds := by
      unfold dictGet
      rw [List.zip_cons_cons, List.find?_cons]
      by_cases z : k' = k
      · simp [z]
      · simp [z]
    have e2 : L2.valV ((k' :: ks).zip (v :: xs)) k = if k' = k then some v else L2.valV (ks.zip xs) k := by
      unfold L2.valV
      rw [List.zip_cons_cons, List.find?_cons]
      by_cases z : k' = k
      · simp [z]
      · simp [z]
    rw [e1, e2]
    by_cases z : k' = k
    · rw [if_pos z, if_pos z]
      exact ⟨fun d h => by cases h; exact ⟨v, rfl, r⟩, fun h => by cases h⟩
    · rw [if_neg z, if_neg z]
      exact ⟨h1, h2⟩
/-- the type that a method is of -/
def bmT (m : Str) : String := if m = "get" then "dict" else "list"
/-- a method by values -/
def rBM (X : Cx) (σ : St) (m : Str) : V → List V → Hp → VK → Prop := fun x vs H Q => ∃ (Fz : Hp) (ox : Opd) (en : Env) (A B : List Addr) (ds : List D) (W : WX), Ok3 ⟨Fz, H, A ++ B⟩ ∧ RE X.K X.mg Fz H σ en A ∧ relO X σ Fz H x ox B ∧ RFs X.K X.mg Fz vs ds ∧
  Cont X W σ ⟨Fz, H, A ++ B⟩ (callBM ox m ds en) (relE X) Q
theorem bm_inv {W : WX} {m : Str} {ox : Opd} {en : Env} {ds : List D} {s : G3} {Q : VK} (c : Cont X W σ s (callBM ox m ds en) (relE X) Q) : ∃ d d' r, ox.get en = .ok d en ∧ bmeth d m ds = some (d', r) ∧ Cont X W σ s (M.bind (if d.own then putBack ox d' else M.pure ()) (fun _ => M.pure r) en) (relE X) Q := by
  unfold callBM at c
  obtain ⟨d, h1, c⟩ := get_inv c
  cases h : bmeth d m ds with
  | none => rw [h] at c; exact False.elim c
  | some p => rw [h] at c; exact ⟨d, p.1, p.2, h1, h, c⟩
/-- a list rewritten, with an answer -/
theorem lst_fin {W : WX} {ox : Opd} {en : Env} {xs : List D} {d' : List D} {ys : List V} {r : D} {y : V} {A B : List Addr} {Q : VK} (ok : Ok3 ⟨Fz, H, A ++ B⟩) (re : RE X.K X.mg Fz H σ en A) (rx : relO X σ Fz H x ox B) (h : ox.get en = .ok (.lst true xs) en)
    (c : Cont X W σ ⟨Fz, H, A ++ B⟩ (M.bind (putBack ox (.lst true d')) (fun _ => M.pure r) en) (relE X) Q) : ∃ l vs, x = .ref l ∧ H l = some (.lst vs) ∧ RFs X.K X.mg Fz vs xs ∧ ∀ ys y, RFs X.K X.mg Fz ys d' → RF X.K X.mg Fz y r → Q y (upd H l (.lst ys)) := by
  obtain ⟨C, r1, sb, put⟩ := opd_own ok re rx h
  cases r1 with
  | sh r => cases r
  | @lst l vs _ h1 t =>
    refine ⟨l, vs, rfl, h1, t, fun ys y ty ry => ?_⟩
    have hl : l ∈ A ++ B := sb l (by simp)
    obtain ⟨ok2, st⟩ := upd_own (o := .lst ys) ok hl
    obtain ⟨en', e1, re2⟩ := put (.lst true d') (upd H l (.lst ys)) (fun a n => upd_ne fun z => n (by simp [z])) (.lst upd_same ty)
    have c' : Cont X W σ ⟨Fz, H, A ++ B⟩ ((putBack ox (.lst true d') en).bind fun _ e => R.ok r e) (relE X) Q := c
    rw [e1] at c'
    exact c' y Fz _ A [] (by simpa using ok2.left) re2 (.sh ry) (st.sub (A' := A ++ []) fun a h => by simp at h ⊢; exact .inl h)
theorem mt_bm {m : Str} (hu : X.A.units + 1 < PySem.cLine) (hm : m = "append" ∨ m = "extend" ∨ m = "get" ∨ m = "pop") (pins : List (Addr × Obj)) (s : Shared) (xs : List V) (v : Value) (us : List Value) (Q : VK) (I : Inv X pins σ H s) (rx : L2.RelV x v) (rv : L2.Vals xs us)
    (h : rBM X σ m x xs H Q) : PySem.wpAny (PySem.model X.prog X.w) X.A (PySem.call (.builtin (bmT m ++ "." ++ (if m = "append" then "append" else if m = "extend" then "extend" else if m = "get" then "get" else "pop"))) (v :: us)) (L2.EP X pins σ Q) X.xe s := by
  obtain ⟨Fz, ox, en, A, B, ds, W, ok, re, ro, t, c⟩ := h
  obtain ⟨d, d', r, h1, h2, c⟩ := bm_inv c
  rcases hm with rfl | rfl | rfl | rfl
  · have e1 : ∃ zs z, d = .lst true zs ∧ ds = [z] ∧ zs.length < LINE ∧ d' = .lst true (zs ++ [z.frz]) ∧ r = .non := by
      unfold bmeth at h2
      split at h2
      · rename_i zs m z
        rw [if_pos rfl] at h2
        split at h2
        · cases h2; exact ⟨_, _, rfl, rfl, by assumption, rfl, rfl⟩
        · cases h2
      · rw [if_neg (by decide)] at h2; cases h2
      · rw [if_neg (by decide)] at h2; cases h2
      · rw [if_neg (by decide)] at h2; cases h2
      · cases h2
    obtain ⟨zs, z, rfl, rfl, hz, rfl, rfl⟩ := e1
    obtain ⟨l, vs, rfl, hl, tz, fin⟩ := lst_fin (ys := []) (y := .non) ok re ro h1 c
    cases t with
    | cons rz t =>
      cases t
      rename_i vz
      have ez : z.frz = z := by cases rz <;> rfl
      rw [ez] at fin
      exact L2.mt_append pins s σ H _ _ v us Q I rx rv ⟨l, vs, vz, rfl, rfl, hl, by rw [tz.len, ← line_eq]; exact hz, fin _ _ (tz.app (.cons rz .nil)) .non⟩
  · have e1 : ∃ zs ws o, d = .lst true zs ∧ ds = [.lst o ws] ∧ zs.length + ws.length ≤ LINE ∧ d' = .lst true (zs ++ ws) ∧ r = .non := by
      unfold bmeth at h2
      split at h2
      · rename_i zs m z
        rw [if_neg (by decide), if_pos rfl] at h2
        split at h2
        · split at h2
          · cases h2; exact ⟨_, _, _, rfl, rfl, by assumption, rfl, rfl⟩
          · cases h2
        · cases h2
      · rw [if_neg (by decide)] at h2; cases h2
      · rw [if_neg (by decide)] at h2; cases h2
      · rw [if_neg (by decide)] at h2; cases h2
      · cases h2
    obtain ⟨zs, ws, o, rfl, rfl, hz, rfl, rfl⟩ := e1
    obtain ⟨l, vs, rfl, hl, tz, fin⟩ := lst_fin (ys := []) (y := .non) ok re ro h1 c
    cases t with
    | cons rz t =>
      cases t
      cases rz with
      | lst hb tw =>
        exact L2.mt_extend pins s σ H _ _ v us Q I rx rv ⟨l, _, vs, _, rfl, rfl, hl, ok.sub _ _ hb, by rw [tz.len, tw.len, ← line_eq]; exact hz, fin _ _ (tz.app tw) .non⟩
  · have e1 : ∃ o ks zs k, d = .dct o ks zs ∧ d' = d ∧ ((∃ q z, ds = [q, z] ∧ q.key = some k ∧ r = (dictGet k ks zs).getD z) ∨ (∃ q, ds = [q] ∧ q.key = some k ∧ r = (dictGet k ks zs).getD .non)) := by
      unfold bmeth at h2
      split at h2
      · rw [if_neg (by decide), if_neg (by decide)] at h2; cases h2
      · rw [if_neg (by decide)] at h2; cases h2
      · rw [if_pos rfl] at h2
        obtain ⟨k, hk, e⟩ := Option.map_eq_some_iff.mp h2
        cases e
        exact ⟨_, _, _, k, rfl, rfl, .inl ⟨_, _, rfl, hk, rfl⟩⟩
      · rw [if_pos rfl] at h2
        obtain ⟨k, hk, e⟩ := Option.map_eq_some_iff.mp h2
        cases e
        exact ⟨_, _, _, k, rfl, rfl, .inr ⟨_, rfl, hk, rfl⟩⟩
      · cases h2
    obtain ⟨o, ks, zs, k, rfl, rfl, e1⟩ := e1
    obtain ⟨C, r1, sb, put⟩ := opd_own ok re ro h1
    obtain ⟨ad, vs, rfl, hl, ea, tz⟩ := r1.dct' ok.sub
    obtain ⟨g1, g2⟩ := valV_zip (k := k) (ks := ks) tz
    have q0 : ∀ y, RF X.K X.mg Fz y r → Q y H := fun y ry => by
      have c' : ∃ en', Cont X W σ ⟨Fz, H, A ++ B⟩ (R.ok r en') (relE X) Q ∧ RE X.K X.mg Fz H σ en' A := by
        cases o with
        | true =>
          obtain ⟨en', e2, re2⟩ := put (.dct true ks zs) H (fun _ _ => rfl) r1
          have c2 : Cont X W σ ⟨Fz, H, A ++ B⟩ ((putBack ox (.dct true ks zs) en).bind fun _ e => R.ok r e) (relE X) Q := c
          rw [e2] at c2
          exact ⟨en', c2, re2⟩
        | false => exact ⟨en, c, re⟩
      obtain ⟨en', c', re'⟩ := c'
      exact c' y Fz H A [] (by simpa using ok.left) re' (.sh ry) ((Step.refl _).sub fun a h => by simp at h ⊢; exact .inl h)
    have rd : L2.DGet H ad (L2.kV k) (L2.valV (ks.zip vs) k) := L2.DGet.k ea
    cases (show v = Value.ref ad from rx)
    rcases e1 with ⟨q, z, rfl, hk, rfl⟩ | ⟨q, rfl, hk, rfl⟩
    · cases t with
      | cons rq t => cases t with
        | cons rz t =>
          cases t
          obtain rfl := rq.key hk
          obtain ⟨u1, u2, rfl, ru1, ru2⟩ := L2.Vals.two rv
          refine L2.d_get2 hu I rd ru1 ru2 fun w' s' I' rw' => ⟨_, H, I', rw', ?_⟩
          cases hg : dictGet k ks zs with
          | none => rw [g2 hg]; rw [hg] at q0; exact q0 _ rz
          | some dd =>
            obtain ⟨vv, m1, m2⟩ := g1 dd hg
            rw [m1]; rw [hg] at q0; exact q0 _ m2
    · cases t with
      | cons rq t =>
        cases t
        obtain rfl := rq.key hk
        obtain ⟨u1, rfl, ru1⟩ := L2.Vals.one rv
        refine L2.d_get1 hu I rd ru1 fun w' s' I' rw' => ⟨_, H, I', rw', ?_⟩
        cases hg : dictGet k ks zs with
        | none => rw [g2 hg]; rw [hg] at q0; exact q0 _ .non
        | some dd =>
          obtain ⟨vv, m1, m2⟩ := g1 dd hg
          rw [m1]; rw [hg] at q0; exact q0 _ m2
  · have e1 : ∃ zs z, d = .lst true zs ∧ ds = [] ∧ zs.getLast? = some z ∧ d' = .lst true zs.dropLast ∧ r = z := by
      unfold bmeth at h2
      split at h2
      · rw [if_neg (by decide), if_neg (by decide)] at h2; cases h2
      · rw [if_pos rfl] at h2
        split at h2
        · cases h2; exact ⟨_, _, rfl, rfl, by assumption, rfl, rfl⟩
        · cases h2
      · rw [if_neg (by decide)] at h2; cases h2
      · rw [if_neg (by decide)] at h2; cases h2
      · cases h2
    obtain ⟨zs, z, rfl, rfl, hz, rfl, rfl⟩ := e1
    obtain ⟨l, vs, rfl, hl, tz, fin⟩ := lst_fin (ys := []) (y := .non) ok re ro h1 c
    cases t
    have hz2 : zs[zs.length - 1]? = some r := by rw [← List.getLast?_eq_getElem?]; exact hz
    obtain ⟨vz, m1, m2⟩ := tz.at hz2
    have dl : RFs X.K X.mg Fz vs.dropLast zs.dropLast := by
      rw [List.dropLast_eq_take, List.dropLast_eq_take, tz.len]
      exact tz.take _
    exact L2.mt_pop pins s σ H _ _ v us Q I rx rv ⟨l, vs, vz, rfl, rfl, hl, by rw [tz.len]; exact m1, fin _ _ dl m2⟩
end
end PL

-- S17
set_option Elab.async false
set_option linter.all false
set_option maxRecDepth 100000
set_option maxHeartbeats 1000000
namespace PL
open PySem (Str Addr Value Shared Expr Stmt Pos Scope Obj Sem Operator CmpOp binaryOp compareOp inplaceOp sizeLine PyData unaryOp)
open L2 (V HO Hp SqL SqT upd upd_same upd_ne St VK TE TT TA XK WX PT PW PA Inv Cx R2 OpR rI rI0 tOp Room CallR FnR)
section
variable {X : Cx} {W : WX} {G : Prog} {cf : CF} {a b c e : Expr} {pa pb pc pe po : PE} {pos apos cpos : Pos} {es : List Expr} {ps : List PE} {Fz H : Hp} {x v : V} {σ : St} {o : Expr} {m : Str}
theorem ty_bm {d : D} {B : List Addr} (sub : ∀ a o, Fz a = some o → H a = some o) (r : RO X.K X.mg Fz H x d B) (hm : m = "append" ∨ m = "extend" ∨ m = "get" ∨ m = "pop") (h : bmOk m d = true) : L2.tyV X.K (bmT m) x H := by
  unfold bmOk at h
  split at h
  · obtain ⟨a, xs, rfl, q, t⟩ := r.lst' sub
    refine .inl ⟨?_, _, SqL.of q⟩
    rcases hm with rfl | rfl | rfl | rfl
    · decide
    · decide
    · exact absurd h (by decide)
    · decide
  · obtain ⟨a, xs, rfl, l, q, t⟩ := r.dct' sub
    refine .inr (.inr (.inl ⟨?_, .inl ⟨_, q⟩⟩))
    rcases hm with rfl | rfl | rfl | rfl
    · exact absurd h (by decide)
    · exact absurd h (by decide)
    · decide
    · exact absurd h (by decide)
  · cases h
def tBMD (X : Cx) (m : Str) (to : TE) (t : TA) : TE := fun σ H Q => to σ H fun x H1 => L2.tyV X.K (bmT m) x H1 ∧ t σ H1 fun vs H2 => rBM X σ m x vs H2 Q
def Few (X : Cx) (es : List Expr) (cpos : Pos) : Prop := ((PySem.backTo cpos (PySem.starEach es X.env)).all (fun x => !x.1) && (PySem.backToKw cpos (PySem.keywordEach [] X.env)).all (fun x => x.1.isSome)
      && decide (es.length + ([] : List PySem.Keyword).length + (if ([] : List PySem.Keyword).isEmpty then 0 else 1) < 30)) = true
theorem few_of (h : es.all notStar = true) (hl : es.length < 30) : Few X es cpos := by
  have z : ∀ {es : List Expr}, es.all notStar = true → (PySem.backTo cpos (PySem.starEach es X.env)).all (fun x => !x.1) = true := fun {es} h => by
    have n := noStars h cpos X.env
    rw [List.all_eq_true]
    intro p hp
    have := List.any_eq_false.mp n p hp
    simpa using this
  unfold Few
  rw [z h]
  have : decide (es.length + ([] : List PySem.Keyword).length + (if ([] : List PySem.Keyword).isEmpty then 0 else 1) < 30) = true := by simpa using hl
  rw [this]
  rfl
theorem bm_ids {m : Str} (hm : m = "append" ∨ m = "extend" ∨ m = "get" ∨ m = "pop") : ∃ id, (bmT m ++ "." ++ (if m = "append" then "append" else if m = "extend" then "extend" else if m = "get" then "get" else "pop")) = id ∧ PySem.PlainAttrs (bmT m) ∧ PySem.Slot (bmT m) m id ∧
    PySem.typeOf (.builtin id) = pure (.type "method_descriptor") := by
  rcases hm with rfl | rfl | rfl | rfl
  · exact ⟨"list.append", by decide, PySem.F.plainAttrs_list, PySem.F.slot_list_append, PySem.F.type_list_append⟩
  · exact ⟨"list.extend", by decide, PySem.F.plainAttrs_list, PySem.F.slot_list_extend, PySem.F.type_list_extend⟩
  · exact ⟨"dict.get", by decide, PySem.F.plainAttrs_dict, PySem.F.slot_dict_get, PySem.F.type_dict_get⟩
  · exact ⟨"list.pop", by decide, PySem.F.plainAttrs_list, PySem.F.slot_list_pop, PySem.F.type_list_pop⟩
theorem pe_bmD {to : TE} {t : TA} (hu : X.A.units + 1 < PySem.cLine) (hm : m = "append" ∨ m = "extend" ∨ m = "get" ∨ m = "pop") (ho : L2.PE X o to) (ha : PA X (e :: es) t) (hbase : PySem.attributeBase o m X.env (PySem.eval o X.env) = PySem.eval o X.env)
    (hst : (e :: es).all notStar = true) (hl : (e :: es).length < 30) (hline : (apos.endLine == cpos.line) = true) : L2.PE X (.Call (.Attribute o m apos) (e :: es) [] cpos) (tBMD X m to t) := by
  have few := few_of (X := X) (cpos := cpos) hst hl
  rw [List.all_cons, Bool.and_eq_true] at hst
  have hs := starEach_cons hst.1 es X.env
  have hplain := noStars hst.2 cpos X.env
  obtain ⟨id, ei, i1, i2, i3⟩ := bm_ids hm
  refine ⟨fun pins s σ H Q I h => ?_⟩
  refine PySem.wpAny_Call_method_late hbase few hline rfl (L2.thn (ho.run pins s σ H _ I h) fun v s1 ⟨x, H1, I1, r1, ty, q1⟩ => ?_)
  obtain ⟨h1, h2⟩ := L2.tyV_is I1 r1 ty
  refine ⟨bmT m, id, i1, i2, i3, h1, h2, ?_⟩
  have hA := ha.run cpos pins s1 σ H1 _ I1 q1
  rw [hs] at hA ⊢
  refine PySem.Calls.callWith_builtin (by show (false || (PySem.backTo cpos (PySem.starEach es X.env)).any (·.1)) = false; rw [hplain]; rfl) (PySem.Calls.evalArgs_plain ?_)
  refine L2.thn hA fun us s2 ⟨vs, H2, I2, r2, q2⟩ => ?_
  rw [← ei]
  exact mt_bm hu hm pins s2 vs v us Q I2 r1 r2 q2
theorem pe_bmD0 {to : TE} (hu : X.A.units + 1 < PySem.cLine) (hm : m = "append" ∨ m = "extend" ∨ m = "get" ∨ m = "pop") (ho : L2.PE X o to) (hbase : PySem.attributeBase o m X.env (PySem.eval o X.env) = PySem.eval o X.env)
    (hline : (apos.endLine == cpos.line) = true) : L2.PE X (.Call (.Attribute o m apos) [] [] cpos) (tBMD X m to L2.tNil) := by
  obtain ⟨id, ei, i1, i2, i3⟩ := bm_ids hm
  refine ⟨fun pins s σ H Q I h => ?_⟩
  refine PySem.wpAny_Call_method0_late hbase hline (L2.thn (ho.run pins s σ H _ I h) fun v s1 ⟨x, H1, I1, r1, ty, q1⟩ => ?_)
  obtain ⟨h1, h2⟩ := L2.tyV_is I1 r1 ty
  refine ⟨bmT m, id, i1, i2, i3, h1, h2, PySem.Calls.callWith_builtin rfl (PySem.evalArgs_none ?_)⟩
  rw [← ei]
  exact mt_bm hu hm pins s1 [] v [] Q I1 r1 .nil q1
theorem bm_imp (hm : m = "append" ∨ m = "extend" ∨ m = "get" ∨ m = "pop") : ∀ σ H Q, tE X W (evE G cf (.bmeth po m ps)) σ H Q → tBMD X m (tO X W (opd po (evE G cf po))) (tM X W (evEs G cf ps) (relFs X)) σ H Q := fun σ H Q q => by
  simp only [evE] at q
  refine one_opd (R := fun x H1 => L2.tyV X.K (bmT m) x H1 ∧ tM X W (evEs G cf ps) (relFs X) σ H1 fun vs H2 => rBM X σ m x vs H2 Q) q fun x ox Fz H A B e ok re rx gx c => ?_
  obtain ⟨d, h1, c⟩ := get_inv c
  obtain ⟨C1, r1, _⟩ := gx h1
  by_cases w : bmOk m d = true
  · rw [if_pos w] at c
    refine ⟨ty_bm ok.sub r1 hm w, ?_⟩
    refine tM_mono (tM_next (Re := relFs X) ok re c) fun vs H2 ⟨ds, Fz2, A2, B2, e2, ok2, re2, rs, st, c2⟩ => ?_
    obtain ⟨rs, rfl⟩ := rs
    simp only [List.append_nil] at ok2 c2
    exact ⟨Fz2, ox, e2, A2, B, ds, W, ok2, re2, rx.up st.fz (held ok st), rs, c2⟩
  · rw [if_neg w] at c; exact False.elim c
theorem ge_bmeth (hu : X.A.units + 1 < PySem.cLine) (hm : m = "append" ∨ m = "extend" ∨ m = "get" ∨ m = "pop") (ho : GE X W G cf o po) (ha : GA X W G cf (e :: es) ps) (hbase : PySem.attributeBase o m X.env (PySem.eval o X.env) = PySem.eval o X.env)
    (hst : (e :: es).all notStar = true) (hl : (e :: es).length < 30) (hline : (apos.endLine == cpos.line) = true) : GE X W G cf (.Call (.Attribute o m apos) (e :: es) [] cpos) (.bmeth po m ps) :=
  .of (PE.imp (pe_bmD hu hm ho.opd ha.frz hbase hst hl hline) (bm_imp hm)) rfl
theorem ge_bmeth0 (hu : X.A.units + 1 < PySem.cLine) (hm : m = "append" ∨ m = "extend" ∨ m = "get" ∨ m = "pop") (ho : GE X W G cf o po) (hbase : PySem.attributeBase o m X.env (PySem.eval o X.env) = PySem.eval o X.env)
    (hline : (apos.endLine == cpos.line) = true) : GE X W G cf (.Call (.Attribute o m apos) [] [] cpos) (.bmeth po m []) :=
  .of (PE.imp (pe_bmD0 hu hm ho.opd hbase hline) fun σ H Q q => by
    have q1 := bm_imp hm σ H Q q
    exact tM_mono q1 fun x H1 ⟨h1, h2⟩ => ⟨h1, tM_pure0 (W := W) (σ := σ) (d := []) (Re := relFs X) (by simpa only [evEs] using h2) fun _ => ⟨RFs.nil, rfl⟩⟩) rfl
/-! ### methods of own classes -/
def tMe (X : Cx) (W : WX) (j : Nat) (m : Str) (ta : TE) (t : TA) : TE := fun σ H Q => ta σ H fun x H1 => ∃ a C dx fs, x = .ref a ∧ H1 a = some (.ins C dx fs) ∧ fs.lookup m = none ∧ L2.Cls X.K C ∧
  ((∃ g sp, L2.Meth X.K C m g ∧ FnR X.prog X.w X.K X.mg X.base (L2.CX X.prog X.w) j g sp ∧ t σ H1 fun vs H2 => sp (x :: vs) H2 Q (L2.WE W σ)) ∨
    (∃ p g sp, ClX.CInst X.K C m p g ∧ FnR X.prog X.w X.K X.mg X.base (L2.CX X.prog X.w) j g sp ∧ t σ H1 fun vs H2 => sp (.ref C :: vs) H2 Q (L2.WE W σ)))
theorem run_cmS {pins : List (Addr × Obj)} {s : Shared} {j : Nat} {g C q : Addr} {sp : L2.Sp} {Q : VK} {us : List Value} {vs : List V} (F : FnR X.prog X.w X.K X.mg X.base (L2.CX X.prog X.w) j g sp) (hr : Room j X.A) (tk : L2.Takes X W)
    (I : Inv X ((q, PySem.W.methodObj (.ref g) (.ref C)) :: pins) σ H s) (r : L2.Vals vs us) (h : sp (.ref C :: vs) H Q (L2.WE W σ)) : PySem.wpAny (PySem.model X.prog X.w) X.A (PySem.call (.ref q) us) (L2.EP X pins σ Q) X.xe s :=
  L2.thn (PySem.wpAny_call (PySem.W.method_call (ClX.pin_at I) (code_fn (us := .ref C :: us) (vs := .ref C :: vs) F hr tk I (.cons rfl r) h))) fun _ _ y => ClX.unpinE y
/-- the call's node for a method whose receiver is in place -/
def MTree (X : Cx) (o : Expr) (m : Str) (apos : Pos) (es : List Expr) (pos : Pos) : Prop := ∃ pl : Sem Bool, PySem.eval (.Call (.Attribute o m apos) es [] pos) X.env = (do
      let ov ← PySem.eval o X.env
      PySem.standAt apos.atName
      let (f, first) ← PySem.holding [ov] (PySem.getMethod ov m pl)
      PySem.callWith pos f first (PySem.backTo pos (PySem.starEach es X.env)) (PySem.backToKw pos (PySem.keywordEach [] X.env)))
theorem pe_me {j : Nat} {to : TE} {t : TA} (ho : L2.PE X o to) (hr : Room j X.A) (tk : L2.Takes X W) (ha : PA X (e :: es) t) (hst : (e :: es).all notStar = true) (ht : MTree X o m apos (e :: es) pos) :
    L2.PE X (.Call (.Attribute o m apos) (e :: es) [] pos) (tMe X W j m to t) := by
  rw [List.all_cons, Bool.and_eq_true] at hst
  have hs := starEach_cons hst.1 es X.env
  have hpl := noStars hst.2 pos X.env
  obtain ⟨pl, ht⟩ := ht
  refine ⟨fun pins s σ H Q I h => ?_⟩
  refine PySem.W.methodCall_KW (pl := pl) (L2.thn (ho.run pins s σ H _ I h) fun u s1 ⟨x, H1, I1, rx, a, C, dx, fs, ex, ea, l, c, q⟩ => ?_) ht
  subst ex
  obtain rfl : u = Value.ref a := rx
  rcases q with ⟨g, sp, hm, F, q⟩ | ⟨p, g, sp, hc, F, q⟩
  · refine L2.getmeth_ok I1 ea c hm l ?_
    refine PySem.W.callWith_K (first := [.ref a]) (h₀ := X.base) I.ok.mod.kin hm.kp (L2.thn (ha.run pos pins s1 σ H1 _ I1 q) fun us s2 ⟨vs, H2, I2, r, q2⟩ => ⟨I2.kIn, ?_⟩) hs hpl
    exact PySem.wpAny_call (code_fn (us := .ref a :: us) (vs := .ref a :: vs) F hr tk I2 (.cons rfl r) q2)
  · obtain ⟨mA, O, rr, _, _, _⟩ := L2.ins_get I1.hok ea
    have hn : mA m = none := L2.RelO.none_of (by rw [← l]; exact rr m)
    obtain ⟨od, J, hl⟩ := O.look
    refine ClX.getmethim_ok I1 J (by rw [hl m, hn]) hc fun s2 I2 => ?_
    refine ClX.callwith_cm I2 (ClX.base_none I1 (Nat.le_refl _)) hc.fi (L2.thn (ha.run pos _ s2 σ H1 _ I2 q) fun us s3 ⟨vs, H2, I3, rv, q2⟩ => ⟨⟨ClX.pin_at I3, I3.kIn⟩, ?_⟩) hs hpl
    exact run_cmS F hr tk I3 rv q2
def tMe0 (X : Cx) (W : WX) (j : Nat) (m : Str) (ta : TE) : TE := fun σ H Q => ta σ H fun x H1 => ∃ a C dx fs, x = .ref a ∧ H1 a = some (.ins C dx fs) ∧ fs.lookup m = none ∧ L2.Cls X.K C ∧
  ∃ g sp, L2.Meth X.K C m g ∧ FnR X.prog X.w X.K X.mg X.base (L2.CX X.prog X.w) j g sp ∧ sp [x] H1 Q (L2.WE W σ)
theorem pe_me0 {j : Nat} {to : TE} (ho : L2.PE X o to) (hr : Room j X.A) (tk : L2.Takes X W) (ht : MTree X o m apos [] pos) :
    L2.PE X (.Call (.Attribute o m apos) [] [] pos) (tMe0 X W j m to) := by
  obtain ⟨pl, ht⟩ := ht
  refine ⟨fun pins s σ H Q I h => ?_⟩
  refine PySem.W.methodCall_KW (pl := pl) (L2.thn (ho.run pins s σ H _ I h) fun u s1 ⟨x, H1, I1, rx, a, C, dx, fs, ex, ea, l, c, g, sp, hm, F, q⟩ => ?_) ht
  subst ex
  obtain rfl : u = Value.ref a := rx
  refine L2.getmeth_ok I1 ea c hm l ?_
  exact PySem.W.callWith_K0 (first := [.ref a]) I1.kIn hm.kp (PySem.wpAny_call (code_fn (us := [.ref a]) (vs := [.ref a]) F hr tk I1 (.cons rfl .nil) q))
/-- the instance that a method is asked of -/
theorem methK_inv {d : D} {r : Bool × FnKey × Str} {B : List Addr} {adr : FnKey → Addr} (pf : PF X.K X.mg G adr) (sub : ∀ a o, Fz a = some o → H a = some o) (r1 : RO X.K X.mg Fz H x d B) (h : methK G d m = some r) :
    ∃ a C dx fs f, x = .ref a ∧ H a = some (.ins C dx fs) ∧ fs.lookup m = none ∧ L2.Cls X.K C ∧ X.mg r.2.2 = some (.ref C) ∧ G.fns.lookup r.2.1 = some f ∧
      ((r.1 = true ∧ G.meth.lookup (r.2.2, m) = some (.inst, r.2.1)) ∨ (r.1 = false ∧ G.meth.lookup (r.2.2, m) = some (.clsm, r.2.1))) := by
  unfold methK at h
  split at h
  · rename_i o c fs ds
    obtain ⟨a, C, dx, xs, rfl, hl, ea, gC, t⟩ := r1.ins' sub
    split at h
    · cases h
    · rename_i hc
      have ln : (fs.zip xs).lookup m = none := by
        have hc' : m ∉ fs := by simpa using hc
        rw [List.lookup_eq_none_iff]
        intro p hp
        have := (List.of_mem_zip hp).1
        simp only [bne_iff_ne, beq_eq_false_iff_ne]
        intro z
        exact hc' (z ▸ this)
      cases hm : G.meth.lookup (c, m) with
      | none => rw [hm] at h; cases h
      | some kk =>
        obtain ⟨kd, key⟩ := kk
        rw [hm] at h
        obtain ⟨C', e1, k1⟩ := pf.cls _ _ _ hm
        rw [gC] at e1
        cases e1
        cases kd <;> dsimp only at h <;> try cases h
        · by_cases w : (G.fns.lookup key).isSome = true
          · rw [if_pos w] at h
            cases h
            obtain ⟨f, hf⟩ := Option.isSome_iff_exists.mp w
            exact ⟨a, C, dx, _, f, rfl, ea, ln, k1, gC, hf, .inl ⟨rfl, hm⟩⟩
          · rw [if_neg w] at h; cases h
        · by_cases w : (G.fns.lookup key).isSome = true
          · rw [if_pos w] at h
            cases h
            obtain ⟨f, hf⟩ := Option.isSome_iff_exists.mp w
            exact ⟨a, C, dx, _, f, rfl, ea, ln, k1, gC, hf, .inr ⟨rfl, hm⟩⟩
          · rw [if_neg w] at h; cases h
  · cases h
theorem ge_meth {j : Nat} {adr : FnKey → Addr} (pf : PF X.K X.mg G adr) (hF : ∀ k f, G.fns.lookup k = some f → FnF X cf j k f.ps.length (adr k)) (hr : Room j X.A) (tk : L2.Takes X W) (ho : GE X W G cf o po) (ha : GA X W G cf (e :: es) ps)
    (hst : (e :: es).all notStar = true) (ht : MTree X o m apos (e :: es) pos) : GE X W G cf (.Call (.Attribute o m apos) (e :: es) [] pos) (.meth po m ps) := by
  refine .of (PE.imp (pe_me ho.opd hr tk ha.ops hst ht) fun σ H Q q => ?_) rfl
  simp only [evE] at q
  refine one_opd q fun x ox Fz H A B e ok re rx gx c => ?_
  obtain ⟨d, h1, c⟩ := get_inv c
  obtain ⟨C1, r1, _⟩ := gx h1
  cases hk : methK G d m with
  | none => rw [hk] at c; exact False.elim c
  | some r =>
    rw [hk] at c
    obtain ⟨i, key, cn⟩ := r
    obtain ⟨a, C, dx, fs, f, rfl, ea, ln, cl, gC, hf, hc⟩ := methK_inv pf ok.sub r1 hk
    dsimp only at c gC hf hc
    refine ⟨a, C, dx, fs, rfl, ea, ln, cl, ?_⟩
    rcases hc with ⟨hi, hm⟩ | ⟨hi, hm⟩
    · subst hi
      refine .inl ⟨adr key, _, pf.inst _ _ _ hm C gC, hF key f hf, ?_⟩
      refine tM_mono (tM_next (Re := relOs X) ok re c) fun vs H2 ⟨os, Fz2, A2, B2, e2, ok2, re2, rs, st, c2⟩ => ?_
      obtain ⟨hl, c3⟩ := callX_inv hf c2
      have okp := ok2.perm (perm3 A2 B2 B)
      exact callO_sp (.cons (rx.up st.fz (held ok st)) rs) re2 okp hl (c3.from ((Step.refl _).perm (perm3 A2 B2 B)))
    · subst hi
      obtain ⟨p, hp⟩ := (pf.clsm _ _ _ hm C gC).2
      refine .inr ⟨p, adr key, _, hp, hF key f hf, ?_⟩
      refine tM_mono (tM_next (Re := relOs X) ok re c) fun vs H2 ⟨os, Fz2, A2, B2, e2, ok2, re2, rs, st, c2⟩ => ?_
      obtain ⟨hl, c3⟩ := callX_inv hf c2
      exact callO_sp (B := [] ++ B2) (.cons (o := .val (.glb cn)) (.sh (.glb gC)) rs) re2 (by simpa using ok2.left) hl (c3.from ((Step.refl _).sub fun a h => List.mem_append_left _ (by simpa using h)))
theorem ge_meth0 {j : Nat} {adr : FnKey → Addr} (pf : PF X.K X.mg G adr) (hF : ∀ k f, G.fns.lookup k = some f → FnF X cf j k f.ps.length (adr k)) (hr : Room j X.A) (tk : L2.Takes X W) (ho : GE X W G cf o po)
    (hni : ∀ c k, G.meth.lookup (c, m) ≠ some (.clsm, k)) (ht : MTree X o m apos [] pos) : GE X W G cf (.Call (.Attribute o m apos) [] [] pos) (.meth po m []) := by
  refine .of (PE.imp (pe_me0 ho.opd hr tk ht) fun σ H Q q => ?_) rfl
  simp only [evE] at q
  refine one_opd q fun x ox Fz H A B e ok re rx gx c => ?_
  obtain ⟨d, h1, c⟩ := get_inv c
  obtain ⟨C1, r1, _⟩ := gx h1
  cases hk : methK G d m with
  | none => rw [hk] at c; exact False.elim c
  | some r =>
    rw [hk] at c
    obtain ⟨i, key, cn⟩ := r
    obtain ⟨a, C, dx, fs, f, rfl, ea, ln, cl, gC, hf, hc⟩ := methK_inv pf ok.sub r1 hk
    dsimp only at c gC hf hc
    refine ⟨a, C, dx, fs, rfl, ea, ln, cl, ?_⟩
    rcases hc with ⟨hi, hm⟩ | ⟨hi, hm⟩
    · subst hi
      refine ⟨adr key, _, pf.inst _ _ _ hm C gC, hF key f hf, ?_⟩
      have c' : Cont X W σ ⟨Fz, H, A ++ B⟩ (callX G cf key [ox] e) (relE X) Q := by simpa [evOs] using c
      obtain ⟨hl, c3⟩ := callX_inv hf c'
      exact callO_sp (B := B ++ []) (.cons rx .nil) re (by simpa using ok) hl (by simpa using c3)
    · exact (hni _ _ hm).elim
/-- Class.m(..), a classmethod -/
theorem ge_smeth {j : Nat} {adr : FnKey → Addr} {cn : Str} {key : FnKey} {C : Addr} {p : Pos} (pf : PF X.K X.mg G adr) (hF : ∀ k f, G.fns.lookup k = some f → FnF X cf j k f.ps.length (adr k)) (hr : Room j X.A) (tk : L2.Takes X W)
    (hm : G.meth.lookup (cn, m) = some (.clsm, key)) (hk : (G.fns.lookup key).isSome = true) (gC : X.mg cn = some (.ref C)) (hg : L2.Gl X cn) (hd : (cn == ("__debug__" : Str)) = false) (ha : GA X W G cf (e :: es) ps)
    (hst : (e :: es).all notStar = true) (ht : MTree X (.Name cn p) m apos (e :: es) pos) : GE X W G cf (.Call (.Attribute (.Name cn p) m apos) (e :: es) [] pos) (.smeth cn m ps) := by
  obtain ⟨⟨mc, pp, h1, h2⟩, _⟩ := pf.clsm _ _ _ hm C gC
  obtain ⟨f, hf⟩ := Option.isSome_iff_exists.mp hk
  have hst' := hst
  rw [List.all_cons, Bool.and_eq_true] at hst'
  have hs := starEach_cons hst'.1 es X.env
  have hpl := noStars hst'.2 pos X.env
  have base : L2.PE X (.Call (.Attribute (.Name cn p) m apos) (e :: es) [] pos) (fun σ H Q => tM X W (evOs G cf ps) (relOs X) σ H fun vs H2 => spF X.K X.mg f.ps.length (cf key) (.ref C :: vs) H2 Q (L2.WE W σ)) := by
    obtain ⟨pl, ht⟩ := ht
    refine ⟨fun pins s σ H Q I h => ?_⟩
    refine PySem.W.methodCall_KW (pl := pl) (L2.thn ((L2.pe_glob (pos := p) hg gC (v := .ref C) rfl hd).run pins s σ H (fun v H1 => v = .ref C ∧ H1 = H) I ⟨rfl, rfl⟩) fun u s1 ⟨v, H1, I1, r1, e1, e2⟩ => ?_) ht
    subst e1 e2
    cases r1
    refine ClX.getmethcm_ok I1 h1 h2 fun s2 I2 => ?_
    refine ClX.callwith_cm I2 (ClX.base_none I1 (Nat.le_refl _)) h2.fi (L2.thn (ha.ops.run pos _ s2 σ _ _ I2 h) fun us s3 ⟨vs, H2, I3, rv, q2⟩ => ⟨⟨ClX.pin_at I3, I3.kIn⟩, ?_⟩) hs hpl
    exact run_cmS (hF key f hf) hr tk I3 rv q2
  refine .of (PE.imp base fun σ H Q q => ?_) rfl
  simp only [evE, hm] at q
  refine tM_mono (tM_bind (Re := relOs X) q) fun vs H1 ⟨os, Fz, A, B, e, ok, re, rs, c⟩ => ?_
  obtain ⟨hl, c3⟩ := callX_inv hf c
  exact callO_sp (B := [] ++ B) (.cons (o := .val (.glb cn)) (.sh (.glb gC)) rs) re (by simpa using ok) hl (by simpa using c3)
/-! ### instances made -/
def tMk (X : Cx) (W : WX) (C : Addr) (sp : L2.Sp) (t : TA) : TE := fun σ H Q => t σ H fun vs H1 => ∀ x dx, H1 x = none → H1 dx = none → dx ≠ x →
  sp (.ref x :: vs) (upd (upd H1 dx (.own x)) x (.ins C dx [])) (fun v H2 => v = .non ∧ Q (.ref x) H2) (L2.WE W σ)
theorem run_mk {pins : List (Addr × Obj)} {s : Shared} {j : Nat} {C f : Addr} {sp : L2.Sp} {Q : VK} {us : List Value} {vs : List V} (M : L2.Mk X.K C f) (F : FnR X.prog X.w X.K X.mg X.base (L2.CX X.prog X.w) j f sp) (hr : Room (j + 1) X.A) (tk : L2.Takes X W)
    (I : Inv X pins σ H s) (r : L2.Vals vs us)
    (h : ∀ x dx, H x = none → H dx = none → dx ≠ x → sp (.ref x :: vs) (upd (upd H dx (.own x)) x (.ins C dx [])) (fun v H2 => v = .non ∧ Q (.ref x) H2) (L2.WE W σ)) :
    PySem.wpAny (PySem.model X.prog X.w) X.A (PySem.call (.ref C) us) (L2.EP X pins σ Q) X.xe s := by
  have hq := h (s.heap.objs.size + 1) s.heap.objs.size (I.hok.fresh (Nat.le_succ _)) (I.hok.fresh (Nat.le_refl _)) (Nat.ne_of_lt (Nat.lt_succ_self _))
  have I2 := L2.Inv.made (C := C) I
  refine PySem.wpAny_call (L2.make_map (f := f) I.kIn M.makes M.init (beq_iff_eq.mp M.fn) (PySem.codeAny_mono (F _ X.stack _ _ (Value.ref (s.heap.objs.size + 1) :: us) _ _ (L2.WE W σ) (hr.make C us []) (I2.env0.make C us [])
    (show L2.Vals (V.ref (s.heap.objs.size + 1) :: vs) (Value.ref (s.heap.objs.size + 1) :: us) from .cons rfl r) hq) fun z s' hz => ?_))
  match z, hz with
  | .error e, hz => exact L2.passAt tk σ pins _ _ e s' I2 hz
  | .ok (.ret u), hz =>
    obtain ⟨v, H', I3, rv, ev, q3⟩ := I2.after hz
    subst ev
    exact ⟨rv, ⟨V.ref (s.heap.objs.size + 1), H', I3, rfl, q3⟩⟩
  | .ok .next, hz => exact hz.elim
  | .ok .brk, hz => exact hz.elim
  | .ok .cont, hz => exact hz.elim
/-- new objects laid -/
theorem step_made {x dx C : Addr} {B : List Addr} (ok : Ok3 ⟨Fz, H, B⟩) (hx : H x = none) (hd : H dx = none) (ne : dx ≠ x) :
    Ok3 ⟨Fz, upd (upd H dx (.own x)) x (.ins C dx []), [x, dx] ++ B⟩ ∧ Step ⟨Fz, H, B⟩ ⟨Fz, upd (upd H dx (.own x)) x (.ins C dx []), [x, dx] ++ B⟩ ∧ (∀ a o, H a = some o → upd (upd H dx (.own x)) x (.ins C dx []) a = some o) := by
  have kp : ∀ a o, H a = some o → upd (upd H dx (.own x)) x (.ins C dx []) a = some o := fun a o e => by
    rw [upd_ne (L2.ne_of_none e hx), upd_ne (L2.ne_of_none e hd)]; exact e
  have nf : ∀ {p}, H p = none → Fz p = none := fun {p} h => by
    cases e : Fz p with
    | none => rfl
    | some o =>
      have this : H p = some o := ok.sub _ _ e
      rw [h] at this; cases this
  have nb : ∀ {p}, H p = none → p ∉ B := fun {p} h m => ok.dom p m h
  refine ⟨⟨fun a o e => kp a o (ok.sub a o e), ?_, fun a h => ?_, fun a h => ?_⟩, ⟨fun a o e _ => kp a o e, fun _ _ e => e, fun a h => ?_, fun _ _ e => .inl e, fun a h => ?_⟩, kp⟩
  · refine List.nodup_append.mpr ⟨by simpa using Ne.symm ne, ok.nd, fun a ha b hb z => ?_⟩
    subst z
    simp only [List.mem_cons, List.not_mem_nil, or_false] at ha
    rcases ha with rfl | rfl
    · exact nb hx hb
    · exact nb hd hb
  · show Fz a = none
    rcases List.mem_append.mp h with h | h
    · simp only [List.mem_cons, List.not_mem_nil, or_false] at h
      rcases h with rfl | rfl
      · exact nf hx
      · exact nf hd
    · exact ok.nf a h
  · show upd _ _ _ a ≠ none
    rcases List.mem_append.mp h with h | h
    · simp only [List.mem_cons, List.not_mem_nil, or_false] at h
      rcases h with rfl | rfl
      · rw [upd_same]; simp
      · rw [upd_ne ne, upd_same]; simp
    · have := ok.dom a h
      cases e : H a with
      | none => exact absurd e this
      | some o => rw [kp a o e]; simp
  · rcases List.mem_append.mp h with h | h
    · simp only [List.mem_cons, List.not_mem_nil, or_false] at h
      rcases h with rfl | rfl
      · exact .inr hx
      · exact .inr hd
    · exact .inl h
  · show upd _ _ _ a ≠ none
    cases e : H a with
    | none => exact absurd e h
    | some o => rw [kp a o e]; simp
theorem makeX_sp {cn : Str} {k : Cls} {key : FnKey} {f : Fn} {os : List Opd} {en : Env} {vs : List V} {A B : List Addr} {C : Addr} {Q : VK} (gC : X.mg cn = some (.ref C)) (r : OsR X σ Fz H vs os B) (re : RE X.K X.mg Fz H σ en A) (ok : Ok3 ⟨Fz, H, A ++ B⟩)
    (c : Cont X W σ ⟨Fz, H, A ++ B⟩ (makeX cf cn k key f os en) (relE X) Q) : ∀ x dx, H x = none → H dx = none → dx ≠ x →
      spF X.K X.mg f.ps.length (cf key) (.ref x :: vs) (upd (upd H dx (.own x)) x (.ins C dx [])) (fun v H2 => v = .non ∧ Q (.ref x) H2) (L2.WE W σ) := by
  intro x dx hx hd ne
  unfold makeX at c
  by_cases hl : os.length + 1 = f.ps.length
  · rw [if_pos hl] at c
    refine ⟨by rw [List.length_cons, r.len]; exact hl, ?_⟩
    cases q : getAll os en with
    | bad => rw [q] at c; exact False.elim c
    | exc x e1 => exact (getAll_exc q).elim
    | ok ds e1 =>
      obtain rfl := getAll_env q
      rw [q] at c
      dsimp only at c
      by_cases w : nodupN (ownSlots os e1) = true
      · rw [if_pos w] at c
        obtain ⟨A', B', R, p, rs, kk⟩ := call_args r re ok q w
        have okB : Ok3 ⟨Fz, H, B'⟩ := ((ok.perm p.symm).left).right
        obtain ⟨ok0, st0, kp⟩ := step_made (C := C) okB hx hd ne
        refine ⟨Fz, .ins true cn [] [] :: ds, [x, dx] ++ B', ok0, .cons (.ins (xs := []) rfl upd_same (by rw [upd_ne ne]; exact upd_same) gC .nil) (rs.up (fun _ _ e => e) fun a o _ e => kp a o e), ?_⟩
        cases z : cf key (.ins true cn [] [] :: ds) with
        | bad => rw [z] at c; exact c
        | ret d0 fin =>
          rw [z] at c
          intro v Fz1 H1 Af Br ok1 rf ro st
          cases rf with
          | no t => cases d0 <;> exact False.elim c
          | so r0 t =>
            cases d0 <;> try exact False.elim c
            rename_i d e2 C1 C2
            have eB : Br = [] ∧ v = .non := by cases ro with | sh ro => cases ro; exact ⟨rfl, rfl⟩
            obtain ⟨rfl, rfl⟩ := eB
            have pp : ((C1 ++ C2) ++ []).Perm (C2 ++ C1) := by rw [List.append_nil]; exact List.perm_append_comm
            obtain ⟨A'', r1, ok2, st2⟩ := back_ok (ds := ds) ok p kk (ok1.perm pp) t ((st0.trans st).perm pp)
            refine ⟨rfl, ?_⟩
            dsimp only at c
            by_cases fr : k.frz = true
            · rw [if_pos fr] at c
              obtain ⟨Fz2, rf2, st3, ok3⟩ := freeze_top (A := A'') (B := C1) (C := []) (by simpa using ok2) r0
              exact c (.ref x) Fz2 H1 A'' [] ok3 (r1.up st3.fz fun _ _ _ e => e) (.sh rf2) (st2.trans (by simpa using st3))
            · rw [if_neg fr] at c
              exact c (.ref x) Fz1 H1 A'' C1 ok2 r1 r0 st2
        | exc y fin =>
          rw [z] at c
          intro Fz1 H1 Af cls dy ok1 rf st rx
          have fin2 : ∀ {o fs C2 R'}, fin = o :: fs → RE X.K X.mg Fz1 H1 (vs.map some) fs C2 → (C2 ++ R').Perm Af → L2.WE W σ cls dy H1 := fun {o fs C2 R'} e t pp => by
            subst e
            dsimp only at c
            have ok2 : Ok3 ⟨Fz1, H1, C2 ++ []⟩ := by rw [List.append_nil]; exact (ok1.perm pp.symm).left
            have st2 : Step ⟨Fz, H, B'⟩ ⟨Fz1, H1, C2 ++ []⟩ := (st0.trans (st.perm pp.symm)).sub (A' := C2 ++ []) fun a h => by simp at h ⊢; exact .inl h
            obtain ⟨A'', r1, ok3, st3⟩ := back_ok (ds := ds) ok p kk ok2 t st2
            exact c Fz1 H1 A'' cls dy (by simpa using ok3) r1 (by simpa using st3) rx
          cases rf with
          | no t => exact fin2 (R' := []) rfl t (by simp)
          | so r0 t => exact fin2 rfl t List.perm_append_comm
      · rw [if_neg w] at c; exact False.elim c
  · rw [if_neg hl] at c; exact False.elim c
theorem makeK_inv {cn : Str} {r : Cls × FnKey × Fn} (h : makeK G cn = some r) : G.cls.lookup cn = some r.1 ∧ G.meth.lookup (cn, ("__init__" : Str)) = some (.inst, r.2.1) ∧ G.fns.lookup r.2.1 = some r.2.2 := by
  unfold makeK at h
  split at h
  · rename_i k key h1 h2
    split at h
    · rename_i f hf
      cases h
      exact ⟨h1, h2, hf⟩
    · cases h
  · cases h
theorem ge_mk {j : Nat} {adr : FnKey → Addr} {cn : Str} {r : Cls × FnKey × Fn} {p : Pos} (pf : PF X.K X.mg G adr) (hF : ∀ k f, G.fns.lookup k = some f → FnF X cf j k f.ps.length (adr k)) (hr : Room (j + 1) X.A) (tk : L2.Takes X W)
    (hk : makeK G cn = some r) (hg : L2.Gl X cn) (hd : (cn == ("__debug__" : Str)) = false) (ha : GA X W G cf (e :: es) ps) (hst : (e :: es).all notStar = true) : GE X W G cf (.Call (.Name cn p) (e :: es) [] pos) (.mk cn ps) := by
  obtain ⟨h1, h2, hf⟩ := makeK_inv hk
  obtain ⟨C, gC, M⟩ := pf.make _ _ _ h1 h2
  have hst' := hst
  rw [List.all_cons, Bool.and_eq_true] at hst'
  have hs := starEach_cons hst'.1 es X.env
  have hpl := noStars hst'.2 pos X.env
  have base : L2.PE X (.Call (.Name cn p) (e :: es) [] pos) (tMk X W C (spF X.K X.mg r.2.2.ps.length (cf r.2.1)) (tM X W (evOs G cf ps) (relOs X))) := by
    refine ⟨fun pins s σ H Q I h => ?_⟩
    refine PySem.wpAny_Call_Name_kw (L2.ld_glob I hg gC ?_ hd)
    refine PySem.W.callWith_K (h₀ := X.base) I.ok.mod.kin M.kp (L2.thn (ha.ops.run pos pins s σ H _ I h) fun us s1 ⟨vs, H1, I1, rr, q⟩ => ⟨I1.kIn, ?_⟩) hs hpl
    exact run_mk M (hF _ _ hf) hr tk I1 rr q
  refine .of (PE.imp base fun σ H Q q => ?_) rfl
  simp only [evE, hk] at q
  refine tM_mono (tM_bind (Re := relOs X) q) fun vs H1 ⟨os, Fz, A, B, e, ok, re, rs, c⟩ => ?_
  exact makeX_sp gC rs re ok c
/-- a class in a name of ours -/
theorem ge_mkV {j i : Nat} {adr : FnKey → Addr} {x : Str} {p : Pos} (pf : PF X.K X.mg G adr) (hF : ∀ k f, G.fns.lookup k = some f → FnF X cf j k f.ps.length (adr k)) (hr : Room (j + 1) X.A) (tk : L2.Takes X W)
    (hN : X.N[i]? = some x) (hv : L2.Vis X.env.scope x) (hd : (x == ("__debug__" : Str)) = false) (hcd : (x == ("__classdict__" : Str)) = false) (ha : GA X W G cf (e :: es) ps) (hst : (e :: es).all notStar = true) :
    GE X W G cf (.Call (.Name x p) (e :: es) [] pos) (.mkV i ps) := by
  have hst' := hst
  rw [List.all_cons, Bool.and_eq_true] at hst'
  have hs := starEach_cons hst'.1 es X.env
  have hpl := noStars hst'.2 pos X.env
  have base : L2.PE X (.Call (.Name x p) (e :: es) [] pos) (fun σ H Q => ∃ C f sp, σ[i]? = some (some (.ref C)) ∧ L2.Mk X.K C f ∧ FnR X.prog X.w X.K X.mg X.base (L2.CX X.prog X.w) j f sp ∧ tMk X W C sp (tM X W (evOs G cf ps) (relOs X)) σ H Q) := by
    refine ⟨fun pins s σ H Q I ⟨C, f, sp, hs0, M, F, h⟩ => ?_⟩
    refine PySem.wpAny_Call_Name_kw (L2.thn ((L2.pe_var (pos := p) hN hv hd hcd).run pins s σ H (fun v H1 => v = .ref C ∧ H1 = H) I ⟨.ref C, hs0, rfl, rfl⟩) fun u s1 ⟨v, H1, I1, r1, e1, e2⟩ => ?_)
    subst e1 e2
    cases r1
    refine PySem.W.callWith_K (h₀ := X.base) I1.ok.mod.kin M.kp (L2.thn (ha.ops.run pos pins s1 σ _ _ I1 h) fun us s1 ⟨vs, H1, I1, rr, q⟩ => ⟨I1.kIn, ?_⟩) hs hpl
    exact run_mk M F hr tk I1 rr q
  refine .of (PE.imp base fun σ H Q q => ?_) rfl
  simp only [evE] at q
  obtain ⟨s, en, rfl, ok, re, c⟩ := q
  have c' : Cont X W σ s (M.bind (Opd.slot i).get _ en) (relE X) Q := c
  obtain ⟨d, h1, c⟩ := get_inv c'
  obtain ⟨v, B, h2, h3, _⟩ := re.at (slot_at h1)
  cases d <;> try exact False.elim c
  rename_i g
  dsimp only at c
  cases hk : makeK G g with
  | none => rw [hk] at c; exact False.elim c
  | some r =>
    rw [hk] at c
    obtain ⟨k1, k2, hf⟩ := makeK_inv hk
    obtain ⟨C, gC, M⟩ := pf.make _ _ _ k1 k2
    have ev : v = .ref C := by
      cases h3 with
      | sh r => cases r with
        | glb e => rw [gC] at e; cases e; rfl
    subst ev
    refine ⟨C, _, _, h2, M, hF _ _ hf, ?_⟩
    refine tM_mono (tM_bind (Re := relOs X) (Q := Q) (k := fun os => makeX cf g r.1 r.2.1 r.2.2 os) ⟨s, en, rfl, ok, re, c⟩) fun vs H1 ⟨os, Fz, A, B, e, ok, re, rs, c⟩ => ?_
    exact makeX_sp gC rs re ok c
end
end PL

-- S18
set_option Elab.async false
set_option linter.all false
set_option maxRecDepth 100000
set_option maxHeartbeats 1000000
namespace PL
open PySem (Str Addr Value Shared Expr Stmt Pos Scope Obj Sem Operator CmpOp binaryOp compareOp inplaceOp sizeLine PyData unaryOp)
open L2 (V HO Hp SqL SqT upd upd_same upd_ne St VK TE TT TA XK WX PT PW PA Inv Cx R2 OpR rI rI0 tOp Room CallR FnR TG TGs)
section
variable {K : PySem.W.Frag} {mg : Str → Option Value} {Fz H : Hp}
/-! ### slots changed -/
theorem RE.sig : ∀ {σ σ' : St} {e : Env} {A : List Addr}, RE K mg Fz H σ e A → σ'.length = σ.length → (∀ (i : Nat) (d : D), e[i]? = some (some d) → σ'[i]? = σ[i]?) → RE K mg Fz H σ' e A
  | _, [], _, _, .nil, _, _ => .nil
  | _, _ :: _, _, _, .nil, h, _ => by simp at h
  | _, [], _, _, .no _, h, _ => by simp at h
  | _, o' :: σ', _, _, .no t, h, hk => .no (RE.sig t (by simpa using h) fun i d q => by have := hk (i + 1) d (by simpa using q); simpa using this)
  | _, [], _, _, .so _ _, h, _ => by simp at h
  | _, o' :: σ', _, _, .so (v := v) r t, h, hk => by
    have e0 := hk 0 _ rfl
    simp at e0
    subst e0
    exact .so r (RE.sig t (by simpa using h) fun i d q => by have := hk (i + 1) d (by simpa using q); simpa using this)
theorem RE.setS : ∀ {σ : St} {e : Env} {A : List Addr} (i : Nat) {v : V} {d : D} {C : List Addr}, RE K mg Fz H σ e A → RO K mg Fz H v d C → ∃ A' A0, RE K mg Fz H (σ.set i (some v)) (e.set i (some d)) A' ∧ (A' ++ A0).Perm (C ++ A)
  | _, _, _, i, v, d, C, .nil, r => ⟨[], C, by simpa using RE.nil, by simp⟩
  | _, _, _, 0, v, d, C, .no (A := A) t, r => ⟨C ++ A, [], .so r t, by simp⟩
  | _, _, _, i + 1, v, d, C, .no t, r => by
    obtain ⟨A', A0, h1, h2⟩ := RE.setS i t r
    exact ⟨A', A0, .no h1, h2⟩
  | _, _, _, 0, v, d, C, .so (A := A1) (B := B1) r1 t, r => ⟨C ++ B1, A1, .so r t, by rw [List.append_assoc]; exact (List.perm_append_comm).append_left C⟩
  | _, _, _, i + 1, v, d, C, .so (A := A1) (B := B1) r1 t, r => by
    obtain ⟨A', A0, h1, h2⟩ := RE.setS i t r
    refine ⟨A1 ++ A', A0, .so r1 h1, ?_⟩
    rw [List.append_assoc]
    refine (h2.append_left A1).trans ?_
    rw [← List.append_assoc, ← List.append_assoc]
    exact (List.perm_append_comm).append_right B1
theorem RE.setN : ∀ {σ : St} {e : Env} {A : List Addr} (i : Nat) (o : Option V), RE K mg Fz H σ e A → ∃ A' A0, RE K mg Fz H (σ.set i o) (e.set i none) A' ∧ (A' ++ A0).Perm A
  | _, _, _, i, o, .nil => ⟨[], [], by simpa using RE.nil, by simp⟩
  | _, _, _, 0, o, .no (A := A) t => ⟨A, [], .no t, by simp⟩
  | _, _, _, i + 1, o, .no t => by
    obtain ⟨A', A0, h1, h2⟩ := RE.setN i o t
    exact ⟨A', A0, .no h1, h2⟩
  | _, _, _, 0, o, .so (A := A1) (B := B1) r1 t => ⟨B1, A1, .no t, List.perm_append_comm⟩
  | _, _, _, i + 1, o, .so (A := A1) (B := B1) r1 t => by
    obtain ⟨A', A0, h1, h2⟩ := RE.setN i o t
    exact ⟨A1 ++ A', A0, .so r1 h1, by rw [List.append_assoc]; exact h2.append_left A1⟩
theorem set_same_none {e : Env} {i : Nat} {σ : St} : True := trivial
/-- the block's own slots forgotten, on both sides -/
theorem RE.wiped : ∀ (own : List Nat) {σ : St} {e : Env} {A : List Addr}, RE K mg Fz H σ e A → ∃ A' A0, RE K mg Fz H (L2.wipe σ own) (wipeSlots own e) A' ∧ (A' ++ A0).Perm A
  | own, σ, e, A, re => by
    have z : ∀ (own : List Nat) (e : Env) (A : List Addr) (σ : St), RE K mg Fz H σ e A → ∃ A' A0, RE K mg Fz H σ (wipeSlots own e) A' ∧ (A' ++ A0).Perm A := by
      intro own
      induction own with
      | nil => intro e A σ re; exact ⟨A, [], re, by simp⟩
      | cons i own ih =>
        intro e A σ re
        obtain ⟨A1, A0, r1, p1⟩ := re.setN i (σ[i]?.getD none)
        have r2 : RE K mg Fz H σ (e.set i none) A1 := r1.sig (by simp) fun j d q => by
          by_cases hj : j = i
          · subst hj
            have : j < e.length := by
              have := (List.getElem?_eq_some_iff.mp q).1
              simpa using this
            rw [List.getElem?_set_self this] at q; cases q
          · rw [List.getElem?_set_ne (fun z => hj z.symm)]
        obtain ⟨A2, A3, r3, p3⟩ := ih _ _ _ r2
        exact ⟨A2, A3 ++ A0, r3, by rw [← List.append_assoc]; exact (p3.append_right A0).trans p1⟩
    have gw : ∀ (own : List Nat) (e : Env) (j : Nat) (d : D), (wipeSlots own e)[j]? = some (some d) → j ∉ own := by
      intro own
      induction own with
      | nil => intro e j d _; simp
      | cons i own ih =>
        intro e j d h
        have h' : (wipeSlots own (e.set i none))[j]? = some (some d) := h
        have hj := ih _ _ _ h'
        have keep : ∀ (own : List Nat) (e : Env) (j : Nat), j ∉ own → (wipeSlots own e)[j]? = e[j]? := by
          intro own
          induction own with
          | nil => intro e j _; rfl
          | cons i own ih =>
            intro e j h
            simp only [List.mem_cons, not_or] at h
            show (wipeSlots own (e.set i none))[j]? = _
            rw [ih _ _ h.2, List.getElem?_set_ne (fun z => h.1 z.symm)]
        rw [keep own _ j hj] at h'
        simp only [List.mem_cons, not_or]
        refine ⟨fun z => ?_, hj⟩
        subst z
        have : j < e.length := by
          have := (List.getElem?_eq_some_iff.mp h').1
          simpa using this
        rw [List.getElem?_set_self this] at h'; cases h'
    obtain ⟨A', A0, r, p⟩ := z own e A σ re
    refine ⟨A', A0, r.sig (L2.wipe_length σ own) fun i d q => ?_, p⟩
    exact L2.wipe_out (gw _ _ _ _ q)
/-- the same slots, on the data's side alone -/
theorem RE.unwiped {own : List Nat} {σ : St} {e : Env} {A : List Addr} (re : RE K mg Fz H (L2.wipe σ own) e A) : RE K mg Fz H σ e A :=
  re.sig (L2.wipe_length σ own).symm fun i d q => by
    obtain ⟨v, B, h1, _, _⟩ := re.at q
    rw [h1, (L2.wipe_some h1).1]
end
/-! ### targets -/
mutual
def gOf (K : PySem.W.Frag) : Tgt → TG
  | .nm i => L2.gName i
  | .tup ts => fun v σ H Q => L2.gTup K ts.length (gsOf K ts) v σ H Q ∨ L2.gUnl K ts.length (gsOf K ts) v σ H Q
def gsOf (K : PySem.W.Frag) : List Tgt → TGs
  | [] => L2.gNil
  | t :: ts => L2.gCons (gOf K t) (gsOf K ts)
end
/-- what is known behind a store -/
def Stored (K : PySem.W.Frag) (mg : Str → Option Value) (Fz H : Hp) (σ : St) (C A : List Addr) (is : List Nat) (e' : Env) (σ' : St) : Prop := ∃ A' A0, RE K mg Fz H σ' e' A' ∧ (A' ++ A0).Perm (C ++ A) ∧ (∀ i, i ∉ is → σ'[i]? = σ[i]?) ∧ σ'.length = σ.length
section
variable {K : PySem.W.Frag} {mg : Str → Option Value} {Fz H : Hp}
theorem asg_tup {ts : List Tgt} {ds : List D} {e e' : Env} (h : asgT (.tup ts) (.tup ds) e = .ok () e') : asgTs ts ds e = .ok () e' := by unfold asgT at h; exact h
theorem asg_lst {ts : List Tgt} {ds : List D} {o : Bool} {e e' : Env} (h : asgT (.tup ts) (.lst o ds) e = .ok () e') : asgTs ts ds e = .ok () e' := by unfold asgT at h; exact h
theorem asgTs_len : ∀ {ts : List Tgt} {ds : List D} {e e' : Env}, asgTs ts ds e = .ok () e' → ds.length = ts.length
  | [], [], _, _, _ => rfl
  | [], _ :: _, _, _, h => by unfold asgTs at h; cases h
  | _ :: _, [], _, _, h => by unfold asgTs at h; cases h
  | t :: ts, d :: ds, e, e', h => by
    unfold asgTs at h
    have h' : ((asgT t d e).bind fun _ e1 => asgTs ts ds e1) = .ok () e' := h
    cases r : asgT t d e with
    | ok a e1 => rw [r] at h'; rw [List.length_cons, List.length_cons, asgTs_len h']
    | exc x e1 => rw [r] at h'; cases h'
    | bad => rw [r] at h'; cases h'
mutual
theorem asg_ok (sub : ∀ a o, Fz a = some o → H a = some o) : ∀ {t : Tgt} {d : D} {e e' : Env} {x : V} {σ : St} {A C : List Addr} {Q : St → Hp → Prop}, asgT t d e = .ok () e' → RO K mg Fz H x d C → RE K mg Fz H σ e A →
    (∀ σ', Stored K mg Fz H σ C A t.slots e' σ' → Q σ' H) → gOf K t x σ H Q
  | .nm i, d, e, e', x, σ, A, C, Q, h, r, re, q => by
    unfold asgT at h
    cases h
    show L2.gName i x σ H Q
    refine q _ ?_
    obtain ⟨A', A0, h1, h2⟩ := re.setS i r
    refine ⟨A', A0, h1, h2, fun j hj => ?_, by simp⟩
    rw [List.getElem?_set_ne (fun z => hj (by simp [Tgt.slots, z]))]
  | .tup ts, d, e, e', x, σ, A, C, Q, h, r, re, q => by
    cases d <;> try (unfold asgT at h; cases h)
    · rename_i ds
      have h' := asg_tup h
      cases r with
      | sh r => cases r with
        | tup hz rs =>
          exact .inl ⟨_, _, rfl, (hz.up sub).sq, by rw [rs.len]; exact asgTs_len h', asg_oks sub h' rs re q⟩
    · rename_i o ds
      have h' := asg_lst h
      cases r with
      | sh r => cases r with
        | lst hz rs =>
          exact .inr ⟨_, _, rfl, .inl (.inl (sub _ _ hz)), by rw [rs.len]; exact asgTs_len h', asg_oks sub h' rs re q⟩
      | @lst a0 xs0 ds0 hz rs =>
        exact .inr ⟨_, _, rfl, .inl (.inl hz), by rw [rs.len]; exact asgTs_len h', asg_oks sub h' rs re fun σ' ⟨A', A0, r1, p, k, l⟩ => q σ' ⟨A', A0 ++ [a0], r1, by
          rw [← List.append_assoc]
          exact (p.append_right [a0]).trans (by simpa using List.perm_append_comm), k, l⟩⟩
theorem asg_oks (sub : ∀ a o, Fz a = some o → H a = some o) : ∀ {ts : List Tgt} {ds : List D} {e e' : Env} {xs : List V} {σ : St} {A : List Addr} {Q : St → Hp → Prop}, asgTs ts ds e = .ok () e' → RFs K mg Fz xs ds → RE K mg Fz H σ e A →
    (∀ σ', Stored K mg Fz H σ [] A (Tgt.slotss ts) e' σ' → Q σ' H) → gsOf K ts xs σ H Q
  | [], [], e, e', xs, σ, A, Q, h, r, re, q => by
    unfold asgTs at h
    cases h
    cases r
    exact ⟨rfl, q _ ⟨A, [], re, by simp, fun _ _ => rfl, rfl⟩⟩
  | [], _ :: _, _, _, _, _, _, _, h, _, _, _ => by unfold asgTs at h; cases h
  | _ :: _, [], _, _, _, _, _, _, h, _, _, _ => by unfold asgTs at h; cases h
  | t :: ts, d :: ds, e, e', xs, σ, A, Q, h, r, re, q => by
    unfold asgTs at h
    have h' : ((asgT t d e).bind fun _ e1 => asgTs ts ds e1) = .ok () e' := h
    cases z : asgT t d e with
    | exc x e1 => rw [z] at h'; cases h'
    | bad => rw [z] at h'; cases h'
    | ok a e1 =>
      rw [z] at h'
      cases r with
      | cons rx rt =>
        refine ⟨_, _, rfl, asg_ok sub z (.sh rx) re fun σ1 ⟨A1, A0, re1, p1, k1, l1⟩ => ?_⟩
        refine asg_oks sub h' rt re1 fun σ2 ⟨A2, A3, re2, p2, k2, l2⟩ => q σ2 ⟨A2, A3 ++ A0, re2, ?_, fun i hi => ?_, l2.trans l1⟩
        · rw [← List.append_assoc]
          refine (p2.append_right A0).trans ?_
          simpa using p1
        · simp only [Tgt.slotss, List.mem_append, not_or] at hi
          rw [k2 i hi.2, k1 i hi.1]
end
/-- a pair that was just laid, taken apart -/
theorem asg_pair (sub : ∀ a o, Fz a = some o → H a = some o) {ts : List Tgt} {ds : List D} {e e' : Env} {T : Addr} {xs : List V} {σ : St} {A : List Addr} {Q : St → Hp → Prop} (h : asgT (.tup ts) (.tup ds) e = .ok () e') (hT : SqT K H T xs) (rs : RFs K mg Fz xs ds) (re : RE K mg Fz H σ e A)
    (q : ∀ σ', Stored K mg Fz H σ [] A (Tgt.slots (.tup ts)) e' σ' → Q σ' H) : gOf K (.tup ts) (.ref T) σ H Q := by
  have h' := asg_tup h
  exact .inl ⟨_, _, rfl, hT, by rw [rs.len]; exact asgTs_len h', asg_oks sub h' rs re q⟩
end
end PL

-- E1
set_option Elab.async false
set_option linter.all false
set_option maxRecDepth 100000
namespace PL
open PySem PySem.Spec PyProof.Rows
set_option maxHeartbeats 1000000 in
theorem en1_meets {v : Value} {o : Obj} {Z : Heap → Prop} (B : Begins v o Z) :
    Meets (Builtin.«enumerate.__new__» ⟨[.type "enumerate", v], []⟩) (fun _ R s => Z s.heap ∧
      R (.ok (.ret (.ref (s.heap.push o).objs.size))) { s with heap := (s.heap.push o).push { cls := .type "enumerate", data := .fields #[.none, .bool false, .ref s.heap.objs.size, rawInt 0, .none, .none] } }) :=
  .of_wp fun prog w A R s z => by
    obtain ⟨hp, gs, dr, tk, os⟩ := s
    obtain ⟨z1, z2⟩ := z
    have hsub := sub_enumerate
    have it1 : ∀ {A' : Around} {E : Value → Shared → Prop} {Q : Value → Shared → Prop}, Q (.ref hp.objs.size) ⟨hp.push o, gs, dr, tk, os⟩ → wpAny (model prog w) A' (pyIter v) Q E ⟨hp, gs, dr, tk, os⟩ :=
      fun q => B.iter prog w _ _ ⟨hp, gs, dr, tk, os⟩ _ z1 q
    wp_walk using it1
    refine wpAny_stack_any fun st => wpAny_pure ?_
    split
    · rename_i c _ _ _ _ _
      cases (c == Value.type "enumerate")
      · wp_walk using it1
        exact ⟨_, rfl, z2⟩
      · wp_walk using it1
        exact ⟨_, rfl, z2⟩
    · wp_walk using it1
      exact ⟨_, rfl, z2⟩
theorem en1_call {prog : Program} {w : World} {A : Around} {E : Value → Shared → Prop} {s : Shared} {v : Value} {o : Obj} {Z : Heap → Prop} {Q : Value → Shared → Prop} (B : Begins v o Z) (z1 : Z s.heap)
    (h : ∀ h', IsEnum h' (s.heap.objs.size + 1) s.heap.objs.size 0 .none → h'.get? s.heap.objs.size = some o → h'.objs.size = s.heap.objs.size + 2 →
      (∀ b o, s.heap.get? b = some o → h'.get? b = some o) → Q (.ref (s.heap.objs.size + 1)) { s with heap := h' }) : wpAny (model prog w) A (call (.type "enumerate") [v]) Q E s := by
  refine callType_new F.called_enumerate (by decide) (F.typeCall_enumerate_1 _) (F.newCall_enumerate_1 _) (fun ob => F.args_object_init_2 ob _) F.entry_enumerate_new (en1_meets B) ⟨z1, ?_⟩
  have sz : (s.heap.push o).objs.size = s.heap.objs.size + 1 := Heap.size_push ..
  show _ ∧ _
  rw [sz]
  have ie : IsEnum ((s.heap.push o).push { cls := .type "enumerate", data := .fields #[.none, .bool false, .ref s.heap.objs.size, rawInt 0, .none, .none] }) (s.heap.objs.size + 1) s.heap.objs.size 0 .none := by
    have := Heap.get?_push_size (s.heap.push o) (o := { cls := .type "enumerate", data := .fields #[.none, .bool false, .ref s.heap.objs.size, rawInt 0, .none, .none] }) rfl
    rw [sz] at this; exact this
  exact ⟨⟨_, ie, rfl⟩, h _ ie (Heap.get?_push_of_some _ (Heap.get?_push_size _ B.free)) (by rw [Heap.size_push, sz]) fun b o' x => Heap.get?_push_of_some _ (Heap.get?_push_of_some _ x)⟩
end PL

-- E2
set_option Elab.async false
set_option linter.all false
set_option maxRecDepth 100000
set_option maxHeartbeats 1000000
namespace PL
open PySem PySem.Spec PyProof.Rows
open L2 (It Turn PI PIE FpOk V Hp HO upd upd_ne upd_same SqT SqL TE TI TA ObjOk RelV Inv Cx PA PE Gl)
/-- the pairs (place, item) of a tuple -/
def IteT (K : PySem.W.Frag) (a : Addr) : It where
  go := fun i H => ∃ (xs : List V) (x : V), SqT K H a xs ∧ xs[i]? = some x
  yld := fun i H v H' => ∃ T x, v = .ref T ∧ H T = none ∧ H' = upd H T (.tup [.int (i : Nat), x]) ∧ ∀ xs, SqT K H a xs → xs[i]? = some x
  stop := fun i H => ∃ xs : List V, SqT K H a xs ∧ xs.length = i
theorem tup_inj {X : Cx} {pins : List (Addr × Obj)} {σ : L2.St} {H : Hp} {s : Shared} (I : Inv X pins σ H s) {a : Addr} {xs ys : List V} (h : SqT X.K H a xs) (h' : SqT X.K H a ys) : xs = ys := by
  obtain ⟨is1, r1, ⟨o1, e1, _, n1, d1⟩, _⟩ := I.tuple h
  obtain ⟨is2, r2, ⟨o2, e2, _, n2, d2⟩, _⟩ := I.tuple h'
  rw [e1] at e2
  cases e2
  rw [d1] at d2
  have e3 : is1 = is2 := by
    injection d2 with d3
    simpa using d3
  subst e3
  have un : ∀ {xs ys : List V} {us : List Value}, L2.Vals xs us → L2.Vals ys us → xs = ys := by
    intro xs ys us r r'
    induction r generalizing ys with
    | nil => cases r'; rfl
    | cons a t ih =>
      cases r' with
      | cons b t' =>
        have := a.abs.symm.trans b.abs
        cases this
        rw [ih t']
  exact un r1 r2
theorem turn_enT {P : Program} {w : World} {K : PySem.W.Frag} {elts : List Expr} {kk : Nat} {tpos : Pos} (a e it : Addr) :
    Turn P w K (.Tuple elts kk tpos) (IteT K a) [e, it] e (fun i h => (∃ old, IsEnum h e it ((i : Nat) : Int) old) ∧ h.IsTupleIter it a i ∧ e ≠ it) where
  mem := List.mem_cons_self
  obj := fun i h ⟨⟨old, q1⟩, ⟨o, q2, _, q3⟩, _⟩ b hb => by
    simp only [List.mem_cons, List.not_mem_nil, or_false] at hb
    rcases hb with rfl | rfl
    · exact ⟨_, q1, fun v z => nomatch z⟩
    · exact ⟨o, q2, fun v z => by rw [q3] at z; cases z⟩
  keep := fun i h h' ⟨⟨old, q1⟩, q2, q3⟩ k => ⟨⟨old, k e List.mem_cons_self _ q1⟩, q2.at fun o z => k it (by simp) o z, q3⟩
  item := by
    intro X hP hw hK hc i pins s σ H E I hf st hg
    subst hP hw hK
    obtain ⟨⟨old, q1⟩, q2, q3⟩ := st
    obtain ⟨xs, x, hq, hx⟩ := hg
    obtain ⟨its, rv, ht, hz⟩ := I.tuple hq
    obtain ⟨u, hu, ru⟩ := rv.get hx
    have le : e < s.heap.objs.size := Heap.lt_size q1
    have li : it < s.heap.objs.size := let ⟨_, z, _⟩ := q2; Heap.lt_size z
    obtain ⟨ot, et, ct, nt, dt⟩ := id ht
    have nai : a ≠ it := fun z => by
      subst z
      obtain ⟨oi, ei, ci, di⟩ := q2
      rw [et] at ei; cases ei
      rw [ct] at ci; simp at ci
    have nea : e ≠ a := fun z => by
      subst z
      have z2 := et.symm.trans q1
      cases z2
      simp at ct
    have hil : i < its.toArray.size := by
      have := (List.getElem?_eq_some_iff.mp hu).1
      simpa using this
    refine wpAny_pyNext_enum_itemD (Draws.tuple (A := X.A.in1) (show X.A.in1.handled = none from I.ok.hd hc) it a nai its.toArray) q1 ⟨q2, ht⟩ hil q3 (by simp [q3, nea]) fun y h' tk py ho hs hT hsz hk => ?_
    have ey : y = u := by
      have h2 : its.toArray[i]? = some u := by simpa using hu
      rw [h2] at py; exact (Option.some.inj py).symm
    subst ey
    refine ⟨_, rfl, wpAny_letOwnedTupleGo_enum (s := { s with heap := h', toks := tk + 1 }) ho fun h2 ho2 sb => ?_⟩
    have kT : h2.get? s.heap.objs.size = some { cls := .type "tuple", data := .seq #[.int i tk, y] } := (sb.2 _ (Nat.ne_of_gt le)).trans hT
    have nw : ObjOk X.prog X.w (upd H s.heap.objs.size (.tup [.int (i : Nat), x])) h2 s.heap.objs.size (.tup [.int (i : Nat), x]) :=
      ⟨by show 2 ≤ sizeLine; decide, [.int i tk, y], .cons ⟨_, rfl⟩ (.cons ru .nil), ⟨_, kT, rfl, _, rfl⟩⟩
    have J : Inv X pins σ (upd H s.heap.objs.size (.tup [.int (i : Nat), x])) { s with heap := h2, toks := tk + 1 } :=
      I.turnedNew (ch := [e, it]) (fun b o hb z => (sb.2 b (fun w => hb (by simp [w]))).trans (hk b o (fun w => hb (by simp [w])) (fun w => hb (by simp [w])) z)) hf (Nat.le_refl _) nw
    refine ⟨.ref s.heap.objs.size, _, J, rfl, ⟨_, x, rfl, I.hok.fresh (Nat.le_refl _), rfl, fun ys hy => by rw [tup_inj I hy hq]; exact hx⟩, ⟨⟨y, ?_⟩, hs.1.at fun o z => (sb.2 it (Ne.symm q3)).trans z, q3⟩, fun b hb => ?_⟩
    · have e1 : ((i + 1 : Nat) : Int) = (i : Int) + 1 := by omega
      rw [e1]; exact ho2
    · have lb : b < s.heap.objs.size := by
        simp only [List.mem_cons, List.not_mem_nil, or_false] at hb
        rcases hb with rfl | rfl
        · exact le
        · exact li
      rw [upd_ne (Nat.ne_of_lt lb)]
      exact (hf b hb).1
  done := by
    intro X hP hw hK hc i pins s σ H E I hf st hg
    subst hP hw hK
    obtain ⟨⟨old, q1⟩, q2, q3⟩ := st
    obtain ⟨xs, hq, hx⟩ := hg
    obtain ⟨its, rv, ht, hz⟩ := I.tuple hq
    obtain ⟨f0, f1, f2, f3, f4, f5⟩ := hf it (by simp)
    obtain ⟨ot, et, ct, nt, dt⟩ := id ht
    have nai : a ≠ it := fun z => by
      subst z
      obtain ⟨oi, ei, ci, di⟩ := q2
      rw [et] at ei; cases ei
      rw [ct] at ci; simp at ci
    have lz := rv.length
    have en : i = its.toArray.size := by rw [List.size_toArray, ← lz, hx]
    refine wpAny_pyNext_enum_endD (Draws.tuple (A := X.A.in1) (show X.A.in1.handled = none from I.ok.hd hc) it a nai its.toArray) q1 ⟨en ▸ q2, ht⟩ fun h' eb => ⟨rfl, I.turned (t' := s.toks) (fun b o hb z => eb b o hb z) f0 f1 f3 f4 f5⟩
  self := fun A i s Q E st h => let ⟨⟨_, q1⟩, _⟩ := st; wpAny_pyIter_enum q1 h
/-! ### a list or a tuple walked -/
def iSeq (K : PySem.W.Frag) (tl : TE) : TI := fun σ H R => tl σ H fun x H1 => ∃ a, x = .ref a ∧ ((∃ xs, SqL K H1 a xs ∧ R (L2.Itl K a) H1) ∨ (∃ xs, SqT K H1 a xs ∧ R (L2.Itt K a) H1))
section
variable {X : Cx} {tg : Expr}
theorem new_fp {pins : List (Addr × Obj)} {σ : L2.St} {H : Hp} {s : Shared} {b : Addr} (I : Inv X pins σ H s) (h : s.heap.objs.size ≤ b) : FpOk X pins H b := I.fpOk h (I.hok.fresh h)
theorem pi_seq {l : Expr} {tl : TE} (hl : L2.PE X l tl) : PI X tg l (iSeq X.K tl) := by
  refine ⟨fun pins s σ H R I h => L2.thn (hl.run pins s σ H _ I h) fun v s1 ⟨x, H1, I1, r1, a, ex, q⟩ => ?_⟩
  subst ex
  cases r1
  have J : ∀ o : Obj, Inv X pins σ H1 { s1 with heap := s1.heap.push o } := fun o => I1.kept (t' := s1.toks) fun _ _ z => Heap.get?_push_of_some _ z
  have fp : ∀ b ∈ [s1.heap.objs.size], FpOk X pins H1 b := fun b hb => by
    rw [List.mem_singleton] at hb; subst hb; exact new_fp I1 (Nat.le_refl _)
  rcases q with ⟨xs, hq, q⟩ | ⟨xs, hq, q⟩
  · obtain ⟨its, rv, p, hz⟩ := I1.list hq
    exact wpAny_pyIter_list p.isList ⟨_, [s1.heap.objs.size], _, _, H1, rfl, J _, L2.turn_list a _, ⟨_, Heap.get?_push_size _ rfl, rfl, rfl⟩, fp, q⟩
  · obtain ⟨its, rv, p, hz⟩ := I1.tuple hq
    exact wpAny_pyIter_tuple (show s1.heap.IsTuple a its.toArray from p) ⟨_, [s1.heap.objs.size], _, _, H1, rfl, J _, L2.turn_tuple a _, ⟨_, Heap.get?_push_size _ rfl, rfl, rfl⟩, fp, q⟩
/-! ### enumerate of a list or a tuple -/
def iEn (K : PySem.W.Frag) (ta : TA) : TI := fun σ H R => ta σ H fun vs H1 => ∃ a, vs = [.ref a] ∧ ((∃ xs, SqL K H1 a xs ∧ R (L2.Ite K a) H1) ∨ (∃ xs, SqT K H1 a xs ∧ R (IteT K a) H1))
theorem pi_en {l : Expr} {ta : TA} {p pos tpos : Pos} {elts : List Expr} {kk : Nat} (hg : Gl X "enumerate") (hm : X.mg "enumerate" = none) (ha : PA X [l] ta) (hs : notStar l = true) : PI X (.Tuple elts kk tpos) (.Call (.Name "enumerate" p) [l] [] pos) (iEn X.K ta) := by
  have st : starEach [l] X.env = [(false, eval l X.env)] := starEach_cons hs [] X.env
  refine ⟨fun pins s σ H R I h => Call_ (L2.ld_blt I hg hm boot_enumerate (PyProof.Rows.callWith_type1 (L2.thn (ha.run pos pins s σ H _ I h) fun us s1 ⟨vs, H1, I1, r1, a, ex, q⟩ => ?_) st rfl))⟩
  subst ex
  obtain ⟨u, rfl, ru⟩ := L2.Vals.one r1
  cases (show u = Value.ref a from ru)
  have fin : ∀ {h' : Heap} {J : It} {tn : Nat → Heap → Prop}, IsEnum h' (s1.heap.objs.size + 1) s1.heap.objs.size 0 .none → (∀ b o, s1.heap.get? b = some o → h'.get? b = some o) →
      Turn X.prog X.w X.K (.Tuple elts kk tpos) J [s1.heap.objs.size + 1, s1.heap.objs.size] (s1.heap.objs.size + 1) tn → tn 0 h' → R J H1 →
      wpAny (model X.prog X.w) X.A (pyIter (.ref (s1.heap.objs.size + 1))) (PIE X pins σ (.Tuple elts kk tpos) R) X.xe { s1 with heap := h' } := fun {h' J tn} ie kp T t0 q => by
    refine wpAny_pyIter_enum ie ⟨_, _, tn, J, H1, rfl, I1.kept (t' := s1.toks) kp, T, t0, fun b hb => ?_, q⟩
    simp only [List.mem_cons, List.not_mem_nil, or_false] at hb
    refine new_fp I1 ?_
    rcases hb with rfl | rfl
    · exact Nat.le_succ _
    · exact Nat.le_refl _
  rcases q with ⟨xs, hq, q⟩ | ⟨xs, hq, q⟩
  · obtain ⟨its, rv, p', hz⟩ := I1.list hq
    refine call_enumerate_list p'.isList fun h' ie hit _ kp => fin ie kp (L2.turn_enum a _ _) ⟨⟨_, ie⟩, hit, Nat.succ_ne_self _⟩ q
  · obtain ⟨its, rv, p', hz⟩ := I1.tuple hq
    refine en1_call (begins_tuple a its.toArray) p' fun h' ie ho _ kp => fin ie kp (turn_enT a _ _) ⟨⟨_, ie⟩, ⟨_, ho, rfl, rfl⟩, Nat.succ_ne_self _⟩ q
end
end PL

-- S19
set_option Elab.async false
set_option linter.all false
set_option maxRecDepth 100000
set_option maxHeartbeats 1000000
namespace PL
open PySem (Str Addr Value Shared Expr Stmt Pos Scope Obj Sem Operator CmpOp binaryOp compareOp inplaceOp sizeLine PyData unaryOp)
open L2 (V HO Hp SqL SqT upd upd_same upd_ne St VK TE TT TA XK WX PT PW PA Inv Cx R2 OpR rI rI0 tOp Room CallR FnR TG TGs It TI)
/-! ### what is walked -/
/-- an item as it comes: a value, or a pair that was just laid -/
def RI (X : Cx) (b : Bool) (Fz H : Hp) (x : V) (d : D) (H' : Hp) : Prop := (H' = H ∧ RF X.K X.mg Fz x d) ∨ b = true ∧ ∃ (T : Addr) (xs : List V) (es : List D), x = .ref T ∧ H T = none ∧ H' = upd H T (.tup xs) ∧ d = .tup es ∧ RFs X.K X.mg Fz xs es
structure WkD (X : Cx) (b : Bool) (J : It) (ds : List D) (P : Hp → Hp → Prop) : Prop where
  go : ∀ (i : Nat) (Fz H : Hp) (d : D), P Fz H → ds[i]? = some d → J.go i H
  yld : ∀ (i : Nat) (Fz H : Hp) (x : V) (H' : Hp) (d : D), P Fz H → ds[i]? = some d → J.yld i H x H' → RI X b Fz H x d H'
  stop : ∀ (Fz H : Hp), P Fz H → J.stop ds.length H
/-- what is walked stays -/
def Kept (X : Cx) (σ : St) (os : List Opd) (e : Env) (Fz H : Hp) (B : List Addr) (P : Hp → Hp → Prop) : Prop := ∀ (Fz' H' : Hp) (σ' : St) (e' : Env) (A' : List Addr), (∀ a o, Fz a = some o → Fz' a = some o) →
  (∀ a o, a ∈ B → H a = some o → H' a = some o) → (∀ a o, Fz' a = some o → H' a = some o) → RE X.K X.mg Fz' H' σ' e' A' → still (watch os e) e' = true → (∀ p ∈ watch os e, ∀ v, σ'[p.1]? = some (some v) → σ[p.1]? = some (some v)) → P Fz' H'
def ItK.pairs : ItK → Bool
  | .enum => true
  | .zip => true
  | .items => true
  | _ => false
/-- the walked expression's reading; KK: what follows, whatever it is -/
structure GI (X : Cx) (W : WX) (G : Prog) (cf : CF) (tg iter : Expr) (k : ItK) (it : List PE) : Prop where
  ex : ∃ wi : TI, L2.PI X tg iter wi ∧ ∀ {σ : St} {H : Hp} {KK : List Opd → List D → Env → Hp → Hp → List Addr → List Addr → Prop} {R : It → Hp → Prop},
    tM X W (evOs G cf it) (relOs X) σ H (fun vs H1 => ∃ (e0 : Env) (os : List Opd) (Fz : Hp) (A B : List Addr) (e : Env) (ds xs : List D), evOs G cf it e0 = .ok os e ∧ Ok3 ⟨Fz, H1, A ++ B⟩ ∧ RE X.K X.mg Fz H1 σ e A ∧ OsR X σ Fz H1 vs os B ∧
      getAll os e = .ok ds e ∧ items k ds = some xs ∧ KK os xs e Fz H1 A B) →
    (∀ (J : It) (Fz H1 : Hp) (A B : List Addr) (e : Env) (os : List Opd) (xs : List D) (P : Hp → Hp → Prop), Ok3 ⟨Fz, H1, A ++ B⟩ → RE X.K X.mg Fz H1 σ e A → KK os xs e Fz H1 A B → WkD X k.pairs J xs P → Kept X σ os e Fz H1 B P → R J H1) → wi σ H R
section
variable {X : Cx} {W : WX} {G : Prog} {cf : CF} {a b c e l tg : Expr} {pa pb pc pe : PE} {pos p : Pos} {es : List Expr} {ps : List PE} {Fz H : Hp} {x v : V} {σ : St}
theorem kept_one {o : Opd} {en : Env} {B : List Addr} {d : D} {A : List Addr} (rx : relO X σ Fz H x o B) (re : RE X.K X.mg Fz H σ en A) (h : o.get en = .ok d en) :
    Kept X σ [o] en Fz H B (fun Fz' H' => (∀ a u, Fz' a = some u → H' a = some u) ∧ ∃ C, RO X.K X.mg Fz' H' x d C) := by
  intro Fz' H' σ' e' A' kf kb sub re' st sg
  refine ⟨sub, ?_⟩
  cases o with
  | val d0 =>
    cases h
    exact ⟨B, RO.up kf kb rx⟩
  | slot i =>
    have hi := slot_at h
    obtain ⟨v, C, h1, h2, _⟩ := re.at hi
    rw [rx.1] at h1
    cases h1
    by_cases w : d.own = true
    · have ew : watch [.slot i] en = [(i, d)] := by
        unfold watch
        rw [hi]
        dsimp only
        rw [if_pos w]
        rfl
      rw [ew] at st sg
      have st' : e'[i]? = some (some d) := by simpa [still] using st
      obtain ⟨v', C', k1, k2, _⟩ := re'.at st'
      have := sg (i, d) (by simp) v' k1
      rw [rx.1] at this
      cases this
      exact ⟨C', k2⟩
    · obtain ⟨rfl, rf⟩ := h2.nil_of (by simpa using w)
      exact ⟨[], .sh (rf.up kf)⟩
/-- a row of items at a value -/
theorem RO.row {d : D} {ds : List D} {C : List Addr} (r : RO X.K X.mg Fz H x d C) (sub : ∀ a o, Fz a = some o → H a = some o) (h : seqOf d = some ds) : ∃ a xs, x = .ref a ∧ RFs X.K X.mg Fz xs ds ∧ ((∃ es, d = .tup es) ∧ SqT X.K H a xs ∨ (¬ ∃ es, d = .tup es) ∧ SqL X.K H a xs) := by
  cases d <;> simp only [seqOf] at h <;> try contradiction
  · cases h
    obtain ⟨a, xs, rfl, q, t⟩ := r.tup
    exact ⟨a, xs, rfl, t, .inl ⟨⟨_, rfl⟩, (q.up sub).sq⟩⟩
  · cases h
    obtain ⟨a, xs, rfl, q, t⟩ := r.lst' sub
    exact ⟨a, xs, rfl, t, .inr ⟨(fun ⟨_, z⟩ => nomatch z), SqL.of q⟩⟩
  · cases h
    obtain ⟨a, rfl, q⟩ := r.scr
    exact ⟨a, _, rfl, RFs.intL _, .inr ⟨(fun ⟨_, z⟩ => nomatch z), SqL.up q sub⟩⟩
abbrev PSeq (X : Cx) (x : V) (d : D) : Hp → Hp → Prop := fun Fz H => (∀ a u, Fz a = some u → H a = some u) ∧ ∃ C, RO X.K X.mg Fz H x d C
/-- the values at the places -/
theorem row_at {xs : List V} {ds : List D} {i : Nat} {d : D} (r : RFs X.K X.mg Fz xs ds) (h : ds[i]? = some d) {y : V} (hy : xs[i]? = some y) : RF X.K X.mg Fz y d := by
  obtain ⟨v, h1, h2⟩ := r.at h
  rw [h1] at hy; cases hy; exact h2
theorem wk_list {a : Addr} {d : D} {ds : List D} (h : seqOf d = some ds) (hn : ¬ ∃ es, d = .tup es) : WkD X false (L2.Itl X.K a) ds (PSeq X (.ref a) d) where
  go := fun i Fz H d' ⟨sub, C, r⟩ hd => by
    obtain ⟨a', xs, e, t, q⟩ := r.row sub h
    cases e
    rcases q with ⟨z, _⟩ | ⟨_, q⟩
    · exact (hn z).elim
    · obtain ⟨v, h1, _⟩ := t.at hd
      exact ⟨xs, v, q, h1⟩
  yld := fun i Fz H x H' d' ⟨sub, C, r⟩ hd ⟨e1, y⟩ => by
    obtain ⟨a', xs, e, t, q⟩ := r.row sub h
    cases e
    rcases q with ⟨z, _⟩ | ⟨_, q⟩
    · exact (hn z).elim
    · exact .inl ⟨e1, row_at t hd (y xs q)⟩
  stop := fun Fz H ⟨sub, C, r⟩ => by
    obtain ⟨a', xs, e, t, q⟩ := r.row sub h
    cases e
    rcases q with ⟨z, _⟩ | ⟨_, q⟩
    · exact (hn z).elim
    · exact ⟨xs, q, by rw [t.len]; exact Nat.le_refl _⟩
theorem wk_tup {a : Addr} {d : D} {ds : List D} (h : seqOf d = some ds) (hn : ∃ es, d = .tup es) : WkD X false (L2.Itt X.K a) ds (PSeq X (.ref a) d) where
  go := fun i Fz H d' ⟨sub, C, r⟩ hd => by
    obtain ⟨a', xs, e, t, q⟩ := r.row sub h
    cases e
    rcases q with ⟨_, q⟩ | ⟨z, _⟩
    · obtain ⟨v, h1, _⟩ := t.at hd
      exact ⟨xs, v, q, h1⟩
    · exact (z hn).elim
  yld := fun i Fz H x H' d' ⟨sub, C, r⟩ hd ⟨e1, y⟩ => by
    obtain ⟨a', xs, e, t, q⟩ := r.row sub h
    cases e
    rcases q with ⟨_, q⟩ | ⟨z, _⟩
    · exact .inl ⟨e1, row_at t hd (y xs q)⟩
    · exact (z hn).elim
  stop := fun Fz H ⟨sub, C, r⟩ => by
    obtain ⟨a', xs, e, t, q⟩ := r.row sub h
    cases e
    rcases q with ⟨_, q⟩ | ⟨z, _⟩
    · exact ⟨xs, q, by rw [t.len]; exact Nat.le_refl _⟩
    · exact (z hn).elim
theorem enum_at {ds : List D} {i : Nat} {d' : D} (h : (ds.zipIdx.map fun p => D.tup [.int p.2, p.1])[i]? = some d') : ∃ d, ds[i]? = some d ∧ d' = .tup [.int (i : Nat), d] := by
  rw [List.getElem?_map, List.getElem?_zipIdx] at h
  cases q : ds[i]? with
  | none => rw [q] at h; simp at h
  | some d => rw [q] at h; simp at h; exact ⟨d, rfl, by rw [← h]⟩
theorem wk_enL {a : Addr} {d : D} {ds : List D} (h : seqOf d = some ds) (hn : ¬ ∃ es, d = .tup es) : WkD X true (L2.Ite X.K a) (ds.zipIdx.map fun p => D.tup [.int p.2, p.1]) (PSeq X (.ref a) d) where
  go := fun i Fz H d' ⟨sub, C, r⟩ hd => by
    obtain ⟨d0, h0, rfl⟩ := enum_at hd
    obtain ⟨a', xs, e, t, q⟩ := r.row sub h
    cases e
    rcases q with ⟨z, _⟩ | ⟨_, q⟩
    · exact (hn z).elim
    · obtain ⟨v, h1, _⟩ := t.at h0
      exact ⟨xs, v, q, h1⟩
  yld := fun i Fz H x H' d' ⟨sub, C, r⟩ hd ⟨T, y, e1, e2, e3, e4⟩ => by
    obtain ⟨d0, h0, rfl⟩ := enum_at hd
    obtain ⟨a', xs, e, t, q⟩ := r.row sub h
    cases e
    rcases q with ⟨z, _⟩ | ⟨_, q⟩
    · exact (hn z).elim
    · exact .inr ⟨rfl, T, _, _, e1, e2, e3, rfl, .cons (.int _) (.cons (row_at t h0 (e4 xs q)) .nil)⟩
  stop := fun Fz H ⟨sub, C, r⟩ => by
    obtain ⟨a', xs, e, t, q⟩ := r.row sub h
    cases e
    rcases q with ⟨z, _⟩ | ⟨_, q⟩
    · exact (hn z).elim
    · exact ⟨xs, q, by simp [t.len]⟩
theorem wk_enT {a : Addr} {d : D} {ds : List D} (h : seqOf d = some ds) (hn : ∃ es, d = .tup es) : WkD X true (IteT X.K a) (ds.zipIdx.map fun p => D.tup [.int p.2, p.1]) (PSeq X (.ref a) d) where
  go := fun i Fz H d' ⟨sub, C, r⟩ hd => by
    obtain ⟨d0, h0, rfl⟩ := enum_at hd
    obtain ⟨a', xs, e, t, q⟩ := r.row sub h
    cases e
    rcases q with ⟨_, q⟩ | ⟨z, _⟩
    · obtain ⟨v, h1, _⟩ := t.at h0
      exact ⟨xs, v, q, h1⟩
    · exact (z hn).elim
  yld := fun i Fz H x H' d' ⟨sub, C, r⟩ hd ⟨T, y, e1, e2, e3, e4⟩ => by
    obtain ⟨d0, h0, rfl⟩ := enum_at hd
    obtain ⟨a', xs, e, t, q⟩ := r.row sub h
    cases e
    rcases q with ⟨_, q⟩ | ⟨z, _⟩
    · exact .inr ⟨rfl, T, _, _, e1, e2, e3, rfl, .cons (.int _) (.cons (row_at t h0 (e4 xs q)) .nil)⟩
    · exact (z hn).elim
  stop := fun Fz H ⟨sub, C, r⟩ => by
    obtain ⟨a', xs, e, t, q⟩ := r.row sub h
    cases e
    rcases q with ⟨_, q⟩ | ⟨z, _⟩
    · exact ⟨xs, q, by simp [t.len]⟩
    · exact (z hn).elim
theorem wk_rng {i j : Int}   : WkD X false (L2.Itr i (j - i).toNat) ((List.range (j - i).toNat).map fun (k : Nat) => D.int (i + (k : Int))) (fun _ _ => True) where
  go := fun k Fz H d _ hd => by
    have := (List.getElem?_eq_some_iff.mp hd).1
    show k < (j - i).toNat
    simpa only [List.length_map, List.length_range] using this
  yld := fun k Fz H x H' d _ hd ⟨e1, e2⟩ => by
    rw [List.getElem?_map] at hd
    obtain ⟨k', h1, h2⟩ := Option.map_eq_some_iff.mp hd
    have h3 := List.getElem?_eq_some_iff.mp h1
    obtain ⟨h4, h5⟩ := h3
    simp at h5
    subst h5 h2 e2
    exact .inl ⟨e1, .int _⟩
  stop := fun Fz H _ => by
    show _ ≤ _
    simp
theorem opt_bind_inv {γ γ' ν : Type} {o : Option γ} {k : γ → M γ'} {e : Env} {Re : Rel ν γ'} {s : G3} {Q : ν → Hp → Prop} (c : Cont X W σ s (M.bind (M.opt o) k e) Re Q) : ∃ d, o = some d ∧ Cont X W σ s (k d e) Re Q := by
  cases o with
  | none => exact False.elim c
  | some d => exact ⟨d, rfl, c⟩
/-- tM_bind, the run known -/
theorem tM_bindE {α β ν μ : Type} {Re : Rel ν α} {Re' : Rel μ β} {Q : μ → Hp → Prop} {m : M α} {k : α → M β} (h : tM X W (M.bind m k) Re' σ H Q) :
    ∃ e0, tM X W m Re σ H fun v H1 => ∃ (a : α) (Fz : Hp) (A B : List Addr) (e : Env), m e0 = .ok a e ∧ Ok3 ⟨Fz, H1, A ++ B⟩ ∧ RE X.K X.mg Fz H1 σ e A ∧ Re σ Fz H1 v a B ∧ Cont X W σ ⟨Fz, H1, A ++ B⟩ (k a e) Re' Q := by
  obtain ⟨s, e, rfl, ok, re, c⟩ := h
  refine ⟨e, s, e, rfl, ok, re, ?_⟩
  show Cont X W σ s (m e) Re _
  have c' : Cont X W σ s ((m e).bind fun a => k a) Re' Q := c
  cases r : m e with
  | ok a e1 =>
    rw [r] at c'
    exact fun v Fz H A B ok1 re1 rr st => ⟨a, Fz, A, B, e1, rfl, ok1, re1, rr, Cont.from c' st⟩
  | exc x e1 =>
    rw [r] at c'
    exact c'
  | bad =>
    rw [r] at c'
    exact c'
theorem evOs_len : ∀ {ps : List PE} {e e' : Env} {os : List Opd}, evOs G cf ps e = .ok os e' → os.length = ps.length
  | [], e, e', os, h => by unfold evOs at h; cases h; rfl
  | p :: ps, e, e', os, h => by
    unfold evOs at h
    have h' : ((opd p (evE G cf p) e).bind fun d e1 => ((evOs G cf ps e1).bind fun ds e2 => (R.ok (d :: ds) e2 : R (List Opd)))) = .ok os e' := h
    cases r : opd p (evE G cf p) e with
    | exc x e1 => rw [r] at h'; cases h'
    | bad => rw [r] at h'; cases h'
    | ok d e1 =>
      rw [r] at h'
      have h2 : ((evOs G cf ps e1).bind fun ds e2 => (R.ok (d :: ds) e2 : R (List Opd))) = .ok os e' := h'
      cases r2 : evOs G cf ps e1 with
      | exc x e1 => rw [r2] at h2; cases h2
      | bad => rw [r2] at h2; cases h2
      | ok ds e2 =>
        rw [r2] at h2
        cases h2
        rw [List.length_cons, List.length_cons, evOs_len r2]
theorem Pks.len {vs : List V} {ds : List D} (p : Pks X Fz H vs ds) : vs.length = ds.length := by
  induction p with
  | nil => rfl
  | cons _ _ ih => simp [ih]
theorem evOs_one {γ : Type} {k : List Opd → M γ} : M.bind (evOs G cf [pa]) k = M.bind (opd pa (evE G cf pa)) fun o => k [o] := by
  funext en
  show ((evOs G cf [pa]) en).bind (fun a => k a) = _
  unfold evOs
  unfold evOs
  show (((opd pa (evE G cf pa) en).bind fun d e' => (R.ok [d] e' : R (List Opd)))).bind (fun a => k a) = (opd pa (evE G cf pa) en).bind fun o => k [o]
  cases opd pa (evE G cf pa) en <;> rfl
theorem getAll_pks {A : List Addr} {en : Env} (re : RE X.K X.mg Fz H σ en A) : ∀ {vs : List V} {os : List Opd} {B : List Addr} {ds : List D}, OsR X σ Fz H vs os B → getAll os en = .ok ds en → Pks X Fz H vs ds
  | _, _, _, _, .nil, h => by cases h; exact .nil
  | _, _, _, _, .cons r t, h => by
    obtain ⟨d, ds', rfl, h1, h2, _⟩ := getAll_cons h
    obtain ⟨_, C, ro, _⟩ := opd_get (A := A) h1 r re (fun _ _ e => e) fun _ _ _ e => e
    exact .cons ro (getAll_pks re t h2)
/-- the prefix of a walk, in an expression -/
theorem walk_pre {γ ν : Type} {Re : Rel ν γ} {k : ItK} {it : List PE} {rest : List Opd → List D → M γ} {Q : ν → Hp → Prop} (q : tM X W (M.bind (evOs G cf it) fun os => M.bind (getAll os) fun ds => M.bind (M.opt (items k ds)) fun xs => rest os xs) Re σ H Q) :
    tM X W (evOs G cf it) (relOs X) σ H (fun vs H1 => ∃ (e0 : Env) (os : List Opd) (Fz : Hp) (A B : List Addr) (e : Env) (ds xs : List D), evOs G cf it e0 = .ok os e ∧ Ok3 ⟨Fz, H1, A ++ B⟩ ∧ RE X.K X.mg Fz H1 σ e A ∧ OsR X σ Fz H1 vs os B ∧
      getAll os e = .ok ds e ∧ items k ds = some xs ∧ Cont X W σ ⟨Fz, H1, A ++ B⟩ (rest os xs e) Re Q) := by
  obtain ⟨e0, q⟩ := tM_bindE (Re := relOs X) q
  refine tM_mono q fun vs H1 ⟨os, Fz, A, B, e, hos, ok, re, rs, c⟩ => ?_
  obtain ⟨ds, h1, pk, c⟩ := getAll_inv re rs c
  obtain ⟨xs, h2, c2⟩ := opt_bind_inv c
  exact ⟨e0, os, Fz, A, B, e, ds, xs, hos, ok, re, rs, h1, h2, c2⟩
theorem ops_one {R : List V → Hp → Prop} (q : tM X W (evOs G cf [pa]) (relOs X) σ H R) : tO X W (opd pa (evE G cf pa)) σ H fun x H1 => R [x] H1 := by
  have e1 : evOs G cf [pa] = M.bind (opd pa (evE G cf pa)) fun o => M.pure [o] := by
    have := evOs_one (G := G) (cf := cf) (pa := pa) (k := fun os => (M.pure os : M (List Opd)))
    rw [← this]
    funext en
    show _ = (evOs G cf [pa] en).bind fun a e => PL.R.ok a e
    cases evOs G cf [pa] en <;> rfl
  rw [e1] at q
  refine tM_mono (tM_bind (Re := relO X) q) fun x H1 ⟨o, Fz, A, B, e, ok, re, rx, c⟩ => ?_
  exact c [x] Fz H1 A (B ++ []) (by simpa using ok) re (.cons rx .nil) (by simpa using Step.refl _)
theorem gi_seq (h : GE X W G cf l pa) : GI X W G cf tg l .seq [pa] := by
  refine ⟨_, pi_seq h.opd, fun {σ H KK R} q hR => ?_⟩
  refine tM_mono (ops_one q) fun x H1 ⟨e0, os, Fz, A, B, e, ds, xs, hos, ok, re, rs, hg, hi, kk⟩ => ?_
  cases rs with
  | cons rx rs =>
    cases rs
    obtain ⟨d, ds', rfl, h3, h4, _⟩ := getAll_cons hg
    cases h4
    have hi' : seqOf d = some xs := hi
    obtain ⟨_, C, r1, _⟩ := opd_get (A := A) h3 rx re (fun _ _ e => e) fun _ _ _ e => e
    obtain ⟨a, vs, rfl, t, q⟩ := r1.row ok.sub hi'
    refine ⟨a, rfl, ?_⟩
    have kp := kept_one rx re h3
    simp only [List.append_nil] at ok kk
    rcases q with ⟨z, q⟩ | ⟨z, q⟩
    · exact .inr ⟨vs, q, hR _ Fz H1 A _ e _ xs _ ok re kk (wk_tup hi' z) kp⟩
    · exact .inl ⟨vs, q, hR _ Fz H1 A _ e _ xs _ ok re kk (wk_list hi' z) kp⟩
theorem gi_enum {elts : List Expr} {kk : Nat} {tpos : Pos} (h : GA X W G cf [l] [pa]) (hg : L2.Gl X "enumerate") (hm : X.mg "enumerate" = none) (hs : notStar l = true) : GI X W G cf (.Tuple elts kk tpos) (.Call (.Name "enumerate" p) [l] [] pos) .enum [pa] := by
  refine ⟨_, pi_en hg hm h.ops hs, fun {σ H KK R} q hR => ?_⟩
  refine tM_mono q fun vs H1 ⟨e0, os, Fz, A, B, e, ds, xs, hos, ok, re, rs, hgt, h2, kk⟩ => ?_
  have pk := getAll_pks re rs hgt
  have h2' : ∃ d es, ds = [d] ∧ seqOf d = some es ∧ xs = es.zipIdx.map fun p => .tup [.int p.2, p.1] := by
    match ds, h2 with
    | [d], h2 =>
      obtain ⟨es, k1, k2⟩ := Option.map_eq_some_iff.mp h2
      exact ⟨d, es, rfl, k1, k2.symm⟩
  obtain ⟨d, es, rfl, k1, rfl⟩ := h2'
  obtain ⟨x, C, rfl, r1⟩ := pk.one
  cases rs with
  | cons rx rs =>
    cases rs
    obtain ⟨d0, ds0, e0, h3, _, _⟩ := getAll_cons hgt
    cases e0
    obtain ⟨a, ws, rfl, t, q⟩ := r1.row ok.sub k1
    refine ⟨a, rfl, ?_⟩
    have kp := kept_one rx re h3
    simp only [List.append_nil] at ok kk
    rcases q with ⟨z, q⟩ | ⟨z, q⟩
    · exact .inr ⟨ws, q, hR _ Fz _ A _ e _ _ _ ok re kk (wk_enT k1 z) kp⟩
    · exact .inl ⟨ws, q, hR _ Fz _ A _ e _ _ _ ok re kk (wk_enL k1 z) kp⟩
theorem gi_rng1 (h : GA X W G cf [l] [pa]) (hg : L2.Gl X "range") (hm : X.mg "range" = none) (hs : notStar l = true) : GI X W G cf tg (.Call (.Name "range" p) [l] [] pos) .rng [pa] := by
  refine ⟨_, L2.pi_range1 hg hm h.ops (starEach_cons hs [] X.env), fun {σ H KK R} q hR => ?_⟩
  refine tM_mono q fun vs H1 ⟨e0, os, Fz, A, B, e, ds, xs, hos, ok, re, rs, hgt, h2, kk⟩ => ?_
  have pk := getAll_pks re rs hgt
  have ln : ds.length = 1 := by rw [← pk.len, rs.len, evOs_len hos]; rfl
  match ds, ln, h2, pk with
  | [d], ln, h2, pk =>
    obtain ⟨x, C, rfl, r1⟩ := pk.one
    cases d <;> (try cases h2)
    rename_i j
    obtain rfl := r1.int
    have h3 : rangeD 0 j = some xs := h2
    unfold rangeD at h3
    split at h3
    · rename_i hb
      cases h3
      refine ⟨j, rfl, hb.2.2.1, hb.2.2.2, ?_⟩
      have w := wk_rng (X := X) (i := 0) (j := j)
      rw [Int.sub_zero] at w
      exact hR _ Fz H1 A B e os _ _ ok re kk (by rw [Int.sub_zero]; exact w) (fun _ _ _ _ _ _ _ _ _ _ _ => trivial)
    · cases h3
theorem gi_rng2 {l2 : Expr} (h : GA X W G cf [l, l2] [pa, pb]) (hg : L2.Gl X "range") (hm : X.mg "range" = none) (hs : notStar l = true) (hs2 : notStar l2 = true) : GI X W G cf tg (.Call (.Name "range" p) [l, l2] [] pos) .rng [pa, pb] := by
  have st2 := starEach_cons hs2 [] X.env
  refine ⟨_, L2.pi_range2 hg hm h.ops ((starEach_cons hs [l2] X.env).trans (by rw [st2]; rfl)) st2, fun {σ H KK R} q hR => ?_⟩
  refine tM_mono q fun vs H1 ⟨e0, os, Fz, A, B, e, ds, xs, hos, ok, re, rs, hgt, h2, kk⟩ => ?_
  have pk := getAll_pks re rs hgt
  have ln : ds.length = 2 := by rw [← pk.len, rs.len, evOs_len hos]; rfl
  match ds, ln, h2, pk with
  | [d, d'], ln, h2, pk =>
    obtain ⟨x, y, C, C', rfl, r1, r2⟩ := pk.two
    cases d <;> cases d' <;> (try cases h2)
    rename_i i j
    obtain rfl := r1.int
    obtain rfl := r2.int
    have h3 : rangeD i j = some xs := h2
    unfold rangeD at h3
    split at h3
    · rename_i hb
      cases h3
      exact ⟨i, j, rfl, ⟨hb.1, hb.2.1, hb.2.2.1, hb.2.2.2⟩, hR _ Fz H1 A B e os _ _ ok re kk wk_rng (fun _ _ _ _ _ _ _ _ _ _ _ => trivial)⟩
    · cases h3
end
end PL

-- S20
set_option Elab.async false
set_option linter.all false
set_option maxRecDepth 100000
set_option maxHeartbeats 1000000
namespace PL
open PySem (Str Addr Value Shared Expr Stmt Pos Scope Obj Sem Operator CmpOp binaryOp compareOp inplaceOp sizeLine PyData unaryOp)
open L2 (V HO Hp SqL SqT upd upd_same upd_ne St VK TE TT TA XK WX PT PW PA Inv Cx R2 OpR rI rI0 tOp Room CallR FnR TG TGs It TI)
section
variable {X : Cx} {W : WX} {G : Prog} {cf : CF} {a b c e l : Expr} {pa pb pc pe : PE} {pos p : Pos} {es : List Expr} {ps : List PE} {Fz H : Hp} {x v : V} {σ : St}
/-- a part whose run is known, beside what is held -/
theorem sub_run {α ν : Type} {Re : Rel ν α} {m : M α} {en en' : Env} {r : α} {A Z : List Addr} {Q : ν → Hp → Prop} (h : m en = .ok r en') (ok : Ok3 ⟨Fz, H, A ++ Z⟩) (re : RE X.K X.mg Fz H σ en A)
    (k : ∀ (v : ν) (Fz' H' : Hp) (A' B' : List Addr), Ok3 ⟨Fz', H', (A' ++ B') ++ Z⟩ → RE X.K X.mg Fz' H' σ en' A' → Re σ Fz' H' v r B' → Step ⟨Fz, H, A ++ Z⟩ ⟨Fz', H', (A' ++ B') ++ Z⟩ → (∀ a o, a ∈ Z → H a = some o → H' a = some o) → Q v H') : tM X W m Re σ H Q := by
  refine ⟨⟨Fz, H, A⟩, en, rfl, ok.left, re, ?_⟩
  rw [h]
  intro v Fz' H' A' B' ok' re' rr st
  obtain ⟨ok2, st2⟩ := Ok3.frame ok ok' st
  exact k v Fz' H' A' B' ok2 re' rr st2 (held ok st)
/-- a new object that nobody owns -/
theorem step_junk {A : List Addr} {T : Addr} {u : HO} (ok : Ok3 ⟨Fz, H, A⟩) (hT : H T = none) : Ok3 ⟨Fz, upd H T u, A⟩ ∧ Step ⟨Fz, H, A⟩ ⟨Fz, upd H T u, A⟩ ∧ ∀ a o, H a = some o → upd H T u a = some o := by
  have kp : ∀ a o, H a = some o → upd H T u a = some o := fun a o e => by rw [upd_ne (L2.ne_of_none e hT)]; exact e
  refine ⟨⟨fun a o e => kp a o (ok.sub a o e), ok.nd, ok.nf, fun a h => ?_⟩, ⟨fun a o e _ => kp a o e, fun _ _ e => e, fun _ h => .inl h, fun _ _ e => .inl e, fun a h => ?_⟩, kp⟩
  · have := ok.dom a h
    show upd H T u a ≠ none
    cases e : H a with
    | none => exact absurd e this
    | some o => rw [kp a o e]; simp
  · show upd H T u a ≠ none
    cases e : H a with
    | none => exact absurd e h
    | some o => rw [kp a o e]; simp
/-- .. that is owned -/
theorem step_new {A : List Addr} {T : Addr} {u : HO} (ok : Ok3 ⟨Fz, H, A⟩) (hT : H T = none) : Ok3 ⟨Fz, upd H T u, A ++ [T]⟩ ∧ Step ⟨Fz, H, A⟩ ⟨Fz, upd H T u, A ++ [T]⟩ := by
  obtain ⟨ok1, st1, kp⟩ := step_junk (u := u) ok hT
  have nT : T ∉ A := fun h => ok.dom T h hT
  refine ⟨⟨ok1.sub, ?_, fun a h => ?_, fun a h => ?_⟩, ⟨st1.frm, st1.fz, fun a h => ?_, st1.nfz, st1.dom⟩⟩
  · refine List.nodup_append.mpr ⟨ok.nd, by simp, fun a ha b hb z => ?_⟩
    rw [List.mem_singleton] at hb
    subst hb z
    exact nT ha
  · rcases List.mem_append.mp h with h | h
    · exact ok.nf a h
    · rw [List.mem_singleton] at h
      subst h
      show Fz a = none
      cases e : Fz a with
      | none => rfl
      | some o =>
        have q : H a = some o := ok.sub a o e
        rw [hT] at q; cases q
  · rcases List.mem_append.mp h with h | h
    · exact ok1.dom a h
    · rw [List.mem_singleton] at h
      subst h
      show upd H a u a ≠ none
      rw [upd_same]; simp
  · rcases List.mem_append.mp h with h | h
    · exact .inl h
    · rw [List.mem_singleton] at h
      subst h; exact .inr hT
theorem wipe_eq {σ σ' : St} {vs : List Nat} (hl : σ'.length = σ.length) (h : ∀ i, i ∉ vs → σ'[i]? = σ[i]?) : L2.wipe σ' vs = L2.wipe σ vs := by
  apply List.ext_getElem?
  intro i
  by_cases hi : i ∈ vs
  · have z : ∀ (σ : St) (vs : List Nat), i ∈ vs → i < σ.length → (L2.wipe σ vs)[i]? = some none := by
      intro σ vs
      induction vs with
      | nil => intro h; cases h
      | cons j vs ih =>
        intro h hs
        unfold L2.wipe
        by_cases q : j = i
        · subst q
          rw [List.getElem?_set_self (by rw [L2.wipe_length]; exact hs)]
        · rw [List.getElem?_set_ne q]
          rcases List.mem_cons.mp h with h | h
          · exact (q h.symm).elim
          · exact ih h hs
    by_cases hs : i < σ.length
    · rw [z σ vs hi hs, z σ' vs hi (by rw [hl]; exact hs)]
    · rw [List.getElem?_eq_none (by rw [L2.wipe_length]; omega), List.getElem?_eq_none (by rw [L2.wipe_length]; omega)]
  · rw [L2.wipe_out hi, L2.wipe_out hi, h i hi]
theorem wipe_wipe {σ : St} {vs : List Nat} : L2.wipe (L2.wipe σ vs) vs = L2.wipe σ vs := wipe_eq (L2.wipe_length σ vs) fun i hi => L2.wipe_out hi
/-! ### a comprehension's run -/
theorem compL_ok {turn : D → M (Option D)} {w : List (Nat × D)} : ∀ {ds acc : List D} {en : Env}, (∃ r e', compL turn w ds acc en = .ok r e') ∨ compL turn w ds acc en = .bad
  | [], acc, en => .inl ⟨acc, en, rfl⟩
  | d :: ds, acc, en => by
    have un : compL turn w (d :: ds) acc en = ((M.nox (turn d)) en).bind fun r e => if still w e then (match r with
      | some v => if acc.length < LINE then compL turn w ds (acc ++ [v]) e else .bad
      | none => compL turn w ds acc e) else .bad := rfl
    rw [un]
    unfold M.nox
    cases turn d en with
    | bad => exact .inr rfl
    | exc x e1 => exact .inr rfl
    | ok r e1 =>
      show (∃ _ _, (if still w e1 = true then _ else _) = _) ∨ (if still w e1 = true then _ else _) = _
      by_cases z : still w e1 = true
      · rw [if_pos z]
        cases r with
        | none => exact compL_ok
        | some v =>
          dsimp only
          by_cases q : acc.length < LINE
          · rw [if_pos q]; exact compL_ok
          · rw [if_neg q]; exact .inr rfl
      · rw [if_neg z]; exact .inr rfl
theorem compL_cons {turn : D → M (Option D)} {w : List (Nat × D)} {d : D} {ds acc res : List D} {en eF : Env} (h : compL turn w (d :: ds) acc en = .ok res eF) : ∃ r e1, turn d en = .ok r e1 ∧ still w e1 = true ∧
    ((r = none ∧ compL turn w ds acc e1 = .ok res eF) ∨ ∃ v, r = some v ∧ acc.length < LINE ∧ compL turn w ds (acc ++ [v]) e1 = .ok res eF) := by
  have un : compL turn w (d :: ds) acc en = ((M.nox (turn d)) en).bind fun r e => if still w e then (match r with
      | some v => if acc.length < LINE then compL turn w ds (acc ++ [v]) e else .bad
      | none => compL turn w ds acc e) else .bad := rfl
  rw [un] at h
  unfold M.nox at h
  cases q : turn d en with
  | bad => rw [q] at h; cases h
  | exc x e1 => rw [q] at h; cases h
  | ok r e1 =>
    rw [q] at h
    have h' : (if still w e1 = true then (match r with
      | some v => if acc.length < LINE then compL turn w ds (acc ++ [v]) e1 else .bad
      | none => compL turn w ds acc e1) else .bad) = .ok res eF := h
    by_cases z : still w e1 = true
    · rw [if_pos z] at h'
      refine ⟨r, e1, rfl, z, ?_⟩
      cases r with
      | none => exact .inl ⟨rfl, h'⟩
      | some v =>
        dsimp only at h'
        by_cases q : acc.length < LINE
        · rw [if_pos q] at h'; exact .inr ⟨v, rfl, q, h'⟩
        · rw [if_neg q] at h'; cases h'
    · rw [if_neg z] at h'; cases h'
/-- a turn's parts -/
theorem turnC_ok {own : List Nat} {asg : D → M Unit} {cond : M Bool} {elt : M D} {d : D} {en e1 : Env} {r : Option D} (h : turnC own asg cond elt d en = .ok r e1) :
    ∃ e2 b e3, asg d en = .ok () e2 ∧ cond e2 = .ok b e3 ∧ ((b = false ∧ r = none ∧ e1 = wipeSlots own e3) ∨ ∃ v e4, b = true ∧ elt e3 = .ok v e4 ∧ r = some v.frz ∧ e1 = wipeSlots own e4) := by
  have h' : (((asg d en).bind fun _ e2 => (cond e2).bind fun b e3 => (if b then M.bind elt fun v => M.pure (some v.frz) else M.pure none : M (Option D)) e3).bind fun r e' => (.ok r (wipeSlots own e') : R (Option D))) = .ok r e1 := h
  cases q : asg d en with
  | bad => rw [q] at h'; cases h'
  | exc x e => rw [q] at h'; cases h'
  | ok u e2 =>
    rw [q] at h'
    have h2 : (((cond e2).bind fun b e3 => (if b then M.bind elt fun v => M.pure (some v.frz) else M.pure none : M (Option D)) e3).bind fun r e' => (.ok r (wipeSlots own e') : R (Option D))) = .ok r e1 := h'
    cases q2 : cond e2 with
    | bad => rw [q2] at h2; cases h2
    | exc x e => rw [q2] at h2; cases h2
    | ok b e3 =>
      rw [q2] at h2
      refine ⟨e2, b, e3, rfl, q2, ?_⟩
      cases b with
      | false =>
        have h3 : (R.ok none (wipeSlots own e3) : R (Option D)) = .ok r e1 := h2
        cases h3
        exact .inl ⟨rfl, rfl, rfl⟩
      | true =>
        have h3 : (((elt e3).bind fun v e' => (R.ok (some v.frz) e' : R (Option D))).bind fun r e' => (.ok r (wipeSlots own e') : R (Option D))) = .ok r e1 := h2
        cases q3 : elt e3 with
        | bad => rw [q3] at h3; cases h3
        | exc x e => rw [q3] at h3; cases h3
        | ok v e4 =>
          rw [q3] at h3
          have h4 : (R.ok (some v.frz) (wipeSlots own e4) : R (Option D)) = .ok r e1 := h3
          cases h4
          exact .inr ⟨v, e4, rfl, rfl, rfl, rfl⟩
end
end PL

-- S21
set_option Elab.async false
set_option linter.all false
set_option maxRecDepth 100000
set_option maxHeartbeats 2000000
namespace PL
open PySem (Str Addr Value Shared Expr Stmt Pos Scope Obj Sem Operator CmpOp binaryOp compareOp inplaceOp sizeLine PyData unaryOp)
open L2 (V HO Hp SqL SqT upd upd_same upd_ne St VK TE TT TA XK WX PT PW PA Inv Cx R2 OpR rI rI0 tOp Room CallR FnR TG TGs It TI)
/-- no exception is wanted -/
abbrev WF : WX := fun _ _ _ _ => False
section
variable {X : Cx} {W : WX} {G : Prog} {cf : CF} {a b c e l : Expr} {pa pb pc pe : PE} {pos p : Pos} {es : List Expr} {ps : List PE} {Fz H : Hp} {x v : V} {σ : St}
theorem perm_mid (A Z A0 : List Addr) : ((A ++ Z) ++ A0).Perm ((A ++ A0) ++ Z) := by
  rw [List.append_assoc, List.append_assoc]
  exact (List.perm_append_comm).append_left A
/-- where a comprehension stands -/
def CSt (X : Cx) (σ : St) (vs : List Nat) (s0 : G3) (H1 : Hp) (B : List Addr) (Dd : Addr) (e2 : Env) (acc : List D) (H : Hp) : Prop := ∃ (Fz2 : Hp) (A2 : List Addr) (av : List V), Ok3 ⟨Fz2, H, A2 ++ (B ++ [Dd])⟩ ∧ RE X.K X.mg Fz2 H (L2.wipe σ vs) e2 A2 ∧ H Dd = some (.lst av) ∧
  RFs X.K X.mg Fz2 av acc ∧ Step s0 ⟨Fz2, H, A2 ++ (B ++ [Dd])⟩ ∧ (∀ a o, a ∈ B → H1 a = some o → H a = some o)
/-- an item taken by the target -/
theorem item_ok {bp : Bool} {ptg : Tgt} {d : D} {en e2 : Env} {A Z : List Addr} {x : V} {H' : Hp} {Q : St → Hp → Prop} (hp : bp = true → ∃ ts, ptg = .tup ts) (ok : Ok3 ⟨Fz, H, A ++ Z⟩) (re : RE X.K X.mg Fz H σ en A) (ri : RI X bp Fz H x d H') (ha : asgT ptg d en = .ok () e2)
    (q : ∀ σ' A', Ok3 ⟨Fz, H', A' ++ Z⟩ → RE X.K X.mg Fz H' σ' e2 A' → Step ⟨Fz, H, A ++ Z⟩ ⟨Fz, H', A' ++ Z⟩ → (∀ a o, H a = some o → H' a = some o) → (∀ i, i ∉ ptg.slots → σ'[i]? = σ[i]?) → σ'.length = σ.length → Q σ' H') : gOf X.K ptg x σ H' Q := by
  have fin : ∀ {H' : Hp}, Ok3 ⟨Fz, H', A ++ Z⟩ → Step ⟨Fz, H, A ++ Z⟩ ⟨Fz, H', A ++ Z⟩ → (∀ a o, H a = some o → H' a = some o) →
      (∀ σ' A', Ok3 ⟨Fz, H', A' ++ Z⟩ → RE X.K X.mg Fz H' σ' e2 A' → Step ⟨Fz, H, A ++ Z⟩ ⟨Fz, H', A' ++ Z⟩ → (∀ a o, H a = some o → H' a = some o) → (∀ i, i ∉ ptg.slots → σ'[i]? = σ[i]?) → σ'.length = σ.length → Q σ' H') →
      ∀ σ', Stored X.K X.mg Fz H' σ [] A ptg.slots e2 σ' → Q σ' H' := fun {H'} ok1 st1 kp q σ' ⟨A', A0, r, p, h1, h2⟩ => by
    have pp : (A' ++ A0).Perm A := by simpa using p
    have ok2 : Ok3 ⟨Fz, H', (A' ++ Z) ++ A0⟩ := ok1.perm (by
      refine (pp.symm.append_right Z).trans ?_
      rw [List.append_assoc, List.append_assoc]
      exact (List.perm_append_comm).append_left A')
    exact q σ' A' ok2.left r (st1.sub (A' := A' ++ Z) fun a h => by
      rcases List.mem_append.mp h with h | h
      · exact List.mem_append_left _ (pp.mem_iff.mp (List.mem_append_left _ h))
      · exact List.mem_append_right _ h) kp h1 h2
  rcases ri with ⟨rfl, rf⟩ | ⟨hb, T, xs, es, rfl, hT, rfl, rfl, rs⟩
  · exact asg_ok ok.sub ha (.sh rf) re (fin ok (Step.refl _) (fun _ _ e => e) q)
  · obtain ⟨ts, rfl⟩ := hp hb
    obtain ⟨ok1, st1, kp⟩ := step_junk (u := .tup xs) ok hT
    exact asg_pair ok1.sub ha (.inl (.inl upd_same)) rs (re.up (fun _ _ e => e) fun a o _ e => kp a o e) (fin ok1 st1 kp q)
theorem comp_run {J : It} {bp : Bool} {xs : List D} {P : Hp → Hp → Prop} {ptg : Tgt} {own : List Nat} {cond : M Bool} {elt : M D} {w : List (Nat × D)} {s0 : G3} {H1 : Hp} {B : List Addr} {Dd : Addr} {res : List D} {eF e0 : Env} {Qd : Hp → Prop}
    (hp : bp = true → ∃ ts, ptg = .tup ts) (hsl : ∀ i ∈ ptg.slots, i ∈ own) (wk : WkD X bp J xs P)
    (kp : ∀ Fz' H' e' A', Step s0 ⟨Fz', H', A'⟩ → (∀ a o, a ∈ B → H1 a = some o → H' a = some o) → (∀ a o, Fz' a = some o → H' a = some o) → (∃ A'', RE X.K X.mg Fz' H' (L2.wipe σ own) e' A'') → still w e' = true → P Fz' H')
    (h0 : compL (turnC own (asgT ptg) cond elt) w xs [] e0 = .ok res eF) (st0 : still w e0 = true) {HD : Hp} (i0 : CSt X σ own s0 H1 B Dd e0 [] HD)
    (hd : ∀ H, CSt X σ own s0 H1 B Dd eF res H → Qd H) :
    ∃ Wm : Nat → Nat → Hp → Prop, (∃ m, Wm 0 m HD) ∧ ∀ i m H, Wm i m H → (J.stop i H ∧ Qd H) ∨ (J.go i H ∧ ∃ Nx : Hp → Prop, (∀ H', Nx H' → ∃ m', m' < m ∧ Wm (i + 1) m' H') ∧ ∀ x H', J.yld i H x H' → gOf X.K ptg x (L2.wipe σ own) H' fun σ2 H2 => L2.wipe σ2 own = L2.wipe σ own ∧
      tT X WF cond σ2 H2 fun b H3 => if b = true then tE X WF elt σ2 H3 fun y H4 => ∃ acc, H4 Dd = some (.lst acc) ∧ acc.length < sizeLine ∧ Nx (upd H4 Dd (.lst (acc ++ [y]))) else Nx H3) := by
  refine ⟨fun i m H => m = xs.length - i ∧ i ≤ xs.length ∧ ∃ e2 acc, compL (turnC own (asgT ptg) cond elt) w (xs.drop i) acc e2 = .ok res eF ∧ still w e2 = true ∧ CSt X σ own s0 H1 B Dd e2 acc H,
    ⟨xs.length, by simp, Nat.zero_le _, e0, [], by simpa using h0, st0, i0⟩, ?_⟩
  rintro i m H ⟨rfl, hi, e2, acc, hrun, hst, cs⟩
  obtain ⟨Fz2, A2, av, ok2, re2, hD, rs2, st2, kB⟩ := id cs
  have hP : P Fz2 H := kp Fz2 H e2 _ st2 kB ok2.sub ⟨A2, re2⟩ hst
  by_cases hlt : i < xs.length
  · obtain ⟨d, hxd⟩ : ∃ d, xs[i]? = some d := ⟨xs[i], List.getElem?_eq_getElem hlt⟩
    have hdr : xs.drop i = d :: xs.drop (i + 1) := by
      rw [List.drop_eq_getElem_cons hlt]
      have : xs[i] = d := by rw [List.getElem?_eq_getElem hlt] at hxd; exact Option.some.inj hxd
      rw [this]
    rw [hdr] at hrun
    obtain ⟨r, e3, ht, hst3, hr⟩ := compL_cons hrun
    obtain ⟨e4, b, e5, ha, hc, hel⟩ := turnC_ok ht
    refine .inr ⟨wk.go i Fz2 H d hP hxd, fun H' => (xs.length - (i + 1)) = xs.length - (i + 1) ∧ i + 1 ≤ xs.length ∧ ∃ e2 acc, compL (turnC own (asgT ptg) cond elt) w (xs.drop (i + 1)) acc e2 = .ok res eF ∧ still w e2 = true ∧ CSt X σ own s0 H1 B Dd e2 acc H',
      fun H' n => ⟨xs.length - (i + 1), by omega, n⟩, fun x H' hy => ?_⟩
    refine item_ok hp ok2 re2 (wk.yld i Fz2 H x H' d hP hxd hy) ha fun σ2 A4 ok4 re4 st4 kp4 hk hl => ⟨?_, ?_⟩
    · rw [wipe_eq hl fun j hj => hk j fun z => hj (hsl j z), wipe_wipe]
    · have wq : L2.wipe σ2 own = L2.wipe σ own := by rw [wipe_eq hl fun j hj => hk j fun z => hj (hsl j z), wipe_wipe]
      have hD4 : H' Dd = some (.lst av) := kp4 _ _ hD
      refine sub_run hc ok4 re4 fun v5 Fz5 H5 A5 B5 ok5 re5 rb st5 hz5 b' hb => ?_
      obtain ⟨hv, rfl⟩ := rb
      rw [hv] at hb
      cases hb
      simp only [List.append_nil] at ok5 st5
      have hD5 : H5 Dd = some (.lst av) := hz5 _ _ (by simp) hD4
      have kB5 : ∀ a o, a ∈ B → H1 a = some o → H5 a = some o := fun a o m e => hz5 a o (by simp [m]) (kp4 a o (kB a o m e))
      have rs5 : RFs X.K X.mg Fz5 av acc := rs2.up fun a o e => st5.fz a o (st4.fz a o e)
      rcases hel with ⟨rfl, rfl, rfl⟩ | ⟨v, e6, rfl, hv6, rfl, rfl⟩
      · rw [if_neg (by decide)]
        rcases hr with ⟨_, hr⟩ | ⟨v, hr, _⟩
        · refine ⟨rfl, hlt, wipeSlots own e5, acc, hr, hst3, ?_⟩
          obtain ⟨A6, A0, r6, p6⟩ := re5.wiped own
          rw [wq] at r6
          have pp : ((A6 ++ (B ++ [Dd])) ++ A0).Perm (A5 ++ (B ++ [Dd])) := by
            exact (perm_mid _ _ _).trans (p6.append_right _)
          exact ⟨Fz5, A6, av, (ok5.perm pp.symm).left, r6, hD5, rs5, ((st2.trans st4).trans st5).sub fun a h => pp.mem_iff.mp (List.mem_append_left _ h), kB5⟩
        · cases hr
      · rw [if_pos rfl]
        rcases hr with ⟨hr, _⟩ | ⟨v', hr, hlen, hrun2⟩
        · cases hr
        · cases hr
          refine sub_run hv6 ok5 re5 fun y Fz6 H6 A6 B6 ok6 re6 ry st6 hz6 => ?_
          obtain ⟨Fz7, rf, st7, ok7⟩ := freeze_top ok6 ry
          have hD6 : H6 Dd = some (.lst av) := hz6 _ _ (by simp) hD5
          refine ⟨av, hD6, by rw [rs5.len, ← line_eq]; exact hlen, rfl, hlt, wipeSlots own e6, acc ++ [v.frz], hrun2, hst3, ?_⟩
          obtain ⟨ok8, st8⟩ := upd_own (l := Dd) (o := .lst (av ++ [y])) ok7 (by simp)
          have nD : Dd ∉ A6 := fun h => (List.nodup_append.mp ok7.nd).2.2 Dd h Dd (by simp) rfl
          have nB : Dd ∉ B := fun h => by
            have n1 := (List.nodup_append.mp ok7.nd).2.1
            exact (List.nodup_append.mp n1).2.2 Dd h Dd (by simp) rfl
          have re8 : RE X.K X.mg Fz7 (upd H6 Dd (.lst (av ++ [y]))) σ2 e6 A6 := re6.up st7.fz fun a o m e => by
            rw [upd_ne (a := Dd) fun z => nD (by rw [← z]; exact m)]; exact e
          obtain ⟨A9, A0, r9, p9⟩ := re8.wiped own
          rw [wq] at r9
          have pp : ((A9 ++ (B ++ [Dd])) ++ A0).Perm (A6 ++ (B ++ [Dd])) := by
            exact (perm_mid _ _ _).trans (p9.append_right _)
          refine ⟨Fz7, A9, av ++ [y], (ok8.perm pp.symm).left, r9, upd_same, (rs5.up fun a o e => st7.fz a o (st6.fz a o e)).app (.cons rf .nil), (((((st2.trans st4).trans st5).trans st6).trans st7).trans st8).sub fun a h => pp.mem_iff.mp (List.mem_append_left _ h), fun a o m e => ?_⟩
          rw [upd_ne fun z => nB (by rw [← z]; exact m)]
          exact hz6 a o (by simp [m]) (kB5 a o m e)
  · have ei : i = xs.length := by omega
    subst ei
    rw [List.drop_length] at hrun
    cases hrun
    exact .inl ⟨wk.stop Fz2 H hP, hd H cs⟩
end
end PL

-- S22
set_option Elab.async false
set_option linter.all false
set_option maxRecDepth 100000
set_option maxHeartbeats 2000000
namespace PL
open PySem (Str Addr Value Shared Expr Stmt Pos Scope Obj Sem Operator CmpOp binaryOp compareOp inplaceOp sizeLine PyData unaryOp)
open L2 (V HO Hp SqL SqT upd upd_same upd_ne St VK TE TT TA XK WX PT PW PA Inv Cx R2 OpR rI rI0 tOp Room CallR FnR TG TGs It TI)
section
variable {X : Cx} {W : WX} {G : Prog} {cf : CF} {a b c e l : Expr} {pa pb pc pe : PE} {pos p : Pos} {es : List Expr} {ps : List PE} {Fz H : Hp} {x v : V} {σ : St}
theorem PTs.imp {es : List Expr} {t t' : TT} (h : L2.PTs X es t) (k : ∀ σ H Q, t' σ H Q → t σ H Q) : L2.PTs X es t' := ⟨fun pins s σ H Q I q => h.run pins s σ H Q I (k σ H Q q)⟩
theorem gts_nil : L2.PTs X [] (tT X W (condsL (evTs G cf []))) := PTs.imp L2.pts_nil fun σ H Q q => tT_pure (by simpa only [tT, evTs, condsL] using q)
theorem gts_one {ta : PB} (h : PT X c (tT X W (evT G cf ta))) : L2.PTs X [c] (tT X W (condsL (evTs G cf [ta]))) := PTs.imp (L2.pts_one h) fun σ H Q q => by
  have q' : tM X W (M.bind (evT G cf ta) fun r => if r then condsL [] else M.pure false) relB σ H (fun v H1 => ∀ b, v = .bl b → Q b H1) := by simpa only [tT, evTs, condsL] using q
  refine tT_bind q' fun b H q => ?_
  cases b with
  | true => exact tT_pure q
  | false => exact tT_pure q
/-- the block's own world -/
abbrev Blk (X : Cx) (scope : Scope) (s : Shared) (H : Hp) (C : Addr) (cl : List (Str × Addr)) (fp : List Addr) : Cx := L2.Cx.blk X s H scope (PySem.compEnvC scope cl C X.env) fp
theorem comp_start {own : List Nat} {A B : List Addr} {en : Env} {Dd : Addr} (ok : Ok3 ⟨Fz, H, A ++ B⟩) (re : RE X.K X.mg Fz H σ en A) (hD : H Dd = none) : CSt X σ own ⟨Fz, H, A ++ B⟩ H B Dd (wipeSlots own en) [] (upd H Dd (.lst [])) := by
  obtain ⟨A2, A0, r2, p2⟩ := re.wiped own
  obtain ⟨ok1, st1⟩ := step_new (u := .lst []) ok hD
  have pp : ((A2 ++ (B ++ [Dd])) ++ A0).Perm ((A ++ B) ++ [Dd]) := by
    refine (perm_mid _ _ _).trans ?_
    rw [← List.append_assoc]
    exact (p2.append_right B).append_right [Dd]
  exact ⟨Fz, A2, [], (ok1.perm pp.symm).left, r2.up (fun _ _ e => e) fun a o _ e => by rw [upd_ne (L2.ne_of_none e hD)]; exact e, upd_same, .nil, st1.sub fun a h => pp.mem_iff.mp (List.mem_append_left _ h),
    fun a o _ e => by rw [upd_ne (L2.ne_of_none e hD)]; exact e⟩
theorem comp_imp {own : List (Str × Nat)} {ptg : Tgt} {k : ItK} {it : List PE} {pelt : PE} {pifs : List PB} {wi : TI}
    (hrd : ∀ {σ : St} {H : Hp} {KK : List Opd → List D → Env → Hp → Hp → List Addr → List Addr → Prop} {R : It → Hp → Prop},
       tM X W (evOs G cf it) (relOs X) σ H (fun vs H1 => ∃ (e0 : Env) (os : List Opd) (Fz : Hp) (A B : List Addr) (e : Env) (ds xs : List D), evOs G cf it e0 = .ok os e ∧ Ok3 ⟨Fz, H1, A ++ B⟩ ∧ RE X.K X.mg Fz H1 σ e A ∧ OsR X σ Fz H1 vs os B ∧
         getAll os e = .ok ds e ∧ items k ds = some xs ∧ KK os xs e Fz H1 A B) →
       (∀ (J : It) (Fz H1 : Hp) (A B : List Addr) (e : Env) (os : List Opd) (xs : List D) (P : Hp → Hp → Prop), Ok3 ⟨Fz, H1, A ++ B⟩ → RE X.K X.mg Fz H1 σ e A → KK os xs e Fz H1 A B → WkD X k.pairs J xs P → Kept X σ os e Fz H1 B P → R J H1) → wi σ H R)
    (hp : k.pairs = true → ∃ ts, ptg = .tup ts) (hsl : ∀ i ∈ ptg.slots, i ∈ own.map (·.2)) : ∀ σ H Q, tE X W (evE G cf (.comp pelt ptg (own.map (·.2)) k it pifs)) σ H Q →
      L2.tLc wi (gOf X.K ptg) (tT X WF (condsL (evTs G cf pifs))) (tE X WF (evE G cf pelt)) (own.map (·.2)) σ H Q := fun σ H Q q => by
  simp only [evE] at q
  refine hrd (KK := fun os xs e Fz H1 A B => Cont X W σ ⟨Fz, H1, A ++ B⟩ ((if still (watch os e) (wipeSlots (own.map (·.2)) e) then (compL (turnC (own.map (·.2)) (asgT ptg) (condsL (evTs G cf pifs)) (evE G cf pelt)) (watch os e) xs [] (wipeSlots (own.map (·.2)) e)).bind fun ds e' => .ok (.lst true ds) e' else .bad : R D)) (relE X) Q) (walk_pre q) fun J Fz H1 A B e os xs P ok re c wk kept => ?_
  intro Dd hD
  by_cases hst : still (watch os e) (wipeSlots (own.map (·.2)) e) = true
  · rw [if_pos hst] at c
    rcases compL_ok (turn := turnC (own.map (·.2)) (asgT ptg) (condsL (evTs G cf pifs)) (evE G cf pelt)) (w := watch os e) (ds := xs) (acc := []) (en := wipeSlots (own.map (·.2)) e) with ⟨res, eF, hr⟩ | hr
    · rw [hr] at c
      refine comp_run (s0 := ⟨Fz, H1, A ++ B⟩) (H1 := H1) (B := B) hp hsl wk (fun Fz' H' e' A' st kb sub ⟨A'', re'⟩ stl => kept Fz' H' _ e' A'' st.fz kb sub re' stl fun p _ v hv => (L2.wipe_some hv).1) hr hst (comp_start ok re hD) fun H ⟨Fz2, A2, av, ok2, re2, hl, rs, st, _⟩ => ?_
      have c' : Cont X W σ ⟨Fz, H1, A ++ B⟩ (.ok (.lst true res) eF) (relE X) Q := c
      have pp : (A2 ++ (B ++ [Dd])).Perm ((A2 ++ [Dd]) ++ B) := by
        rw [← List.append_assoc]
        exact perm_mid _ _ _
      exact c' (.ref Dd) Fz2 H A2 [Dd] (ok2.perm pp).left re2.unwiped (.lst hl rs) (st.sub fun a h => pp.mem_iff.mpr (List.mem_append_left _ h))
    · rw [hr] at c; exact False.elim c
  · rw [if_neg hst] at c; exact False.elim c
theorem ge_comp {elt tg iter : Expr} {ifs : List Expr} {scope : Scope} {own : List (Str × Nat)} {ptg : Tgt} {k : ItK} {it : List PE} {pelt : PE} {pifs : List PB} (hc : X.calm = true) (hN : X.N.Nodup) (hi : GI X W G cf tg iter k it) (okb : L2.BlkOk X.N X.env.scope scope own)
    (hp : k.pairs = true → ∃ ts, ptg = .tup ts) (hsl : ∀ i ∈ ptg.slots, i ∈ own.map (·.2))
    (hg : ∀ s H C cl fp, L2.PG (Blk X scope s H C cl fp) tg (gOf X.K ptg)) (ht : ∀ s H C cl fp, L2.PTs (Blk X scope s H C cl fp) ifs (tT (Blk X scope s H C cl fp) WF (condsL (evTs G cf pifs))))
    (he : ∀ s H C cl fp, L2.PE (Blk X scope s H C cl fp) elt (tE (Blk X scope s H C cl fp) WF (evE G cf pelt))) (hs : ∀ x, PySem.foldedSetIterable iter X.env x = pure x) :
    GE X W G cf (.ListComp elt [⟨tg, iter, ifs, 0⟩] scope pos) (.comp pelt ptg (own.map (·.2)) k it pifs) := by
  obtain ⟨wi, hPI, hrd⟩ := hi.ex
  exact .of (PE.imp (L2.pe_lc (tt := tT X WF (condsL (evTs G cf pifs))) (te := tE X WF (evE G cf pelt)) hc hN hPI okb hg ht he hs) (comp_imp hrd hp hsl)) rfl
/-! ### over a dict's pairs, values -/
theorem wk_items {d : Addr} {od : Obj} {ks : List Key} {xs : List V} {vs : List D} (hl : ks.length = xs.length) : WkD X true (L2.Iti d od (ks.zip xs)) ((ks.zip vs).map fun p => D.tup [D.ofKey p.1, p.2]) (fun Fz H => H d = some (.frz od (.dK (ks.zip xs))) ∧ RFs X.K X.mg Fz xs vs ∧ (∀ k ∈ ks, RF X.K X.mg Fz (L2.kV k) (D.ofKey k))) where
  go := fun i Fz H dd ⟨h1, h2, _⟩ hd => by
    refine ⟨h1, ?_⟩
    have := (List.getElem?_eq_some_iff.mp hd).1
    simp only [List.length_map, List.length_zip] at this ⊢
    have := h2.len
    omega
  yld := fun i Fz H x H' dd ⟨h1, h2, h3⟩ hd ⟨T, k, v, e1, e2, e3, e4⟩ => by
    rw [List.getElem?_map] at hd
    obtain ⟨⟨k', v'⟩, m1, m2⟩ := Option.map_eq_some_iff.mp hd
    obtain ⟨z1, z2⟩ := List.getElem?_zip_eq_some.mp m1
    obtain ⟨z3, z4⟩ := List.getElem?_zip_eq_some.mp e1
    simp only at z1 z2 z3 z4
    rw [z1] at z3
    cases z3
    subst m2
    exact .inr ⟨rfl, T, _, _, e2, e3, e4, rfl, .cons (h3 _ (List.mem_of_getElem? z1)) (.cons (row_at h2 z2 z4) .nil)⟩
  stop := fun Fz H ⟨h1, h2, _⟩ => ⟨h1, by simp only [List.length_map, List.length_zip]; have := h2.len; omega⟩
theorem wk_vals {d : Addr} {od : Obj} {ks : List Key} {xs : List V} {vs : List D} (hl : ks.length = xs.length) : WkD X false (L2.Itd d od (ks.zip xs)) vs (fun Fz H => H d = some (.frz od (.dK (ks.zip xs))) ∧ RFs X.K X.mg Fz xs vs ∧ (∀ k ∈ ks, RF X.K X.mg Fz (L2.kV k) (D.ofKey k))) where
  go := fun i Fz H dd ⟨h1, h2, _⟩ hd => by
    refine ⟨h1, ?_⟩
    have := (List.getElem?_eq_some_iff.mp hd).1
    simp only [List.length_zip]
    have := h2.len
    omega
  yld := fun i Fz H x H' dd ⟨h1, h2, h3⟩ hd ⟨e1, k, e2⟩ => by
    obtain ⟨z3, z4⟩ := List.getElem?_zip_eq_some.mp e2
    exact .inl ⟨e1, row_at h2 hd z4⟩
  stop := fun Fz H ⟨h1, h2, _⟩ => ⟨h1, by simp only [List.length_zip]; have := h2.len; omega⟩
theorem key_ok {k : Key} (h : keyOk k = true) : RF X.K X.mg Fz (L2.kV k) (D.ofKey k) := by
  cases k with
  | inl i => exact .int i
  | inr s =>
    unfold keyOk at h
    rw [Bool.and_eq_true] at h
    refine .str s ?_ (by simpa [LINE] using h.2)
    unfold PyData.strOk
    simpa using h.1
/-- a dict locked, walked, freed -/
theorem lock_run {i : Nat} {ks : List Key} {vs : List D} {own : List Nat} {ptg : Tgt} {cond : M Bool} {elt : M D} {bp vals : Bool} {res : List D} {eF en : Env} {A : List Addr} {Q : VK} {items : List D} (hp : bp = true → ∃ ts, ptg = .tup ts) (hsl : ∀ i ∈ ptg.slots, i ∈ own)
    (ok : Ok3 ⟨Fz, H, A⟩) (re : RE X.K X.mg Fz H σ en A) (hi : en[i]? = some (some (.dct true ks vs))) (hkeys : vals = true ∨ ks.all keyOk = true)
    (hr : compL (turnC own (asgT ptg) cond elt) [] items [] (wipeSlots own (en.set i none)) = .ok res eF)
    (c : Cont X W σ ⟨Fz, H, A⟩ (.ok (.lst true res) (eF.set i (some (.dct true ks vs)))) (relE X) Q) :
    ∃ d xs, ks.length = xs.length ∧ σ[i]? = some (some (.ref d)) ∧ H d = some (.dK (ks.zip xs)) ∧ ∀ (J : Obj → It) (od : Obj), WkD X bp (J od) items (fun Fz H => H d = some (.frz od (.dK (ks.zip xs))) ∧ RFs X.K X.mg Fz xs vs ∧ (vals = true ∨ ∀ k ∈ ks, RF X.K X.mg Fz (L2.kV k) (D.ofKey k))) →
      ∀ Dd, upd H d (.frz od (.dK (ks.zip xs))) Dd = none → ∃ Wm : Nat → Nat → Hp → Prop, (∃ m, Wm 0 m (upd (upd H d (.frz od (.dK (ks.zip xs)))) Dd (.lst []))) ∧ ∀ i m H, Wm i m H → ((J od).stop i H ∧ (H d = some (.frz od (.dK (ks.zip xs))) ∧ Q (.ref Dd) (upd H d (.dK (ks.zip xs))))) ∨
        ((J od).go i H ∧ ∃ Nx : Hp → Prop, (∀ H', Nx H' → ∃ m', m' < m ∧ Wm (i + 1) m' H') ∧ ∀ x H', (J od).yld i H x H' → gOf X.K ptg x (L2.wipe σ own) H' fun σ2 H2 => L2.wipe σ2 own = L2.wipe σ own ∧
          tT X WF cond σ2 H2 fun b H3 => if b = true then tE X WF elt σ2 H3 fun y H4 => ∃ acc, H4 Dd = some (.lst acc) ∧ acc.length < sizeLine ∧ Nx (upd H4 Dd (.lst (acc ++ [y]))) else Nx H3) := by
  obtain ⟨v, C, A1, A2, rfl, h1, h2, h3⟩ := re.split hi
  cases h2 with
  | sh r => cases r
  | @dct d _ xs _ hl hd rs =>
    have n1 := List.nodup_append.mp ok.nd
    have n2 := List.nodup_append.mp n1.2.1
    have dA : d ∉ A1 ++ A2 := fun h => by
      rcases List.mem_append.mp h with h | h
      · exact n1.2.2 d h d (by simp) rfl
      · exact n2.2.2 d (by simp) d h rfl
    have pA : (A1 ++ ([d] ++ A2)).Perm ([d] ++ (A1 ++ A2)) := by
      rw [← List.append_assoc, ← List.append_assoc]
      exact (List.perm_append_comm).append_right A2
    refine ⟨d, xs, hl, h1, hd, fun J od wk Dd hD => ?_⟩
    have nfd : Fz d = none := ok.nf d (by simp)
    obtain ⟨okL, stL⟩ := upd_own (l := d) (o := .frz od (.dK (ks.zip xs))) ok (by simp)
    have okL2 : Ok3 ⟨Fz, upd H d (.frz od (.dK (ks.zip xs))), A1 ++ A2⟩ := (okL.perm pA).right
    have reL : RE X.K X.mg Fz (upd H d (.frz od (.dK (ks.zip xs)))) σ (en.set i none) (A1 ++ A2) := (h3 Fz _ (fun _ _ e => e) fun a o m e => by
      rw [upd_ne fun z => dA (by rw [← z]; exact List.mem_append.mpr m)]; exact e).2
    have keys : ∀ {Fz'}, vals = true ∨ ∀ k ∈ ks, RF X.K X.mg Fz' (L2.kV k) (D.ofKey k) := fun {Fz'} => hkeys.imp id fun h k hk => key_ok (List.all_eq_true.mp h k hk)
    have frD : ∀ {t : G3}, Step ⟨Fz, upd H d (.frz od (.dK (ks.zip xs))), A1 ++ A2⟩ t → t.H d = some (.frz od (.dK (ks.zip xs))) := fun {t} st => st.frm d _ upd_same dA
    have cs := comp_start (σ := σ) (own := own) (B := []) (by simpa using okL2) reL hD
    rw [List.append_nil] at cs
    refine comp_run (s0 := ⟨Fz, upd H d (.frz od (.dK (ks.zip xs))), A1 ++ A2⟩) (B := []) hp hsl wk (fun Fz' H' e' A' st kb sub _ _ => ⟨frD st, rs.up st.fz, keys⟩) hr rfl cs fun H2 ⟨Fz2, A3, av, ok2, re2, hl2, rs2, st2, _⟩ => ?_
    have hd2 := frD st2
    refine ⟨hd2, ?_⟩
    rw [List.nil_append] at ok2 st2
    have dn : d ∉ A3 ++ [Dd] := fun h => by
      rcases st2.own d h with z | z
      · exact dA z
      · have z' : upd H d (.frz od (.dK (ks.zip xs))) d = none := z
        rw [upd_same] at z'; cases z'
    have nf2 : Fz2 d = none := by
      cases e : Fz2 d with
      | none => rfl
      | some o =>
        rcases st2.nfz d o e with z | z | z
        · have z' : Fz d = some o := z
          rw [nfd] at z'; cases z'
        · exact (dA z).elim
        · have z' : upd H d (.frz od (.dK (ks.zip xs))) d = none := z
          rw [upd_same] at z'; cases z'
    have neA : ∀ a, a ∈ A3 → a ≠ d := fun a m z => dn (by rw [← z]; exact List.mem_append_left _ m)
    have neD : Dd ≠ d := fun z => dn (by rw [← z]; simp)
    have re3 : RE X.K X.mg Fz2 (upd H2 d (.dK (ks.zip xs))) σ eF A3 := re2.unwiped.up (fun _ _ e => e) fun a o m e => by rw [upd_ne (neA a m)]; exact e
    have rd : RO X.K X.mg Fz2 (upd H2 d (.dK (ks.zip xs))) (.ref d) (.dct true ks vs) [d] := .dct hl upd_same (rs.up st2.fz)
    obtain ⟨A4, A0, r4, p4⟩ := re3.setS i rd
    have es : σ.set i (some (.ref d)) = σ := by
      obtain ⟨hl, h⟩ := List.getElem?_eq_some_iff.mp h1
      conv => rhs; rw [← List.set_getElem_self hl]
      rw [h]
    rw [es] at r4
    have okF : Ok3 ⟨Fz2, upd H2 d (.dK (ks.zip xs)), [d] ++ (A3 ++ [Dd])⟩ := by
      refine ⟨fun a o e => ?_, ?_, fun a h => ?_, fun a h => ?_⟩
      · show upd H2 d _ a = some o
        have ne : a ≠ d := fun z => by
          have e' : Fz2 a = some o := e
          rw [z, nf2] at e'; cases e'
        rw [upd_ne ne]; exact ok2.sub a o e
      · exact List.nodup_append.mpr ⟨by simp, ok2.nd, fun a ha b hb z => by
          rw [List.mem_singleton] at ha
          subst ha z
          exact dn hb⟩
      · rcases List.mem_append.mp h with h | h
        · rw [List.mem_singleton] at h; subst h; exact nf2
        · exact ok2.nf a h
      · show upd H2 d _ a ≠ none
        by_cases z : a = d
        · subst z; rw [upd_same]; simp
        · rw [upd_ne z]
          rcases List.mem_append.mp h with h | h
          · rw [List.mem_singleton] at h; exact (z h).elim
          · exact ok2.dom a h
    have pp : ((A4 ++ [Dd]) ++ A0).Perm ([d] ++ (A3 ++ [Dd])) := by
      refine (perm_mid _ _ _).trans ?_
      rw [← List.append_assoc]
      exact p4.append_right [Dd]
    have stF : Step ⟨Fz, H, A1 ++ ([d] ++ A2)⟩ ⟨Fz2, upd H2 d (.dK (ks.zip xs)), [d] ++ (A3 ++ [Dd])⟩ := by
      refine ⟨fun a o e n => ?_, fun a o e => st2.fz a o e, fun a h => ?_, fun a o e => ?_, fun a h => ?_⟩
      · show upd H2 d _ a = some o
        have ne : a ≠ d := fun z => n (by rw [z]; simp)
        rw [upd_ne ne]
        exact st2.frm a o (by show upd H d _ a = some o; rw [upd_ne ne]; exact e) fun z => n (by rcases List.mem_append.mp z with z | z <;> simp [z])
      · rcases List.mem_append.mp h with h | h
        · rw [List.mem_singleton] at h; subst h; exact .inl (by simp)
        · rcases st2.own a h with z | z
          · exact .inl (by rcases List.mem_append.mp z with z | z <;> simp [z])
          · have ne : a ≠ d := fun z => dn (by rw [← z]; exact h)
            have z' : upd H d (.frz od (.dK (ks.zip xs))) a = none := z
            rw [upd_ne ne] at z'
            exact .inr z'
      · rcases st2.nfz a o e with z | z | z
        · exact .inl z
        · exact .inr (.inl (by rcases List.mem_append.mp z with z | z <;> simp [z]))
        · have ne : a ≠ d := fun w => by
            have z' : upd H d (.frz od (.dK (ks.zip xs))) a = none := z
            rw [w, upd_same] at z'; cases z'
          have z' : upd H d (.frz od (.dK (ks.zip xs))) a = none := z
          rw [upd_ne ne] at z'
          exact .inr (.inr z')
      · show upd H2 d _ a ≠ none
        by_cases z : a = d
        · subst z; rw [upd_same]; simp
        · rw [upd_ne z]
          exact st2.dom a (by show upd H d _ a ≠ none; rw [upd_ne z]; exact h)
    have hlD : upd H2 d (.dK (ks.zip xs)) Dd = some (.lst av) := by rw [upd_ne neD]; exact hl2
    exact c (.ref Dd) Fz2 _ A4 [Dd] (okF.perm pp.symm).left r4 (.lst hlD rs2) (stF.sub fun a h => pp.mem_iff.mp (List.mem_append_left _ h))
theorem ge_compI {elt : Expr} {elts : List Expr} {kk : Nat} {tpos apos cpos q1 : Pos} {ifs : List Expr} {scope : Scope} {own : List (Str × Nat)} {ts : List Tgt} {pelt : PE} {pifs : List PB} {i : Nat} {x : Str} (hc : X.calm = true) (hN : X.N.Nodup) (okb : L2.BlkOk X.N X.env.scope scope own)
    (hx : X.N[i]? = some x) (hv : L2.Vis X.env.scope x) (hd1 : (x == ("__debug__" : Str)) = false) (hd2 : (x == ("__classdict__" : Str)) = false) (hline : (apos.endLine == cpos.line) = true)
    (hab : PySem.attributeBase (.Name x q1) "items" X.env (PySem.eval (.Name x q1) X.env) = PySem.eval (.Name x q1) X.env) (hsl : ∀ i ∈ (Tgt.tup ts).slots, i ∈ own.map (·.2))
    (hg : ∀ s H C cl fp, L2.PG (Blk X scope s H C cl fp) (.Tuple elts kk tpos) (gOf X.K (.tup ts))) (ht : ∀ s H C cl fp, L2.PTs (Blk X scope s H C cl fp) ifs (tT (Blk X scope s H C cl fp) WF (condsL (evTs G cf pifs))))
    (he : ∀ s H C cl fp, L2.PE (Blk X scope s H C cl fp) elt (tE (Blk X scope s H C cl fp) WF (evE G cf pelt))) (hs : ∀ y, PySem.foldedSetIterable (.Call (.Attribute (.Name x q1) "items" apos) [] [] cpos) X.env y = pure y) :
    GE X W G cf (.ListComp elt [⟨.Tuple elts kk tpos, .Call (.Attribute (.Name x q1) "items" apos) [] [] cpos, ifs, 0⟩] scope pos) (.compD false pelt (.tup ts) (own.map (·.2)) i pifs) := by
  refine .of (PE.imp (L2.pe_lock (L2.pe_lc (tt := tT X WF (condsL (evTs G cf pifs))) (te := tE X WF (evE G cf pelt)) hc hN (L2.pi_items (L2.pe_var (pos := q1) hx hv hd1 hd2) hab hline) okb hg ht he hs)) fun σ H Q q => ?_) rfl
  simp only [evE] at q
  obtain ⟨s, en, rfl, ok, re, c⟩ := q
  dsimp only at c
  split at c
  · rename_i ks vs hi
    split at c
    · exact False.elim c
    · rename_i hk
      have hk' : ks.all keyOk = true := by simpa using hk
      rcases compL_ok (turn := turnC (own.map (·.2)) (asgT (.tup ts)) (condsL (evTs G cf pifs)) (evE G cf pelt)) (w := []) (ds := if false = true then vs else (ks.zip vs).map fun p => .tup [D.ofKey p.1, p.2]) (acc := []) (en := wipeSlots (own.map (·.2)) (en.set i none)) with ⟨res, eF, hr⟩ | hr
      · rw [hr] at c
        obtain ⟨d, xs, hl, h1, h2, k⟩ := lock_run (bp := true) (vals := false) (fun _ => ⟨ts, rfl⟩) hsl ok re hi (.inr hk') hr c
        refine ⟨d, _, h2, trivial, fun od => ⟨.ref d, h1, d, od, _, rfl, upd_same, fun Dd hD => ?_⟩⟩
        refine k (fun od => L2.Iti d od (ks.zip xs)) od ?_ Dd hD
        have w := wk_items (X := X) (d := d) (od := od) (vs := vs) hl
        exact ⟨fun i Fz H dd ⟨p1, p2, p3⟩ => w.go i Fz H dd ⟨p1, p2, p3.resolve_left (by decide)⟩, fun i Fz H x H' dd ⟨p1, p2, p3⟩ => w.yld i Fz H x H' dd ⟨p1, p2, p3.resolve_left (by decide)⟩, fun Fz H ⟨p1, p2, p3⟩ => w.stop Fz H ⟨p1, p2, p3.resolve_left (by decide)⟩⟩
      · rw [hr] at c; exact False.elim c
  · exact False.elim c
theorem ge_compV {elt tg : Expr} {apos cpos q1 : Pos} {ifs : List Expr} {scope : Scope} {own : List (Str × Nat)} {ptg : Tgt} {pelt : PE} {pifs : List PB} {i : Nat} {x : Str} (hc : X.calm = true) (hN : X.N.Nodup) (okb : L2.BlkOk X.N X.env.scope scope own)
    (hx : X.N[i]? = some x) (hv : L2.Vis X.env.scope x) (hd1 : (x == ("__debug__" : Str)) = false) (hd2 : (x == ("__classdict__" : Str)) = false) (hline : (apos.endLine == cpos.line) = true)
    (hab : PySem.attributeBase (.Name x q1) "values" X.env (PySem.eval (.Name x q1) X.env) = PySem.eval (.Name x q1) X.env) (hsl : ∀ i ∈ ptg.slots, i ∈ own.map (·.2))
    (hg : ∀ s H C cl fp, L2.PG (Blk X scope s H C cl fp) tg (gOf X.K ptg)) (ht : ∀ s H C cl fp, L2.PTs (Blk X scope s H C cl fp) ifs (tT (Blk X scope s H C cl fp) WF (condsL (evTs G cf pifs))))
    (he : ∀ s H C cl fp, L2.PE (Blk X scope s H C cl fp) elt (tE (Blk X scope s H C cl fp) WF (evE G cf pelt))) (hs : ∀ y, PySem.foldedSetIterable (.Call (.Attribute (.Name x q1) "values" apos) [] [] cpos) X.env y = pure y) :
    GE X W G cf (.ListComp elt [⟨tg, .Call (.Attribute (.Name x q1) "values" apos) [] [] cpos, ifs, 0⟩] scope pos) (.compD true pelt ptg (own.map (·.2)) i pifs) := by
  refine .of (PE.imp (L2.pe_lock (L2.pe_lc (tt := tT X WF (condsL (evTs G cf pifs))) (te := tE X WF (evE G cf pelt)) hc hN (L2.pi_values (L2.pe_var (pos := q1) hx hv hd1 hd2) hab hline) okb hg ht he hs)) fun σ H Q q => ?_) rfl
  simp only [evE] at q
  obtain ⟨s, en, rfl, ok, re, c⟩ := q
  dsimp only at c
  split at c
  · rename_i ks vs hi
    split at c
    · exact False.elim c
    · rw [if_pos trivial] at c
      rcases compL_ok (turn := turnC (own.map (·.2)) (asgT ptg) (condsL (evTs G cf pifs)) (evE G cf pelt)) (w := []) (ds := vs) (acc := []) (en := wipeSlots (own.map (·.2)) (en.set i none)) with ⟨res, eF, hr⟩ | hr
      · rw [hr] at c
        obtain ⟨d, xs, hl, h1, h2, k⟩ := lock_run (bp := false) (vals := true) (fun z => nomatch z) hsl ok re hi (.inl rfl) hr c
        refine ⟨d, _, h2, trivial, fun od => ⟨.ref d, h1, d, od, _, rfl, upd_same, fun Dd hD => ?_⟩⟩
        refine k (fun od => L2.Itd d od (ks.zip xs)) od ?_ Dd hD
        exact ⟨fun i Fz H dd ⟨p1, p2, p3⟩ hd => ⟨p1, by
            have := (List.getElem?_eq_some_iff.mp hd).1
            have := p2.len
            simp only [List.length_zip]; omega⟩,
          fun i Fz H x H' dd ⟨p1, p2, p3⟩ hd ⟨e1, k, e2⟩ => .inl ⟨e1, row_at p2 (hd) (List.getElem?_zip_eq_some.mp e2).2⟩, fun Fz H ⟨p1, p2, p3⟩ => ⟨p1, by
            have := p2.len
            simp only [List.length_zip]; omega⟩⟩
      · rw [hr] at c; exact False.elim c
  · exact False.elim c
end
end PL

-- S23
set_option Elab.async false
set_option linter.all false
set_option maxRecDepth 100000
set_option maxHeartbeats 2000000
namespace PL
open PySem (Str Addr Value Shared Expr Stmt Pos Scope Obj Sem Operator CmpOp binaryOp compareOp inplaceOp sizeLine PyData unaryOp)
open L2 (V HO Hp SqL SqT upd upd_same upd_ne St VK TE TT TA TS Ends XK WX PT PW PA PS PSs Inv Cx R2 OpR rI rI0 tOp Room CallR FnR TG TGs It TI)
/-- the other slots are as they were -/
structure Agr (is : List Nat) (σ σ' : St) : Prop where
  eq : ∀ i, i ∉ is → σ'[i]? = σ[i]?
  len : σ'.length = σ.length
theorem Agr.refl {is : List Nat} {σ : St} : Agr is σ σ := ⟨fun _ _ => rfl, rfl⟩
theorem Agr.trans {is js : List Nat} {σ σ' σ'' : St} (a : Agr is σ σ') (b : Agr js σ' σ'') : Agr (is ++ js) σ σ'' := ⟨fun i h => by
  simp only [List.mem_append, not_or] at h
  rw [b.eq i h.2, a.eq i h.1], b.len.trans a.len⟩
theorem Agr.wide {is js : List Nat} {σ σ' : St} (a : Agr is σ σ') (h : ∀ i ∈ is, i ∈ js) : Agr js σ σ' := ⟨fun i n => a.eq i fun z => n (h i z), a.len⟩
section
variable (X : Cx) (W : WX)
/-- what follows a statement's run -/
def ContS (σ : St) (s : G3) (is : List Nat) (r : R Fl) (D : Ends) : Prop := match r with
  | .ok .nx e => ∀ (σ' : St) (Fz H : Hp) (A : List Addr), Ok3 ⟨Fz, H, A⟩ → RE X.K X.mg Fz H σ' e A → Agr is σ σ' → Step s ⟨Fz, H, A⟩ → D.nx σ' H
  | .ok .bk e => ∀ (σ' : St) (Fz H : Hp) (A : List Addr), Ok3 ⟨Fz, H, A⟩ → RE X.K X.mg Fz H σ' e A → Agr is σ σ' → Step s ⟨Fz, H, A⟩ → D.bk σ' H
  | .ok .ct e => ∀ (σ' : St) (Fz H : Hp) (A : List Addr), Ok3 ⟨Fz, H, A⟩ → RE X.K X.mg Fz H σ' e A → Agr is σ σ' → Step s ⟨Fz, H, A⟩ → D.ct σ' H
  | .ok (.rt d) e => ∀ (σ' : St) (v : V) (Fz H : Hp) (A B : List Addr), Ok3 ⟨Fz, H, A ++ B⟩ → RE X.K X.mg Fz H σ' e A → RO X.K X.mg Fz H v d B → Agr is σ σ' → Step s ⟨Fz, H, A ++ B⟩ → D.rt v H
  | .exc x e => ∀ (σ' : St) (Fz H : Hp) (A : List Addr) (cls : Value) (dx : Option Addr), Ok3 ⟨Fz, H, A⟩ → RE X.K X.mg Fz H σ' e A → Agr is σ σ' → Step s ⟨Fz, H, A⟩ → RX X.K X.mg Fz H x cls dx → W cls dx σ' H
  | .bad => False
def tS (is : List Nat) (m : M Fl) : TS := fun D σ H => ∃ (s : G3) (e : Env), s.H = H ∧ Ok3 s ∧ RE X.K X.mg s.Fz s.H σ e s.A ∧ ContS X W σ s is (m e) D
end
structure GS (X : Cx) (W : WX) (G : Prog) (cf : CF) (st : Stmt) (ps : PL.PS) : Prop where
  run : L2.PS X st (tS X W ps.asgs (evS G cf ps))
structure GSs (X : Cx) (W : WX) (G : Prog) (cf : CF) (st : List Stmt) (ps : List PL.PS) : Prop where
  run : L2.PSs X st (tS X W (PS.asgss ps) (evSs G cf ps))
section
variable {X : Cx} {W : WX} {G : Prog} {cf : CF} {a b c e l : Expr} {pa pb pc pe : PE} {pos p : Pos} {es : List Expr} {ps : List PE} {Fz H : Hp} {x v : V} {σ : St} {st : Stmt} {sts : List Stmt} {qs : PL.PS} {qss : List PL.PS}
theorem PS.imp {st : Stmt} {t t' : TS} (h : L2.PS X st t) (k : ∀ D σ H, t' D σ H → t D σ H) : L2.PS X st t' := ⟨fun pins s σ H D I q => h.run pins s σ H D I (k D σ H q)⟩
theorem PSs.imp {st : List Stmt} {t t' : TS} (h : L2.PSs X st t) (k : ∀ D σ H, t' D σ H → t D σ H) : L2.PSs X st t' := ⟨fun pins s σ H D I q => h.run pins s σ H D I (k D σ H q)⟩
/-- from a later state -/
theorem ContS.from {s t : G3} {σ' : St} {is js : List Nat} {r : R Fl} {D : Ends} (c : ContS X W σ s is r D) (p : Step s t) (ag : ∀ σ'', Agr js σ' σ'' → Agr is σ σ'') : ContS X W σ' t js r D := by
  cases r with
  | bad => exact c
  | exc x e => exact fun σ'' Fz H A cls dx ok re a st rx => c σ'' Fz H A cls dx ok re (ag _ a) (p.trans st) rx
  | ok f e =>
    cases f with
    | nx => exact fun σ'' Fz H A ok re a st => c σ'' Fz H A ok re (ag _ a) (p.trans st)
    | bk => exact fun σ'' Fz H A ok re a st => c σ'' Fz H A ok re (ag _ a) (p.trans st)
    | ct => exact fun σ'' Fz H A ok re a st => c σ'' Fz H A ok re (ag _ a) (p.trans st)
    | rt d => exact fun σ'' v Fz H A B ok re r a st => c σ'' v Fz H A B ok re r (ag _ a) (p.trans st)
/-- an expression's part of a statement -/
theorem tS_bind {α ν : Type} {Re : Rel ν α} {m : M α} {k : α → M Fl} {is : List Nat} {D : Ends} {H : Hp} (h : tS X W is (M.bind m k) D σ H) :
    tM X W m Re σ H fun v H1 => ∃ (a : α) (Fz : Hp) (A B : List Addr) (e : Env), Ok3 ⟨Fz, H1, A ++ B⟩ ∧ RE X.K X.mg Fz H1 σ e A ∧ Re σ Fz H1 v a B ∧ ContS X W σ ⟨Fz, H1, A ++ B⟩ is (k a e) D := by
  obtain ⟨s, e, rfl, ok, re, c⟩ := h
  refine ⟨s, e, rfl, ok, re, ?_⟩
  show Cont X W σ s (m e) Re _
  have c' : ContS X W σ s is ((m e).bind fun a => k a) D := c
  cases r : m e with
  | ok a e1 =>
    rw [r] at c'
    exact fun v Fz H A B ok1 re1 rr st => ⟨a, Fz, A, B, e1, ok1, re1, rr, ContS.from c' st fun _ a => a⟩
  | exc x e1 =>
    rw [r] at c'
    exact fun Fz H A cls dx ok re st rx => c' σ Fz H A cls dx ok re Agr.refl st rx
  | bad =>
    rw [r] at c'
    exact c'
theorem gs_bad (h : ∀ en, evS G cf qs en = .bad) : GS X W G cf st qs := ⟨⟨fun pins s σ H D I q => by
  obtain ⟨s', e', _, _, _, c⟩ := q
  rw [h] at c
  exact False.elim c⟩⟩
theorem gss_nil : GSs X W G cf [] [] := ⟨PSs.imp L2.pss_nil fun D σ H q => by
  obtain ⟨s, e, rfl, ok, re, c⟩ := q
  have c' : ContS X W σ s (PS.asgss []) (.ok .nx e) D := by simpa only [evSs, M.pure] using c
  exact c' σ s.Fz s.H s.A ok re Agr.refl (Step.refl s)⟩
theorem asgss_cons : PS.asgss (qs :: qss) = qs.asgs ++ PS.asgss qss := by rw [PS.asgss]
theorem gss_cons (h1 : GS X W G cf st qs) (h2 : GSs X W G cf sts qss) : GSs X W G cf (st :: sts) (qs :: qss) := ⟨PSs.imp (L2.pss_cons h1.run h2.run) fun D σ H q => by
  obtain ⟨s, e, rfl, ok, re, c⟩ := q
  refine ⟨s, e, rfl, ok, re, ?_⟩
  rw [asgss_cons] at c
  have c' : ContS X W σ s (qs.asgs ++ PS.asgss qss) ((evS G cf qs e).bind fun f => (match f with
    | .nx => evSs G cf qss
    | f => M.pure f : M Fl)) D := by
    have e0 : evSs G cf (qs :: qss) e = (evS G cf qs e).bind fun f => (match f with
      | .nx => evSs G cf qss
      | f => M.pure f : M Fl) := by rw [evSs]; rfl
    rw [e0] at c; exact c
  have w1 : ∀ {σ' : St}, Agr qs.asgs σ σ' → Agr (qs.asgs ++ PS.asgss qss) σ σ' := fun a => a.wide fun i h => List.mem_append_left _ h
  cases r : evS G cf qs e with
  | bad => rw [r] at c'; exact c'
  | exc x e1 => rw [r] at c'; exact fun σ' Fz H A cls dx ok re a st rx => c' σ' Fz H A cls dx ok re (w1 a) st rx
  | ok f e1 =>
    rw [r] at c'
    cases f with
    | nx => exact fun σ' Fz H A ok re a st => ⟨⟨Fz, H, A⟩, e1, rfl, ok, re, ContS.from c' st fun σ'' b => a.trans b⟩
    | bk => exact fun σ' Fz H A ok re a st => c' σ' Fz H A ok re (w1 a) st
    | ct => exact fun σ' Fz H A ok re a st => c' σ' Fz H A ok re (w1 a) st
    | rt d => exact fun σ' v Fz H A B ok re r a st => c' σ' v Fz H A B ok re r (w1 a) st⟩
theorem gs_pass : GS X W G cf (.Pass pos) .pass := ⟨PS.imp L2.ps_pass fun D σ H q => by
  obtain ⟨s, e, rfl, ok, re, c⟩ := q
  have c' : ContS X W σ s (PS.asgs .pass) (.ok .nx e) D := by simpa only [evS, M.pure] using c
  exact c' σ s.Fz s.H s.A ok re Agr.refl (Step.refl s)⟩
theorem gs_brk : GS X W G cf (.Break pos) .brk := ⟨PS.imp L2.ps_break fun D σ H q => by
  obtain ⟨s, e, rfl, ok, re, c⟩ := q
  have c' : ContS X W σ s (PS.asgs .brk) (.ok .bk e) D := by simpa only [evS, M.pure] using c
  exact c' σ s.Fz s.H s.A ok re Agr.refl (Step.refl s)⟩
theorem gs_cont : GS X W G cf (.Continue pos) .cont := ⟨PS.imp L2.ps_continue fun D σ H q => by
  obtain ⟨s, e, rfl, ok, re, c⟩ := q
  have c' : ContS X W σ s (PS.asgs .cont) (.ok .ct e) D := by simpa only [evS, M.pure] using c
  exact c' σ s.Fz s.H s.A ok re Agr.refl (Step.refl s)⟩
theorem gs_expr (h : GE X W G cf e pe) (hs : PySem.swapsWith e none pos.line X.env = pure false) : GS X W G cf (.Expr e pos) (.expr pe) := ⟨PS.imp (L2.ps_expr h.val hs) fun D σ H q => by
  have q' : tS X W (PS.asgs (.expr pe)) (M.bind (evE G cf pe) fun _ => M.pure .nx) D σ H := by simpa only [evS] using q
  refine tM_mono (tS_bind (Re := relE X) q') fun v H1 ⟨a, Fz, A, B, e, ok, re, rr, c⟩ => ?_
  exact c σ Fz H1 A ok.left re Agr.refl ((Step.refl _).sub fun a h => List.mem_append_left _ h)⟩
theorem isv_case (pe : PE) : (∃ i, pe = .var i) ∨ isVar pe = none := by
  cases pe <;> first | exact .inl ⟨_, rfl⟩ | exact .inr rfl
theorem gs_ret (h : GE X W G cf e pe) : GS X W G cf (.Return (some e) pos) (.ret pe) := by
  rcases isv_case pe with ⟨i, rfl⟩ | hv
  · refine ⟨PS.imp (L2.ps_ret h.opd) fun D σ H q => ?_⟩
    obtain ⟨s, en, rfl, ok, re, c⟩ := q
    have c' : ContS X W σ s (PS.asgs (.ret (.var i))) ((getS i en).bind fun d e => (R.ok (.rt d) (if d.own then e.set i none else e) : R Fl)) D := by
      rw [evS] at c
      exact c
    cases z : en[i]? with
    | none => simp only [getS, z] at c'; exact False.elim c'
    | some o =>
      cases o with
      | none => simp only [getS, z] at c'; exact False.elim c'
      | some d =>
        simp only [getS, z] at c'
        refine ⟨s, en, rfl, ok, re, ?_⟩
        have e1 : PL.opd (.var i) (evE G cf (.var i)) en = .ok (.slot i) en := by unfold PL.opd; simp only [isVar_var, z]
        rw [e1]
        intro v' Fz H A B ok' re' rr st
        obtain ⟨hv', rfl⟩ := rr
        simp only [List.append_nil] at ok' st
        obtain ⟨v, C, A1, A2, rfl, h1, h2, h3⟩ := re'.split z
        rw [h1] at hv'
        cases hv'
        have c2 : ContS X W σ s (PS.asgs (.ret (.var i))) (R.ok (.rt d) (if d.own then en.set i none else en)) D := c'
        by_cases w : d.own = true
        · rw [if_pos w] at c2
          have re2 := (h3 Fz H (fun _ _ e => e) fun _ _ _ e => e).2
          have pA : (A1 ++ (C ++ A2)).Perm ((A1 ++ A2) ++ C) := by
            rw [List.append_assoc]
            exact (List.perm_append_comm).append_left A1
          exact c2 σ v' Fz H (A1 ++ A2) C (ok'.perm pA) re2 h2 Agr.refl (st.perm pA)
        · rw [if_neg w] at c2
          obtain ⟨rfl, rf⟩ := h2.nil_of (by simpa using w)
          exact c2 σ v' Fz H _ [] (by simpa using ok') re' (.sh rf) Agr.refl (by simpa using st)
  · refine ⟨PS.imp (L2.ps_ret h.val) fun D σ H q => ?_⟩
    have e0 : evS G cf (.ret pe) = M.bind (evE G cf pe) fun d => M.pure (.rt d) := by
      rw [evS]
      unfold retV
      rw [hv]
    rw [e0] at q
    refine tM_mono (tS_bind (Re := relE X) q) fun v H1 ⟨a, Fz, A, B, e, ok, re, rr, c⟩ => ?_
    exact c σ v Fz H1 A B ok re rr Agr.refl (Step.refl _)
theorem gs_ite {ta : PB} {sa sb : List Stmt} {qa qb : List PL.PS} (hc : PT X c (tT X W (evT G cf ta))) (ha : GSs X W G cf sa qa) (hb : GSs X W G cf sb qb) : GS X W G cf (.If c sa sb pos) (.ite ta qa qb) := ⟨PS.imp (L2.ps_if hc ha.run hb.run) fun D σ H q => by
  have q' : tS X W (PS.asgs (.ite ta qa qb)) (M.bind (evT G cf ta) fun r => if r then evSs G cf qa else evSs G cf qb) D σ H := by simpa only [evS] using q
  refine tM_mono (tS_bind (Re := relB) q') fun v H1 ⟨b, Fz, A, B, e, ok, re, rr, c⟩ b' hb' => ?_
  obtain ⟨hv, rfl⟩ := rr
  rw [hv] at hb'
  cases hb'
  simp only [List.append_nil] at ok c
  have ea : PS.asgs (.ite ta qa qb) = PS.asgss qa ++ PS.asgss qb := by rw [PS.asgs]
  rw [ea] at c
  cases b' with
  | true => exact ⟨⟨Fz, H1, A⟩, e, rfl, ok, re, c.from (Step.refl _) fun _ a => a.wide fun i h => List.mem_append_left _ h⟩
  | false => exact ⟨⟨Fz, H1, A⟩, e, rfl, ok, re, c.from (Step.refl _) fun _ a => a.wide fun i h => List.mem_append_right _ h⟩⟩
end
end PL

-- S24
set_option Elab.async false
set_option linter.all false
set_option maxRecDepth 100000
set_option maxHeartbeats 2000000
namespace PL
open PySem (Str Addr Value Shared Expr Stmt Pos Scope Obj Sem Operator CmpOp binaryOp compareOp inplaceOp sizeLine PyData unaryOp)
open L2 (V HO Hp SqL SqT upd upd_same upd_ne St VK TE TT TA TS Ends XK WX PT PW PA PS PSs Inv Cx R2 OpR rI rI0 tOp Room CallR FnR TG TGs It TI)
section
variable {X : Cx} {W : WX} {G : Prog} {cf : CF} {a b c e l tg iter : Expr} {pa pb pc pe : PE} {pos p : Pos} {es : List Expr} {ps : List PE} {Fz H : Hp} {x v : V} {σ : St} {st : Stmt} {sts : List Stmt} {qs : PL.PS} {qss : List PL.PS}
theorem asgT_run {t : Tgt} {d : D} {en : Env} : (∃ e', asgT t d en = .ok () e') ∨ asgT t d en = .bad := by
  have z : ∀ n, (∀ (t : Tgt) (d : D) (en : Env), sizeOf t < n → (∃ e', asgT t d en = .ok () e') ∨ asgT t d en = .bad) ∧ (∀ (ts : List Tgt) (ds : List D) (en : Env), sizeOf ts < n → (∃ e', asgTs ts ds en = .ok () e') ∨ asgTs ts ds en = .bad) := by
    intro n
    induction n with
    | zero => exact ⟨fun _ _ _ h => by omega, fun _ _ _ h => by omega⟩
    | succ n ih =>
      refine ⟨fun t d en h => ?_, fun ts ds en h => ?_⟩
      · cases t with
        | nm i => exact .inl ⟨_, by unfold asgT; rfl⟩
        | tup ts =>
          cases d <;> first
            | (right; unfold asgT; rfl)
            | (unfold asgT
               refine ih.2 ts _ en ?_
               simp at h; omega)
      · cases ts with
        | nil => cases ds with
          | nil => exact .inl ⟨en, by unfold asgTs; rfl⟩
          | cons _ _ => exact .inr (by unfold asgTs; rfl)
        | cons t ts => cases ds with
          | nil => exact .inr (by unfold asgTs; rfl)
          | cons d ds =>
            simp at h
            have e0 : asgTs (t :: ts) (d :: ds) en = (asgT t d en).bind fun _ e1 => asgTs ts ds e1 := by rw [asgTs]; rfl
            rw [e0]
            rcases ih.1 t d en (by omega) with ⟨e1, h1⟩ | h1
            · rw [h1]; exact ih.2 ts ds e1 (by omega)
            · rw [h1]; exact .inr rfl
  exact (z (sizeOf t + 1)).1 t d en (by omega)
theorem asg_imp {t : Tgt} : ∀ D σ H, tS X W (PS.asgs (.asg t pe)) (evS G cf (.asg t pe)) D σ H → tE X W (evE G cf pe) σ H fun v H1 => gOf X.K t v σ H1 D.nx := fun D σ H q => by
  have q' : tS X W (PS.asgs (.asg t pe)) (M.bind (evE G cf pe) fun d => M.bind (asgT t d) fun _ => M.pure .nx) D σ H := by simpa only [evS] using q
  refine tM_mono (tS_bind (Re := relE X) q') fun v H1 ⟨d, Fz, A, B, en, ok, re, rr, c⟩ => ?_
  have c' : ContS X W σ ⟨Fz, H1, A ++ B⟩ (PS.asgs (.asg t pe)) ((asgT t d en).bind fun _ e => R.ok .nx e) D := c
  rcases asgT_run (t := t) (d := d) (en := en) with ⟨e2, ha⟩ | ha
  · rw [ha] at c'
    refine asg_ok ok.sub ha rr re fun σ' ⟨A', A0, re', p, k, l⟩ => ?_
    have pp : (A' ++ A0).Perm (A ++ B) := p.trans List.perm_append_comm
    have ok2 := ok.perm pp.symm
    have ea : PS.asgs (.asg t pe) = t.slots := by rw [PS.asgs]
    rw [ea] at c'
    exact c' σ' Fz H1 A' ok2.left re' ⟨k, l⟩ ((Step.refl _).sub (t := ⟨Fz, H1, A ++ B⟩) fun a h => pp.mem_iff.mp (List.mem_append_left _ h))
  · rw [ha] at c'; exact False.elim c'
theorem gs_asg {t : Tgt} (h : GE X W G cf e pe) (hg : L2.PG X tg (gOf X.K t)) (hs : PySem.swapsWithSole [tg] e pos.line X.env = pure false) (hw : PySem.swappedStores [tg] e X.env = pure none)
    (h1 : (PySem.assignEach [tg] X.env).map (·.2) = [PySem.assign tg X.env]) : GS X W G cf (.Assign [tg] e pos) (.asg t pe) := ⟨PS.imp (L2.ps_asg h.val hg hs hw h1) asg_imp⟩
/-- name = [..] on one line -/
theorem gs_setLc {i : Nat} {y : Str} {py : Pos} {elt iter : Expr} {ifs : List Expr} {scope : Scope} {own : List (Str × Nat)} {spos : Pos} {ptg : Tgt} {k : ItK} {it : List PE} {pelt : PE} {pifs : List PB} (hc : X.calm = true) (hN : X.N.Nodup) (hy : X.N[i]? = some y) (hyl : X.env.scope.names.lookup y = some .local)
    (hsw : PySem.swapsWith (.ListComp elt [⟨tg, iter, ifs, 0⟩] scope pos) (some (.Name y py)) spos.line X.env = pure true) (hi : GI X W G cf tg iter k it) (okb : L2.BlkOk X.N X.env.scope scope own)
    (hp : k.pairs = true → ∃ ts, ptg = .tup ts) (hsl : ∀ i ∈ ptg.slots, i ∈ own.map (·.2))
    (hg : ∀ s H C cl fp, L2.PG (Blk X scope s H C cl fp) tg (gOf X.K ptg)) (ht : ∀ s H C cl fp, L2.PTs (Blk X scope s H C cl fp) ifs (tT (Blk X scope s H C cl fp) WF (condsL (evTs G cf pifs))))
    (he : ∀ s H C cl fp, L2.PE (Blk X scope s H C cl fp) elt (tE (Blk X scope s H C cl fp) WF (evE G cf pelt))) (hs : ∀ x, PySem.foldedSetIterable iter X.env x = pure x) :
    GS X W G cf (.Assign [.Name y py] (.ListComp elt [⟨tg, iter, ifs, 0⟩] scope pos) spos) (.asg (.nm i) (.comp pelt ptg (own.map (·.2)) k it pifs)) := by
  obtain ⟨wi, hPI, hrd⟩ := hi.ex
  refine ⟨PS.imp (L2.ps_setLc (tt := tT X WF (condsL (evTs G cf pifs))) (te := tE X WF (evE G cf pelt)) hc hN hy hyl hsw hPI okb hg ht he hs) fun D σ H q => ?_⟩
  exact comp_imp hrd hp hsl _ _ _ (asg_imp D σ H q)
/-! ### while -/
theorem whL_succ {c : M Bool} {turn : M Fl} {n : Nat} {e : Env} : whL c turn (n + 1) e = (c e).bind fun b e1 => if b then (turn e1).bind fun f e2 => (match f with
      | .bk => .ok .nx e2
      | .rt v => .ok (.rt v) e2
      | _ => whL c turn n e2) else .ok .nx e1 := by
  show (c e).bind _ = _
  congr 1
  funext b e1
  cases b with
  | true =>
    show (turn e1).bind _ = (turn e1).bind _
    congr 1
    funext f e2
    cases f <;> rfl
  | false => rfl
theorem gs_wh {ta : PB} {body : List Stmt} {qb : List PL.PS} (hp : PySem.PassesOwn (PySem.model X.prog X.w) X.A X.env X.xe) (hc : PT X c (tT X W (evT G cf ta))) (hb : GSs X W G cf body qb) : GS X W G cf (.While c body [] pos) (.wh ta qb) := ⟨PS.imp (L2.ps_while hp hc hb.run) fun D σ H q => by
  have ea : PS.asgs (.wh ta qb) = PS.asgss qb := by rw [PS.asgs]
  have q' : tS X W (PS.asgss qb) (whL (evT G cf ta) (evSs G cf qb) TURNS) D σ H := by
    have q2 := q
    unfold tS at q2 ⊢
    rw [ea] at q2
    simpa only [evS] using q2
  obtain ⟨s0, e0, rfl, ok0, re0, c0⟩ := q'
  have idm : ∀ {σ' σ''}, Agr (PS.asgss qb) σ σ' → Agr (PS.asgss qb) σ' σ'' → Agr (PS.asgss qb) σ σ'' := fun a b => (a.trans b).wide fun i h => by rcases List.mem_append.mp h with h | h <;> exact h
  refine ⟨fun m σ' H => ∃ s e, s.H = H ∧ Ok3 s ∧ RE X.K X.mg s.Fz s.H σ' e s.A ∧ ContS X W σ' s (PS.asgss qb) (whL (evT G cf ta) (evSs G cf qb) m e) D, ⟨TURNS, s0, e0, rfl, ok0, re0, c0⟩, ?_⟩
  rintro m σ1 H1 ⟨s, e, rfl, ok, re, cc⟩
  cases m with
  | zero => exact False.elim cc
  | succ m =>
    rw [whL_succ] at cc
    refine ⟨s, e, rfl, ok, re, ?_⟩
    cases r : evT G cf ta e with
    | bad => rw [r] at cc; exact cc
    | exc x e1 => rw [r] at cc; exact fun Fz H A cls dx ok re st rx => cc σ1 Fz H A cls dx ok re Agr.refl st rx
    | ok b e1 =>
      rw [r] at cc
      intro v Fz H A B ok1 re1 rr st b' hb'
      obtain ⟨hv, rfl⟩ := rr
      rw [hv] at hb'
      cases hb'
      simp only [List.append_nil] at ok1 st
      cases b with
      | false =>
        rw [if_neg (by decide)]
        exact cc σ1 Fz H A ok1 re1 Agr.refl st
      | true =>
        rw [if_pos rfl]
        refine ⟨fun σ' H' => ∃ s e, s.H = H' ∧ Ok3 s ∧ RE X.K X.mg s.Fz s.H σ' e s.A ∧ ContS X W σ' s (PS.asgss qb) (whL (evT G cf ta) (evSs G cf qb) m e) D, fun σ' H' n => ⟨m, Nat.lt_succ_self m, n⟩, ?_⟩
        refine ⟨⟨Fz, H, A⟩, e1, rfl, ok1, re1, ?_⟩
        have cb : ContS X W σ1 s (PS.asgss qb) ((evSs G cf qb e1).bind fun f e2 => (match f with
          | .bk => .ok .nx e2
          | .rt v => .ok (.rt v) e2
          | _ => whL (evT G cf ta) (evSs G cf qb) m e2)) D := cc
        cases r2 : evSs G cf qb e1 with
        | bad => rw [r2] at cb; exact cb
        | exc x e2 => rw [r2] at cb; exact fun σ' Fz2 H2 A2 cls dx ok2 re2 ag st2 rx => cb σ' Fz2 H2 A2 cls dx ok2 re2 ag (st.trans st2) rx
        | ok f e2 =>
          rw [r2] at cb
          cases f with
          | nx => exact fun σ' Fz2 H2 A2 ok2 re2 ag st2 => ⟨⟨Fz2, H2, A2⟩, e2, rfl, ok2, re2, ContS.from cb (st.trans st2) fun σ'' b => (ag.trans b).wide fun i h => by rcases List.mem_append.mp h with h | h <;> exact h⟩
          | ct => exact fun σ' Fz2 H2 A2 ok2 re2 ag st2 => ⟨⟨Fz2, H2, A2⟩, e2, rfl, ok2, re2, ContS.from cb (st.trans st2) fun σ'' b => (ag.trans b).wide fun i h => by rcases List.mem_append.mp h with h | h <;> exact h⟩
          | bk => exact fun σ' Fz2 H2 A2 ok2 re2 ag st2 => cb σ' Fz2 H2 A2 ok2 re2 ag (st.trans st2)
          | rt d => exact fun σ' v Fz2 H2 A2 B2 ok2 re2 rr ag st2 => cb σ' v Fz2 H2 A2 B2 ok2 re2 rr ag (st.trans st2)⟩
end
end PL

-- S25
set_option Elab.async false
set_option linter.all false
set_option maxRecDepth 100000
set_option maxHeartbeats 2000000
namespace PL
open PySem (Str Addr Value Shared Expr Stmt Pos Scope Obj Sem Operator CmpOp binaryOp compareOp inplaceOp sizeLine PyData unaryOp)
open L2 (V HO Hp SqL SqT upd upd_same upd_ne St VK TE TT TA TS Ends XK WX PT PW PA PS PSs Inv Cx R2 OpR rI rI0 tOp Room CallR FnR TG TGs It TI)
section
variable {X : Cx} {W : WX} {G : Prog} {cf : CF} {a b c e l tg iter : Expr} {pa pb pc pe : PE} {pos p : Pos} {es : List Expr} {ps : List PE} {Fz H : Hp} {x v : V} {σ : St} {st : Stmt} {sts : List Stmt} {qs : PL.PS} {qss : List PL.PS}
theorem tS_bindE {α ν : Type} {Re : Rel ν α} {m : M α} {k : α → M Fl} {is : List Nat} {D : Ends} {H : Hp} (h : tS X W is (M.bind m k) D σ H) :
    ∃ e0, tM X W m Re σ H fun v H1 => ∃ (a : α) (Fz : Hp) (A B : List Addr) (e : Env), m e0 = .ok a e ∧ Ok3 ⟨Fz, H1, A ++ B⟩ ∧ RE X.K X.mg Fz H1 σ e A ∧ Re σ Fz H1 v a B ∧ ContS X W σ ⟨Fz, H1, A ++ B⟩ is (k a e) D := by
  obtain ⟨s, e, rfl, ok, re, c⟩ := h
  refine ⟨e, s, e, rfl, ok, re, ?_⟩
  show Cont X W σ s (m e) Re _
  have c' : ContS X W σ s is ((m e).bind fun a => k a) D := c
  cases r : m e with
  | ok a e1 =>
    rw [r] at c'
    exact fun v Fz H A B ok1 re1 rr st => ⟨a, Fz, A, B, e1, rfl, ok1, re1, rr, ContS.from c' st fun _ a => a⟩
  | exc x e1 =>
    rw [r] at c'
    exact fun Fz H A cls dx ok re st rx => c' σ Fz H A cls dx ok re Agr.refl st rx
  | bad =>
    rw [r] at c'
    exact c'
theorem walk_preS {k : ItK} {it : List PE} {rest : List Opd → List D → M Fl} {is : List Nat} {D : Ends} (q : tS X W is (M.bind (evOs G cf it) fun os => M.bind (getAll os) fun ds => M.bind (M.opt (items k ds)) fun xs => rest os xs) D σ H) :
    tM X W (evOs G cf it) (relOs X) σ H (fun vs H1 => ∃ (e0 : Env) (os : List Opd) (Fz : Hp) (A B : List Addr) (e : Env) (ds xs : List PL.D), evOs G cf it e0 = .ok os e ∧ Ok3 ⟨Fz, H1, A ++ B⟩ ∧ RE X.K X.mg Fz H1 σ e A ∧ OsR X σ Fz H1 vs os B ∧
      getAll os e = .ok ds e ∧ items k ds = some xs ∧ ContS X W σ ⟨Fz, H1, A ++ B⟩ is (rest os xs e) D) := by
  obtain ⟨e0, q⟩ := tS_bindE (Re := relOs X) q
  refine tM_mono q fun vs H1 ⟨os, Fz, A, B, e, hos, ok, re, rs, c⟩ => ?_
  have c' : ContS X W σ ⟨Fz, H1, A ++ B⟩ is ((getAll os e).bind fun ds e => (M.bind (M.opt (items k ds)) fun xs => rest os xs) e) D := c
  cases h : getAll os e with
  | bad => rw [h] at c'; exact False.elim c'
  | exc x e1 => exact (getAll_exc h).elim
  | ok ds e1 =>
    obtain rfl := getAll_env h
    rw [h] at c'
    have c2 : ContS X W σ ⟨Fz, H1, A ++ B⟩ is ((M.opt (items k ds) e1).bind fun xs e => rest os xs e) D := c'
    cases h2 : items k ds with
    | none => rw [h2] at c2; exact False.elim c2
    | some xs => rw [h2] at c2; exact ⟨e0, os, Fz, A, B, e1, ds, xs, hos, ok, re, rs, h, h2, c2⟩
theorem watch_still : ∀ {os : List Opd} {e : Env}, still (watch os e) e = true
  | [], e => rfl
  | .val d :: os, e => watch_still (os := os)
  | .slot i :: os, e => by
    have ih := watch_still (os := os) (e := e)
    unfold watch
    split
    · rename_i d h
      split
      · unfold still at ih ⊢
        rw [List.all_cons, ih]
        simp [h]
      · exact ih
    · exact ih
theorem forL_cons {turn : PL.D → M Fl} {w : List (Nat × PL.D)} {d : PL.D} {ds : List PL.D} {e : Env} : forL turn w (d :: ds) e = (turn d e).bind fun f e1 => (match f with
    | .bk => .ok .nx e1
    | .rt v => .ok (.rt v) e1
    | _ => if still w e1 then forL turn w ds e1 else .bad) := rfl
theorem gs_for {t : Tgt} {k : ItK} {it : List PE} {body : List Stmt} {qb : List PL.PS} (hp : PySem.PassesOwn (PySem.model X.prog X.w) X.A X.env X.xe) (hc : X.calm = true) (hi : GI X W G cf tg iter k it) (hpt : k.pairs = true → ∃ ts, t = .tup ts) (hg : L2.PG X tg (gOf X.K t))
    (hb : GSs X W G cf body qb) (hs : ∀ x, PySem.foldedSetIterable iter X.env x = pure x) : GS X W G cf (.For tg iter body [] pos) (.for_ t k it qb) := by
  obtain ⟨wi, hPI, hrd⟩ := hi.ex
  refine ⟨PS.imp (L2.ps_for hp hc hPI hg hb.run hs) fun D σ H q => ?_⟩
  have ea : PS.asgs (.for_ t k it qb) = t.slots ++ PS.asgss qb := by rw [PS.asgs]
  have q' : tS X W (t.slots ++ PS.asgss qb) (M.bind (evOs G cf it) fun os => M.bind (getAll os) fun ds => M.bind (M.opt (items k ds)) fun xs => fun e =>
      if noAsg (watch os e) (t.slots ++ PS.asgss qb) then forL (fun d => M.bind (asgT t d) fun _ => evSs G cf qb) (watch os e) xs e else .bad) D σ H := by
    have q2 := q
    unfold tS at q2 ⊢
    rw [ea] at q2
    simpa only [evS] using q2
  refine hrd (KK := fun os xs e Fz H1 A B => ContS X W σ ⟨Fz, H1, A ++ B⟩ (t.slots ++ PS.asgss qb) (if noAsg (watch os e) (t.slots ++ PS.asgss qb) then forL (fun d => M.bind (asgT t d) fun _ => evSs G cf qb) (watch os e) xs e else .bad) D) (walk_preS q') fun J Fz H1 A B e os xs P ok re c wk kept => ?_
  by_cases hna : noAsg (watch os e) (t.slots ++ PS.asgss qb) = true
  · rw [if_pos hna] at c
    refine ⟨fun i m σ' H => m = xs.length - i ∧ i ≤ xs.length ∧ ∃ Fz2 A2 e2, ContS X W σ' ⟨Fz2, H, A2 ++ B⟩ (t.slots ++ PS.asgss qb) (forL (fun d => M.bind (asgT t d) fun _ => evSs G cf qb) (watch os e) (xs.drop i) e2) D ∧ Ok3 ⟨Fz2, H, A2 ++ B⟩ ∧ RE X.K X.mg Fz2 H σ' e2 A2 ∧
      Agr (t.slots ++ PS.asgss qb) σ σ' ∧ still (watch os e) e2 = true ∧ Step ⟨Fz, H1, A ++ B⟩ ⟨Fz2, H, A2 ++ B⟩ ∧ (∀ a o, a ∈ B → H1 a = some o → H a = some o),
      ⟨xs.length, by simp, Nat.zero_le _, Fz, A, e, by simpa using c, ok, re, Agr.refl, watch_still, Step.refl _, fun _ _ _ z => z⟩, ?_⟩
    rintro i m σ1 H2 ⟨rfl, hi, Fz2, A2, e2, c2, ok2, re2, ag2, hst, st2, kB⟩
    have hP : P Fz2 H2 := kept Fz2 H2 σ1 e2 A2 st2.fz kB ok2.sub re2 hst fun p hpm v hv => by
      have h1 := List.all_eq_true.mp hna p hpm
      rw [← ag2.eq p.1 (by simpa using h1)]; exact hv
    by_cases hlt : i < xs.length
    · obtain ⟨d, hxd⟩ : ∃ d, xs[i]? = some d := ⟨xs[i], List.getElem?_eq_getElem hlt⟩
      have hdr : xs.drop i = d :: xs.drop (i + 1) := by
        rw [List.drop_eq_getElem_cons hlt]
        have : xs[i] = d := by rw [List.getElem?_eq_getElem hlt] at hxd; exact Option.some.inj hxd
        rw [this]
      rw [hdr, forL_cons] at c2
      obtain ⟨N, eN⟩ : ∃ N : St → Hp → Prop, N = (fun σ' H' => i + 1 ≤ xs.length ∧ ∃ Fz2 A2 e2, ContS X W σ' ⟨Fz2, H', A2 ++ B⟩ (t.slots ++ PS.asgss qb) (forL (fun d => M.bind (asgT t d) fun _ => evSs G cf qb) (watch os e) (xs.drop (i + 1)) e2) D ∧ Ok3 ⟨Fz2, H', A2 ++ B⟩ ∧ RE X.K X.mg Fz2 H' σ' e2 A2 ∧
        Agr (t.slots ++ PS.asgss qb) σ σ' ∧ still (watch os e) e2 = true ∧ Step ⟨Fz, H1, A ++ B⟩ ⟨Fz2, H', A2 ++ B⟩ ∧ (∀ a o, a ∈ B → H1 a = some o → H' a = some o)) := ⟨_, rfl⟩
      refine .inr ⟨wk.go i Fz2 H2 d hP hxd, N, fun σ' H' n => by
        rw [eN] at n
        exact ⟨xs.length - (i + 1), by omega, rfl, n.1, n.2⟩, fun x H' hy => ?_⟩
      rcases asgT_run (t := t) (d := d) (en := e2) with ⟨e4, ha⟩ | ha
      · have c3 : ContS X W σ1 ⟨Fz2, H2, A2 ++ B⟩ (t.slots ++ PS.asgss qb) ((evSs G cf qb e4).bind fun f e1 => (match f with
          | .bk => .ok .nx e1
          | .rt v => .ok (.rt v) e1
          | _ => if still (watch os e) e1 then forL (fun d => M.bind (asgT t d) fun _ => evSs G cf qb) (watch os e) (xs.drop (i + 1)) e1 else .bad)) D := by
          have c4 : ContS X W σ1 ⟨Fz2, H2, A2 ++ B⟩ (t.slots ++ PS.asgss qb) (((asgT t d e2).bind fun _ e => evSs G cf qb e).bind fun f e1 => (match f with
            | .bk => .ok .nx e1
            | .rt v => .ok (.rt v) e1
            | _ => if still (watch os e) e1 then forL (fun d => M.bind (asgT t d) fun _ => evSs G cf qb) (watch os e) (xs.drop (i + 1)) e1 else .bad)) D := c2
          rw [ha] at c4
          exact c4
        refine item_ok hpt ok2 re2 (wk.yld i Fz2 H2 x H' d hP hxd hy) ha fun σ2 A4 ok4 re4 st4 kp4 hk hl => ?_
        have ag4 : Agr (t.slots ++ PS.asgss qb) σ1 σ2 := ⟨fun j hj => hk j fun z => hj (List.mem_append_left _ z), hl⟩
        have agB : ∀ {σ3}, Agr (PS.asgss qb) σ2 σ3 → Agr (t.slots ++ PS.asgss qb) σ1 σ3 := fun b => (ag4.trans b).wide fun i h => by
          rcases List.mem_append.mp h with h | h
          · exact h
          · exact List.mem_append_right _ h
        have idm : ∀ {σ3 σ4 σ5}, Agr (t.slots ++ PS.asgss qb) σ3 σ4 → Agr (t.slots ++ PS.asgss qb) σ4 σ5 → Agr (t.slots ++ PS.asgss qb) σ3 σ5 := fun a b => (a.trans b).wide fun i h => by rcases List.mem_append.mp h with h | h <;> exact h
        refine ⟨⟨Fz2, H', A4⟩, e4, rfl, ok4.left, re4, ?_⟩
        have nxt : ∀ {e5 : Env}, ContS X W σ1 ⟨Fz2, H2, A2 ++ B⟩ (t.slots ++ PS.asgss qb) (if still (watch os e) e5 then forL (fun d => M.bind (asgT t d) fun _ => evSs G cf qb) (watch os e) (xs.drop (i + 1)) e5 else .bad) D →
            ∀ (σ' : St) (Fz H : Hp) (A : List Addr), Ok3 ⟨Fz, H, A⟩ → RE X.K X.mg Fz H σ' e5 A → Agr (PS.asgss qb) σ2 σ' → Step ⟨Fz2, H', A4⟩ ⟨Fz, H, A⟩ → N σ' H := fun {e5} c5 σ' Fz5 H5 A5 ok5 re5 ag5 st5 => by
          obtain ⟨ok6, st6⟩ := Ok3.frame ok4 ok5 st5
          by_cases hs5 : still (watch os e) e5 = true
          · rw [if_pos hs5] at c5
            rw [eN]
            exact ⟨hlt, Fz5, A5, e5, ContS.from c5 (st4.trans st6) (fun σ'' b => idm (agB ag5) b), ok6, re5, idm ag2 (agB ag5), hs5, (st2.trans st4).trans st6, fun a o m z => held ok4 st5 a o m (kp4 a o (kB a o m z))⟩
          · rw [if_neg hs5] at c5; exact False.elim c5
        cases r : evSs G cf qb e4 with
        | bad => rw [r] at c3; exact c3
        | exc y e5 =>
          rw [r] at c3
          intro σ' Fz5 H5 A5 cls dx ok5 re5 ag5 st5 rx
          obtain ⟨ok6, st6⟩ := Ok3.frame ok4 ok5 st5
          exact c3 σ' Fz5 H5 A5 cls dx ok5 re5 (agB ag5) ((st4.trans st6).sub fun a h => List.mem_append_left _ h) rx
        | ok f e5 =>
          rw [r] at c3
          cases f with
          | nx => exact nxt c3
          | ct => exact nxt c3
          | bk =>
            intro σ' Fz5 H5 A5 ok5 re5 ag5 st5
            obtain ⟨ok6, st6⟩ := Ok3.frame ok4 ok5 st5
            exact c3 σ' Fz5 H5 A5 ok5 re5 (agB ag5) ((st4.trans st6).sub fun a h => List.mem_append_left _ h)
          | rt dd =>
            intro σ' v Fz5 H5 A5 B5 ok5 re5 rr ag5 st5
            obtain ⟨ok6, st6⟩ := Ok3.frame ok4 ok5 st5
            exact c3 σ' v Fz5 H5 A5 B5 ok5 re5 rr (agB ag5) ((st4.trans st6).sub fun a h => List.mem_append_left _ h)
      · have c4 : ContS X W σ1 ⟨Fz2, H2, A2 ++ B⟩ (t.slots ++ PS.asgss qb) (((asgT t d e2).bind fun _ e => evSs G cf qb e).bind fun f e1 => (match f with
          | .bk => .ok .nx e1
          | .rt v => .ok (.rt v) e1
          | _ => if still (watch os e) e1 then forL (fun d => M.bind (asgT t d) fun _ => evSs G cf qb) (watch os e) (xs.drop (i + 1)) e1 else .bad)) D := c2
        rw [ha] at c4
        exact False.elim c4
    · have ei : i = xs.length := by omega
      subst ei
      rw [List.drop_length] at c2
      refine .inl ⟨wk.stop Fz2 H2 hP, ?_⟩
      have c3 : ContS X W σ1 ⟨Fz2, H2, A2 ++ B⟩ (t.slots ++ PS.asgss qb) (.ok .nx e2) D := c2
      exact c3 σ1 Fz2 H2 A2 ok2.left re2 Agr.refl ((Step.refl _).sub fun a h => List.mem_append_left _ h)
  · rw [if_neg hna] at c; exact False.elim c
end
end PL

-- S26
set_option Elab.async false
set_option linter.all false
set_option maxRecDepth 100000
set_option maxHeartbeats 2000000
namespace PL
open PySem (Str Addr Value Shared Expr Stmt Pos Scope Obj Sem Operator CmpOp binaryOp compareOp inplaceOp sizeLine PyData unaryOp)
open L2 (V HO Hp SqL SqT upd upd_same upd_ne St VK TE TT TA TS Ends XK WX PT PW PA PS PSs Inv Cx R2 OpR rI rI0 tOp Room CallR FnR TG TGs It TI)
section
variable {X : Cx} {W : WX} {G : Prog} {cf : CF} {a b c e l tg iter : Expr} {pa pb pc pe : PE} {pos p : Pos} {es : List Expr} {ps : List PE} {Fz H : Hp} {x v : V} {σ : St} {st : Stmt} {sts : List Stmt} {qs : PL.PS} {qss : List PL.PS}
theorem getS_inv {i : Nat} {k : PL.D → M Fl} {en : Env} {s : G3} {is : List Nat} {D : Ends} (c : ContS X W σ s is (M.bind (getS i) k en) D) : ∃ d, en[i]? = some (some d) ∧ ContS X W σ s is (k d en) D := by
  have c' : ContS X W σ s is ((getS i en).bind fun a => k a) D := c
  cases z : en[i]? with
  | none => simp only [getS, z] at c'; exact False.elim c'
  | some o =>
    cases o with
    | none => simp only [getS, z] at c'; exact False.elim c'
    | some d => simp only [getS, z] at c'; exact ⟨d, rfl, c'⟩
theorem get_invS {o : Opd} {k : PL.D → M Fl} {en : Env} {s : G3} {is : List Nat} {D : Ends} (c : ContS X W σ s is (M.bind o.get k en) D) : ∃ d, o.get en = .ok d en ∧ ContS X W σ s is (k d en) D := by
  rcases opd_run o en with ⟨d, h⟩ | h
  · refine ⟨d, h, ?_⟩
    have c' : ContS X W σ s is ((o.get en).bind fun a => k a) D := c
    rw [h] at c'; exact c'
  · have c' : ContS X W σ s is ((o.get en).bind fun a => k a) D := c
    rw [h] at c'; exact False.elim c'
/-! ### name op= value -/
theorem aug_val {op : Operator} {d d' r : PL.D} (h : augD op d d' = some r) : binop op d d' = some r ∧ ((op = .Add ∧ ((∃ i j, d = .int i ∧ d' = .int j) ∨ ∃ s t, d = .str s ∧ d' = .str t)) ∨ (op = .Sub ∧ ∃ i j, d = .int i ∧ d' = .int j)) := by
  unfold augD at h
  split at h
  · exact ⟨h, .inl ⟨rfl, .inl ⟨_, _, rfl, rfl⟩⟩⟩
  · exact ⟨h, .inr ⟨rfl, _, _, rfl, rfl⟩⟩
  · exact ⟨h, .inl ⟨rfl, .inr ⟨_, _, rfl, rfl⟩⟩⟩
  · cases h
theorem ipD {op : Operator} : L2.PIp X op (rD X (augD op)) := by
  rintro pins s σ H x y v u Q I rx ry ⟨Fz, d, d', r, B, C, sub, r1, r2, e, n⟩
  obtain ⟨e1, h⟩ := aug_val e
  rcases h with ⟨rfl, ⟨i, j, rfl, rfl⟩ | ⟨z, t, rfl, rfl⟩⟩ | ⟨rfl, i, j, rfl, rfl⟩
  · obtain rfl := r1.int
    obtain rfl := r2.int
    cases e1
    exact L2.iop_add pins s σ H _ _ v u Q I rx ry ⟨i, j, rfl, rfl, n.val sub (.int _)⟩
  · obtain ⟨rfl, h1, l1⟩ := r1.str
    obtain ⟨rfl, h2, l2⟩ := r2.str
    have e2 : (if z.cps.size + t.cps.size ≤ LINE then some (PL.D.str ⟨z.cps ++ t.cps⟩) else none) = some r := e1
    split at e2
    · rename_i hz
      cases e2
      refine L2.iop_add_str pins s σ H _ _ v u Q I rx ry ⟨z, t, rfl, rfl, by rw [← line_eq]; exact hz, n.val sub (.str _ ?_ ?_)⟩
      · show PyData.strOk ⟨z.cps ++ t.cps⟩ = true
        unfold PyData.strOk at h1 h2 ⊢
        rw [Array.all_append, h1, h2]; rfl
      · show (z.cps ++ t.cps).size ≤ LINE
        rw [Array.size_append]; exact hz
    · cases e2
  · obtain rfl := r1.int
    obtain rfl := r2.int
    cases e1
    exact L2.iop_sub pins s σ H _ _ v u Q I rx ry ⟨i, j, rfl, rfl, n.val sub (.int _)⟩
theorem gs_aug {i : Nat} {x : Str} {op : Operator} {pos' : Pos} (hN : X.N.Nodup) (hi : X.N[i]? = some x) (hx : L2.Loc X.env.scope x) (hf : X.fn x = true ∨ X.env.scope.names.lookup x = some .local) (h : GE X W G cf e pe) :
    GS X W G cf (.AugAssign (.Name x pos') op e pos) (.aug i op pe) := ⟨PS.imp (L2.ps_aug hN hi hx h.opd ipD hf) fun D σ H q => by
  have ea : PS.asgs (.aug i op pe) = [i] := by rw [PS.asgs]
  obtain ⟨s, en, rfl, ok, re, c⟩ := q
  rw [ea, evS] at c
  obtain ⟨d, hd, c⟩ := getS_inv c
  obtain ⟨x0, C0, h1, h2, _⟩ := re.at hd
  refine ⟨x0, h1, ?_⟩
  have q2 : tS X W [i] (M.bind (opd pe (evE G cf pe)) fun y => M.bind y.get fun d' => match augD op d d' with
    | some r => M.bind (setS i r) fun _ => M.pure .nx
    | none => M.bad) D σ s.H := ⟨s, en, rfl, ok, re, c⟩
  refine tM_mono (tS_bind (Re := relO X) q2) fun y H1 ⟨oy, Fz, A, B, e1, ok1, re1, ry, c1⟩ => ?_
  obtain ⟨d', hd', c1⟩ := get_invS c1
  cases ha : augD op d d' with
  | none => rw [ha] at c1; exact False.elim c1
  | some r =>
    rw [ha] at c1
    obtain ⟨_, C2, r2, _⟩ := opd_get (A := A) hd' ry re1 (fun _ _ e => e) fun _ _ _ e => e
    -- the old value is an int or a text: known without the heap
    have r1 : RO X.K X.mg Fz H1 x0 d [] := by
      rcases (aug_val ha).2 with ⟨_, ⟨i, j, rfl, _⟩ | ⟨z, t, rfl, _⟩⟩ | ⟨_, i, j, rfl, _⟩
      · obtain rfl := h2.int; exact .sh (.int _)
      · obtain ⟨rfl, k1, k2⟩ := h2.str; exact .sh (.str _ k1 k2)
      · obtain rfl := h2.int; exact .sh (.int _)
    have rr : ∀ {Fz' H' : Hp} {z : V} {B' : List Addr}, RO X.K X.mg Fz' H' z r B' → B' = [] ∧ RF X.K X.mg Fz' z r := fun {Fz' H' z B'} ro => ro.nil_of (by
      obtain ⟨e1, hh⟩ := aug_val ha
      rcases hh with ⟨rfl, ⟨i, j, rfl, rfl⟩ | ⟨z, t, rfl, rfl⟩⟩ | ⟨rfl, i, j, rfl, rfl⟩
      · cases e1; rfl
      · have e2 : (if z.cps.size + t.cps.size ≤ LINE then some (PL.D.str ⟨z.cps ++ t.cps⟩) else none) = some r := e1
        split at e2
        · cases e2; rfl
        · cases e2
      · cases e1; rfl)
    refine ⟨Fz, d, d', r, [], C2, ok1.sub, r1, r2, ha, fun z Fz' H' B' kH kF sub ro nd nb nf => ?_⟩
    obtain ⟨rfl, rf⟩ := rr ro
    have okA := ok1.left
    have re2 := re1.up kF fun a o _ e => kH a o e
    have ok2 : Ok3 ⟨Fz', H', A⟩ := ⟨sub, okA.nd, fun a m => by
        show Fz' a = none
        cases q : Fz' a with
        | none => rfl
        | some o =>
          rcases nf a o q with z | z
          · have z2 := okA.nf a m
            rw [show Fz a = none from z2] at z; cases z
          · exact absurd z (okA.dom a m), fun a m => by
        show H' a ≠ none
        have z := okA.dom a m
        cases q : H1 a with
        | none => exact absurd q z
        | some o => rw [kH a o q]; simp⟩
    have st2 : Step ⟨Fz, H1, A ++ B⟩ ⟨Fz', H', A⟩ := ⟨fun a o e _ => kH a o e, kF, fun a m => .inl (List.mem_append_left _ m), fun a o e => (nf a o e).imp id .inr, fun a m => by
      show H' a ≠ none
      cases q : H1 a with
      | none => exact absurd q m
      | some o => rw [kH a o q]; simp⟩
    obtain ⟨A', A0, r5, p5⟩ := re2.setS i (.sh rf : RO X.K X.mg Fz' H' z r [])
    have pp : (A' ++ A0).Perm A := by simpa using p5
    have c2 : ContS X W σ ⟨Fz, H1, A ++ B⟩ [i] (.ok .nx (e1.set i (some r))) D := c1
    exact c2 _ Fz' H' A' (ok2.perm pp.symm).left r5 ⟨fun j hj => by rw [List.getElem?_set_ne (fun z => hj (by simp [z]))], by simp⟩ (st2.sub fun a h => pp.mem_iff.mp (List.mem_append_left _ h))⟩
end
end PL

-- S27
set_option Elab.async false
set_option linter.all false
set_option maxRecDepth 100000
set_option maxHeartbeats 2000000
namespace PL
open PySem (Str Addr Value Shared Expr Stmt Pos Scope Obj Sem Operator CmpOp binaryOp compareOp inplaceOp sizeLine PyData unaryOp)
open L2 (V HO Hp SqL SqT upd upd_same upd_ne St VK TE TT TA TS Ends XK WX PT PW PA PS PSs Inv Cx R2 OpR rI rI0 tOp Room CallR FnR TG TGs It TI)
section
variable {X : Cx} {W : WX} {G : Prog} {cf : CF} {a b c e l tg iter : Expr} {pa pb pc pe : PE} {pos p : Pos} {es : List Expr} {ps : List PE} {Fz H : Hp} {x v : V} {σ : St} {st : Stmt} {sts : List Stmt} {qs : PL.PS} {qss : List PL.PS}
theorem putF_zip (f : Str) {y : V} {d : PL.D} (r : RF X.K X.mg Fz y d) : ∀ {fs : List Str} {xs : List V} {ds : List PL.D}, fs.length = xs.length → RFs X.K X.mg Fz xs ds → ∃ xs', L2.putF f y (fs.zip xs) = (putAttr f d fs ds).1.zip xs' ∧ (putAttr f d fs ds).1.length = xs'.length ∧ RFs X.K X.mg Fz xs' (putAttr f d fs ds).2
  | [], [], _, _, .nil => ⟨[y], rfl, rfl, .cons r .nil⟩
  | [], _ :: _, _, h, _ => by simp at h
  | _ :: _, [], _, h, _ => by simp at h
  | g :: fs, x :: xs, d0 :: ds, h, .cons r0 t => by
    by_cases z : g = f
    · refine ⟨y :: xs, ?_, ?_, ?_⟩
      · show (if g = f then (g, y) :: fs.zip xs else (g, x) :: L2.putF f y (fs.zip xs)) = (if g = f then (g :: fs, d :: ds) else (g :: (putAttr f d fs ds).1, d0 :: (putAttr f d fs ds).2)).1.zip (y :: xs)
        rw [if_pos z, if_pos z]; rfl
      · show (if g = f then (g :: fs, d :: ds) else (g :: (putAttr f d fs ds).1, d0 :: (putAttr f d fs ds).2)).1.length = _
        rw [if_pos z]; simpa using h
      · show RFs _ _ _ _ (if g = f then (g :: fs, d :: ds) else (g :: (putAttr f d fs ds).1, d0 :: (putAttr f d fs ds).2)).2
        rw [if_pos z]; exact .cons r t
    · obtain ⟨xs', h1, h2, h3⟩ := putF_zip f r (fs := fs) (by simpa using h) t
      refine ⟨x :: xs', ?_, ?_, ?_⟩
      · show (if g = f then (g, y) :: fs.zip xs else (g, x) :: L2.putF f y (fs.zip xs)) = (if g = f then (g :: fs, d :: ds) else (g :: (putAttr f d fs ds).1, d0 :: (putAttr f d fs ds).2)).1.zip (x :: xs')
        rw [if_neg z, if_neg z, h1]; rfl
      · show (if g = f then (g :: fs, d :: ds) else (g :: (putAttr f d fs ds).1, d0 :: (putAttr f d fs ds).2)).1.length = _
        rw [if_neg z]; simpa using h2
      · show RFs _ _ _ _ (if g = f then (g :: fs, d :: ds) else (g :: (putAttr f d fs ds).1, d0 :: (putAttr f d fs ds).2)).2
        rw [if_neg z]; exact .cons r0 h3
theorem opd_bad {i : Nat} {k : Opd → M Fl} {en : Env} {s : G3} {is : List Nat} {D : Ends} (c : ContS X W σ s is (M.bind (opd (.var i) M.bad) k en) D) : ∃ d, en[i]? = some (some d) ∧ ContS X W σ s is (k (.slot i) en) D := by
  have c' : ContS X W σ s is ((opd (.var i) M.bad en).bind fun a => k a) D := c
  unfold opd at c'
  simp only [isVar_var] at c'
  cases z : en[i]? with
  | none => rw [z] at c'; exact False.elim c'
  | some o =>
    rw [z] at c'
    cases o with
    | none => exact False.elim c'
    | some d => exact ⟨d, rfl, c'⟩
/-- o.f = value, o a name of ours -/
theorem gs_asgAttr {i : Nat} {o : Expr} {f : Str} {pos' : Pos} {adr : FnKey → Addr} (pf : PF X.K X.mg G adr) (ho : L2.PE X o (L2.tVar i)) (h : GE X W G cf e pe) (hs : PySem.swapsWith e (some (.Attribute o f pos')) pos.line X.env = pure false) :
    GS X W G cf (.Assign [.Attribute o f pos'] e pos) (.asgAttr (.var i) f pe) := ⟨PS.imp (L2.ps_fld ho h.val hs) fun D σ H q => by
  have q' : tS X W (PS.asgs (.asgAttr (.var i) f pe)) (M.bind (evE G cf pe) fun v => M.bind (opd (.var i) M.bad) fun x => M.bind x.get fun d => match setAttrD G d f v.frz with
    | some d' => M.bind (putBack x d') fun _ => M.pure .nx
    | none => M.bad) D σ H := by
    obtain ⟨s, en, e1, ok, re, c⟩ := q
    rw [evS] at c
    exact ⟨s, en, e1, ok, re, c⟩
  refine tM_mono (tS_bind (Re := relE X) q') fun y H1 ⟨dv, Fz, A, B, en, ok, re, ry, c⟩ => ?_
  obtain ⟨d, hd, c⟩ := opd_bad c
  obtain ⟨d2, hd2, c⟩ := get_invS c
  have e1 := slot_at hd2
  rw [hd] at e1
  cases e1
  obtain ⟨Fz', rf, st1, ok1⟩ := freeze_top (C := []) (by simpa using ok) ry
  simp only [List.append_nil] at st1 ok1
  have re1 := re.up (H' := H1) st1.fz fun a o _ e => e
  cases hsd : setAttrD G d f dv.frz with
  | none => rw [hsd] at c; exact False.elim c
  | some d' =>
    rw [hsd] at c
    obtain ⟨v0, C0, A1, A2, rfl, h1, h2, h3⟩ := re1.split hd
    refine ⟨v0, h1, ?_⟩
    unfold setAttrD at hsd
    split at hsd
    · rename_i cn fs vs
      split at hsd
      · rename_i hh
        cases hsd
        cases h2 with
        | sh r => cases r
        | @ins ad C dx _ _ xs _ hl ha hx gC rs =>
          obtain ⟨C', e2, k1, k2⟩ := pf.fld _ _ hh.2
          rw [gC] at e2
          cases e2
          refine ⟨ad, C, dx, _, rfl, ha, k1, k2, ?_, ?_⟩
          · rw [List.length_zip]
            have := hh.1
            omega
          · obtain ⟨xs', z1, z2, z3⟩ := putF_zip f rf hl rs
            rw [z1]
            have n1 := List.nodup_append.mp ok1.nd
            have n2 := List.nodup_append.mp n1.2.1
            obtain ⟨ok2, st2⟩ := upd_own (l := ad) (o := .ins C dx ((putAttr f dv.frz fs vs).1.zip xs')) ok1 (by simp)
            have ne : dx ≠ ad := L2.ne_of hx ha (fun e => nomatch e)
            have re3 := (h3 Fz' (upd H1 ad (.ins C dx ((putAttr f dv.frz fs vs).1.zip xs'))) (fun _ _ e => e) fun a' o m e => by
              have na : a' ≠ ad := fun z => by
                subst z
                rcases m with m | m
                · exact n1.2.2 a' m a' (by simp) rfl
                · exact n2.2.2 a' (by simp) a' m rfl
              rw [upd_ne na]; exact e).1 (.ins true cn (putAttr f dv.frz fs vs).1 (putAttr f dv.frz fs vs).2) [ad, dx] (.ins z2 upd_same (by rw [upd_ne ne]; exact hx) gC z3)
            have c2 : ContS X W σ ⟨Fz, H1, (A1 ++ ([ad, dx] ++ A2)) ++ B⟩ (PS.asgs (.asgAttr (.var i) f pe)) (.ok .nx (en.set i (some (.ins true cn (putAttr f dv.frz fs vs).1 (putAttr f dv.frz fs vs).2)))) D := c
            exact c2 σ Fz' _ _ ok2 re3 Agr.refl (st1.trans st2)
      · cases hsd
    · cases hsd⟩
/-- both kinds of o[i] = v -/
def rSet : L2.TSet := fun o i v H Q => L2.rSetL o i v H Q ∨ L2.rSetD o i v H Q
theorem set_any (hu : X.A.units + 1 < PySem.cLine) : L2.PSet X rSet := fun pins s σ H o i v ov iv u Q I r1 r2 r3 h => h.elim (L2.set_list pins s σ H o i v ov iv u Q I r1 r2 r3) (L2.set_dict hu pins s σ H o i v ov iv u Q I r1 r2 r3)
theorem RFs.set {y : V} {d : PL.D} (r : RF X.K X.mg Fz y d) : ∀ {xs : List V} {ds : List PL.D} (j : Nat), RFs X.K X.mg Fz xs ds → RFs X.K X.mg Fz (xs.set j y) (ds.set j d)
  | _, _, _, .nil => .nil
  | _, _, 0, .cons _ t => .cons r t
  | _, _, j + 1, .cons r0 t => .cons r0 (RFs.set r j t)
theorem gs_asgSub {i : Nat} {o ix : Expr} {pos' : Pos} (hu : X.A.units + 1 < PySem.cLine) (ho : L2.PE X o (L2.tVar i)) (hb : GE X W G cf ix pb) (h : GE X W G cf e pe) (hs : PySem.swapsWithSole [.Subscript o ix pos'] e pos.line X.env = pure false)
    (hw : PySem.swappedStores [.Subscript o ix pos'] e X.env = pure none) (h1 : (PySem.assignEach [.Subscript o ix pos'] X.env).map (·.2) = [PySem.assign (.Subscript o ix pos') X.env])
    (ha : ∀ v, PySem.assign (.Subscript o ix pos') X.env v = (do
      let ov ← PySem.holding [v] (PySem.eval o X.env)
      let iv ← PySem.holding [v, ov] (PySem.eval ix X.env)
      PySem.standAt pos'
      PySem.holding [v, ov, iv] (PySem.setItem ov iv v)
      PySem.release [v, ov, iv] [])) :
    GS X W G cf (.Assign [.Subscript o ix pos'] e pos) (.asgSub (.var i) pb pe) := ⟨PS.imp (L2.ps_asg h.val (L2.pg_sub ho hb.opd (set_any hu) ha) hs hw h1) fun D σ H q => by
  have q' : tS X W (PS.asgs (.asgSub (.var i) pb pe)) (M.bind (evE G cf pe) fun v => M.bind (opd (.var i) M.bad) fun x => M.bind (opd pb (evE G cf pb)) fun y => M.bind x.get fun d => M.bind y.get fun k => match setAt d k v.frz with
    | some d' => M.bind (putBack x d') fun _ => M.pure .nx
    | none => M.bad) D σ H := by
    obtain ⟨s, en, e1, ok, re, c⟩ := q
    rw [evS] at c
    exact ⟨s, en, e1, ok, re, c⟩
  refine tM_mono (tS_bind (Re := relE X) q') fun y H1 ⟨dv, Fz, A, B, en, ok, re, ry, c⟩ => ?_
  obtain ⟨d0, hd0, c⟩ := opd_bad c
  obtain ⟨v0, C0, h1, _, _⟩ := re.at hd0
  refine ⟨v0, h1, ?_⟩
  obtain ⟨Fz', rf, st1, ok1⟩ := freeze_top (C := []) (by simpa using ok) ry
  simp only [List.append_nil] at st1 ok1
  have re1 := re.up (H' := H1) st1.fz fun a o _ e => e
  have q3 : tS X W (PS.asgs (.asgSub (.var i) pb pe)) (M.bind (opd pb (evE G cf pb)) fun y => M.bind (Opd.slot i).get fun d => M.bind y.get fun k => match setAt d k dv.frz with
    | some d' => M.bind (putBack (.slot i) d') fun _ => M.pure .nx
    | none => M.bad) D σ H1 := ⟨⟨Fz', H1, A⟩, en, rfl, ok1, re1, ContS.from c st1 fun _ a => a⟩
  obtain ⟨s3, e3, hH, ok3, re3, c3⟩ := id q3
  -- the value stays shared while the place is computed: the run is told again from the frozen state
  refine tM_mono (Q := fun z H2 => ∃ (Fz2 : Hp) (oy : Opd) (A2 B2 : List Addr) (e2 : Env), Ok3 ⟨Fz2, H2, A2 ++ B2⟩ ∧ RE X.K X.mg Fz2 H2 σ e2 A2 ∧ relO X σ Fz2 H2 z oy B2 ∧ RF X.K X.mg Fz2 y dv.frz ∧
    ContS X W σ ⟨Fz2, H2, A2 ++ B2⟩ (PS.asgs (.asgSub (.var i) pb pe)) ((M.bind (Opd.slot i).get fun d => M.bind oy.get fun k => match setAt d k dv.frz with
    | some d' => M.bind (putBack (.slot i) d') fun _ => M.pure .nx
    | none => M.bad) e2) D) ?_ fun z H2 ⟨Fz2, oy, A2, B2, e2, ok2, re2, rz, rf2, c2⟩ => ?_
  · refine ⟨⟨Fz', H1, A⟩, en, rfl, ok1, re1, ?_⟩
    have c4 : ContS X W σ ⟨Fz', H1, A⟩ (PS.asgs (.asgSub (.var i) pb pe)) ((opd pb (evE G cf pb) en).bind fun y => M.bind (Opd.slot i).get fun d => M.bind y.get fun k => match setAt d k dv.frz with
      | some d' => M.bind (putBack (.slot i) d') fun _ => M.pure .nx
      | none => M.bad) D := ContS.from c st1 fun _ a => a
    cases r : opd pb (evE G cf pb) en with
    | bad => rw [r] at c4; exact c4
    | exc w e5 => rw [r] at c4; exact fun Fz H A cls dx ok re st rx => c4 σ Fz H A cls dx ok re Agr.refl st rx
    | ok oy e5 =>
      rw [r] at c4
      exact fun z Fz5 H5 A5 B5 ok5 re5 rz st5 => ⟨Fz5, oy, A5, B5, e5, ok5, re5, rz, rf.up st5.fz, ContS.from c4 st5 fun _ a => a⟩
  · obtain ⟨d, hd, c2⟩ := get_invS c2
    obtain ⟨k, hk, c2⟩ := get_invS c2
    have hdi := slot_at hd
    obtain ⟨_, Ck, rk, _⟩ := opd_get (A := A2) hk rz re2 (fun _ _ e => e) fun _ _ _ e => e
    cases hsa : setAt d k dv.frz with
    | none => rw [hsa] at c2; exact False.elim c2
    | some d' =>
      rw [hsa] at c2
      obtain ⟨v1, C1, A3, A4, rfl, k1, k2, k3⟩ := re2.split hdi
      rw [h1] at k1
      cases k1
      have n1 := List.nodup_append.mp ok2.left.nd
      have n2 := List.nodup_append.mp n1.2.1
      have c4 : ContS X W σ ⟨Fz2, H2, (A3 ++ (C1 ++ A4)) ++ B2⟩ (PS.asgs (.asgSub (.var i) pb pe)) (.ok .nx (e2.set i (some d'))) D := c2
      have fin : ∀ {ad : Addr} {u : HO}, C1 = [ad] → RO X.K X.mg Fz2 (upd H2 ad u) v0 d' [ad] → D.nx σ (upd H2 ad u) := fun {ad u} e r => by
        subst e
        obtain ⟨ok5, st5⟩ := upd_own (l := ad) (o := u) ok2 (by simp)
        have re5 := (k3 Fz2 (upd H2 ad u) (fun _ _ e => e) fun a' o m e => by
          have na : a' ≠ ad := fun z => by
            subst z
            rcases m with m | m
            · exact n1.2.2 a' m a' (by simp) rfl
            · exact n2.2.2 a' (by simp) a' m rfl
          rw [upd_ne na]; exact e).1 d' [ad] r
        exact c4 σ Fz2 _ _ ok5.left re5 Agr.refl (st5.sub fun a h => List.mem_append_left _ h)
      unfold setAt at hsa
      split at hsa
      · rename_i ds j
        obtain ⟨jj, m1, m2⟩ := Option.map_eq_some_iff.mp hsa
        subst m2
        obtain rfl := rk.int
        cases k2 with
        | sh r => cases r
        | @lst ad xs _ ha rs =>
          exact .inl ⟨ad, xs, j, jj, rfl, rfl, ha, by rw [← place_ix, rs.len]; exact m1, fin rfl (.lst upd_same (RFs.set rf2 jj rs))⟩
      · rename_i ks vs
        split at hsa
        · rename_i hlen
          obtain ⟨kk, m1, m2⟩ := Option.map_eq_some_iff.mp hsa
          subst m2
          have ez : z = L2.kV kk := by
            cases rk with
            | sh r => exact r.key m1
            | _ => simp [PL.D.key] at m1
          subst ez
          cases k2 with
          | sh r => cases r
          | @dct ad _ xs _ hl ha rs =>
            refine .inr ⟨ad, upd H2 ad (.dK (L2.putK (ks.zip xs) kk y)), rfl, .inl ⟨_, kk, ha, rfl, by rw [List.length_zip]; have := hlen; rw [line_eq] at this; omega, rfl⟩, ?_⟩
            rw [putK_zip hl]
            refine fin rfl (.dct (by rw [dictPut_keys kk dv.frz y ks vs xs]; exact dictPut_len hl) ?_ (rs.put rf2))
            rw [dictPut_keys kk y dv.frz ks xs vs]
            exact upd_same
        · cases hsa
      · cases hsa⟩
end
end PL

-- S28
set_option Elab.async false
set_option linter.all false
set_option maxRecDepth 100000
set_option maxHeartbeats 2000000
namespace PL
open PySem (Str Addr Value Shared Expr Stmt Pos Scope Obj Sem Operator CmpOp binaryOp compareOp inplaceOp sizeLine PyData unaryOp MatchCase Pattern)
open L2 (V HO Hp SqL SqT upd upd_same upd_ne St VK TE TT TA TS Ends XK WX PT PW PA PS PSs Inv Cx R2 OpR rI rI0 tOp Room CallR FnR TG TGs It TI)
/-- a pattern of names -/
inductive Caps (N : List Str) (sc : Scope) : List Pattern → List Nat → Prop where
  | nil : Caps N sc [] []
  | cons {x : Str} {i : Nat} {pos : Pos} {ps : List Pattern} {is : List Nat} : N[i]? = some x → sc.names.lookup x = some .local → Caps N sc ps is → Caps N sc (.MatchAs none (some x) pos :: ps) (i :: is)
section
variable {X : Cx} {W : WX} {G : Prog} {cf : CF} {a b c e l tg iter : Expr} {pa pb pc pe : PE} {pos p : Pos} {es : List Expr} {ps : List PE} {Fz H : Hp} {x v : V} {σ : St} {st : Stmt} {sts : List Stmt} {qs : PL.PS} {qss : List PL.PS}
theorem caps_len {N : List Str} {sc : Scope} {pts : List Pattern} {is : List Nat} (h : Caps N sc pts is) : pts.length = is.length := by
  induction h with
  | nil => rfl
  | cons _ _ _ ih => simp [ih]
/-- the names of a pattern -/
theorem caps_each {pts : List Pattern} {is : List Nat} (h : Caps X.N X.env.scope pts is) : ∀ {us : List Value} {s : Shared} {E : Value → Shared → Prop} {Q : Option (List (Str × Value)) → Shared → Prop}, us.length = is.length →
    (∀ bs, (bs.map (·.2) = us) → bs.map (·.1) = is.map (fun i => X.N.getD i Str.empty) → Q (some bs) s) → PySem.wpAny (PySem.model X.prog X.w) X.A (PySem.matchEach pts X.env us) Q E s := by
  induction h with
  | nil => intro us s E Q hl q; cases us with
    | nil => exact PySem.wpAny_matchEach_nil (q [] rfl rfl)
    | cons _ _ => simp at hl
  | @cons x i pos pts is hN hx t ih =>
    intro us s E Q hl q
    cases us with
    | nil => simp at hl
    | cons u us =>
      refine PySem.wpAny_matchEach_cons (PySem.wpAny_matchPattern_Capture ?_)
      refine ih (by simpa using hl) fun bs h1 h2 => ?_
      refine q _ ?_ ?_
      · simp [h1]
      · simp [h2, hN]
/-- .. stored -/
theorem caps_store (hN : X.N.Nodup) {pts : List Pattern} {is : List Nat} (h : Caps X.N X.env.scope pts is) : ∀ {pins : List (Addr × Obj)} {s : Shared} {σ : St} {H : Hp} {vs : List V} {us : List Value} {bs : List (Str × Value)} {ds : List D} {en e2 : Env} {A : List Addr} {Q : Unit → Shared → Prop} {E : Value → Shared → Prop} {Fz : Hp},
    Inv X pins σ H s → L2.Vals vs us → bs.map (·.2) = us → bs.map (·.1) = is.map (fun i => X.N.getD i Str.empty) → RFs X.K X.mg Fz vs ds → RE X.K X.mg Fz H σ en A → bindAll is ds en = .ok () e2 →
    (∀ s' σ' A' A0, Inv X pins σ' H s' → RE X.K X.mg Fz H σ' e2 A' → (A' ++ A0).Perm A → Agr is σ σ' → Q () s') →
    PySem.wpAny (PySem.model X.prog X.w) X.A (PySem.assignInOrder (bs.map fun (n, _) => PySem.bindName X.env n) (bs.map (·.2))) Q E s := by
  induction h with
  | nil =>
    intro pins s σ H vs us bs ds en e2 A Q E Fz I rv h1 h2 rs re hb q
    cases bs with
    | nil =>
      cases ds with
      | nil =>
        have hb' : (R.ok () en : R Unit) = .ok () e2 := by unfold bindAll at hb; exact hb
        cases hb'
        exact PySem.wpAny_assignInOrder_none (q s σ A [] I re (by simp) Agr.refl)
      | cons _ _ => unfold bindAll at hb; cases hb
    | cons _ _ => simp at h2
  | @cons x i pos pts is hNi hx t ih =>
    intro pins s σ H vs us bs ds en e2 A Q E Fz I rv h1 h2 rs re hb q
    cases bs with
    | nil => simp at h2
    | cons b bs =>
      subst h1
      cases rv with
      | cons ru rv =>
        cases rs with
        | cons r rs =>
          obtain ⟨n, u⟩ := b
          have en0 : n = x := by
            have z : n = X.N.getD i Str.empty := (List.cons.inj h2).1
            rw [List.getD_eq_getElem?_getD, hNi] at z
            exact z
          subst en0
          rename_i d ds
          have hb' : bindAll is ds (en.set i (some d)) = .ok () e2 := by
            unfold bindAll at hb
            exact hb
          refine PySem.wpAny_assignInOrder_more (PySem.wpAny_bindName (L2.store_ok I hN hNi (.inl hx) ru (fun s1 I1 => ?_) (.inr hx)))
          obtain ⟨A1, A0, r1, p1⟩ := re.setS i (.sh r : RO X.K X.mg Fz H _ d [])
          refine ih I1 rv rfl (List.cons.inj h2).2 rs r1 hb' fun s' σ' A' A2 I' re' p' ag => q s' σ' A' (A2 ++ A0) I' re' ?_ ⟨fun j hj => ?_, ag.len.trans (by simp)⟩
          · rw [← List.append_assoc]
            refine (p'.append_right A0).trans ?_
            simpa using p1
          · simp only [List.mem_cons, not_or] at hj
            rw [ag.eq j hj.2, List.getElem?_set_ne (fun z => hj.1 z.symm)]
/-- the cases from one on, by the value -/
def PCs (X : Cx) (W : WX) (is : List Nat) (cases : List MatchCase) (ev : PL.D → M Fl) : Prop := ∀ (first : Bool) (pins : List (Addr × Obj)) (s : Shared) (σ : St) (H : Hp) (D : Ends) (x : V) (u : Value) (d : PL.D) (s3 : G3) (en : Env), Inv X pins σ H s → L2.RelV x u → s3.H = H → Ok3 s3 → RE X.K X.mg s3.Fz s3.H σ en s3.A →
  RF X.K X.mg s3.Fz x d → ContS X W σ s3 is (ev d en) D → PySem.wpAny (PySem.model X.prog X.w) X.A (PySem.matchCases cases X.env u first) (L2.SP X pins D) X.xe s
theorem sp_shift {f : PySem.Flow} {pins : List (Addr × Obj)} {D D' : Ends} {s : Shared} (h : L2.SP X pins D f s) (h1 : ∀ σ H, D.nx σ H → D'.nx σ H) (h2 : ∀ v H, D.rt v H → D'.rt v H) (h3 : ∀ σ H, D.bk σ H → D'.bk σ H) (h4 : ∀ σ H, D.ct σ H → D'.ct σ H) : L2.SP X pins D' f s := by
  cases f with
  | next => obtain ⟨σ', H', I, q⟩ := h; exact ⟨σ', H', I, h1 _ _ q⟩
  | brk => obtain ⟨σ', H', I, q⟩ := h; exact ⟨σ', H', I, h3 _ _ q⟩
  | cont => obtain ⟨σ', H', I, q⟩ := h; exact ⟨σ', H', I, h4 _ _ q⟩
  | ret v => obtain ⟨w, σ', H', I, r, q⟩ := h; exact ⟨w, σ', H', I, r, h2 _ _ q⟩
theorem evCs_nil {d : PL.D} {dfl : M Fl} : evCs G cf d [] [] [] dfl = dfl := by
  unfold evCs
  rfl
/-- case _: -/
theorem pcs_dfl {is : List Nat} {body : List Stmt} {qb : List PL.PS} {p0 : Pos} (hb : GSs X W G cf body qb) (hi : ∀ i ∈ PS.asgss qb, i ∈ is) : PCs X W is [⟨.MatchAs none none p0, none, body⟩] (fun d => evCs G cf d [] [] [] (evSs G cf qb)) := by
  intro first pins s σ H D x u d s3 en I rx hH ok re rf c
  refine PySem.wpAny_matchCases_cons (PySem.wpAny_matchPattern_Capture ?_)
  refine PySem.wpAny_assignInOrder_none ?_
  have c' : ContS X W σ s3 is (evSs G cf qb en) D := by
    have c1 : ContS X W σ s3 is (evCs G cf d [] [] [] (evSs G cf qb) en) D := c
    rw [evCs_nil] at c1; exact c1
  exact hb.run.run pins s σ H D I ⟨s3, en, hH, ok, re, c'.from (Step.refl _) fun _ a => a.wide hi⟩
theorem pcs_none {is : List Nat} : PCs X W is [] (fun d => evCs G cf d [] [] [] (evSs G cf [])) := by
  intro first pins s σ H D x u d s3 en I rx hH ok re rf c
  subst hH
  have c' : ContS X W σ s3 is (.ok .nx en) D := by
    have c1 : ContS X W σ s3 is (evCs G cf d [] [] [] (evSs G cf []) en) D := c
    rw [evCs_nil, evSs] at c1; exact c1
  exact PySem.wpAny_matchCases_nil ⟨σ, s3.H, I, c' σ s3.Fz s3.H s3.A ok re Agr.refl (Step.refl _)⟩
theorem flat_ty {d : PL.D} {n : Nat} {u : Value} {s : Shared} (r : RF X.K X.mg Fz x d) (rx : L2.RelV x u) (h : caseOf d n = some none) (hn : ∀ ds, d ≠ .tup ds) : ∃ T, s.TypeIs u T ∧ PySem.flagOfType true (.type T) = pure false := by
  cases r with
  | non => cases rx; exact ⟨"NoneType", rfl, PySem.flag_seq_None⟩
  | bl b => cases rx; exact ⟨"bool", rfl, PySem.flag_seq_bool⟩
  | int i => obtain ⟨t, rfl⟩ := rx; exact ⟨"int", rfl, PySem.flag_seq_int⟩
  | str z _ _ => obtain ⟨t, rfl⟩ := rx; exact ⟨"str", rfl, PySem.flag_seq_str⟩
  | tup _ _ => exact (hn _ rfl).elim
  | _ => simp [caseOf] at h
end
end PL

-- S29
set_option Elab.async false
set_option linter.all false
set_option maxRecDepth 100000
set_option maxHeartbeats 2000000
namespace PL
open PySem (Str Addr Value Shared Expr Stmt Pos Scope Obj Sem Operator CmpOp binaryOp compareOp inplaceOp sizeLine PyData unaryOp MatchCase Pattern)
open L2 (V HO Hp SqL SqT upd upd_same upd_ne St VK TE TT TA TS Ends XK WX PT PW PA PS PSs Inv Cx R2 OpR rI rI0 tOp Room CallR FnR TG TGs It TI)
section
variable {X : Cx} {W : WX} {G : Prog} {cf : CF} {a b c e l tg iter : Expr} {pa pb pc pe : PE} {pos p : Pos} {es : List Expr} {ps : List PE} {Fz H : Hp} {x v : V} {σ : St} {st : Stmt} {sts : List Stmt} {qs : PL.PS} {qss : List PL.PS}
theorem caps_star {N : List Str} {sc : Scope} {pts : List Pattern} {is : List Nat} (h : Caps N sc pts is) : pts.findIdx? (·.isStar) = none ∧ (is ≠ [] → (pts.all fun p => p.isWildcard || (p.isStar && p.names.isEmpty)) = false) := by
  induction h with
  | nil => exact ⟨rfl, fun h => (h rfl).elim⟩
  | cons _ _ _ ih =>
    refine ⟨?_, fun _ => ?_⟩
    · rw [List.findIdx?_cons, ih.1]; rfl
    · rw [List.all_cons]; rfl
theorem evCs_cons {d : PL.D} {dfl : M Fl} {p : List Nat} {pats : List (List Nat)} {g : Option PB} {gs : List (Option PB)} {b : List PL.PS} {bs : List (List PL.PS)} : evCs G cf d (p :: pats) (g :: gs) (b :: bs) dfl = (match caseOf d p.length with
    | some (some ds) => M.bind (bindAll p ds) fun _ => (match g with
        | none => evSs G cf b
        | some c => M.bind (evT G cf c) fun r => if r then evSs G cf b else evCs G cf d pats gs bs dfl)
    | some none => evCs G cf d pats gs bs dfl
    | none => M.bad) := by
  (conv => lhs; unfold evCs) <;> rfl
theorem bindAll_run : ∀ {is : List Nat} {ds : List PL.D} {en : Env}, (∃ e', bindAll is ds en = .ok () e') ∨ bindAll is ds en = .bad
  | [], [], en => .inl ⟨en, by unfold bindAll; rfl⟩
  | [], _ :: _, _ => .inr (by unfold bindAll; rfl)
  | _ :: _, [], _ => .inr (by unfold bindAll; rfl)
  | i :: is, d :: ds, en => by
    have e0 : bindAll (i :: is) (d :: ds) en = bindAll is ds (en.set i (some d)) := by rw [bindAll]; rfl
    rw [e0]
    exact bindAll_run
/-- a guarded body -/
def grdM (G : Prog) (cf : CF) (g : Option PB) (hit miss : M Fl) : M Fl := match g with
  | none => hit
  | some c => M.bind (evT G cf c) fun r => if r then hit else miss
/-- the guard, if there is one -/
inductive Grd (X : Cx) (W : WX) (G : Prog) (cf : CF) : Option Expr → Option PB → Prop where
  | no : Grd X W G cf none none
  | so {e : Expr} {t : PB} : PT X e (tT X W (evT G cf t)) → Grd X W G cf (some e) (some t)
theorem pcs_cons {is : List Nat} {pts : List Pattern} {pis : List Nat} {pp : Pos} {grd : Option Expr} {g : Option PB} {body : List Stmt} {qb dfl : List PL.PS} {rest : List MatchCase} {pats : List (List Nat)} {gs : List (Option PB)} {bs : List (List PL.PS)}
    (hN : X.N.Nodup) (hc : X.calm = true) (caps : Caps X.N X.env.scope pts pis) (hne : pis ≠ []) (hg : Grd X W G cf grd g) (hb : GSs X W G cf body qb) (hr : PCs X W is rest (fun d => evCs G cf d pats gs bs (evSs G cf dfl))) (h1 : ∀ i ∈ pis, i ∈ is) (h2 : ∀ i ∈ PS.asgss qb, i ∈ is) :
    PCs X W is (⟨.MatchSequence pts pp, grd, body⟩ :: rest) (fun d => evCs G cf d (pis :: pats) (g :: gs) (qb :: bs) (evSs G cf dfl)) := by
  intro first pins s σ H D x u d s3 en I rx hH ok re rf c
  subst hH
  obtain ⟨hstar, hwild⟩ := caps_star caps
  have hwild := hwild hne
  have c : ContS X W σ s3 is (evCs G cf d (pis :: pats) (g :: gs) (qb :: bs) (evSs G cf dfl) en) D := c
  rw [evCs_cons] at c
  have miss : ∀ {s' : Shared}, Inv X pins σ s3.H s' → ContS X W σ s3 is (evCs G cf d pats gs bs (evSs G cf dfl) en) D → PySem.wpAny (PySem.model X.prog X.w) X.A (PySem.matchCases rest X.env u false) (L2.SP X pins D) X.xe s' := fun {s'} I' c' => hr false pins s' σ s3.H D x u d s3 en I' rx rfl ok re rf c'
  refine PySem.wpAny_matchCases_cons ?_
  cases hcase : caseOf d pis.length with
  | none => rw [hcase] at c; exact False.elim c
  | some o =>
    rw [hcase] at c
    cases o with
    | none =>
      by_cases ht : ∃ ds, d = .tup ds
      · obtain ⟨ds, rfl⟩ := ht
        cases rf with
        | @tup ad xs _ hz rs =>
          cases (show u = Value.ref ad from rx)
          obtain ⟨its, rv, hT, hsz⟩ := I.tuple (hz.up ok.sub).sq
          have hl : ds.length ≠ pis.length := fun e => by
            have z : (if ds.length = pis.length then some (some ds) else some none : Option (Option (List PL.D))) = some none := hcase
            rw [if_pos e] at z
            cases z
          have hl2 : its.toArray.size = ds.length := by rw [List.size_toArray, ← rv.length, rs.len]
          refine PyProof.Rows.matchSeq_tuple_miss hT (by rw [hl2, ← rs.len]; have := hsz; rw [PySem.sizeLine_eq] at this; omega) (by rw [hl2, caps_len caps]; exact hl) ?_ hstar hwild
          exact miss (I.tok _) c
      · obtain ⟨T, hT, hf⟩ := flat_ty (s := s) rf rx hcase fun ds z => ht ⟨ds, z⟩
        refine PySem.wpAny_matchPattern_Sequence (PySem.wpAny_collectionFlag hT hf ?_) hstar hwild
        exact miss I c
    | some ds =>
      have hd : d = .tup ds ∧ ds.length = pis.length := by
        unfold caseOf at hcase
        split at hcase
        · split at hcase
          · cases hcase; exact ⟨rfl, by assumption⟩
          · cases hcase
        all_goals cases hcase
      obtain ⟨rfl, hl⟩ := hd
      cases id rf with
      | @tup ad xs _ hz rs =>
        cases (show u = Value.ref ad from rx)
        obtain ⟨its, rv, hT, hsz⟩ := I.tuple (hz.up ok.sub).sq
        have hl2 : its.toArray.size = pts.length := by rw [List.size_toArray, ← rv.length, rs.len, hl, caps_len caps]
        refine PyProof.Rows.matchSeq_tuple_hit hT (by rw [List.size_toArray, ← rv.length]; have := hsz; rw [PySem.sizeLine_eq] at this; omega) hl2 ?_ hstar hwild
        have I2 := I.tok (s.toks + 1 + 1)
        rw [← hl2]
        refine PyProof.Rows.unpackItems_tuple (I.ok.hd hc) hT fun h' hx => ?_
        have I3 : Inv X pins σ s3.H { s with heap := h', toks := s.toks + 1 + 1 } := I.kept (t' := s.toks + 1 + 1) fun b o e => hx b o (Nat.ne_of_lt (PySem.Heap.lt_size e)) e
        refine caps_each caps (by simp [← rv.length, rs.len, hl]) fun bs0 m1 m2 => ?_
        have c2 : ContS X W σ s3 is ((bindAll pis ds en).bind fun _ e => grdM G cf g (evSs G cf qb) (evCs G cf (.tup ds) pats gs bs (evSs G cf dfl)) e) D := c
        rcases bindAll_run (is := pis) (ds := ds) (en := en) with ⟨e2, hb2⟩ | hb2
        · rw [hb2] at c2
          have m1' : bs0.map (·.2) = its := by simpa using m1
          refine caps_store hN caps I3 rv m1' m2 rs re hb2 fun s' σ' A' A0 I' re' p' ag => ?_
          have okA : Ok3 ⟨s3.Fz, s3.H, A'⟩ := (Ok3.perm (Fz := s3.Fz) (H := s3.H) (A := s3.A) ok p'.symm).left
          have stA : Step s3 ⟨s3.Fz, s3.H, A'⟩ := (Step.refl s3).sub fun a h => p'.mem_iff.mp (List.mem_append_left _ h)
          have agw : ∀ {σ''}, Agr is σ' σ'' → Agr is σ σ'' := fun b => (ag.trans b).wide fun i h => by
            rcases List.mem_append.mp h with h | h
            · exact h1 i h
            · exact h
          cases hg with
          | no =>
            exact hb.run.run pins s' σ' s3.H D I' ⟨⟨s3.Fz, s3.H, A'⟩, e2, rfl, okA, re', ContS.from c2 stA fun _ a => agw (a.wide h2)⟩
          | @so ge gt hgt =>
            have c3 : ContS X W σ' ⟨s3.Fz, s3.H, A'⟩ is ((evT G cf gt e2).bind fun r e => (if r then evSs G cf qb else evCs G cf (.tup ds) pats gs bs (evSs G cf dfl) : M Fl) e) D := ContS.from c2 stA fun _ a => agw a
            refine L2.thn (hgt.run pins s' σ' s3.H (fun b H1 => ∃ (Fz : Hp) (A : List Addr) (e : Env), Ok3 ⟨Fz, H1, A⟩ ∧ RE X.K X.mg Fz H1 σ' e A ∧ (∀ a o, s3.Fz a = some o → Fz a = some o) ∧ ContS X W σ' ⟨Fz, H1, A⟩ is ((if b then evSs G cf qb else evCs G cf (.tup ds) pats gs bs (evSs G cf dfl) : M Fl) e) D) I' ?_) fun b s2 ⟨H1, I2, Fz, A, e, ok5, re5, kf5, c5⟩ => ?_
            · refine ⟨⟨s3.Fz, s3.H, A'⟩, e2, rfl, okA, re', ?_⟩
              cases r : evT G cf gt e2 with
              | bad => rw [r] at c3; exact c3
              | exc y e5 => rw [r] at c3; exact fun Fz H A cls dx ok re st rx => c3 σ' Fz H A cls dx ok re Agr.refl st rx
              | ok b0 e5 =>
                rw [r] at c3
                intro v Fz H A B ok5 re5 rr st5 b hb
                obtain ⟨hv, rfl⟩ := rr
                rw [hv] at hb
                cases hb
                simp only [List.append_nil] at ok5 st5
                exact ⟨Fz, A, e5, ok5, re5, st5.fz, ContS.from c3 st5 fun _ a => a⟩
            · cases b with
              | true => exact hb.run.run pins s2 σ' H1 D I2 ⟨⟨Fz, H1, A⟩, e, rfl, ok5, re5, c5.from (Step.refl _) fun _ a => a.wide h2⟩
              | false => exact hr false pins s2 σ' H1 D _ _ (.tup ds) ⟨Fz, H1, A⟩ e I2 rx rfl ok5 re5 (rf.up kf5) c5
        · rw [hb2] at c2; exact False.elim c2
end
end PL

-- S30
set_option Elab.async false
set_option linter.all false
set_option maxRecDepth 100000
set_option maxHeartbeats 2000000
namespace PL
open PySem (Str Addr Value Shared Expr Stmt Pos Scope Obj Sem Operator CmpOp binaryOp compareOp inplaceOp sizeLine PyData unaryOp MatchCase Pattern)
open L2 (V HO Hp SqL SqT upd upd_same upd_ne St VK TE TT TA TS Ends XK WX PT PW PA PS PSs Inv Cx R2 OpR rI rI0 tOp Room CallR FnR TG TGs It TI)
section
variable {X : Cx} {W : WX} {G : Prog} {cf : CF} {a b c e l tg iter : Expr} {pa pb pc pe : PE} {pos p : Pos} {es : List Expr} {ps : List PE} {Fz H : Hp} {x v : V} {σ : St}
theorem gs_match {cases : List MatchCase} {pats : List (List Nat)} {gs : List (Option PB)} {bs : List (List PL.PS)} {dfl : List PL.PS} (h : GE X W G cf e pe) (hc : PCs X W (PS.asgs (.mtch pe pats gs bs dfl)) cases (fun d => evCs G cf d pats gs bs (evSs G cf dfl))) :
    GS X W G cf (.Match e cases pos) (.mtch pe pats gs bs dfl) := ⟨⟨fun pins s σ H D I q => by
  obtain ⟨s3, en, e1, ok, re, c⟩ := q
  rw [evS] at c
  refine PySem.wpAny_Match (L2.thn (h.val.run pins s σ H _ I (tS_bind (Re := relE X) ⟨s3, en, e1, ok, re, c⟩)) fun u s1 ⟨x, H1, I1, rx, d, Fz, A, B, e2, ok2, re2, rr, c2⟩ => ?_)
  obtain ⟨Fz', rf, st, ok4⟩ := freeze_top (C := []) (by simpa using ok2) rr
  simp only [List.append_nil] at st ok4
  exact hc true pins s1 σ H1 D x u d.frz ⟨Fz', H1, A⟩ e2 I1 rx rfl ok4 (re2.up st.fz fun _ _ _ z => z) rf (ContS.from c2 st fun _ a => a)⟩⟩
end
end PL

-- S31
set_option Elab.async false
set_option linter.all false
set_option maxRecDepth 100000
set_option maxHeartbeats 2000000
namespace PL
open PySem (Str Addr Value Shared Expr Stmt Pos Scope Obj Sem Operator CmpOp binaryOp compareOp inplaceOp sizeLine PyData unaryOp MatchCase Pattern)
open L2 (V HO Hp SqL SqT upd upd_same upd_ne St VK TE TT TA TS Ends XK WX PT PW PA PS PSs Inv Cx R2 OpR rI rI0 tOp Room CallR FnR TG TGs It TI)
section
variable {X : Cx} {W : WX} {G : Prog} {cf : CF} {a b c e l tg iter : Expr} {pa pb pc pe : PE} {pos p : Pos} {es : List Expr} {ps : List PE} {Fz H : Hp} {v : V} {σ : St}
theorem ROs.cons_inv {vs : List V} {d : PL.D} {ds : List PL.D} {B : List Addr} (r : ROs X.K X.mg Fz H vs (d :: ds) B) : ∃ v1 vs1 C1 C2, vs = v1 :: vs1 ∧ RO X.K X.mg Fz H v1 d C1 ∧ ROs X.K X.mg Fz H vs1 ds C2 ∧ B = C1 ++ C2 := by
  cases r with
  | cons r t => exact ⟨_, _, _, _, rfl, r, t, rfl⟩
theorem ROs.nil_inv {vs : List V} {B : List Addr} (r : ROs X.K X.mg Fz H vs [] B) : vs = [] ∧ B = [] := by
  cases r
  exact ⟨rfl, rfl⟩
theorem gs_par {i j : Nat} {x y : Str} {px py pt pt2 : Pos} {kt k2 : Nat} (hc : X.calm = true) (hN : X.N.Nodup) (hi : X.N[i]? = some x) (hj : X.N[j]? = some y) (hij : i ≠ j)
    (hx : X.env.scope.names.lookup x = some .local) (hy : X.env.scope.names.lookup y = some .local) (h : GA X W G cf [a, b] [pa, pb])
    (hw : PySem.swappedStores [.Tuple [.Name x px, .Name y py] kt pt] (.Tuple [a, b] k2 pt2) X.env = pure (some [x, y]))
    (hs : PySem.swapsWithSole [.Tuple [.Name x px, .Name y py] kt pt] (.Tuple [a, b] k2 pt2) pos.line X.env = pure false) :
    GS X W G cf (.Assign [.Tuple [.Name x px, .Name y py] kt pt] (.Tuple [a, b] k2 pt2) pos) (.par [i, j] [pa, pb]) := ⟨PS.imp (L2.ps_par hc hN hi hj hij hx hy h.raw hw hs) fun D σ H q => by
  have ea : PS.asgs (.par [i, j] [pa, pb]) = [i, j] := by rw [PS.asgs]
  have q' : tS X W [i, j] (M.bind (evRs G cf [pa, pb]) fun ds => M.bind (bindAll [i, j] ds) fun _ => M.pure .nx) D σ H := by
    obtain ⟨s, en, e1, ok, re, c⟩ := q
    rw [evS, ea] at c
    exact ⟨s, en, e1, ok, re, c⟩
  refine tM_mono (tS_bind (Re := relRs X) q') fun vs H1 ⟨ds, Fz, A, B, en, ok, re, rs, c⟩ => ?_
  have c' : ContS X W σ ⟨Fz, H1, A ++ B⟩ [i, j] ((bindAll [i, j] ds en).bind fun _ e => R.ok .nx e) D := c
  match ds, rs with
  | [], rs => unfold bindAll at c'; exact False.elim c'
  | [d], rs =>
    have e0 : bindAll [i, j] [d] en = .bad := by
      show bindAll [j] [] (en.set i (some d)) = .bad
      unfold bindAll; rfl
    rw [e0] at c'; exact False.elim c'
  | d :: d2 :: d3 :: r, rs =>
    have e0 : bindAll [i, j] (d :: d2 :: d3 :: r) en = .bad := by
      show bindAll [] (d3 :: r) ((en.set i (some d)).set j (some d2)) = .bad
      unfold bindAll; rfl
    rw [e0] at c'; exact False.elim c'
  | [d, d2], rs =>
    have e0 : bindAll [i, j] [d, d2] en = .ok () ((en.set i (some d)).set j (some d2)) := by
      show bindAll [] [] ((en.set i (some d)).set j (some d2)) = _
      unfold bindAll; rfl
    rw [e0] at c'
    obtain ⟨v1, vs1, C1, B1, rfl, r1, rs1, rfl⟩ := ROs.cons_inv rs
    obtain ⟨v2, vs2, C2, B2, rfl, r2, rs2, rfl⟩ := ROs.cons_inv rs1
    obtain ⟨rfl, rfl⟩ := ROs.nil_inv rs2
    refine ⟨v1, v2, rfl, ?_⟩
    obtain ⟨A1, A0, re1, p1⟩ := re.setS i r1
    obtain ⟨A2, A3, re2, p2⟩ := re1.setS j r2
    have pp : ((A2 ++ A3) ++ A0).Perm (A ++ (C1 ++ (C2 ++ []))) := by
      refine (p2.append_right A0).trans ?_
      rw [List.append_assoc, List.append_nil]
      refine (p1.append_left C2).trans ?_
      rw [← List.append_assoc, ← List.append_assoc]
      refine List.Perm.trans (List.perm_append_comm) ?_
      rw [List.append_assoc]
      exact (List.perm_append_comm).append_left A
    have okF := (ok.perm pp.symm).left.left
    refine c' _ Fz H1 A2 okF re2 ⟨fun k hk => ?_, by simp⟩ ((Step.refl _).sub fun a h => pp.mem_iff.mp (by simp [h]))
    simp only [List.mem_cons, List.not_mem_nil, or_false, not_or] at hk
    rw [List.getElem?_set_ne (fun z => hk.2 z.symm), List.getElem?_set_ne (fun z => hk.1 z.symm)]⟩
theorem gs_par3 {i j l : Nat} {x y z : Str} {px py pz pt pt2 : Pos} {kt k2 : Nat} (hc : X.calm = true) (hN : X.N.Nodup) (hi : X.N[i]? = some x) (hj : X.N[j]? = some y) (hl : X.N[l]? = some z) (hij : i ≠ j) (hil : i ≠ l) (hjl : j ≠ l)
    (hx : X.env.scope.names.lookup x = some .local) (hy : X.env.scope.names.lookup y = some .local) (hz : X.env.scope.names.lookup z = some .local) (h : GA X W G cf [a, b, c] [pa, pb, pc])
    (hw : PySem.swappedStores [.Tuple [.Name x px, .Name y py, .Name z pz] kt pt] (.Tuple [a, b, c] k2 pt2) X.env = pure (some [x, y, z]))
    (hs : PySem.swapsWithSole [.Tuple [.Name x px, .Name y py, .Name z pz] kt pt] (.Tuple [a, b, c] k2 pt2) pos.line X.env = pure false) :
    GS X W G cf (.Assign [.Tuple [.Name x px, .Name y py, .Name z pz] kt pt] (.Tuple [a, b, c] k2 pt2) pos) (.par [i, j, l] [pa, pb, pc]) := ⟨PS.imp (L2.ps_par3 hc hN hi hj hl hij hil hjl hx hy hz h.raw hw hs) fun D σ H q => by
  have ea : PS.asgs (.par [i, j, l] [pa, pb, pc]) = [i, j, l] := by rw [PS.asgs]
  have q' : tS X W [i, j, l] (M.bind (evRs G cf [pa, pb, pc]) fun ds => M.bind (bindAll [i, j, l] ds) fun _ => M.pure .nx) D σ H := by
    obtain ⟨s, en, e1, ok, re, c⟩ := q
    rw [evS, ea] at c
    exact ⟨s, en, e1, ok, re, c⟩
  refine tM_mono (tS_bind (Re := relRs X) q') fun vs H1 ⟨ds, Fz, A, B, en, ok, re, rs, c⟩ => ?_
  have c' : ContS X W σ ⟨Fz, H1, A ++ B⟩ [i, j, l] ((bindAll [i, j, l] ds en).bind fun _ e => R.ok .nx e) D := c
  match ds, rs with
  | [], rs => unfold bindAll at c'; exact False.elim c'
  | [d], rs =>
    have e0 : bindAll [i, j, l] [d] en = .bad := by
      show bindAll [j, l] [] (en.set i (some d)) = .bad
      unfold bindAll; rfl
    rw [e0] at c'; exact False.elim c'
  | [d, d2], rs =>
    have e0 : bindAll [i, j, l] [d, d2] en = .bad := by
      show bindAll [l] [] ((en.set i (some d)).set j (some d2)) = .bad
      unfold bindAll; rfl
    rw [e0] at c'; exact False.elim c'
  | d :: d2 :: d3 :: d4 :: r, rs =>
    have e0 : bindAll [i, j, l] (d :: d2 :: d3 :: d4 :: r) en = .bad := by
      show bindAll [] (d4 :: r) (((en.set i (some d)).set j (some d2)).set l (some d3)) = .bad
      unfold bindAll; rfl
    rw [e0] at c'; exact False.elim c'
  | [d, d2, d3], rs =>
    have e0 : bindAll [i, j, l] [d, d2, d3] en = .ok () (((en.set i (some d)).set j (some d2)).set l (some d3)) := by
      show bindAll [] [] (((en.set i (some d)).set j (some d2)).set l (some d3)) = _
      unfold bindAll; rfl
    rw [e0] at c'
    obtain ⟨v1, vs1, C1, B1, rfl, r1, rs1, rfl⟩ := ROs.cons_inv rs
    obtain ⟨v2, vs2, C2, B2, rfl, r2, rs2, rfl⟩ := ROs.cons_inv rs1
    obtain ⟨v3, vs3, C3, B3, rfl, r3, rs3, rfl⟩ := ROs.cons_inv rs2
    obtain ⟨rfl, rfl⟩ := ROs.nil_inv rs3
    refine ⟨v1, v2, v3, rfl, ?_⟩
    obtain ⟨A1, A0, re1, p1⟩ := re.setS i r1
    obtain ⟨A2, A3, re2, p2⟩ := re1.setS j r2
    obtain ⟨A4, A5, re3, p3⟩ := re2.setS l r3
    have pp : (A4 ++ (A5 ++ (A3 ++ A0))).Perm (A ++ (C1 ++ (C2 ++ (C3 ++ [])))) := by
      rw [List.perm_iff_count]
      intro z
      have c1 := p1.count_eq z
      have c2 := p2.count_eq z
      have c3 := p3.count_eq z
      simp only [List.count_append, List.append_nil] at c1 c2 c3 ⊢
      omega
    have okF := (ok.perm pp.symm).left
    refine c' _ Fz H1 A4 okF re3 ⟨fun k hk => ?_, by simp⟩ ((Step.refl _).sub fun a h => pp.mem_iff.mp (by simp [h]))
    simp only [List.mem_cons, List.not_mem_nil, or_false, not_or] at hk
    rw [List.getElem?_set_ne (fun z => hk.2.2 z.symm), List.getElem?_set_ne (fun z => hk.2.1 z.symm), List.getElem?_set_ne (fun z => hk.1 z.symm)]⟩
end
end PL

-- S32
set_option Elab.async false
set_option linter.all false
set_option maxRecDepth 100000
set_option maxHeartbeats 2000000
namespace PL
open PySem (Str Addr Value Shared Expr Stmt Pos Scope Obj Sem Operator CmpOp binaryOp compareOp inplaceOp sizeLine PyData unaryOp MatchCase Pattern)
open L2 (V HO Hp SqL SqT upd upd_same upd_ne St VK TE TT TA TS Ends XK WX PT PW PA PS PSs Inv Cx R2 OpR rI rI0 tOp Room CallR FnR TG TGs It TI)
section
variable {K : PySem.W.Frag} {mg : Str → Option Value} {Fz H : Hp}
theorem RE.nones : ∀ (n : Nat) , RE K mg Fz H (List.replicate n none) (List.replicate n none) []
  | 0 => .nil
  | n + 1 => .no (RE.nones n)
theorem RE.start : ∀ {vs : List V} {ds : List PL.D} {B : List Addr} (n : Nat), ROs K mg Fz H vs ds B → RE K mg Fz H (vs.map some ++ List.replicate n none) (ds.map some ++ List.replicate n none) B
  | _, _, _, n, .nil => RE.nones n
  | _, _, _, n, .cons r t => .so r (RE.start n t)
/-- what is left in the lent parameters -/
theorem fins_ok {asg : List Nat} : ∀ {vs : List V} {ds : List PL.D} {σ : St} {e : Env} {A : List Addr} (j : Nat), RE K mg Fz H σ e A → vs.length = ds.length → ds.length ≤ e.length → (∀ i v, vs[i]? = some v → asg.contains (j + i) = false → σ[i]? = some (some v)) →
    ∃ A' A0, RE K mg Fz H (vs.map some) (fins asg j ds e) A' ∧ (A' ++ A0).Perm A
  | [], [], σ, e, A, j, re, _, _, _ => ⟨[], A, by
      have : fins asg j [] e = [] := by unfold fins; rfl
      rw [this]; exact .nil, by simp⟩
  | [], _ :: _, _, _, _, _, _, h, _, _ => by simp at h
  | _ :: _, [], _, _, _, _, _, h, _, _ => by simp at h
  | v :: vs, d :: ds, _, _, _, j, .nil, _, h, _ => by simp at h
  | v :: vs, d :: ds, _, _, _, j, .no (o := o) (σ := σ) (e := e) (A := A) t, h, h2, k => by
    obtain ⟨A', A0, r, p⟩ := fins_ok (vs := vs) (ds := ds) (j + 1) t (by simpa using h) (by simpa using h2) fun i w hw ha => by
      have := k (i + 1) w (by simpa using hw) (by rw [show j + (i + 1) = j + 1 + i by omega]; exact ha)
      simpa using this
    refine ⟨A', A0, ?_, p⟩
    have : fins asg j (d :: ds) (none :: e) = (if d.own && !asg.contains j then none else none) :: fins asg (j + 1) ds e := by rw [fins]
    rw [this]
    have e0 : (if d.own && !asg.contains j then none else none : Option PL.D) = none := by split <;> rfl
    rw [e0]
    exact .no r
  | v :: vs, d :: ds, _, _, _, j, .so (v := w) (d := d') (σ := σ) (e := e) (A := A1) (B := B1) r1 t, h, h2, k => by
    obtain ⟨A', A0, r, p⟩ := fins_ok (vs := vs) (ds := ds) (j + 1) t (by simpa using h) (by simpa using h2) fun i w hw ha => by
      have := k (i + 1) w (by simpa using hw) (by rw [show j + (i + 1) = j + 1 + i by omega]; exact ha)
      simpa using this
    have ef : fins asg j (d :: ds) (some d' :: e) = (if d.own && !asg.contains j then some d' else none) :: fins asg (j + 1) ds e := by rw [fins]
    rw [ef]
    by_cases z : (d.own && !asg.contains j) = true
    · rw [if_pos z]
      rw [Bool.and_eq_true] at z
      have hw := k 0 v rfl (by simpa using z.2)
      simp at hw
      subst hw
      exact ⟨A1 ++ A', A0, .so r1 r, by rw [List.append_assoc]; exact p.append_left A1⟩
    · rw [if_neg z]
      refine ⟨A', A0 ++ A1, .no r, ?_⟩
      rw [← List.append_assoc]
      exact (p.append_right A1).trans List.perm_append_comm
end
/-- a def's promise, from its body -/
theorem body_sp {P : PySem.Program} {w : PySem.World} {K : PySem.W.Frag} {mg : Str → Option Value} {base : PySem.Heap} {X : Cx} {G : Prog} {cf : CF} {f : Fn} {N : List Str} {vs : List V} {H : Hp} {Q : VK} {E : XK} {sts : List Stmt} (hK : X.K = K) (hm : X.mg = mg) (hn : N.length = f.ns)
    (hl : f.ps.length ≤ f.ns) (hasg : ∀ i ∈ PS.asgss f.body, f.asg.contains i = true) (h : spF K mg f.ps.length (fun ds => if ds.length = f.ps.length then runF G cf f ds else .bad) vs H Q E) :
    tS X (fun cls d _ H => E cls d H) (PS.asgss f.body) (evSs G cf f.body) { nx := fun _ H' => Q .non H', rt := Q } (L2.start N vs) H := by
  subst hK hm
  obtain ⟨hlen, Fz, ds, B, ok, rs, c⟩ := h
  have hvd : vs.length = ds.length := by
    have z : ∀ {vs : List V} {ds : List PL.D} {B : List Addr}, ROs X.K X.mg Fz H vs ds B → vs.length = ds.length := by
      intro vs ds B r
      induction r with
      | nil => rfl
      | cons _ _ ih => simp [ih]
    exact z rs
  have c : ContF X.K X.mg vs ⟨Fz, H, B⟩ (if ds.length = f.ps.length then runF G cf f ds else .bad) Q E := c
  rw [if_pos (by rw [← hvd]; exact hlen)] at c
  have e0 : L2.start N vs = vs.map some ++ List.replicate (f.ns - ds.length) none := by unfold L2.start; rw [hn, hvd]
  refine ⟨⟨Fz, H, B⟩, ds.map some ++ List.replicate (f.ns - ds.length) none, rfl, ok, by rw [e0]; exact RE.start _ rs, ?_⟩
  have elen : ∀ {σ' : St} {e' : Env} {Fz' H' : Hp} {A' : List Addr}, Agr (PS.asgss f.body) (L2.start N vs) σ' → RE X.K X.mg Fz' H' σ' e' A' → ds.length ≤ e'.length := fun {σ' e' Fz' H' A'} ag re => by
    rw [← re.len, ag.len, e0]
    simp [hvd]
  have lent : ∀ {σ' : St}, Agr (PS.asgss f.body) (L2.start N vs) σ' → ∀ i v, vs[i]? = some v → f.asg.contains (0 + i) = false → σ'[i]? = some (some v) := fun {σ'} ag i v hv ha => by
    have ni : i ∉ PS.asgss f.body := fun z => by
      have := hasg i z
      rw [Nat.zero_add] at ha
      rw [ha] at this
      cases this
    rw [ag.eq i ni, e0]
    have hi := (List.getElem?_eq_some_iff.mp hv).1
    rw [List.getElem?_append_left (by simpa using hi), List.getElem?_map, hv]; rfl
  unfold runF at c
  cases r : evSs G cf f.body (ds.map some ++ List.replicate (f.ns - ds.length) none) with
  | bad => rw [r] at c; exact c
  | exc x e' =>
    rw [r] at c
    intro σ' Fz' H' A' cls dx ok' re' ag st rx
    obtain ⟨A2, A0, r2, p2⟩ := fins_ok (asg := f.asg) 0 re' hvd (elen ag re') (lent ag)
    exact c Fz' H' A2 cls dx (ok'.perm p2.symm).left r2 (st.sub fun a h => p2.mem_iff.mp (List.mem_append_left _ h)) rx
  | ok fl e' =>
    rw [r] at c
    cases fl with
    | bk => exact False.elim c
    | ct => exact False.elim c
    | nx =>
      intro σ' Fz' H' A' ok' re' ag st
      obtain ⟨A2, A0, r2, p2⟩ := fins_ok (asg := f.asg) 0 re' hvd (elen ag re') (lent ag)
      exact c .non Fz' H' A2 [] (by simpa using (ok'.perm p2.symm).left) r2 (.sh .non) (st.sub fun a h => p2.mem_iff.mp (List.mem_append_left _ (by simpa using h)))
    | rt d =>
      intro σ' v Fz' H' A' B' ok' re' ro ag st
      obtain ⟨A2, A0, r2, p2⟩ := fins_ok (asg := f.asg) 0 re' hvd (elen ag re') (lent ag)
      have pp : ((A2 ++ B') ++ A0).Perm (A' ++ B') := (perm_mid _ _ _).trans (p2.append_right B')
      exact c v Fz' H' A2 B' (ok'.perm pp.symm).left r2 ro (st.sub fun a h => pp.mem_iff.mp (List.mem_append_left _ h))
end PL

-- S33
set_option Elab.async false
set_option linter.all false
set_option maxRecDepth 100000
set_option maxHeartbeats 2000000
namespace PL
open PySem (Str Addr Value Shared Expr Stmt Pos Scope Obj Sem Operator CmpOp binaryOp compareOp inplaceOp sizeLine PyData unaryOp MatchCase Pattern)
open L2 (V HO Hp SqL SqT upd upd_same upd_ne St VK TE TT TA TS Ends XK WX PT PW PA PS PSs Inv Cx R2 OpR rI rI0 tOp Room CallR FnR TG TGs It TI)
/-! ### names -/
def visB (sc : Scope) (x : Str) : Bool := match sc.names.lookup x with
  | some .local => true
  | some .cell => true
  | some .free => true
  | _ => false
def locB (sc : Scope) (x : Str) : Bool := match sc.names.lookup x with
  | some .local => true
  | some .cell => true
  | _ => false
def lclB (sc : Scope) (x : Str) : Bool := match sc.names.lookup x with
  | some .local => true
  | _ => false
def glB (sc : Scope) (x : Str) : Bool := match sc.names.lookup x with
  | some .globalImplicit => true
  | _ => false
def okN (x : Str) : Bool := (!(x == ("__debug__" : Str))) && (!(x == ("__classdict__" : Str)))
theorem visB_ok {sc : Scope} {x : Str} (h : visB sc x = true) : L2.Vis sc x := by
  unfold visB at h
  split at h
  · exact .inl ‹_›
  · exact .inr (.inl ‹_›)
  · exact .inr (.inr ‹_›)
  · cases h
theorem locB_ok {sc : Scope} {x : Str} (h : locB sc x = true) : L2.Loc sc x := by
  unfold locB at h
  split at h
  · exact .inl ‹_›
  · exact .inr ‹_›
  · cases h
theorem lclB_ok {sc : Scope} {x : Str} (h : lclB sc x = true) : sc.names.lookup x = some .local := by
  unfold lclB at h
  split at h
  · assumption
  · cases h
theorem glB_ok {sc : Scope} {x : Str} (h : glB sc x = true) : sc.names.lookup x = some .globalImplicit := by
  unfold glB at h
  split at h
  · assumption
  · cases h
theorem okN_ok {x : Str} (h : okN x = true) : (x == ("__debug__" : Str)) = false ∧ (x == ("__classdict__" : Str)) = false := by
  unfold okN at h
  simpa using h
theorem ba {a b : Bool} (h : (a && b) = true) : a = true ∧ b = true := by
  cases a <;> cases b <;> first | exact ⟨rfl, rfl⟩ | cases h
/-! ### shapes -/
def superCall : Expr → Bool
  | .Call (.Name id _) [] [] _ => id == ("super" : Str)
  | _ => false
theorem base_ok {o : Expr} {f : Str} {env : PySem.Env} {whole : Sem Value} (h : superCall o = false) : PySem.attributeBase o f env whole = whole := by
  unfold PySem.attributeBase
  split
  · rename_i id p1 pos
    have e : (id != ("super" : Str)) = true := by
      have : (id == ("super" : Str)) = false := h
      simp [bne, this]
    rw [e]
    simp
  · rfl
def isComp : Expr → Bool
  | .ListComp _ _ _ _ => true
  | .SetComp _ _ _ _ => true
  | .DictComp _ _ _ _ _ => true
  | _ => false
theorem swaps_ok {e : Expr} {t : Option Expr} {l : Nat} {env : PySem.Env} (h : isComp e = false) : PySem.swapsWith e t l env = pure false := by
  cases e <;> first | rfl | cases h
theorem swaps_sole {e : Expr} {t : Expr} {l : Nat} {env : PySem.Env} (h : isComp e = false) : PySem.swapsWithSole [t] e l env = pure false := swaps_ok h
theorem swaps_attr {e o : Expr} {f : Str} {p : Pos} {l : Nat} {env : PySem.Env} : PySem.swapsWith e (some (.Attribute o f p)) l env = pure false := by
  cases e <;> rfl
theorem swaps_sub {e o i : Expr} {p : Pos} {l : Nat} {env : PySem.Env} : PySem.swapsWith e (some (.Subscript o i p)) l env = pure false := by
  cases e <;> rfl
theorem swaps_sole_sub {e o i : Expr} {p : Pos} {l : Nat} {env : PySem.Env} : PySem.swapsWithSole [.Subscript o i p] e l env = pure false := by cases e <;> rfl
def isTup : Expr → Bool
  | .Tuple _ _ _ => true
  | _ => false
theorem stores_ok {t e : Expr} {env : PySem.Env} (h : isTup e = false) : PySem.swappedStores [t] e env = pure none := by
  unfold PySem.swappedStores
  cases e <;> first | (cases t <;> rfl) | cases h
def isNm : Expr → Bool
  | .Name _ _ => true
  | _ => false
theorem stores_nm {x : Str} {p : Pos} {e : Expr} {env : PySem.Env} : PySem.swappedStores [.Name x p] e env = pure none := by
  cases e <;> rfl
theorem stores_sub {o i : Expr} {p : Pos} {e : Expr} {env : PySem.Env} : PySem.swappedStores [.Subscript o i p] e env = pure none := by
  cases e <;> rfl
def isSetD : Expr → Bool
  | .Set _ _ _ => true
  | _ => false
theorem folded_ok {e : Expr} {env : PySem.Env} (h : isSetD e = false) : ∀ x, PySem.foldedSetIterable e env x = pure x := fun x => by
  cases e <;> first | rfl | cases h
theorem behind_ok {op : CmpOp} {e : Expr} (h : isSetD e = false) : PySem.behindInMarks op e = false := by
  cases e <;> first | rfl | cases h
/-- a test without a road of its own -/
def plainT : Expr → Bool
  | .UnaryOp .Not _ _ => false
  | .BoolOp _ _ _ => false
  | .IfExp _ _ _ _ => false
  | .Compare _ _ _ _ => false
  | _ => true
theorem plainT_ok {e : Expr} {env : PySem.Env} (h : plainT e = true) : ∀ whole, PySem.isTrue e env whole = (do let v ← whole; PySem.standAt e.pos; PySem.holding [v] (PySem.truthy v)) := fun whole => by
  cases e with
  | UnaryOp op a p => cases op <;> first | rfl | cases h
  | _ => first | rfl | cases h
theorem mtree_of {X : Cx} {o : Expr} {m : Str} {apos pos : Pos} {es : List Expr} (hb : superCall o = false) (hst : es.all notStar = true) (hl : es.length < 30) (hline : (apos.endLine == pos.line) = true) : MTree X o m apos es pos := by
  refine ⟨do return (← PySem.importBound o X.env).getD true, ?_⟩
  show (do
    let ov ← PySem.attributeBase o m X.env (PySem.eval o X.env)
    PySem.standAt apos.atName
    PySem.methodCall o m apos pos X.env ov (es.length + ([] : List PySem.Keyword).length) (PySem.backTo pos (PySem.starEach es X.env)) (PySem.backToKw pos (PySem.keywordEach [] X.env))) = _
  have fw := few_of (X := X) (cpos := pos) hst hl
  have ff : PySem.methodCallForm (es.length + ([] : List PySem.Keyword).length) (PySem.backTo pos (PySem.starEach es X.env)) (PySem.backToKw pos (PySem.keywordEach [] X.env)) = true := fw
  rw [base_ok hb]
  unfold PySem.methodCall
  rw [ff]
  unfold PySem.calleeOf PySem.methodCallPos
  rw [hline]
  simp
end PL

-- S33b
set_option Elab.async false
set_option linter.all false
set_option maxRecDepth 100000
set_option maxHeartbeats 2000000
namespace PL
open PySem (Str Addr Value Shared Expr Stmt Pos Scope Obj Sem Operator CmpOp binaryOp compareOp inplaceOp sizeLine PyData unaryOp MatchCase Pattern)
open L2 (V HO Hp SqL SqT upd upd_same upd_ne St VK TE TT TA TS Ends XK WX PT PW PA PS PSs Inv Cx R2 OpR rI rI0 tOp Room CallR FnR TG TGs It TI)
/-! ### defs with *args -/
/-- what follows the end of a call of shared values -/
def ContV (K : PySem.W.Frag) (mg : Str → Option Value) (s : G3) (r : CR) (Q : VK) (E : XK) : Prop := match r with
  | .ret d _ => ∀ (v : V) (Fz H : Hp) (B : List Addr), Ok3 ⟨Fz, H, B⟩ → RO K mg Fz H v d B → Step s ⟨Fz, H, B⟩ → Q v H
  | .exc x _ => ∀ (Fz H : Hp) (cls : Value) (dx : Option Addr), Ok3 ⟨Fz, H, []⟩ → Step s ⟨Fz, H, []⟩ → RX K mg Fz H x cls dx → E cls dx H
  | .bad => False
/-- a star def's promise: the values as they are written -/
def spS (K : PySem.W.Frag) (mg : Str → Option Value) (f : Fn) (r : List D → CR) : L2.Sp := fun vs H Q E => f.npos ≤ vs.length + 1 ∧ vs.length ≤ LINE ∧ ∃ (Fz : Hp) (ds : List D), Ok3 ⟨Fz, H, []⟩ ∧ RFs K mg Fz vs ds ∧ ContV K mg ⟨Fz, H, []⟩ (r (starArgs f.npos ds)) Q E
section
variable {K : PySem.W.Frag} {mg : Str → Option Value} {Fz H : Hp}
theorem RF.frz {v : V} {d : D} (r : RF K mg Fz v d) : d.frz = d := by cases r <;> rfl
theorem RFs.frz : ∀ {vs : List V} {ds : List D}, RFs K mg Fz vs ds → ds.map D.frz = ds
  | _, _, .nil => rfl
  | _, _, .cons r t => by rw [List.map_cons, r.frz, RFs.frz t]
theorem RFs.ros : ∀ {vs : List V} {ds : List D}, RFs K mg Fz vs ds → ROs K mg Fz H vs ds []
  | _, _, .nil => .nil
  | _, _, .cons r t => .cons (A := []) (B := []) (.sh r) (RFs.ros t)
theorem RFs.takeS : ∀ {vs : List V} {ds : List D} (n : Nat), RFs K mg Fz vs ds → RFs K mg Fz (vs.take n) (ds.take n)
  | _, _, 0, _ => .nil
  | _, _, n + 1, .nil => .nil
  | _, _, n + 1, .cons r t => .cons r (RFs.takeS n t)
theorem RFs.dropS : ∀ {vs : List V} {ds : List D} (n : Nat), RFs K mg Fz vs ds → RFs K mg Fz (vs.drop n) (ds.drop n)
  | _, _, 0, r => r
  | _, _, n + 1, .nil => .nil
  | _, _, n + 1, .cons r t => RFs.dropS n t
theorem ROs.snoc : ∀ {vs : List V} {ds : List D} {v : V} {d : D}, RFs K mg Fz vs ds → RF K mg Fz v d → ROs K mg Fz H (vs ++ [v]) (ds ++ [d]) []
  | _, _, v, d, .nil, r => .cons (A := []) (B := []) (.sh r) .nil
  | _, _, v, d, .cons r t, q => .cons (A := []) (B := []) (.sh r) (ROs.snoc t q)
/-- something shared, new -/
theorem step_shared {p : Addr} {u : HO} (ok : Ok3 ⟨Fz, H, []⟩) (hp : H p = none) : Ok3 ⟨upd Fz p u, upd H p u, []⟩ ∧ Step ⟨Fz, H, []⟩ ⟨upd Fz p u, upd H p u, []⟩ := by
  have nf : Fz p = none := by
    cases e : Fz p with
    | none => rfl
    | some o => have this : H p = some o := ok.sub p o e; rw [hp] at this; cases this
  refine ⟨⟨fun a o e => ?_, by simp, fun a h => (nomatch h), fun a h => (nomatch h)⟩, ⟨fun a o e _ => ?_, fun a o e => ?_, fun a h => (nomatch h), fun a o e => ?_, fun a h => ?_⟩⟩
  · show upd H p u a = some o
    by_cases z : a = p
    · subst z
      have e' : upd Fz a u a = some o := e
      rw [upd_same] at e' ⊢
      exact e'
    · have e' : upd Fz p u a = some o := e
      rw [upd_ne z] at e' ⊢
      exact ok.sub a o e'
  · show upd H p u a = some o
    rw [upd_ne (L2.ne_of_none e hp)]
    exact e
  · show upd Fz p u a = some o
    rw [upd_ne (L2.ne_of_none e nf)]
    exact e
  · have e' : upd Fz p u a = some o := e
    by_cases z : a = p
    · subst z; exact .inr (.inr hp)
    · rw [upd_ne z] at e'; exact .inl e'
  · show upd H p u a ≠ none
    by_cases z : a = p
    · subst z; rw [upd_same]; simp
    · rw [upd_ne z]; exact h
/-- the star def's promise, from that of its body with the tuple in place -/
theorem spS_body {f : Fn} {r : List D → CR} {ws rest : List V} {Q : VK} {E : XK} {p : Addr} {o : Obj} (hd : o.dict = none) (hp : H p = none) (hps : f.ps.length = f.npos) (h0 : 0 < f.npos) (hl : ws.length = f.npos - 1) (h : spS K mg f r (ws ++ rest) H Q E) :
    spF K mg f.ps.length r (ws ++ [V.ref p]) (upd H p (.frz o (.tup rest))) Q E := by
  obtain ⟨_, _, Fz, ds, ok, rs, c⟩ := h
  obtain ⟨ok1, st1⟩ := step_shared (u := .frz o (.tup rest)) ok hp
  have nf : Fz p = none := by
    cases e : Fz p with
    | none => rfl
    | some o => have this : H p = some o := ok.sub p o e; rw [hp] at this; cases this
  have kf : ∀ a x, Fz a = some x → upd Fz p (.frz o (.tup rest)) a = some x := st1.fz
  have t1 := (rs.takeS (f.npos - 1)).up kf
  have t2 := (rs.dropS (f.npos - 1)).up kf
  have e1 : (ws ++ rest).take (f.npos - 1) = ws := by rw [← hl]; exact List.take_left
  have e2 : (ws ++ rest).drop (f.npos - 1) = rest := by rw [← hl]; exact List.drop_left
  rw [e1] at t1
  rw [e2] at t2
  have tp : RF K mg (upd Fz p (.frz o (.tup rest))) (.ref p) (.tup ((ds.drop (f.npos - 1)).map D.frz)) := .tup (.inl ⟨o, hd, upd_same⟩) (by rw [RFs.frz t2]; exact t2)
  refine ⟨by rw [List.length_append, hl, hps]; simp; omega, _, starArgs f.npos ds, [], ok1, ROs.snoc t1 tp, ?_⟩
  cases z : r (starArgs f.npos ds) with
  | bad => rw [z] at c; exact c
  | ret d fin =>
    rw [z] at c
    intro v Fz2 H2 A B ok2 _ ro st
    exact c v Fz2 H2 B ok2.right ro ((st1.trans st).sub fun a h => List.mem_append_right _ h)
  | exc x fin =>
    rw [z] at c
    intro Fz2 H2 A cls dx ok2 _ st rx
    exact c Fz2 H2 cls dx (ok2.of_sub (fun _ h => nomatch h) (by simp)) ((st1.trans st).sub fun a h => nomatch h) rx
end
section
variable {X : Cx} {W : WX} {G : Prog} {cf : CF} {a b c e : Expr} {pa pb pc pe : PE} {pos : Pos} {es : List Expr} {ps : List PE} {Fz H : Hp} {x v : V} {σ : St}
/-- operands that own nothing -/
theorem os_shared {en : Env} {A : List Addr} (re : RE X.K X.mg Fz H σ en A) : ∀ {vs : List V} {os : List Opd} {B : List Addr} {ds : List D}, OsR X σ Fz H vs os B → getAll os en = .ok ds en → (ds.all fun d => !d.own) = true → RFs X.K X.mg Fz vs ds ∧ B = []
  | _, _, _, ds, .nil, h, _ => by cases h; exact ⟨.nil, rfl⟩
  | _, _, _, ds, .cons (o := o) r t, h, ho => by
    obtain ⟨d, ds', rfl, h1, h2, _⟩ := getAll_cons h
    rw [List.all_cons, Bool.and_eq_true] at ho
    obtain ⟨t1, rfl⟩ := os_shared re t h2 ho.2
    have hd : d.own = false := by simpa using ho.1
    cases o with
    | val d' =>
      have e1 : d' = d := by
        have h1' : (R.ok d' en : R D) = .ok d en := h1
        cases h1'; rfl
      subst e1
      obtain ⟨rfl, rf⟩ := RO.nil_of r hd
      exact ⟨.cons rf t1, rfl⟩
    | slot i =>
      obtain ⟨r1, rfl⟩ := r
      have h1' : getS i en = .ok d en := h1
      unfold getS at h1'
      cases q : en[i]? with
      | none => rw [q] at h1'; cases h1'
      | some z =>
        cases z with
        | none => rw [q] at h1'; cases h1'
        | some d' =>
          rw [q] at h1'
          cases h1'
          obtain ⟨v', C, k1, k2, k3⟩ := re.at q
          rw [r1] at k1
          cases k1
          obtain ⟨rfl, rf⟩ := k2.nil_of hd
          exact ⟨.cons rf t1, rfl⟩
theorem getAll_vals : ∀ (ds : List D) (en : Env), getAll (ds.map Opd.val) en = .ok ds en
  | [], _ => rfl
  | d :: ds, en => by
    have := getAll_vals ds en
    show ((R.ok d en : R D).bind fun d e1 => ((getAll (ds.map Opd.val) e1).bind fun ds e2 => (R.ok (d :: ds) e2 : R (List D)))) = _
    simp only [R.bind, this]
theorem own_vals : ∀ (ds : List D) (en : Env), ownSlots (ds.map Opd.val) en = []
  | [], _ => rfl
  | d :: ds, en => by rw [List.map_cons, ownSlots]; exact own_vals ds en
theorem back_vals : ∀ (ds : List D) (fin : List (Option D)) (en : Env), backTo (ds.map Opd.val) fin en = en
  | [], fin, en => by unfold backTo; rfl
  | d :: ds, [], en => by rw [List.map_cons]; unfold backTo; rfl
  | d :: ds, f :: fin, en => by rw [List.map_cons]; unfold backTo; exact back_vals ds fin en
theorem ge_star {x : Str} {p : Pos} {j : Nat} {adr : Addr} {f : Fn} (hG : G.stars.lookup (x, none) = some f) (F : FnR X.prog X.w X.K X.mg X.base (L2.CX X.prog X.w) j adr (spS X.K X.mg f (cf (x, none)))) (hr : Room j X.A) (tk : L2.Takes X W) (hg : L2.Gl X x) (hm : X.mg x = some (.ref adr))
    (hk : PySem.W.keepIn X.K (.ref adr) = true) (ha : GA X W G cf (e :: es) ps) (hst : (e :: es).all notStar = true) (hd : (x == ("__debug__" : Str)) = false) : GE X W G cf (.Call (.Name x p) (e :: es) [] pos) (.callK x ps [] []) := by
  refine .of (PE.imp (pe_fn F hr tk hg hm hk ha.ops hst hd) fun σ H Q q => ?_) rfl
  have q' : tE X W (M.bind (evOs G cf ps) fun os => M.bind (M.pure ([] : List Opd)) fun kv => callB G cf (x, none) os [] kv) σ H Q := by
    simpa only [evE, evOs] using q
  refine tM_mono (tM_bind (Re := relOs X) q') fun vs H1 ⟨os, Fz, A, B, en, ok, re, rs, c⟩ => ?_
  have c1 : Cont X W σ ⟨Fz, H1, A ++ B⟩ (callB G cf (x, none) os [] [] en) (relE X) Q := c
  unfold callB at c1
  rw [hG] at c1
  dsimp only at c1
  have c2 : Cont X W σ ⟨Fz, H1, A ++ B⟩ ((getAll os en).bind fun ds e1 => ((if f.npos ≤ ds.length + 1 ∧ ds.length ≤ LINE ∧ (ds.all fun d => !d.own) = true ∧ f.ps.length = f.npos then callO cf (x, none) ((starArgs f.npos ds).map .val) else M.bad : M D) e1)) (relE X) Q := c1
  cases z : getAll os en with
  | bad => rw [z] at c2; exact False.elim c2
  | exc y e1 => exact (getAll_exc z).elim
  | ok ds e1 =>
    obtain rfl := getAll_env z
    rw [z] at c2
    dsimp only [R.bind] at c2
    by_cases w : f.npos ≤ ds.length + 1 ∧ ds.length ≤ LINE ∧ (ds.all fun d => !d.own) = true ∧ f.ps.length = f.npos
    · rw [if_pos w] at c2
      obtain ⟨rf, rfl⟩ := os_shared re rs z w.2.2.1
      have lv : vs.length = ds.length := rf.len
      have ok0 : Ok3 ⟨Fz, H1, [] ++ A⟩ := by simpa using ok
      refine ⟨by rw [lv]; exact w.1, by rw [lv]; exact w.2.1, Fz, ds, ok0.left, rf, ?_⟩
      unfold callO at c2
      rw [getAll_vals] at c2
      dsimp only at c2
      rw [own_vals, show nodupN [] = true from rfl, if_pos rfl] at c2
      cases y : cf (x, none) (starArgs f.npos ds) with
      | bad => rw [y] at c2; exact c2
      | ret d fin =>
        rw [y] at c2
        dsimp only at c2
        rw [back_vals] at c2
        intro v Fz2 H2 B2 ok2 ro st
        obtain ⟨ok3, st3⟩ := Ok3.frame ok0 ok2 st
        have pp : (B2 ++ A).Perm (A ++ B2) := List.perm_append_comm
        exact c2 v Fz2 H2 A B2 (ok3.perm pp) (re.up st.fz (held ok0 st)) ro (by simpa using (st3.perm pp))
      | exc xx fin =>
        rw [y] at c2
        dsimp only at c2
        rw [back_vals] at c2
        intro Fz2 H2 cls dx ok2 st rx
        obtain ⟨ok3, st3⟩ := Ok3.frame ok0 ok2 st
        exact c2 Fz2 H2 A cls dx (by simpa using ok3) (re.up st.fz (held ok0 st)) (by simpa using st3) rx
    · rw [if_neg w] at c2; exact False.elim c2
end
end PL

-- S34
set_option Elab.async false
set_option linter.all false
set_option maxRecDepth 100000
set_option maxHeartbeats 2000000
namespace PL
open PySem (Str Addr Value Shared Expr Stmt Pos Scope Obj Sem Operator CmpOp binaryOp compareOp inplaceOp sizeLine PyData unaryOp MatchCase Pattern)
open L2 (V HO Hp SqL SqT upd upd_same upd_ne St VK TE TT TA TS Ends XK WX PT PW PA PS PSs Inv Cx R2 OpR rI rI0 tOp Room CallR FnR TG TGs It TI)
/-! ### a check: this expression is that PE -/
structure Ck where
  N : List Str
  sc : Scope
  blk : Bool
  free : List Str
  G : Prog
def Ck.var (C : Ck) (x : Str) (i : Nat) : Bool := decide (C.N[i]? = some x) && (visB C.sc x && okN x)
def Ck.gl (C : Ck) (x : Str) : Bool := glB C.sc x && okN x
def Ck.fr (C : Ck) (x : Str) : Bool := C.gl x && (C.free.contains x && !(x == ("__name__" : Str)))
def Ck.inner (C : Ck) (scope : Scope) : Ck := { C with sc := L2.relS scope C.sc, blk := true }
def tyL : List String := ["int", "bool", "tuple", "list", "dict", "str"]
structure CkOk (C : Ck) (X : Cx) (W : WX) (cf : CF) (adr : FnKey → Addr) (j : Nat) : Prop where
  N : X.N = C.N
  nd : C.N.Nodup
  sc : X.env.scope = C.sc
  calm : X.calm = true
  free : ∀ x, C.free.contains x = true → X.mg x = none
  pf : PF X.K X.mg C.G adr
  pi : PI1 X.K X.mg C.G
  tyB : ∀ s ∈ tyL, PT1 X.K X.mg C.G s (.type s)
  tyO : ∀ t, C.G.oc t = true → ∃ Cc, X.mg t = some (.ref Cc) ∧ PT1 X.K X.mg C.G t (.ref Cc)
  hF : ∀ k f, C.G.fns.lookup k = some f → FnF X cf j k f.ps.length (adr k)
  hS : ∀ k f, C.G.stars.lookup k = some f → FnR X.prog X.w X.K X.mg X.base (L2.CX X.prog X.w) j (adr k) (spS X.K X.mg f (cf k))
  topS : ∀ x f, C.G.stars.lookup (x, none) = some f → X.mg x = some (.ref (adr (x, none))) ∧ PySem.W.keepIn X.K (.ref (adr (x, none))) = true
  hr : Room (j + 1) X.A
  tk : L2.Takes X W
  hp : C.blk = false → PySem.PassesOwn (PySem.model X.prog X.w) X.A X.env X.xe
  fn : C.blk = false → ∀ x, X.fn x = true
section
variable {C : Ck} {X : Cx} {W : WX} {cf : CF} {adr : FnKey → Addr} {j : Nat} {a b c e l tg iter : Expr} {pa pb pc pe : PE} {pos p : Pos} {es : List Expr} {ps : List PE}
theorem CkOk.gl (ok : CkOk C X W cf adr j) {x : Str} (h : C.gl x = true) : L2.Gl X x ∧ (x == ("__debug__" : Str)) = false := by
  obtain ⟨h1, h2⟩ := ba h
  refine ⟨?_, (okN_ok h2).1⟩
  show X.env.scope.names.lookup x = _
  rw [ok.sc]
  exact glB_ok h1
theorem CkOk.fr (ok : CkOk C X W cf adr j) {x : Str} (h : C.fr x = true) : L2.Gl X x ∧ (x == ("__debug__" : Str)) = false ∧ X.mg x = none ∧ x ≠ ("__name__" : Str) := by
  obtain ⟨h1, h2⟩ := ba h
  obtain ⟨h3, h4⟩ := ba h2
  obtain ⟨k1, k2⟩ := ok.gl h1
  exact ⟨k1, k2, ok.free x h3, by simpa using h4⟩
theorem CkOk.var (ok : CkOk C X W cf adr j) {x : Str} {i : Nat} (h : C.var x i = true) : X.N[i]? = some x ∧ L2.Vis X.env.scope x ∧ (x == ("__debug__" : Str)) = false ∧ (x == ("__classdict__" : Str)) = false := by
  obtain ⟨h1, h2⟩ := ba h
  obtain ⟨h3, h4⟩ := ba h2
  obtain ⟨k1, k2⟩ := okN_ok h4
  exact ⟨by rw [ok.N]; exact of_decide_eq_true h1, by rw [ok.sc]; exact visB_ok h3, k1, k2⟩
theorem CkOk.hu (ok : CkOk C X W cf adr j) : X.A.units + 65 < PySem.cLine := by have := ok.hr.un; omega
/-- in a comprehension's block -/
theorem CkOk.inner (ok : CkOk C X W cf adr j) {scope : Scope} (s : Shared) (H : Hp) (Cc : Addr) (cl : List (Str × Addr)) (fp : List Addr) : CkOk (C.inner scope) (Blk X scope s H Cc cl fp) WF cf adr j where
  N := ok.N
  nd := ok.nd
  sc := by show L2.relS scope X.env.scope = L2.relS scope C.sc; rw [ok.sc]
  calm := ok.calm
  free := ok.free
  pf := ok.pf
  pi := ok.pi
  tyB := ok.tyB
  tyO := ok.tyO
  hF := ok.hF
  hS := ok.hS
  topS := ok.topS
  hr := ok.hr
  tk := fun u s' ⟨_, _, _, _, _, _, _, _, _, _, _, _, _, _, _, _, z⟩ => z
  hp := fun h => nomatch h
  fn := fun h => nomatch h
/-! ### built-ins -/
theorem pt_bi {f : String} {b : Blt} {x : Str} (ok : CkOk C X W cf adr j) (h : C.fr x = true) (hc : CallD X (.builtin f) b) (hv : PySem.bootBuiltins x = some (.builtin f)) (ha : GA X W C.G cf (e :: es) ps) (hst : (e :: es).all notStar = true) :
    GE X W C.G cf (.Call (.Name x p) (e :: es) [] pos) (.blt b ps) := by
  obtain ⟨k1, k2, k3, k4⟩ := ok.fr h
  exact ge_callB hc k1 k3 hv ha hst k4 k2
theorem pt_ty {f : String} {b : Blt} {x : Str} (ok : CkOk C X W cf adr j) (h : C.fr x = true) (hc : CallD X (.type f) b) (hv : PySem.bootBuiltins x = some (.type f)) (ha : GA X W C.G cf (e :: es) ps) (hst : (e :: es).all notStar = true) :
    GE X W C.G cf (.Call (.Name x p) (e :: es) [] pos) (.blt b ps) := by
  obtain ⟨k1, k2, k3, k4⟩ := ok.fr h
  exact ge_callTy hc k1 k3 hv ha hst k4 k2
def bltB (b : Blt) (x : Str) : Bool := match b with
  | .len => x == ("len" : Str)
  | .abs => x == ("abs" : Str)
  | .min => x == ("min" : Str)
  | .max => x == ("max" : Str)
  | .sum => x == ("sum" : Str)
  | .sorted => x == ("sorted" : Str)
  | .tuple => x == ("tuple" : Str)
  | .list => x == ("list" : Str)
  | .dict => x == ("dict" : Str)
  | .any => x == ("any" : Str)
  | .all => x == ("all" : Str)
  | .int => x == ("int" : Str)
  | _ => false
theorem blt_ok {b : Blt} {x : Str} (ok : CkOk C X W cf adr j) (hb : bltB b x = true) (h : C.fr x = true) (ha : GA X W C.G cf (e :: es) ps) (hst : (e :: es).all notStar = true) : GE X W C.G cf (.Call (.Name x p) (e :: es) [] pos) (.blt b ps) := by
  cases b <;> simp only [bltB, beq_iff_eq] at hb <;> first | (subst hb; done) | skip
  all_goals first
    | (cases hb; done)
    | subst hb
  · exact pt_bi ok h callD_len (by decide +kernel) ha hst
  · exact pt_bi ok h callD_abs (by decide +kernel) ha hst
  · exact pt_bi ok h (callD_min ok.calm) (by decide +kernel) ha hst
  · exact pt_bi ok h (callD_max ok.calm) (by decide +kernel) ha hst
  · exact pt_bi ok h (callD_sum ok.calm) (by decide +kernel) ha hst
  · exact pt_bi ok h callD_sorted (by decide +kernel) ha hst
  · exact pt_ty ok h callD_tuple (by decide +kernel) ha hst
  · exact pt_ty ok h callD_list (by decide +kernel) ha hst
  · exact pt_ty ok h (callD_dict ok.calm) (by decide +kernel) ha hst
  · exact pt_bi ok h (callD_any ok.calm) (by decide +kernel) ha hst
  · exact pt_bi ok h (callD_all ok.calm) (by decide +kernel) ha hst
  · exact pt_ty ok h callD_int (by decide +kernel) ha hst
/-! ### isinstance of one type -/
def isiB (C : Ck) (x t : Str) : Bool := (x == t) && (C.gl t && ((C.fr t && tyL.any fun s => t == (s : Str)) || C.G.oc t))
theorem isi_ok {x t : Str} {q p2 : Pos} (ok : CkOk C X W cf adr j) (hi : C.fr "isinstance" = true) (h : isiB C x t = true) (ha : GE X W C.G cf a pa) (hst : notStar a = true) :
    GE X W C.G cf (.Call (.Name "isinstance" p) [a, .Name x q] [] pos) (.isi pa [t]) := by
  obtain ⟨i1, i2, i3, _⟩ := ok.fr hi
  obtain ⟨h1, h2⟩ := ba h
  obtain ⟨h3, h4⟩ := ba h2
  obtain rfl : x = t := by simpa using h1
  obtain ⟨k1, k2⟩ := ok.gl h3
  rcases Bool.or_eq_true_iff.mp h4 with h5 | h5
  · obtain ⟨h6, h7⟩ := ba h5
    obtain ⟨_, _, m3, m4⟩ := ok.fr h6
    obtain ⟨s, hs, e⟩ := List.any_eq_true.mp h7
    obtain rfl : x = (s : Str) := by simpa using e
    have hb : PySem.bootBuiltins (s : Str) = some (.type s) := by
      simp only [tyL, List.mem_cons, List.not_mem_nil, or_false] at hs
      rcases hs with rfl | rfl | rfl | rfl | rfl | rfl <;> decide +kernel
    exact ge_isi ok.pi (ok.tyB s hs) (.ty s) i1 i3 ha (L2.pe_bltn k1 m3 hb rfl m4 k2) hst rfl
  · obtain ⟨Cc, g, pt⟩ := ok.tyO x h5
    exact ge_isi ok.pi pt (.own Cc) i1 i3 ha (L2.pe_glob k1 g rfl k2) hst rfl
/-! ### targets -/
mutual
def tgB (C : Ck) : Tgt → Expr → Bool
  | .nm i, .Name x _ => decide (C.N[i]? = some x) && (if C.blk then lclB C.sc x else locB C.sc x)
  | .tup ts, .Tuple es _ _ => tgsB C ts es
  | _, _ => false
def tgsB (C : Ck) : List Tgt → List Expr → Bool
  | [], [] => true
  | t :: ts, e :: es => notStar e && (tgB C t e && tgsB C ts es)
  | _, _ => false
end
theorem each_cons {e : Expr} {es : List Expr} {env : PySem.Env} (h : notStar e = true) : PySem.assignEach (e :: es) env = (false, PySem.assign e env) :: PySem.assignEach es env := by
  cases e <;> first | rfl | cases h
theorem pg_or {t u : TG} {e : Expr} (h1 : L2.PG X e t) (h2 : L2.PG X e u) : L2.PG X e (fun v σ H Q => t v σ H Q ∨ u v σ H Q) := ⟨fun pins s σ H v w Q I r q => by
  rcases q with q | q
  · exact h1.run pins s σ H v w Q I r q
  · exact h2.run pins s σ H v w Q I r q⟩
mutual
theorem tg_ok (ok : CkOk C X W cf adr j) : ∀ (t : Tgt) (e : Expr), tgB C t e = true → L2.PG X e (gOf X.K t)
  | .nm i, e, h => by
    unfold tgB at h
    split at h
    · rename_i i2 x q hh
      cases hh
      obtain ⟨h1, h2⟩ := ba h
      have e1 : X.N[i]? = some x := by rw [ok.N]; exact of_decide_eq_true h1
      cases hb : C.blk with
      | true =>
        rw [hb, if_pos rfl] at h2
        have l := lclB_ok h2
        rw [← ok.sc] at l
        exact L2.pg_name (by rw [ok.N]; exact ok.nd) e1 (.inl l) (.inr l)
      | false =>
        rw [hb, if_neg (by simp)] at h2
        have l := locB_ok h2
        rw [← ok.sc] at l
        exact L2.pg_name (by rw [ok.N]; exact ok.nd) e1 l (.inl (ok.fn hb x))
    · rename_i hh; cases hh
    · cases h
  | .tup ts, e, h => by
    unfold tgB at h
    split at h
    · rename_i hh; cases hh
    · rename_i ts2 es k q hh
      cases hh
      obtain ⟨h1, h2, h3⟩ := tgs_ok ok ts es h
      exact pg_or (L2.pg_tup ok.calm h1 h2 h3) (L2.pg_unl ok.calm h1 h2 h3)
    · cases h
theorem tgs_ok (ok : CkOk C X W cf adr j) : ∀ (ts : List Tgt) (es : List Expr), tgsB C ts es = true → L2.PGs X es (gsOf X.K ts) ∧ (PySem.assignEach es X.env).length = ts.length ∧ (PySem.assignEach es X.env).findIdx? (·.1) = none
  | [], [], _ => ⟨L2.pgs_nil, rfl, rfl⟩
  | [], _ :: _, h => by unfold tgsB at h; cases h
  | _ :: _, [], h => by unfold tgsB at h; cases h
  | t :: ts, e :: es, h => by
    unfold tgsB at h
    obtain ⟨h0, h⟩ := ba h
    obtain ⟨h1, h2⟩ := ba h
    obtain ⟨k1, k2, k3⟩ := tgs_ok ok ts es h2
    have ec := each_cons (es := es) (env := X.env) h0
    refine ⟨L2.pgs_cons (tg_ok ok t e h1) k1 (by rw [ec]; rfl), by rw [ec]; simp [k2], ?_⟩
    rw [ec, List.findIdx?_cons]
    simp [k3]
end
/-! ### a comprehension's names -/
def blkB (N : List Str) (sc scope : Scope) (own : List (Str × Nat)) : Bool :=
  decide (scope.kind = .function) && (scope.names.all (fun y => decide (scope.names.lookup y.1 = some y.2)) && (own.all (fun p => decide (N[p.2]? = some p.1)) &&
    (scope.names.all (fun y => decide (y.2 = .free → sc.names.lookup y.1 = some .cell ∨ sc.names.lookup y.1 = some .free)) && scope.names.all (fun y => decide (y.2 = .local ∨ y.2 = .cell → y.1 ∈ own.map (·.1) ∨ y.1 ∉ N)))))
theorem blkB_ok {N : List Str} {sc scope : Scope} {own : List (Str × Nat)} (h : blkB N sc scope own = true) : L2.BlkOk N sc scope own := by
  obtain ⟨h1, h⟩ := ba h
  obtain ⟨h2, h⟩ := ba h
  obtain ⟨h3, h⟩ := ba h
  obtain ⟨h4, h5⟩ := ba h
  exact ⟨of_decide_eq_true h1, fun y hy => of_decide_eq_true (List.all_eq_true.mp h2 y hy), fun p hp => of_decide_eq_true (List.all_eq_true.mp h3 p hp), fun y hy => of_decide_eq_true (List.all_eq_true.mp h4 y hy),
    fun y hy => of_decide_eq_true (List.all_eq_true.mp h5 y hy)⟩
/-- the places with their names -/
def ownP (C : Ck) (own : List Nat) : List (Str × Nat) := own.map fun i => (C.N.getD i Str.empty, i)
theorem ownP_snd {own : List Nat} : (ownP C own).map (·.2) = own := by
  unfold ownP
  rw [List.map_map]
  conv => rhs; rw [← List.map_id own]
  rfl
end
end PL

-- S35
set_option Elab.async false
set_option linter.all false
set_option maxRecDepth 100000
set_option maxHeartbeats 2000000
namespace PL
open PySem (Str Addr Value Shared Expr Stmt Pos Scope Obj Sem Operator CmpOp binaryOp compareOp inplaceOp sizeLine PyData unaryOp MatchCase Pattern)
open L2 (V HO Hp SqL SqT upd upd_same upd_ne St VK TE TT TA TS Ends XK WX PT PW PA PS PSs Inv Cx R2 OpR rI rI0 tOp Room CallR FnR TG TGs It TI)
def litB : Expr → D → Bool
  | .Constant (.int i) _ _, .int k => decide (i = k)
  | .Constant (.bool b) _ _, .bl k => b == k
  | .Constant .none _ _, .non => true
  | .Constant (.str s) _ _, .str t => decide (s = t) && (PySem.PyData.strOk s && decide (s.cps.size ≤ LINE))
  | _, _ => false
def noClsm (G : Prog) (m : Str) : Bool := G.meth.all fun p => !(p.1.2 == m) || !decide (p.2.1 = MK.clsm)
def bmB (m : Str) : Bool := (m == ("append" : Str)) || ((m == ("extend" : Str)) || ((m == ("get" : Str)) || (m == ("pop" : Str))))
def smB (G : Prog) (c m : Str) : Bool := match G.meth.lookup (c, m) with
  | some (.clsm, key) => (G.fns.lookup key).isSome
  | _ => false
def prOk (k : ItK) (t : Tgt) : Bool := !k.pairs || (match t with
  | .tup _ => true
  | _ => false)
mutual
def chkE : Nat → Ck → Expr → PE → Bool
  | 0, _, _, _ => false
  | n + 1, C, e, pe => match pe with
    | .bad => true
    | .var i => (match e with
      | .Name x _ => C.var x i
      | _ => false)
    | .lit d => litB e d
    | .glob g => (match e with
      | .Name x _ => (x == g) && (C.gl x && (C.G.con.lookup x).isSome)
      | _ => false)
    | .bin op a b => (match e with
      | .BinOp x op' y _ => decide (op' = op) && (chkE n C x a && chkE n C y b)
      | _ => false)
    | .neg a => (match e with
      | .UnaryOp .USub x _ => chkE n C x a
      | _ => false)
    | .not a => (match e with
      | .UnaryOp .Not x _ => chkE n C x a
      | _ => false)
    | .and a b => (match e with
      | .BoolOp op es _ => chkB n C op es (.and a b)
      | _ => false)
    | .or a b => (match e with
      | .BoolOp op es _ => chkB n C op es (.or a b)
      | _ => false)
    | .cmp op a b => (match e with
      | .Compare x [op'] [y] _ => decide (op' = op) && (!isSetD y && (chkE n C x a && chkE n C y b))
      | _ => false)
    | .isN nn a => (match e with
      | .Compare x [op'] [.Constant .none _ _] _ => decide (op' = if nn then .IsNot else .Is) && chkE n C x a
      | _ => false)
    | .ite c a b => (match e with
      | .IfExp t x y _ => chkT n C t c && (chkE n C x a && chkE n C y b)
      | _ => false)
    | .tup ps => (match e with
      | .Tuple es _ _ => chkEs n C es ps
      | _ => false)
    | .lst ps => (match e with
      | .List es _ => chkEs n C es ps
      | _ => false)
    | .dct [] [] => (match e with
      | .Dict [] [] _ => true
      | _ => false)
    | .sub a b => (match e with
      | .Subscript x y _ => notSlice y && (chkE n C x a && chkE n C y b)
      | _ => false)
    | .sl a lo hi => (match e with
      | .Subscript x (.Slice l h none _) _ => chkE n C x a && (chkO n C l lo && chkO n C h hi)
      | _ => false)
    | .rev a => (match e with
      | .Subscript x (.Slice none none (some (.UnaryOp .USub (.Constant (.int i) _ _) _)) _) _ => decide (i = 1) && chkE n C x a
      | _ => false)
    | .attr a f => (match e with
      | .Attribute x g _ => (g == f) && (!superCall x && chkE n C x a)
      | _ => false)
    | .call k ps => (match e with
      | .Call (.Name x _) es [] _ => (x == k) && (C.gl x && ((C.G.fns.lookup (x, none)).isSome && chkEs n C es ps))
      | _ => false)
    | .callK k ps [] [] => (match e with
      | .Call (.Name x _) es [] _ => (x == k) && (C.gl x && ((C.G.stars.lookup (x, none)).isSome && (!es.isEmpty && chkEs n C es ps)))
      | _ => false)
    | .mk c ps => (match e with
      | .Call (.Name x _) es [] _ => (x == c) && (C.gl x && ((makeK C.G x).isSome && (!es.isEmpty && chkEs n C es ps)))
      | _ => false)
    | .mkV i ps => (match e with
      | .Call (.Name x _) es [] _ => C.var x i && (!es.isEmpty && chkEs n C es ps)
      | _ => false)
    | .meth o m ps => (match e with
      | .Call (.Attribute x m' apos) es [] pos => (m' == m) && (!superCall x && (decide (es.length < 30) && ((apos.endLine == pos.line) && ((!es.isEmpty || noClsm C.G m) && (chkE n C x o && chkEs n C es ps)))))
      | _ => false)
    | .bmeth o m ps => (match e with
      | .Call (.Attribute x m' apos) es [] pos => (m' == m) && (bmB m && (!superCall x && (decide (es.length < 30) && ((apos.endLine == pos.line) && (chkE n C x o && chkEs n C es ps)))))
      | _ => false)
    | .smeth c m ps => (match e with
      | .Call (.Attribute (.Name x _) m' apos) es [] pos => (x == c) && ((m' == m) && (C.gl x && (smB C.G x m && (decide (es.length < 30) && ((apos.endLine == pos.line) && (!es.isEmpty && chkEs n C es ps))))))
      | _ => false)
    | .blt b ps => (match e with
      | .Call (.Name x _) es [] _ => bltB b x && (C.fr x && (!es.isEmpty && chkEs n C es ps))
      | _ => false)
    | .isi a [t] => (match e with
      | .Call (.Name x _) [y, .Name z _] [] _ => (x == ("isinstance" : Str)) && (C.fr ("isinstance" : Str) && (isiB C z t && (notStar y && chkE n C y a)))
      | _ => false)
    | .comp elt tg own k it ifs => (match e with
      | .ListComp el [⟨tge, iter, ifse, as⟩] scope _ => decide (as = 0) && (chkI n C tge iter k it && (blkB C.N C.sc scope (ownP C own) && (prOk k tg && (tg.slots.all own.contains && (tgB (C.inner scope) tg tge &&
          (chkTs n (C.inner scope) ifse ifs && (chkE n (C.inner scope) el elt && !isSetD iter)))))))
      | _ => false)
    | .compD vals elt tg own i ifs => (match e with
      | .ListComp el [⟨tge, .Call (.Attribute (.Name x _) m apos) [] [] cpos, ifse, as⟩] scope _ => decide (as = 0) && (C.var x i && ((m == (if vals then ("values" : Str) else ("items" : Str))) && ((apos.endLine == cpos.line) && ((vals || (isTup tge && prOk .items tg)) &&
          (blkB C.N C.sc scope (ownP C own) && (tg.slots.all own.contains && (tgB (C.inner scope) tg tge && (chkTs n (C.inner scope) ifse ifs && chkE n (C.inner scope) el elt))))))))
      | _ => false)
    | _ => false
def chkB : Nat → Ck → PySem.BoolOp → List Expr → PE → Bool
  | 0, _, _, _, _ => false
  | n + 1, C, op, es, p => match es with
    | [] => false
    | [x] => chkE n C x p
    | x :: y :: r => (match op, p with
      | .And, .and a b => chkE n C x a && chkB n C .And (y :: r) b
      | .Or, .or a b => chkE n C x a && chkB n C .Or (y :: r) b
      | _, _ => false)
def chkEs : Nat → Ck → List Expr → List PE → Bool
  | 0, _, _, _ => false
  | n + 1, C, es, ps => match es, ps with
    | [], [] => true
    | e :: es, p :: ps => notStar e && (chkE n C e p && chkEs n C es ps)
    | _, _ => false
def chkO : Nat → Ck → Option Expr → Option PE → Bool
  | 0, _, _, _ => false
  | n + 1, C, e, p => match e, p with
    | none, none => true
    | some e, some p => chkE n C e p
    | _, _ => false
def chkT : Nat → Ck → Expr → PB → Bool
  | 0, _, _, _ => false
  | n + 1, C, e, pb => match pb with
    | .not a => (match e with
      | .UnaryOp .Not x _ => chkT n C x a
      | _ => false)
    | .and a b => (match e with
      | .BoolOp op es _ => chkTb n C op es (.and a b)
      | _ => false)
    | .or a b => (match e with
      | .BoolOp op es _ => chkTb n C op es (.or a b)
      | _ => false)
    | .val (.cmp op a b) => (match e with
      | .Compare x [op'] [y] _ => decide (op' = op) && (!isSetD y && (chkE n C x a && chkE n C y b))
      | _ => false)
    | .val (.isN nn a) => (match e with
      | .Compare x [op'] [.Constant .none _ _] _ => decide (op' = if nn then .IsNot else .Is) && chkE n C x a
      | _ => false)
    | .val p => plainT e && chkE n C e p
def chkTb : Nat → Ck → PySem.BoolOp → List Expr → PB → Bool
  | 0, _, _, _, _ => false
  | n + 1, C, op, es, p => match es with
    | [] => false
    | [x] => chkT n C x p
    | x :: y :: r => (match op, p with
      | .And, .and a b => chkT n C x a && chkTb n C .And (y :: r) b
      | .Or, .or a b => chkT n C x a && chkTb n C .Or (y :: r) b
      | _, _ => false)
def chkTs : Nat → Ck → List Expr → List PB → Bool
  | 0, _, _, _ => false
  | n + 1, C, es, ps => match es, ps with
    | [], [] => true
    | [e], [p] => chkT n C e p
    | _, _ => false
def chkI : Nat → Ck → Expr → Expr → ItK → List PE → Bool
  | 0, _, _, _, _, _ => false
  | n + 1, C, tg, iter, k, it => match k with
    | .seq => (match it with
      | [p] => chkE n C iter p
      | _ => false)
    | .rng => (match iter with
      | .Call (.Name x _) [a] [] _ => (x == ("range" : Str)) && (C.fr ("range" : Str) && chkEs n C [a] it)
      | .Call (.Name x _) [a, b] [] _ => (x == ("range" : Str)) && (C.fr ("range" : Str) && chkEs n C [a, b] it)
      | _ => false)
    | .enum => (match iter with
      | .Call (.Name x _) [a] [] _ => (x == ("enumerate" : Str)) && (isTup tg && (C.fr ("enumerate" : Str) && chkEs n C [a] it))
      | _ => false)
    | _ => false
end
end PL

-- S36
set_option Elab.async false
set_option linter.all false
set_option maxRecDepth 100000
set_option maxHeartbeats 4000000
namespace PL
open PySem (Str Addr Value Shared Expr Stmt Pos Scope Obj Sem Operator CmpOp binaryOp compareOp inplaceOp sizeLine PyData unaryOp MatchCase Pattern)
open L2 (V HO Hp SqL SqT upd upd_same upd_ne St VK TE TT TA TS Ends XK WX PT PW PA PS PSs Inv Cx R2 OpR rI rI0 tOp Room CallR FnR TG TGs It TI)
section
variable {C : Ck} {X : Cx} {W : WX} {cf : CF} {adr : FnKey → Addr} {j : Nat} {a b c e l tg iter : Expr} {pa pb pc pe : PE} {pos p : Pos} {es : List Expr} {ps : List PE}
theorem gt_isN {G : Prog} {n : Bool} {k : Nat} {pos' : Pos} (ha : GE X W G cf a pa) : PT X (.Compare a [if n then .IsNot else .Is] [.Constant .none k pos'] pos) (tT X W (evT G cf (.val (.isN n pa)))) := by
  have fin : ∀ σ H Q, tT X W (evT G cf (.val (.isN n pa))) σ H Q → tO X W (opd pa (evE G cf pa)) σ H fun x H1 => Q (decide (x = .non) != n) H1 := fun σ H Q q => by
    have q0 : tT X W (test (opd (.isN n pa) (evE G cf (.isN n pa)))) σ H Q := by simpa only [tT, evT] using q
    have q := tT_val (pe := .isN n pa) rfl q0
    simp only [evE] at q
    refine one_opd q fun x ox Fz H A B e ok re rx gx c => ?_
    obtain ⟨d, h1, c⟩ := get_inv c
    obtain ⟨C1, r1, _⟩ := gx h1
    have e1 : decide (x = V.non) = decide (d = D.non) := by
      cases r1 with
      | sh r => cases r <;> rfl
      | _ => rfl
    rw [e1]
    exact (c.new (r := .bl (decide (d = .non) != n)) ok re).val ok.sub (.bl _) _ rfl
  cases n with
  | true => exact PT.imp (L2.pt_cmp (L2.pc_notN ha.opd) rfl) fun σ H Q q => tM_mono (fin σ H Q q) fun x H1 z => ⟨_, rfl, by simpa using z⟩
  | false => exact PT.imp (L2.pt_cmp (L2.pc_isN ha.opd) rfl) fun σ H Q q => tM_mono (fin σ H Q q) fun x H1 z => ⟨_, rfl, by simpa using z⟩
theorem bmB_ok {m : Str} (h : bmB m = true) : m = "append" ∨ m = "extend" ∨ m = "get" ∨ m = "pop" := by
  unfold bmB at h
  simpa using h
theorem look_mem {α β : Type} [BEq α] [LawfulBEq α] {k : α} {v : β} : ∀ {l : List (α × β)}, l.lookup k = some v → (k, v) ∈ l
  | [], h => by cases h
  | (a, b) :: l, h => by
    rw [List.lookup_cons] at h
    cases e : k == a with
    | true =>
      rw [e] at h
      cases h
      rw [beq_iff_eq.mp e]
      exact List.mem_cons_self
    | false =>
      rw [e] at h
      exact List.mem_cons_of_mem _ (look_mem h)
theorem noClsm_ok {G : Prog} {m : Str} (h : noClsm G m = true) : ∀ c k, G.meth.lookup (c, m) ≠ some (.clsm, k) := fun c k e => by
  have := List.all_eq_true.mp h _ (look_mem e)
  simp at this
theorem litB_ok {G : Prog} {e : Expr} {d : D} (h : litB e d = true) : GE X W G cf e (.lit d) := by
  unfold litB at h
  split at h
  · obtain rfl := of_decide_eq_true h; exact ge_int
  · obtain rfl := beq_iff_eq.mp h; exact ge_bl
  · exact ge_non
  · obtain ⟨h1, h2⟩ := ba h
    obtain ⟨h2, h3⟩ := ba h2
    obtain rfl := of_decide_eq_true h1
    exact ge_str h2 (of_decide_eq_true h3)
  · cases h
theorem prOk_ok {k : ItK} {t : Tgt} (h : prOk k t = true) : k.pairs = true → ∃ ts, t = .tup ts := fun hk => by
  unfold prOk at h
  rw [hk] at h
  cases t with
  | tup ts => exact ⟨ts, rfl⟩
  | nm i => cases h
end
structure Snd (n : Nat) : Prop where
  e : ∀ {C : Ck} {X : Cx} {W : WX} {cf : CF} {adr : FnKey → Addr} {j : Nat} {e : Expr} {pe : PE}, CkOk C X W cf adr j → chkE n C e pe = true → GE X W C.G cf e pe
  b : ∀ {C : Ck} {X : Cx} {W : WX} {cf : CF} {adr : FnKey → Addr} {j : Nat} {op : PySem.BoolOp} {es : List Expr} {pe : PE}, CkOk C X W cf adr j → chkB n C op es pe = true → ∀ pos, GE X W C.G cf (.BoolOp op es pos) pe
  es : ∀ {C : Ck} {X : Cx} {W : WX} {cf : CF} {adr : FnKey → Addr} {j : Nat} {es : List Expr} {ps : List PE}, CkOk C X W cf adr j → chkEs n C es ps = true → GA X W C.G cf es ps ∧ es.all notStar = true
  o : ∀ {C : Ck} {X : Cx} {W : WX} {cf : CF} {adr : FnKey → Addr} {j : Nat} {e : Option Expr} {pe : Option PE}, CkOk C X W cf adr j → chkO n C e pe = true → L2.PO X e (tM X W (evOp C.G cf pe) relOI)
  t : ∀ {C : Ck} {X : Cx} {W : WX} {cf : CF} {adr : FnKey → Addr} {j : Nat} {e : Expr} {pb : PB}, CkOk C X W cf adr j → chkT n C e pb = true → PT X e (tT X W (evT C.G cf pb))
  tb : ∀ {C : Ck} {X : Cx} {W : WX} {cf : CF} {adr : FnKey → Addr} {j : Nat} {op : PySem.BoolOp} {es : List Expr} {pb : PB}, CkOk C X W cf adr j → chkTb n C op es pb = true → ∀ pos, PW X (.BoolOp op es pos) (tT X W (evT C.G cf pb))
  ts : ∀ {C : Ck} {X : Cx} {W : WX} {cf : CF} {adr : FnKey → Addr} {j : Nat} {es : List Expr} {ps : List PB}, CkOk C X W cf adr j → chkTs n C es ps = true → L2.PTs X es (tT X W (condsL (evTs C.G cf ps)))
  i : ∀ {C : Ck} {X : Cx} {W : WX} {cf : CF} {adr : FnKey → Addr} {j : Nat} {tg iter : Expr} {k : ItK} {it : List PE}, CkOk C X W cf adr j → chkI n C tg iter k it = true → GI X W C.G cf tg iter k it
section
variable {n : Nat} {C : Ck} {X : Cx} {W : WX} {cf : CF} {adr : FnKey → Addr} {j : Nat} {e tg iter : Expr} {pe : PE}
theorem ne_cons {α : Type} {l : List α} (h : (!l.isEmpty) = true) : ∃ a r, l = a :: r := by
  cases l with
  | nil => cases h
  | cons a r => exact ⟨a, r, rfl⟩
theorem step_comp (S : Snd n) (ok : CkOk C X W cf adr j) {elt : PE} {t : Tgt} {own : List Nat} {k : ItK} {it : List PE} {ifs : List PB} (h : chkE (n + 1) C e (.comp elt t own k it ifs) = true) : GE X W C.G cf e (.comp elt t own k it ifs) := by
  rw [chkE.eq_def] at h; (try dsimp only at h)
  try dsimp only at h
  split at h
  · rename_i el tge iter ifse as scope q
    obtain ⟨h1, h⟩ := ba h
    obtain ⟨h2, h⟩ := ba h
    obtain ⟨h3, h⟩ := ba h
    obtain ⟨h4, h⟩ := ba h
    obtain ⟨h5, h⟩ := ba h
    obtain ⟨h6, h⟩ := ba h
    obtain ⟨h7, h⟩ := ba h
    obtain ⟨h8, h9⟩ := ba h
    obtain rfl := of_decide_eq_true h1
    have bk := blkB_ok h3
    rw [← ok.N, ← ok.sc] at bk
    have z := ge_comp (W := W) (pos := q) (own := ownP C own) ok.calm (by rw [ok.N]; exact ok.nd) (S.i ok h2) bk (prOk_ok h4) (by rw [ownP_snd]; intro i hi; have := List.all_eq_true.mp h5 i hi; simpa using this)
      (fun s H Cc cl fp => tg_ok (C := C.inner scope) (ok.inner s H Cc cl fp) t tge h6) (fun s H Cc cl fp => S.ts (C := C.inner scope) (ok.inner s H Cc cl fp) h7) (fun s H Cc cl fp => (S.e (C := C.inner scope) (ok.inner s H Cc cl fp) h8).val) (folded_ok (by simpa using h9))
    rw [ownP_snd] at z
    exact z
  · cases h
theorem step_compD (S : Snd n) (ok : CkOk C X W cf adr j) {vals : Bool} {elt : PE} {t : Tgt} {own : List Nat} {i : Nat} {ifs : List PB} (h : chkE (n + 1) C e (.compD vals elt t own i ifs) = true) : GE X W C.G cf e (.compD vals elt t own i ifs) := by
  rw [chkE.eq_def] at h; (try dsimp only at h)
  try dsimp only at h
  split at h
  · rename_i el tge x q1 m apos cpos ifse as scope q
    obtain ⟨h1, h⟩ := ba h
    obtain ⟨h2, h⟩ := ba h
    obtain ⟨h3, h⟩ := ba h
    obtain ⟨h4, h⟩ := ba h
    obtain ⟨h5, h⟩ := ba h
    obtain ⟨h6, h⟩ := ba h
    obtain ⟨h7, h⟩ := ba h
    obtain ⟨h8, h⟩ := ba h
    obtain ⟨h9, h10⟩ := ba h
    obtain rfl := of_decide_eq_true h1
    have bk := blkB_ok h6
    rw [← ok.N, ← ok.sc] at bk
    have em := beq_iff_eq.mp h3
    subst em
    obtain ⟨v1, v2, v3, v4⟩ := ok.var h2
    have sl : ∀ i ∈ t.slots, i ∈ (ownP C own).map (·.2) := by rw [ownP_snd]; intro i hi; have := List.all_eq_true.mp h7 i hi; simpa using this
    cases vals with
    | true =>
      have z := ge_compV (W := W) (pos := q) (own := ownP C own) (cpos := cpos) (apos := apos) (q1 := q1) ok.calm (by rw [ok.N]; exact ok.nd) bk v1 v2 v3 v4 h4 (base_ok rfl) sl
        (fun s H Cc cl fp => tg_ok (C := C.inner scope) (ok.inner s H Cc cl fp) t tge h8) (fun s H Cc cl fp => S.ts (C := C.inner scope) (ok.inner s H Cc cl fp) h9) (fun s H Cc cl fp => (S.e (C := C.inner scope) (ok.inner s H Cc cl fp) h10).val) (folded_ok rfl)
      rw [ownP_snd] at z
      exact z
    | false =>
      obtain ⟨g1, g2⟩ := ba (show (isTup tge && prOk .items t) = true from h5)
      obtain ⟨ts, rfl⟩ := prOk_ok g2 rfl
      cases tge <;> try (cases g1; done)
      have z := ge_compI (W := W) (pos := q) (own := ownP C own) (cpos := cpos) (apos := apos) (q1 := q1) ok.calm (by rw [ok.N]; exact ok.nd) bk v1 v2 v3 v4 h4 (base_ok rfl) sl
        (fun s H Cc cl fp => tg_ok (C := C.inner scope) (ok.inner s H Cc cl fp) (.tup ts) _ h8) (fun s H Cc cl fp => S.ts (C := C.inner scope) (ok.inner s H Cc cl fp) h9) (fun s H Cc cl fp => (S.e (C := C.inner scope) (ok.inner s H Cc cl fp) h10).val) (folded_ok rfl)
      rw [ownP_snd] at z
      exact z
  · cases h
theorem step_meth (S : Snd n) (ok : CkOk C X W cf adr j) {o : PE} {m : Str} {ps : List PE} (h : chkE (n + 1) C e (.meth o m ps) = true) : GE X W C.G cf e (.meth o m ps) := by
  rw [chkE.eq_def] at h; (try dsimp only at h)
  try dsimp only at h
  split at h
  · rename_i x m' apos es q
    obtain ⟨h1, h⟩ := ba h
    obtain ⟨h2, h⟩ := ba h
    obtain ⟨h3, h⟩ := ba h
    obtain ⟨h4, h⟩ := ba h
    obtain ⟨h5, h⟩ := ba h
    obtain ⟨h6, h7⟩ := ba h
    obtain rfl := beq_iff_eq.mp h1
    obtain ⟨ga, st⟩ := S.es ok h7
    have go := S.e ok h6
    have mt := mtree_of (X := X) (m := m') (by simpa using h2) st (of_decide_eq_true h3) h4
    cases es with
    | nil =>
      obtain rfl : ps = [] := by
        cases n with
        | zero => rw [chkEs.eq_def] at h7; (try dsimp only at h7); cases h7
        | succ n => rw [chkEs.eq_def] at h7; (try dsimp only at h7); cases ps with
          | nil => rfl
          | cons _ _ => cases h7
      exact ge_meth0 ok.pf ok.hF (ok.hr.mono (by omega)) ok.tk go (noClsm_ok (by simpa using h5)) mt
    | cons a r => exact ge_meth ok.pf ok.hF (ok.hr.mono (by omega)) ok.tk go ga st mt
  · cases h
theorem step_bmeth (S : Snd n) (ok : CkOk C X W cf adr j) {o : PE} {m : Str} {ps : List PE} (h : chkE (n + 1) C e (.bmeth o m ps) = true) : GE X W C.G cf e (.bmeth o m ps) := by
  rw [chkE.eq_def] at h; (try dsimp only at h)
  try dsimp only at h
  split at h
  · rename_i x m' apos es q
    obtain ⟨h1, h⟩ := ba h
    obtain ⟨h5, h⟩ := ba h
    obtain ⟨h2, h⟩ := ba h
    obtain ⟨h3, h⟩ := ba h
    obtain ⟨h4, h⟩ := ba h
    obtain ⟨h6, h7⟩ := ba h
    obtain rfl := beq_iff_eq.mp h1
    obtain ⟨ga, st⟩ := S.es ok h7
    have go := S.e ok h6
    have hu : X.A.units + 1 < PySem.cLine := by have := ok.hu; omega
    have hb := base_ok (f := m') (env := X.env) (whole := PySem.eval x X.env) (show superCall x = false by simpa using h2)
    cases es with
    | nil =>
      obtain rfl : ps = [] := by
        cases n with
        | zero => rw [chkEs.eq_def] at h7; (try dsimp only at h7); cases h7
        | succ n => rw [chkEs.eq_def] at h7; (try dsimp only at h7); cases ps with
          | nil => rfl
          | cons _ _ => cases h7
      exact ge_bmeth0 hu (bmB_ok h5) go hb h4
    | cons a r => exact ge_bmeth hu (bmB_ok h5) go ga hb st (of_decide_eq_true h3) h4
  · cases h
theorem step_smeth (S : Snd n) (ok : CkOk C X W cf adr j) {c m : Str} {ps : List PE} (h : chkE (n + 1) C e (.smeth c m ps) = true) : GE X W C.G cf e (.smeth c m ps) := by
  rw [chkE.eq_def] at h; (try dsimp only at h)
  try dsimp only at h
  split at h
  · rename_i x q1 m' apos es q
    obtain ⟨h1, h⟩ := ba h
    obtain ⟨h2, h⟩ := ba h
    obtain ⟨h3, h⟩ := ba h
    obtain ⟨h4, h⟩ := ba h
    obtain ⟨h5, h⟩ := ba h
    obtain ⟨h6, h⟩ := ba h
    obtain ⟨h7, h8⟩ := ba h
    obtain rfl := beq_iff_eq.mp h1
    obtain rfl := beq_iff_eq.mp h2
    obtain ⟨ga, st⟩ := S.es ok h8
    obtain ⟨a, r, rfl⟩ := ne_cons h7
    obtain ⟨g1, g2⟩ := ok.gl h3
    unfold smB at h4
    split at h4
    · rename_i key hm
      obtain ⟨Cc, gC, _⟩ := ok.pf.cls _ _ _ hm
      exact ge_smeth ok.pf ok.hF (ok.hr.mono (by omega)) ok.tk hm h4 gC g1 g2 ga st (mtree_of rfl st (of_decide_eq_true h5) h6)
    · cases h4
  · cases h
theorem step_star (S : Snd n) (ok : CkOk C X W cf adr j) {k : Str} {ps : List PE} {kn : List Str} {ks : List PE} (h : chkE (n + 1) C e (.callK k ps kn ks) = true) : GE X W C.G cf e (.callK k ps kn ks) := by
  rw [chkE.eq_def] at h
  cases kn <;> cases ks <;> try (dsimp only at h; cases h; done)
  dsimp only at h
  split at h
  · rename_i x q es q2
    obtain ⟨h1, h⟩ := ba h
    obtain ⟨h2, h⟩ := ba h
    obtain ⟨h3, h⟩ := ba h
    obtain ⟨h4, h5⟩ := ba h
    obtain rfl := beq_iff_eq.mp h1
    obtain ⟨g1, g2⟩ := ok.gl h2
    obtain ⟨f, hf⟩ := Option.isSome_iff_exists.mp h3
    obtain ⟨k1, k2⟩ := ok.topS _ _ hf
    obtain ⟨ga, st⟩ := S.es ok h5
    obtain ⟨a, r, rfl⟩ := ne_cons h4
    exact ge_star hf (ok.hS _ _ hf) (ok.hr.mono (by omega)) ok.tk g1 k1 k2 ga st g2
  · cases h
theorem step_e (S : Snd n) (ok : CkOk C X W cf adr j) (h : chkE (n + 1) C e pe = true) : GE X W C.G cf e pe := by
  cases pe with
  | bad => exact ge_bad (fun _ => by simp [evE]) rfl
  | comp elt t own k it ifs => exact step_comp S ok h
  | compD vals elt t own i ifs => exact step_compD S ok h
  | meth o m ps => exact step_meth S ok h
  | bmeth o m ps => exact step_bmeth S ok h
  | smeth c m ps => exact step_smeth S ok h
  | callK k ps kn ks => exact step_star S ok h
  | lit d => exact litB_ok h
  | var i =>
    rw [chkE.eq_def] at h; (try dsimp only at h)
    try dsimp only at h
    split at h
    · obtain ⟨v1, v2, v3, v4⟩ := ok.var h
      exact ge_var v1 v2 v3 v4
    · cases h
  | glob g =>
    rw [chkE.eq_def] at h; (try dsimp only at h)
    try dsimp only at h
    split at h
    · obtain ⟨h1, h⟩ := ba h
      obtain ⟨h2, h3⟩ := ba h
      obtain rfl := beq_iff_eq.mp h1
      obtain ⟨g1, g2⟩ := ok.gl h2
      obtain ⟨d, hd⟩ := Option.isSome_iff_exists.mp h3
      obtain ⟨v, u, k1, k2, k3⟩ := ok.pf.con _ _ hd
      exact ge_glob g1 k1 k2 g2 hd k3
    · cases h
  | bin op a b =>
    rw [chkE.eq_def] at h; (try dsimp only at h)
    try dsimp only at h
    split at h
    · obtain ⟨h1, h⟩ := ba h
      obtain ⟨h2, h3⟩ := ba h
      obtain rfl := of_decide_eq_true h1
      exact ge_bin (S.e ok h2) (S.e ok h3)
    · cases h
  | neg a =>
    rw [chkE.eq_def] at h; (try dsimp only at h)
    try dsimp only at h
    split at h
    · exact ge_neg (S.e ok h)
    · cases h
  | not a =>
    rw [chkE.eq_def] at h; (try dsimp only at h)
    try dsimp only at h
    split at h
    · exact ge_not (S.e ok h)
    · cases h
  | and a b =>
    rw [chkE.eq_def] at h; (try dsimp only at h)
    try dsimp only at h
    split at h
    · exact S.b ok h _
    · cases h
  | or a b =>
    rw [chkE.eq_def] at h; (try dsimp only at h)
    try dsimp only at h
    split at h
    · exact S.b ok h _
    · cases h
  | cmp op a b =>
    rw [chkE.eq_def] at h; (try dsimp only at h)
    try dsimp only at h
    split at h
    · obtain ⟨h1, h⟩ := ba h
      obtain ⟨h0, h⟩ := ba h
      obtain ⟨h2, h3⟩ := ba h
      obtain rfl := of_decide_eq_true h1
      exact ge_cmp ok.hu (S.e ok h2) (S.e ok h3) (behind_ok (by simpa using h0))
    · cases h
  | isN nn a =>
    rw [chkE.eq_def] at h; (try dsimp only at h)
    try dsimp only at h
    split at h
    · obtain ⟨h1, h2⟩ := ba h
      obtain rfl := of_decide_eq_true h1
      exact ge_isN (S.e ok h2)
    · cases h
  | ite c a b =>
    rw [chkE.eq_def] at h; (try dsimp only at h)
    try dsimp only at h
    split at h
    · obtain ⟨h1, h⟩ := ba h
      obtain ⟨h2, h3⟩ := ba h
      exact ge_ite (S.t ok h1) (S.e ok h2) (S.e ok h3)
    · cases h
  | tup ps =>
    rw [chkE.eq_def] at h; (try dsimp only at h)
    try dsimp only at h
    split at h
    · exact ge_tup (S.es ok h).1
    · cases h
  | lst ps =>
    rw [chkE.eq_def] at h; (try dsimp only at h)
    try dsimp only at h
    split at h
    · exact ge_lst (S.es ok h).1
    · cases h
  | dct ks vs =>
    rw [chkE.eq_def] at h
    cases ks <;> cases vs <;> try (dsimp only at h; cases h; done)
    dsimp only at h
    split at h
    · exact ge_dct0
    · cases h
  | sub a b =>
    rw [chkE.eq_def] at h; (try dsimp only at h)
    try dsimp only at h
    split at h
    · obtain ⟨h1, h⟩ := ba h
      obtain ⟨h2, h3⟩ := ba h
      exact ge_sub (S.e ok h2) (S.e ok h3) h1
    · cases h
  | sl a lo hi =>
    rw [chkE.eq_def] at h; (try dsimp only at h)
    try dsimp only at h
    split at h
    · obtain ⟨h1, h⟩ := ba h
      obtain ⟨h2, h3⟩ := ba h
      exact ge_sl (S.e ok h1) (S.o ok h2) (S.o ok h3)
    · cases h
  | rev a =>
    rw [chkE.eq_def] at h; (try dsimp only at h)
    try dsimp only at h
    split at h
    · obtain ⟨h1, h2⟩ := ba h
      obtain rfl := of_decide_eq_true h1
      exact ge_rev (S.e ok h2)
    · cases h
  | attr a f =>
    rw [chkE.eq_def] at h; (try dsimp only at h)
    try dsimp only at h
    split at h
    · obtain ⟨h1, h⟩ := ba h
      obtain ⟨h2, h3⟩ := ba h
      obtain rfl := beq_iff_eq.mp h1
      exact ge_attr ok.pf ok.hF ok.hr (S.e ok h3) (base_ok (by simpa using h2))
    · cases h
  | call k ps =>
    rw [chkE.eq_def] at h; (try dsimp only at h)
    try dsimp only at h
    split at h
    · rename_i x q es q2
      obtain ⟨h1, h⟩ := ba h
      obtain ⟨h2, h⟩ := ba h
      obtain ⟨h3, h4⟩ := ba h
      obtain rfl := beq_iff_eq.mp h1
      obtain ⟨g1, g2⟩ := ok.gl h2
      obtain ⟨f, hf⟩ := Option.isSome_iff_exists.mp h3
      obtain ⟨k1, k2⟩ := ok.pf.top _ _ hf
      obtain ⟨ga, st⟩ := S.es ok h4
      cases es with
      | nil =>
        obtain rfl : ps = [] := by
          cases n with
          | zero => rw [chkEs.eq_def] at h4; (try dsimp only at h4); cases h4
          | succ n => rw [chkEs.eq_def] at h4; (try dsimp only at h4); cases ps with
            | nil => rfl
            | cons _ _ => cases h4
        exact ge_call0 hf (ok.hF _ _ hf) (ok.hr.mono (by omega)) ok.tk g1 k1 k2 g2
      | cons a r => exact ge_call hf (ok.hF _ _ hf) (ok.hr.mono (by omega)) ok.tk g1 k1 k2 ga st g2
    · cases h
  | mk c ps =>
    rw [chkE.eq_def] at h; (try dsimp only at h)
    try dsimp only at h
    split at h
    · rename_i x q es q2
      obtain ⟨h1, h⟩ := ba h
      obtain ⟨h2, h⟩ := ba h
      obtain ⟨h3, h⟩ := ba h
      obtain ⟨h4, h5⟩ := ba h
      obtain rfl := beq_iff_eq.mp h1
      obtain ⟨g1, g2⟩ := ok.gl h2
      obtain ⟨r, hr⟩ := Option.isSome_iff_exists.mp h3
      obtain ⟨ga, st⟩ := S.es ok h5
      obtain ⟨a, rr, rfl⟩ := ne_cons h4
      exact ge_mk ok.pf ok.hF ok.hr ok.tk hr g1 g2 ga st
    · cases h
  | mkV i ps =>
    rw [chkE.eq_def] at h; (try dsimp only at h)
    try dsimp only at h
    split at h
    · rename_i x q es q2
      obtain ⟨h1, h⟩ := ba h
      obtain ⟨h4, h5⟩ := ba h
      obtain ⟨v1, v2, v3, v4⟩ := ok.var h1
      obtain ⟨ga, st⟩ := S.es ok h5
      obtain ⟨a, rr, rfl⟩ := ne_cons h4
      exact ge_mkV ok.pf ok.hF ok.hr ok.tk v1 v2 v3 v4 ga st
    · cases h
  | blt b ps =>
    rw [chkE.eq_def] at h; (try dsimp only at h)
    try dsimp only at h
    split at h
    · rename_i x q es q2
      obtain ⟨h1, h⟩ := ba h
      obtain ⟨h2, h⟩ := ba h
      obtain ⟨h4, h5⟩ := ba h
      obtain ⟨ga, st⟩ := S.es ok h5
      obtain ⟨a, rr, rfl⟩ := ne_cons h4
      exact blt_ok ok h1 h2 ga st
    · cases h
  | isi a ts =>
    rcases ts with _ | ⟨t, _ | ⟨t2, ts⟩⟩
    · rw [chkE.eq_def] at h; (try dsimp only at h); cases h
    · rw [chkE.eq_def] at h; (try dsimp only at h)
      try dsimp only at h
      split at h
      · rename_i x q y z q2 q3
        obtain ⟨h1, h⟩ := ba h
        obtain ⟨h2, h⟩ := ba h
        obtain ⟨h3, h⟩ := ba h
        obtain ⟨h4, h5⟩ := ba h
        obtain rfl := beq_iff_eq.mp h1
        exact isi_ok (p2 := q) ok h2 h3 (S.e ok h5) h4
      · cases h
    · rw [chkE.eq_def] at h; (try dsimp only at h); cases h
  | _ => rw [chkE.eq_def] at h; (try dsimp only at h); cases h
theorem step_b (S : Snd n) (ok : CkOk C X W cf adr j) {op : PySem.BoolOp} {es : List Expr} (h : chkB (n + 1) C op es pe = true) (pos : Pos) : GE X W C.G cf (.BoolOp op es pos) pe := by
  rw [chkB.eq_def] at h; (try dsimp only at h)
  rcases es with _ | ⟨x, _ | ⟨y, r⟩⟩
  · cases h
  · exact ge_one (S.e ok h)
  · dsimp only at h
    split at h
    · obtain ⟨h1, h2⟩ := ba h
      exact ge_and (S.e ok h1) (S.b ok h2 pos)
    · obtain ⟨h1, h2⟩ := ba h
      exact ge_or (S.e ok h1) (S.b ok h2 pos)
    · cases h
theorem step_es (S : Snd n) (ok : CkOk C X W cf adr j) {es : List Expr} {ps : List PE} (h : chkEs (n + 1) C es ps = true) : GA X W C.G cf es ps ∧ es.all notStar = true := by
  rw [chkEs.eq_def] at h; (try dsimp only at h)
  split at h
  · exact ⟨ga_nil, rfl⟩
  · obtain ⟨h1, h⟩ := ba h
    obtain ⟨h2, h3⟩ := ba h
    obtain ⟨k1, k2⟩ := S.es ok h3
    exact ⟨ga_cons (S.e ok h2) h1 k1, by rw [List.all_cons, h1, k2]; rfl⟩
  · cases h
theorem step_t (S : Snd n) (ok : CkOk C X W cf adr j) {pb : PB} (h : chkT (n + 1) C e pb = true) : PT X e (tT X W (evT C.G cf pb)) := by
  have pl : ∀ {p : PE}, (plainT e && chkE n C e p) = true → PT X e (tT X W (evT C.G cf (.val p))) := fun {p} h => by
    obtain ⟨h1, h2⟩ := ba h
    exact gt_plain (S.e ok h2) (plainT_ok h1)
  cases pb with
  | not a =>
    rw [chkT.eq_def] at h; (try dsimp only at h)
    try dsimp only at h
    split at h
    · exact gt_not (S.t ok h)
    · cases h
  | and a b =>
    rw [chkT.eq_def] at h; (try dsimp only at h)
    try dsimp only at h
    split at h
    · exact L2.PW.pt (S.tb ok h _)
    · cases h
  | or a b =>
    rw [chkT.eq_def] at h; (try dsimp only at h)
    try dsimp only at h
    split at h
    · exact L2.PW.pt (S.tb ok h _)
    · cases h
  | val p =>
    cases p with
    | cmp op a b =>
      rw [chkT.eq_def] at h; (try dsimp only at h)
      try dsimp only at h
      split at h
      · obtain ⟨h1, h⟩ := ba h
        obtain ⟨h0, h⟩ := ba h
        obtain ⟨h2, h3⟩ := ba h
        obtain rfl := of_decide_eq_true h1
        exact gt_cmpD ok.hu (S.e ok h2) (S.e ok h3) (behind_ok (by simpa using h0))
      · cases h
    | isN nn a =>
      rw [chkT.eq_def] at h; (try dsimp only at h)
      try dsimp only at h
      split at h
      · obtain ⟨h1, h2⟩ := ba h
        obtain rfl := of_decide_eq_true h1
        exact gt_isN (S.e ok h2)
      · cases h
    | _ =>
      rw [chkT.eq_def] at h; (try dsimp only at h)
      exact pl h
theorem step_tb (S : Snd n) (ok : CkOk C X W cf adr j) {op : PySem.BoolOp} {es : List Expr} {pb : PB} (h : chkTb (n + 1) C op es pb = true) (pos : Pos) : PW X (.BoolOp op es pos) (tT X W (evT C.G cf pb)) := by
  rw [chkTb.eq_def] at h; (try dsimp only at h)
  rcases es with _ | ⟨x, _ | ⟨y, r⟩⟩
  · cases h
  · cases op with
    | And => exact gt_and1 (S.t ok h)
    | Or => exact gt_or1 (S.t ok h)
  · dsimp only at h
    split at h
    · obtain ⟨h1, h2⟩ := ba h
      exact gt_and (S.t ok h1) (S.tb ok h2 pos)
    · obtain ⟨h1, h2⟩ := ba h
      exact gt_or (S.t ok h1) (S.tb ok h2 pos)
    · cases h
theorem step_i (S : Snd n) (ok : CkOk C X W cf adr j) {k : ItK} {it : List PE} (h : chkI (n + 1) C tg iter k it = true) : GI X W C.G cf tg iter k it := by
  have len1 : ∀ {a : Expr} {it : List PE}, GA X W C.G cf [a] it → True := fun _ => trivial
  have es1 : ∀ {m : Nat} {a : Expr} {it : List PE}, chkEs m C [a] it = true → ∃ p, it = [p] := fun {m a it} h => by
    cases m with
    | zero => rw [chkEs.eq_def] at h; (try dsimp only at h); cases h
    | succ m =>
      rw [chkEs.eq_def] at h; (try dsimp only at h)
      cases it with
      | nil => cases h
      | cons p r =>
        obtain ⟨_, h⟩ := ba h
        obtain ⟨_, h⟩ := ba h
        cases m with
        | zero => rw [chkEs.eq_def] at h; (try dsimp only at h); cases h
        | succ m =>
          rw [chkEs.eq_def] at h; (try dsimp only at h)
          cases r with
          | nil => exact ⟨p, rfl⟩
          | cons _ _ => cases h
  have es2 : ∀ {m : Nat} {a b : Expr} {it : List PE}, chkEs m C [a, b] it = true → ∃ p q, it = [p, q] := fun {m a b it} h => by
    cases m with
    | zero => rw [chkEs.eq_def] at h; (try dsimp only at h); cases h
    | succ m =>
      rw [chkEs.eq_def] at h; (try dsimp only at h)
      cases it with
      | nil => cases h
      | cons p r =>
        obtain ⟨_, h⟩ := ba h
        obtain ⟨_, h⟩ := ba h
        obtain ⟨q, rfl⟩ := es1 h
        exact ⟨p, q, rfl⟩
  cases k with
  | seq =>
    rw [chkI.eq_def] at h; (try dsimp only at h)
    try dsimp only at h
    split at h
    · exact gi_seq (S.e ok h)
    · cases h
  | rng =>
    rw [chkI.eq_def] at h; (try dsimp only at h)
    try dsimp only at h
    split at h
    · obtain ⟨h1, h⟩ := ba h
      obtain ⟨h2, h3⟩ := ba h
      obtain rfl := beq_iff_eq.mp h1
      obtain ⟨g1, _, g2, _⟩ := ok.fr h2
      obtain ⟨p, rfl⟩ := es1 h3
      obtain ⟨ga, st⟩ := S.es ok h3
      exact gi_rng1 ga g1 g2 (by simpa using st)
    · obtain ⟨h1, h⟩ := ba h
      obtain ⟨h2, h3⟩ := ba h
      obtain rfl := beq_iff_eq.mp h1
      obtain ⟨g1, _, g2, _⟩ := ok.fr h2
      obtain ⟨p, q, rfl⟩ := es2 h3
      obtain ⟨ga, st⟩ := S.es ok h3
      rw [List.all_cons, List.all_cons, Bool.and_eq_true, Bool.and_eq_true] at st
      exact gi_rng2 ga g1 g2 st.1 st.2.1
    · cases h
  | enum =>
    rw [chkI.eq_def] at h; (try dsimp only at h)
    try dsimp only at h
    split at h
    · obtain ⟨h1, h⟩ := ba h
      obtain ⟨h0, h⟩ := ba h
      obtain ⟨h2, h3⟩ := ba h
      obtain rfl := beq_iff_eq.mp h1
      obtain ⟨g1, _, g2, _⟩ := ok.fr h2
      obtain ⟨p, rfl⟩ := es1 h3
      obtain ⟨ga, st⟩ := S.es ok h3
      cases tg <;> first | (cases h0; done) | exact gi_enum ga g1 g2 (by simpa using st)
    · cases h
  | _ => rw [chkI.eq_def] at h; (try dsimp only at h); cases h
theorem step_o (S : Snd n) (ok : CkOk C X W cf adr j) {e : Option Expr} {pe : Option PE} (h : chkO (n + 1) C e pe = true) : L2.PO X e (tM X W (evOp C.G cf pe) relOI) := by
  rw [chkO.eq_def] at h; (try dsimp only at h)
  split at h
  · exact go_none
  · exact go_some (S.e ok h)
  · cases h
theorem step_ts (S : Snd n) (ok : CkOk C X W cf adr j) {es : List Expr} {ps : List PB} (h : chkTs (n + 1) C es ps = true) : L2.PTs X es (tT X W (condsL (evTs C.G cf ps))) := by
  rw [chkTs.eq_def] at h; (try dsimp only at h)
  split at h
  · exact gts_nil
  · exact gts_one (S.t ok h)
  · cases h
end
theorem snd : ∀ n, Snd n
  | 0 => ⟨fun _ h => (nomatch (show false = true from h)), fun _ h => (nomatch (show false = true from h)), fun _ h => (nomatch (show false = true from h)), fun _ h => (nomatch (show false = true from h)), fun _ h => (nomatch (show false = true from h)),
    fun _ h => (nomatch (show false = true from h)), fun _ h => (nomatch (show false = true from h)), fun _ h => (nomatch (show false = true from h))⟩
  | n + 1 => ⟨fun ok h => step_e (snd n) ok h, fun ok h => step_b (snd n) ok h, fun ok h => step_es (snd n) ok h, fun ok h => step_o (snd n) ok h, fun ok h => step_t (snd n) ok h, fun ok h => step_tb (snd n) ok h, fun ok h => step_ts (snd n) ok h, fun ok h => step_i (snd n) ok h⟩
end PL

-- S37
set_option Elab.async false
set_option linter.all false
set_option maxRecDepth 100000
set_option maxHeartbeats 4000000
namespace PL
open PySem (Str Addr Value Shared Expr Stmt Pos Scope Obj Sem Operator CmpOp binaryOp compareOp inplaceOp sizeLine PyData unaryOp MatchCase Pattern)
open L2 (V HO Hp SqL SqT upd upd_same upd_ne St VK TE TT TA TS Ends XK WX PT PW PA Inv Cx R2 OpR rI rI0 tOp Room CallR FnR TG TGs It TI)
/-! ### statements -/
def capsB (C : Ck) : List Pattern → List Nat → Bool
  | [], [] => true
  | .MatchAs none (some x) _ :: ps, i :: is => decide (C.N[i]? = some x) && (lclB C.sc x && capsB C ps is)
  | _, _ => false
theorem capsB_ok {C : Ck} : ∀ {ps : List Pattern} {is : List Nat}, capsB C ps is = true → Caps C.N C.sc ps is
  | [], [], _ => .nil
  | [], _ :: _, h => by unfold capsB at h; cases h
  | p :: ps, is, h => by
    unfold capsB at h
    split at h
    · rename_i hh; cases hh
    · rename_i x q ps' i is' hh
      cases hh
      obtain ⟨a1, h⟩ := ba h
      obtain ⟨a2, a3⟩ := ba h
      exact .cons (of_decide_eq_true a1) (lclB_ok a2) (capsB_ok a3)
    · cases h
def subL (is js : List Nat) : Bool := is.all js.contains
theorem subL_ok {is js : List Nat} (h : subL is js = true) : ∀ i ∈ is, i ∈ js := fun i hi => by
  have := List.all_eq_true.mp h i hi
  simpa using this
def folded (e : Expr) : Bool := match e with
  | .Tuple vs _ _ => vs.all (PySem.foldedForSure 8)
  | _ => true
theorem stores_folded {t e : Expr} {env : PySem.Env} (h : folded e = true) : PySem.swappedStores [t] e env = pure none := by
  by_cases ht : isTup e = true
  · cases e <;> first | (cases ht; done) | skip
    rename_i vs k q
    have h' : vs.all (PySem.foldedForSure 8) = true := h
    unfold PySem.swappedStores
    cases t <;> first | rfl | skip
    all_goals
      dsimp only
      simp only [h', if_true]
      repeat' split
      all_goals rfl
  · exact stores_ok (by simpa using ht)
/-- two stores exchanged -/
def par2B (C : Ck) (x y : Str) (px py : Pos) (a b : Expr) : Bool :=
  decide (C.sc.kind = .function) && (lclB C.sc x && (lclB C.sc y && ((px.line == py.line) && (decide (x ≠ y) && (notStar a && (notStar b && (!([a, b].all (PySem.foldedForSure 8)) && !([a, b].all (PySem.constantsAlone 8)))))))))
/-- name = [..] on one line -/
def setLcB (n : Nat) (C : Ck) (t : Tgt) (e : PE) (tg x : Expr) : Bool := match t, e, tg, x with
  | .nm i, .comp elt ptg own k it ifs, .Name y py, .ListComp el [⟨tge, iter, ifse, as⟩] scope pos => decide (as = 0) && (decide (C.N[i]? = some y) && (lclB C.sc y && (decide (C.sc.kind = .function) && ((py.line == pos.line) && (!(scope.names.any fun (m, k) => m == y && (k == .local || k == .cell)) &&
      (chkI n C tge iter k it && (blkB C.N C.sc scope (ownP C own) && (prOk k ptg && (ptg.slots.all own.contains && (tgB (C.inner scope) ptg tge && (chkTs n (C.inner scope) ifse ifs && (chkE n (C.inner scope) el elt && !isSetD iter))))))))))))
  | _, _, _, _ => false
def par3B (C : Ck) (x y z : Str) (px py pz : Pos) (a b c : Expr) : Bool :=
  decide (C.sc.kind = .function) && (lclB C.sc x && (lclB C.sc y && (lclB C.sc z && ((px.line == py.line) && ((px.line == pz.line) && (decide (x ≠ y) && (decide (x ≠ z) && (decide (y ≠ z) && (notStar a && (notStar b && (notStar c && (!([a, b, c].all (PySem.foldedForSure 8)) && !([a, b, c].all (PySem.constantsAlone 8))))))))))))))
mutual
def chkS : Nat → Ck → Stmt → PL.PS → Bool
  | 0, _, _, _ => false
  | n + 1, C, st, ps => match ps with
    | .bad => true
    | .expr e => (match st with
      | .Expr x _ => !isComp x && chkE n C x e
      | _ => false)
    | .asg t e => (match st with
      | .Assign [tg] x _ => (notStar tg && (tgB C t tg && (!isComp x && ((isNm tg || folded x) && chkE n C x e)))) || setLcB n C t e tg x
      | _ => false)
    | .asgAttr (.var i) f e => (match st with
      | .Assign [.Attribute (.Name x _) g _] y _ => (g == f) && (C.var x i && chkE n C y e)
      | _ => false)
    | .asgSub (.var i) b e => (match st with
      | .Assign [.Subscript (.Name x _) ix _] y _ => C.var x i && (notSlice ix && (chkE n C ix b && chkE n C y e))
      | _ => false)
    | .aug i op e => (match st with
      | .AugAssign (.Name x _) op' y _ => decide (op' = op) && (!C.blk && (decide (C.N[i]? = some x) && (locB C.sc x && chkE n C y e)))
      | _ => false)
    | .ite c a b => (match st with
      | .If t x y _ => chkT n C t c && (chkSs n C x a && chkSs n C y b)
      | _ => false)
    | .wh c b => (match st with
      | .While t x [] _ => !C.blk && (chkT n C t c && chkSs n C x b)
      | _ => false)
    | .for_ t k it b => (match st with
      | .For tg iter body [] _ => !C.blk && (chkI n C tg iter k it && (prOk k t && (tgB C t tg && (chkSs n C body b && !isSetD iter))))
      | _ => false)
    | .ret e => (match st with
      | .Return (some x) _ => chkE n C x e
      | _ => false)
    | .brk => (match st with
      | .Break _ => true
      | _ => false)
    | .cont => (match st with
      | .Continue _ => true
      | _ => false)
    | .pass => (match st with
      | .Pass _ => true
      | _ => false)
    | .mtch e pats gs bs dfl => (match st with
      | .Match x cases _ => chkE n C x e && chkCs n C (PS.asgs (.mtch e pats gs bs dfl)) cases pats gs bs dfl
      | _ => false)
    | .par [i, j, l] [p, q, r] => (match st with
      | .Assign [.Tuple [.Name x px, .Name y py, .Name z pz] _ _] (.Tuple [a, b, c] _ _) _ => decide (C.N[i]? = some x) && (decide (C.N[j]? = some y) && (decide (C.N[l]? = some z) && (decide (i ≠ j) && (decide (i ≠ l) && (decide (j ≠ l) && (par3B C x y z px py pz a b c && (chkE n C a p && (chkE n C b q && chkE n C c r))))))))
      | _ => false)
    | .par [i, j] [p, q] => (match st with
      | .Assign [.Tuple [.Name x px, .Name y py] _ _] (.Tuple [a, b] _ _) _ => decide (C.N[i]? = some x) && (decide (C.N[j]? = some y) && (decide (i ≠ j) && (par2B C x y px py a b && (chkE n C a p && chkE n C b q))))
      | _ => false)
    | _ => false
def chkSs : Nat → Ck → List Stmt → List PL.PS → Bool
  | 0, _, _, _ => false
  | n + 1, C, sts, ps => match sts, ps with
    | [], [] => true
    | st :: sts, p :: ps => chkS n C st p && chkSs n C sts ps
    | _, _ => false
def chkCs : Nat → Ck → List Nat → List MatchCase → List (List Nat) → List (Option PB) → List (List PL.PS) → List PL.PS → Bool
  | 0, _, _, _, _, _, _, _ => false
  | n + 1, C, is, cs, pats, gs, bs, dfl => match cs, pats, gs, bs with
    | [], [], [], [] => dfl.isEmpty
    | [⟨.MatchAs none none _, none, body⟩], [], [], [] => chkSs n C body dfl && subL (PS.asgss dfl) is
    | ⟨.MatchSequence pts _, grd, body⟩ :: rest, p :: pats, g :: gs, b :: bs => capsB C pts p && (!p.isEmpty && ((match grd, g with
        | none, none => true
        | some t, some c => chkT n C t c
        | _, _ => false) && (chkSs n C body b && (chkCs n C is rest pats gs bs dfl && (subL p is && subL (PS.asgss b) is)))))
    | _, _, _, _ => false
end
structure SndS (n : Nat) : Prop where
  s : ∀ {C : Ck} {X : Cx} {W : WX} {cf : CF} {adr : FnKey → Addr} {j : Nat} {st : Stmt} {ps : PL.PS}, CkOk C X W cf adr j → chkS n C st ps = true → GS X W C.G cf st ps
  ss : ∀ {C : Ck} {X : Cx} {W : WX} {cf : CF} {adr : FnKey → Addr} {j : Nat} {sts : List Stmt} {ps : List PL.PS}, CkOk C X W cf adr j → chkSs n C sts ps = true → GSs X W C.G cf sts ps
  cs : ∀ {C : Ck} {X : Cx} {W : WX} {cf : CF} {adr : FnKey → Addr} {j : Nat} {is : List Nat} {cs : List MatchCase} {pats : List (List Nat)} {gs : List (Option PB)} {bs : List (List PL.PS)} {dfl : List PL.PS}, CkOk C X W cf adr j → chkCs n C is cs pats gs bs dfl = true →
    PCs X W is cs (fun d => evCs C.G cf d pats gs bs (evSs C.G cf dfl))
section
variable {n : Nat} {C : Ck} {X : Cx} {W : WX} {cf : CF} {adr : FnKey → Addr} {j : Nat} {st : Stmt}
theorem par2_ok (ok : CkOk C X W cf adr j) {x y : Str} {px py pt pt2 : Pos} {a b : Expr} {k k2 : Nat} (h : par2B C x y px py a b = true) :
    X.env.scope.names.lookup x = some .local ∧ X.env.scope.names.lookup y = some .local ∧ notStar a = true ∧ notStar b = true ∧
      PySem.swappedStores [.Tuple [.Name x px, .Name y py] k pt] (.Tuple [a, b] k2 pt2) X.env = pure (some [x, y]) := by
  obtain ⟨h1, h⟩ := ba h
  obtain ⟨h2, h⟩ := ba h
  obtain ⟨h3, h⟩ := ba h
  obtain ⟨h4, h⟩ := ba h
  obtain ⟨h5, h⟩ := ba h
  obtain ⟨h6, h⟩ := ba h
  obtain ⟨h7, h⟩ := ba h
  obtain ⟨h8, h9⟩ := ba h
  have e1 := lclB_ok h2
  have e2 := lclB_ok h3
  rw [← ok.sc] at e1 e2
  have e3 := of_decide_eq_true h1
  rw [← ok.sc] at e3
  refine ⟨e1, e2, h6, h7, ?_⟩
  have kx : X.env.kindOf x = some .local := e1
  have ky : X.env.kindOf y = some .local := e2
  have bk : X.env.blockKind = .function := by unfold PySem.Env.blockKind; rw [e3]; rfl
  have ln : py.line = px.line := by have := beq_iff_eq.mp h4; exact this.symm
  have nxy : x ≠ y := of_decide_eq_true h5
  have ed : ([x, y] : List Str).eraseDups.length = 2 := by
    have z : (y == x) = false := by simpa using fun e : y = x => nxy e.symm
    simp [List.eraseDups_cons, List.filter_cons, z, nxy]
  have f8 : ([a, b].all (PySem.foldedForSure 8)) = false := (Bool.not_eq_true' _).mp h8
  have f9 : ([a, b].all (PySem.constantsAlone 8)) = false := (Bool.not_eq_true' _).mp h9
  unfold PySem.swappedStores
  dsimp only
  have nst : ∀ {e : Expr}, notStar e = true → ∀ {α : Type} (p : Expr → α) (q : α), (match e with | .Starred a b => p (.Starred a b) | _ => q) = q := fun {e} h α p q => by cases e <;> first | rfl | cases h
  refine (if_neg ?_).trans ((if_neg ?_).trans ((if_neg ?_).trans ((if_neg ?_).trans ((if_neg ?_).trans ?_))))
  · rw [bk]; intro z; cases z
  · rw [List.any_cons, List.any_cons, List.any_nil]
    intro z
    rcases Bool.or_eq_true_iff.mp z with z | z
    · cases a <;> first | (cases z; done) | cases h6
    · rcases Bool.or_eq_true_iff.mp z with z | z
      · cases b <;> first | (cases z; done) | cases h7
      · cases z
  · simp only [List.filterMap_cons, List.filterMap_nil, kx, ky, ln, List.head?_cons, Option.map_some, Option.getD_some, PySem.Expr.pos, beq_self_eq_true, Bool.and_self, if_true, ed, List.length_cons, List.length_nil]
    intro z; cases z
  · rw [f8]; decide
  · rw [f9]; decide
  · simp only [List.filterMap_cons, List.filterMap_nil, kx, ky, ln, List.head?_cons, Option.map_some, Option.getD_some, PySem.Expr.pos, beq_self_eq_true, Bool.and_self, if_true, ed, List.length_cons, List.length_nil]

theorem par3_ok (ok : CkOk C X W cf adr j) {x y z : Str} {px py pz pt pt2 : Pos} {a b c : Expr} {k k2 : Nat} (h : par3B C x y z px py pz a b c = true) :
    X.env.scope.names.lookup x = some .local ∧ X.env.scope.names.lookup y = some .local ∧ X.env.scope.names.lookup z = some .local ∧ notStar a = true ∧ notStar b = true ∧ notStar c = true ∧
      PySem.swappedStores [.Tuple [.Name x px, .Name y py, .Name z pz] k pt] (.Tuple [a, b, c] k2 pt2) X.env = pure (some [x, y, z]) := by
  obtain ⟨h1, h⟩ := ba h
  obtain ⟨h2, h⟩ := ba h
  obtain ⟨h3, h⟩ := ba h
  obtain ⟨h3z, h⟩ := ba h
  obtain ⟨h4, h⟩ := ba h
  obtain ⟨h4z, h⟩ := ba h
  obtain ⟨h5, h⟩ := ba h
  obtain ⟨h5z, h⟩ := ba h
  obtain ⟨h5w, h⟩ := ba h
  obtain ⟨h6, h⟩ := ba h
  obtain ⟨h7, h⟩ := ba h
  obtain ⟨h7c, h⟩ := ba h
  obtain ⟨h8, h9⟩ := ba h
  have e1 := lclB_ok h2
  have e2 := lclB_ok h3
  have e2z := lclB_ok h3z
  rw [← ok.sc] at e1 e2 e2z
  have e3 := of_decide_eq_true h1
  rw [← ok.sc] at e3
  refine ⟨e1, e2, e2z, h6, h7, h7c, ?_⟩
  have kx : X.env.kindOf x = some .local := e1
  have ky : X.env.kindOf y = some .local := e2
  have kz : X.env.kindOf z = some .local := e2z
  have bk : X.env.blockKind = .function := by unfold PySem.Env.blockKind; rw [e3]; rfl
  have ln : py.line = px.line := by have := beq_iff_eq.mp h4; exact this.symm
  have lnz : pz.line = px.line := by have := beq_iff_eq.mp h4z; exact this.symm
  have nxy : x ≠ y := of_decide_eq_true h5
  have nxz : x ≠ z := of_decide_eq_true h5z
  have nyz : y ≠ z := of_decide_eq_true h5w
  have ed : ([x, y, z] : List Str).eraseDups.length = 3 := by
    have z1 : (y == x) = false := by simpa using fun e : y = x => nxy e.symm
    have z2 : (z == x) = false := by simpa using fun e : z = x => nxz e.symm
    have z3 : (z == y) = false := by simpa using fun e : z = y => nyz e.symm
    simp [List.eraseDups_cons, List.filter_cons, z1, z2, z3, nxy, nxz, nyz]
  have f8 : ([a, b, c].all (PySem.foldedForSure 8)) = false := (Bool.not_eq_true' _).mp h8
  have f9 : ([a, b, c].all (PySem.constantsAlone 8)) = false := (Bool.not_eq_true' _).mp h9
  unfold PySem.swappedStores
  dsimp only
  refine (if_neg ?_).trans ((if_neg ?_).trans ((if_neg ?_).trans ((if_neg ?_).trans ((if_neg ?_).trans ?_))))
  · rw [bk]; intro z; cases z
  · rw [List.any_cons, List.any_cons, List.any_cons, List.any_nil]
    intro z
    rcases Bool.or_eq_true_iff.mp z with z | z
    · cases a <;> first | (cases z; done) | cases h6
    · rcases Bool.or_eq_true_iff.mp z with z | z
      · cases b <;> first | (cases z; done) | cases h7
      · rcases Bool.or_eq_true_iff.mp z with z | z
        · cases c <;> first | (cases z; done) | cases h7c
        · cases z
  · simp only [List.filterMap_cons, List.filterMap_nil, kx, ky, kz, ln, lnz, List.head?_cons, Option.map_some, Option.getD_some, PySem.Expr.pos, beq_self_eq_true, Bool.and_self, if_true, ed, List.length_cons, List.length_nil]
    intro z; cases z
  · rw [f8]; decide
  · rw [f9]; decide
  · simp only [List.filterMap_cons, List.filterMap_nil, kx, ky, kz, ln, lnz, List.head?_cons, Option.map_some, Option.getD_some, PySem.Expr.pos, beq_self_eq_true, Bool.and_self, if_true, ed, List.length_cons, List.length_nil]
theorem setLc_ok (ok : CkOk C X W cf adr j) {t : Tgt} {e : PE} {tg x : Expr} {q : Pos} (h : setLcB n C t e tg x = true) : GS X W C.G cf (.Assign [tg] x q) (.asg t e) := by
  have S := snd n
  have nd : X.N.Nodup := by rw [ok.N]; exact ok.nd
  unfold setLcB at h
  split at h
  · rename_i i elt ptg own k it ifs y py el tge iter ifse as scope pos
    obtain ⟨h1, h⟩ := ba h
    obtain ⟨h2, h⟩ := ba h
    obtain ⟨h3, h⟩ := ba h
    obtain ⟨h4, h⟩ := ba h
    obtain ⟨h5, h⟩ := ba h
    obtain ⟨h6, h⟩ := ba h
    obtain ⟨h7, h⟩ := ba h
    obtain ⟨h8, h⟩ := ba h
    obtain ⟨h9, h⟩ := ba h
    obtain ⟨h10, h⟩ := ba h
    obtain ⟨h11, h⟩ := ba h
    obtain ⟨h12, h⟩ := ba h
    obtain ⟨h13, h14⟩ := ba h
    obtain rfl := of_decide_eq_true h1
    have yl := lclB_ok h3
    have kd := of_decide_eq_true h4
    rw [← ok.sc] at yl kd
    have bk := blkB_ok h8
    rw [← ok.N, ← ok.sc] at bk
    have z := gs_setLc (W := W) (own := ownP C own) (spos := q) ok.calm nd (by rw [ok.N]; exact of_decide_eq_true h2) yl (L2.sw_true kd yl h5 (by simpa using h6)) (S.i ok h7) bk (prOk_ok h9) (by rw [ownP_snd]; intro i hi; have := List.all_eq_true.mp h10 i hi; simpa using this)
      (fun s H Cc cl fp => tg_ok (C := C.inner scope) (ok.inner s H Cc cl fp) ptg tge h11) (fun s H Cc cl fp => S.ts (C := C.inner scope) (ok.inner s H Cc cl fp) h12) (fun s H Cc cl fp => (S.e (C := C.inner scope) (ok.inner s H Cc cl fp) h13).val) (folded_ok (by simpa using h14))
    rw [ownP_snd] at z
    exact z
  · cases h
theorem step_s (S : Snd n) (T : SndS n) (ok : CkOk C X W cf adr j) {ps : PL.PS} (h : chkS (n + 1) C st ps = true) : GS X W C.G cf st ps := by
  have nd : X.N.Nodup := by rw [ok.N]; exact ok.nd
  cases ps with
  | bad => exact gs_bad fun _ => by simp [evS]
  | expr e =>
    rw [chkS.eq_def] at h; (try dsimp only at h)
    try dsimp only at h
    split at h
    · obtain ⟨h1, h2⟩ := ba h
      exact gs_expr (S.e ok h2) (swaps_ok (by simpa using h1))
    · cases h
  | asg t e =>
    rw [chkS.eq_def] at h; (try dsimp only at h)
    try dsimp only at h
    split at h
    · rename_i tg x q
      rcases (Bool.or_eq_true_iff.mp h).symm with h | h
      · exact setLc_ok ok h
      obtain ⟨h1, h⟩ := ba h
      obtain ⟨h2, h⟩ := ba h
      obtain ⟨h3, h⟩ := ba h
      obtain ⟨h4, h5⟩ := ba h
      refine gs_asg (S.e ok h5) (tg_ok ok t tg h2) (swaps_sole (by simpa using h3)) ?_ (by rw [each_cons h1]; rfl)
      rcases Bool.or_eq_true_iff.mp h4 with h4 | h4
      · cases tg <;> first | (cases h4; done) | exact stores_nm
      · exact stores_folded h4
    · cases h
  | asgAttr o f e =>
    cases o <;> try (rw [chkS.eq_def] at h; (try dsimp only at h); cases h; done)
    rw [chkS.eq_def] at h; (try dsimp only at h)
    try dsimp only at h
    split at h
    · obtain ⟨h1, h⟩ := ba h
      obtain ⟨h2, h3⟩ := ba h
      obtain rfl := beq_iff_eq.mp h1
      obtain ⟨v1, v2, v3, v4⟩ := ok.var h2
      exact gs_asgAttr ok.pf (L2.pe_var v1 v2 v3 v4) (S.e ok h3) swaps_attr
    · cases h
  | asgSub o b e =>
    cases o <;> try (rw [chkS.eq_def] at h; (try dsimp only at h); cases h; done)
    rw [chkS.eq_def] at h; (try dsimp only at h)
    try dsimp only at h
    split at h
    · rename_i x q ix q2 y q3
      obtain ⟨h1, h⟩ := ba h
      obtain ⟨h2, h⟩ := ba h
      obtain ⟨h3, h4⟩ := ba h
      obtain ⟨v1, v2, v3, v4⟩ := ok.var h1
      refine gs_asgSub (by have := ok.hu; omega) (L2.pe_var v1 v2 v3 v4) (S.e ok h3) (S.e ok h4) swaps_sole_sub stores_sub rfl fun v => ?_
      cases ix <;> first | rfl | cases h2
    · cases h
  | aug i op e =>
    rw [chkS.eq_def] at h; (try dsimp only at h)
    try dsimp only at h
    split at h
    · obtain ⟨h1, h⟩ := ba h
      obtain ⟨h2, h⟩ := ba h
      obtain ⟨h3, h⟩ := ba h
      obtain ⟨h4, h5⟩ := ba h
      obtain rfl := of_decide_eq_true h1
      exact gs_aug nd (by rw [ok.N]; exact of_decide_eq_true h3) (by rw [ok.sc]; exact locB_ok h4) (.inl (ok.fn (by simpa using h2) _)) (S.e ok h5)
    · cases h
  | ite c a b =>
    rw [chkS.eq_def] at h; (try dsimp only at h)
    try dsimp only at h
    split at h
    · obtain ⟨h1, h⟩ := ba h
      obtain ⟨h2, h3⟩ := ba h
      exact gs_ite (S.t ok h1) (T.ss ok h2) (T.ss ok h3)
    · cases h
  | wh c b =>
    rw [chkS.eq_def] at h; (try dsimp only at h)
    try dsimp only at h
    split at h
    · obtain ⟨h1, h⟩ := ba h
      obtain ⟨h2, h3⟩ := ba h
      exact gs_wh (ok.hp (by simpa using h1)) (S.t ok h2) (T.ss ok h3)
    · cases h
  | for_ t k it b =>
    rw [chkS.eq_def] at h; (try dsimp only at h)
    try dsimp only at h
    split at h
    · obtain ⟨h1, h⟩ := ba h
      obtain ⟨h2, h⟩ := ba h
      obtain ⟨h3, h⟩ := ba h
      obtain ⟨h4, h⟩ := ba h
      obtain ⟨h5, h6⟩ := ba h
      exact gs_for (ok.hp (by simpa using h1)) ok.calm (S.i ok h2) (prOk_ok h3) (tg_ok ok t _ h4) (T.ss ok h5) (folded_ok (by simpa using h6))
    · cases h
  | ret e =>
    rw [chkS.eq_def] at h; (try dsimp only at h)
    try dsimp only at h
    split at h
    · exact gs_ret (S.e ok h)
    · cases h
  | brk =>
    rw [chkS.eq_def] at h; (try dsimp only at h)
    try dsimp only at h
    split at h
    · exact gs_brk
    · cases h
  | cont =>
    rw [chkS.eq_def] at h; (try dsimp only at h)
    try dsimp only at h
    split at h
    · exact gs_cont
    · cases h
  | pass =>
    rw [chkS.eq_def] at h; (try dsimp only at h)
    try dsimp only at h
    split at h
    · exact gs_pass
    · cases h
  | mtch e pats gs bs dfl =>
    rw [chkS.eq_def] at h; (try dsimp only at h)
    try dsimp only at h
    split at h
    · obtain ⟨h1, h2⟩ := ba h
      exact gs_match (S.e ok h1) (T.cs ok h2)
    · cases h
  | par ts es =>
    rw [chkS.eq_def] at h
    rcases ts with _ | ⟨i, _ | ⟨i2, _ | ⟨i3, _ | ⟨i4, ts⟩⟩⟩⟩ <;> try (dsimp only at h; cases h; done)
    · rcases es with _ | ⟨p, _ | ⟨q, _ | ⟨q3, es⟩⟩⟩ <;> try (dsimp only at h; cases h; done)
      dsimp only at h
      split at h
      · obtain ⟨h1, h⟩ := ba h
        obtain ⟨h2, h⟩ := ba h
        obtain ⟨h3, h⟩ := ba h
        obtain ⟨h4, h⟩ := ba h
        obtain ⟨h5, h6⟩ := ba h
        obtain ⟨k1, k2, k3, k4, k5⟩ := par2_ok ok h4
        exact gs_par ok.calm nd (by rw [ok.N]; exact of_decide_eq_true h1) (by rw [ok.N]; exact of_decide_eq_true h2) (of_decide_eq_true h3) k1 k2 (ga_cons (S.e ok h5) k3 (ga_cons (S.e ok h6) k4 ga_nil)) k5 rfl
      · cases h
    · rcases es with _ | ⟨p, _ | ⟨q, _ | ⟨q3, _ | ⟨q4, es⟩⟩⟩⟩ <;> try (dsimp only at h; cases h; done)
      dsimp only at h
      split at h
      · obtain ⟨h1, h⟩ := ba h
        obtain ⟨h2, h⟩ := ba h
        obtain ⟨h2z, h⟩ := ba h
        obtain ⟨h3, h⟩ := ba h
        obtain ⟨h3z, h⟩ := ba h
        obtain ⟨h3w, h⟩ := ba h
        obtain ⟨h4, h⟩ := ba h
        obtain ⟨h5, h⟩ := ba h
        obtain ⟨h6, h7⟩ := ba h
        obtain ⟨k1, k2, k2z, k3, k4, k4z, k5⟩ := par3_ok ok h4
        exact gs_par3 ok.calm nd (by rw [ok.N]; exact of_decide_eq_true h1) (by rw [ok.N]; exact of_decide_eq_true h2) (by rw [ok.N]; exact of_decide_eq_true h2z) (of_decide_eq_true h3) (of_decide_eq_true h3z) (of_decide_eq_true h3w) k1 k2 k2z
          (ga_cons (S.e ok h5) k3 (ga_cons (S.e ok h6) k4 (ga_cons (S.e ok h7) k4z ga_nil))) k5 rfl
      · cases h
  | _ => rw [chkS.eq_def] at h; (try dsimp only at h); cases h
theorem step_ss (T : SndS n) (ok : CkOk C X W cf adr j) {sts : List Stmt} {ps : List PL.PS} (h : chkSs (n + 1) C sts ps = true) : GSs X W C.G cf sts ps := by
  rw [chkSs.eq_def] at h; (try dsimp only at h)
  split at h
  · exact gss_nil
  · obtain ⟨h1, h2⟩ := ba h
    exact gss_cons (T.s ok h1) (T.ss ok h2)
  · cases h
theorem step_cs (S : Snd n) (T : SndS n) (ok : CkOk C X W cf adr j) {is : List Nat} {cs : List MatchCase} {pats : List (List Nat)} {gs : List (Option PB)} {bs : List (List PL.PS)} {dfl : List PL.PS} (h : chkCs (n + 1) C is cs pats gs bs dfl = true) :
    PCs X W is cs (fun d => evCs C.G cf d pats gs bs (evSs C.G cf dfl)) := by
  have nd : X.N.Nodup := by rw [ok.N]; exact ok.nd
  rw [chkCs.eq_def] at h; (try dsimp only at h)
  split at h
  · cases dfl with
    | nil => exact pcs_none
    | cons _ _ => cases h
  · obtain ⟨h1, h2⟩ := ba h
    exact pcs_dfl (T.ss ok h1) (subL_ok h2)
  · obtain ⟨h1, h⟩ := ba h
    obtain ⟨h2, h⟩ := ba h
    obtain ⟨h3, h⟩ := ba h
    obtain ⟨h4, h⟩ := ba h
    obtain ⟨h5, h⟩ := ba h
    obtain ⟨h6, h7⟩ := ba h
    have cp := capsB_ok h1
    rw [← ok.N, ← ok.sc] at cp
    refine pcs_cons nd ok.calm cp (by intro e; rw [e] at h2; cases h2) ?_ (T.ss ok h4) (T.cs ok h5) (subL_ok h6) (subL_ok h7)
    split at h3
    · exact .no
    · exact .so (S.t ok h3)
    · cases h3
  · cases h
end
theorem sndS : ∀ n, SndS n
  | 0 => ⟨fun _ h => (nomatch (show false = true from h)), fun _ h => (nomatch (show false = true from h)), fun _ h => (nomatch (show false = true from h))⟩
  | n + 1 => ⟨fun ok h => step_s (snd n) (sndS n) ok h, fun ok h => step_ss (sndS n) ok h, fun ok h => step_cs (snd n) (sndS n) ok h⟩
end PL

-- S38
set_option Elab.async false
set_option linter.all false
set_option maxRecDepth 100000
set_option maxHeartbeats 4000000
namespace PL
open PySem (Str Addr Value Shared Expr Stmt Pos Scope Obj Sem Operator CmpOp binaryOp compareOp inplaceOp sizeLine PyData unaryOp MatchCase Pattern FuncData Arguments)
open L2 (V HO Hp SqL SqT upd upd_same upd_ne St VK TE TT TA TS Ends XK WX PT PW PA Inv Cx R2 OpR rI rI0 tOp Room CallR FnR TG TGs It TI)
/-! ### a def's parameters, all written by place -/
theorem look_zip {α β : Type} [BEq α] [LawfulBEq α] : ∀ {ps : List α} {us : List β}, ps.length = us.length → ∀ n ∈ ps, ∃ u, (ps.zip us).lookup n = some u
  | [], _, _, n, h => by cases h
  | p :: ps, [], hl, n, h => by simp at hl
  | p :: ps, u :: us, hl, n, h => by
    rw [List.zip_cons_cons, List.lookup_cons]
    cases e : n == p with
    | true => exact ⟨u, rfl⟩
    | false =>
      rcases List.mem_cons.mp h with rfl | h
      · simp at e
      · exact look_zip (by simpa using hl) n h
theorem fm_congr {α β : Type} {f g : α → Option β} : ∀ {l : List α}, (∀ a ∈ l, f a = g a) → l.filterMap f = l.filterMap g
  | [], _ => rfl
  | a :: l, h => by
    rw [List.filterMap_cons, List.filterMap_cons, h a List.mem_cons_self, fm_congr fun b hb => h b (List.mem_cons_of_mem _ hb)]
theorem zip_self {α β : Type} [BEq α] [LawfulBEq α] : ∀ {ps : List α} {us : List β}, ps.length = us.length → ps.Nodup → ps.filterMap (fun n => ((ps.zip us).lookup n).map (n, ·)) = ps.zip us
  | [], _, _, _ => rfl
  | p :: ps, [], hl, _ => by simp at hl
  | p :: ps, u :: us, hl, nd => by
    have nd' := List.nodup_cons.mp nd
    have ih := zip_self (ps := ps) (us := us) (by simpa using hl) nd'.2
    have e : ps.filterMap (fun n => (((p :: ps).zip (u :: us)).lookup n).map (n, ·)) = ps.filterMap (fun n => ((ps.zip us).lookup n).map (n, ·)) := fm_congr fun n hn => by
      have : (n == p) = false := by
        cases e : n == p with
        | false => rfl
        | true => exact absurd (beq_iff_eq.mp e ▸ hn) nd'.1
      rw [List.zip_cons_cons, List.lookup_cons, this]
    rw [List.filterMap_cons, e, ih, List.zip_cons_cons, List.lookup_cons, beq_self_eq_true]
    rfl
def plainArgs (a : Arguments) (ps : List Str) : Bool := a.posonlyargs.isEmpty && (a.kwonlyargs.isEmpty && (a.vararg.isNone && (a.kwarg.isNone && decide (a.args.map (·.arg) = ps))))
theorem forIn_same {α σ : Type} {f : α → σ → Sem (ForInStep σ)} {s : σ} : ∀ {l : List α}, (∀ x ∈ l, f x s = pure (.yield s)) → forIn l s f = pure s
  | [], _ => by rw [List.forIn_nil]
  | a :: l, h => by
    rw [List.forIn_cons, h a List.mem_cons_self, pure_bind]
    exact forIn_same fun x hx => h x (List.mem_cons_of_mem _ hx)
theorem binds_plain {fd : FuncData} {ps : List Str} {us : List Value} (hp : plainArgs fd.params ps = true) (nd : ps.Nodup) (hl : us.length = ps.length) :
   ∃ k : Option (Array Value) → Sem (List (Str × Value)), PySem.bindArgs fd ⟨us, []⟩ = PySem.seqItems? fd.defaults >>= k ∧ ∀ its, k its = pure (ps.zip us) := by
  obtain ⟨h1, h⟩ := ba hp
  obtain ⟨h2, h⟩ := ba h
  obtain ⟨h3, h⟩ := ba h
  obtain ⟨h4, h⟩ := ba h
  have e1 : fd.params.posonlyargs = [] := List.isEmpty_iff.mp h1
  have e2 : fd.params.kwonlyargs = [] := List.isEmpty_iff.mp h2
  have e3 : fd.params.vararg = none := Option.isNone_iff_eq_none.mp h3
  have e4 : fd.params.kwarg = none := Option.isNone_iff_eq_none.mp h4
  have e5 := of_decide_eq_true h
  unfold PySem.bindArgs
  simp only [e1, e2, e3, e4, e5, List.map_nil, List.nil_append, List.forIn_nil, pure_bind]
  refine ⟨_, rfl, fun its => ?_⟩
  have g : ¬ (us.length > ps.length) := by omega
  have nn : ∀ n ∈ ps, (List.lookup n (ps.zip us)).isNone = false := fun n hn => by
    obtain ⟨u, hu⟩ := look_zip (us := us) hl.symm n hn
    rw [hu]; rfl
  have f0 : ∀ m, List.filter (fun n => (List.lookup n (ps.zip us)).isNone) (List.take m ps) = [] := fun m => by
    rw [List.filter_eq_nil_iff]
    intro n hn
    rw [nn n (List.mem_of_mem_take hn)]
    simp
  simp only [hl, f0, List.isEmpty_nil, Bool.not_true, Bool.false_eq_true, if_false, gt_iff_lt, Nat.lt_irrefl, decide_false, Bool.false_and, pure_bind, List.append_nil]
  have zs := zip_self (us := us) hl.symm nd
  have loop : ∀ (m : Nat) (ds : List Value), forIn ((ps.drop m).zip ds) (ps.zip us) (fun x (__s : List (Str × Value)) => (if (List.lookup x.fst __s).isNone = true then pure (ForInStep.yield (__s ++ [(x.fst, x.snd)])) else pure (ForInStep.yield __s) : Sem (ForInStep (List (Str × Value))))) = pure (ps.zip us) := fun m ds => by
    refine forIn_same fun x hx => ?_
    have : x.1 ∈ ps := List.mem_of_mem_drop (List.of_mem_zip (show (x.1, x.2) ∈ _ from hx)).1
    rw [nn _ this]
    simp
  simp only [loop, pure_bind, zs]
section
variable {K : PySem.W.Frag} {x qual : Str} {params : Arguments} {body : List Stmt} {scope : Scope} {dvs : List V} {kws : List (Str × V)} {f : Addr} {fd : FuncData} {ps : List Str}
theorem funD_binds (F : L2.FunD K x qual params body scope dvs kws f fd) (hp : plainArgs params ps = true) (nd : ps.Nodup) : L2.Binds K fd ps [] := by
  by_cases hd : dvs = []
  · subst hd
    refine F.bindsN fun kV doc pm an cdv ct us hl => ?_
    obtain ⟨k, e, h⟩ := binds_plain (fd := PySem.W.fnOf x qual params body scope .none kV doc pm an cdv ct) (us := us) hp nd hl
    rw [e]
    show (PySem.seqItems? Value.none >>= k) = _
    have : PySem.seqItems? Value.none = pure none := rfl
    rw [this, pure_bind, h]
  · obtain ⟨ds, r, b⟩ := F.binds1 (ps := ps) ps.length dvs.length hd (by simp) fun T kV doc pm an cdv ct us its hl hi => by
      obtain ⟨k, e, h⟩ := binds_plain (fd := PySem.W.fnOf x qual params body scope (.ref T) kV doc pm an cdv ct) (us := us) hp nd hl
      exact ⟨k, e, by rw [h, ← hi, List.drop_length, List.append_nil]⟩
    rw [List.drop_length] at r
    cases r
    exact b
end
/-! ### *args -/
def starArgsB (a : Arguments) (ps : List Str) (pv : Str) : Bool := a.posonlyargs.isEmpty && (a.kwonlyargs.isEmpty && (decide (a.vararg.map (·.arg) = some pv) && (a.kwarg.isNone && decide (a.args.map (·.arg) = ps))))
theorem zip_left {α β : Type} : ∀ {ps : List α} {us rest : List β}, us.length = ps.length → ps.zip (us ++ rest) = ps.zip us
  | [], _, _, _ => rfl
  | p :: ps, [], _, h => by simp at h
  | p :: ps, u :: us, rest, h => by rw [List.cons_append, List.zip_cons_cons, List.zip_cons_cons, zip_left (by simpa using h)]
theorem binds_star {fd : FuncData} {ps : List Str} {pv : Str} {us rest : List Value} (hp : starArgsB fd.params ps pv = true) (nd : ps.Nodup) (hl : us.length = ps.length) (hd : fd.defaults = .none) :
    PySem.bindArgs fd ⟨us ++ rest, []⟩ = (PySem.newTuple rest >>= fun t => pure (ps.zip us ++ [(pv, t)])) := by
  obtain ⟨h1, h⟩ := ba hp
  obtain ⟨h2, h⟩ := ba h
  obtain ⟨h3, h⟩ := ba h
  obtain ⟨h4, h⟩ := ba h
  have e1 : fd.params.posonlyargs = [] := List.isEmpty_iff.mp h1
  have e2 : fd.params.kwonlyargs = [] := List.isEmpty_iff.mp h2
  obtain ⟨av, e3, e3'⟩ := Option.map_eq_some_iff.mp (of_decide_eq_true h3)
  have e4 : fd.params.kwarg = none := Option.isNone_iff_eq_none.mp h4
  have e5 := of_decide_eq_true h
  have e6 : PySem.seqItems? Value.none = pure none := rfl
  unfold PySem.bindArgs
  simp only [e1, e2, e3, e4, e5, hd, e6, List.map_nil, List.nil_append, List.forIn_nil, pure_bind]
  have nn : ∀ n ∈ ps, (List.lookup n (ps.zip us)).isNone = false := fun n hn => by
    obtain ⟨u, hu⟩ := look_zip (us := us) hl.symm n hn
    rw [hu]; rfl
  have f0 : ∀ m, List.filter (fun n => (List.lookup n (ps.zip us)).isNone) (List.take m ps) = [] := fun m => by
    rw [List.filter_eq_nil_iff]
    intro n hn
    rw [nn n (List.mem_of_mem_take hn)]
    simp
  have zs := zip_self (us := us) hl.symm nd
  have zl : ps.zip (us ++ rest) = ps.zip us := zip_left hl
  have dr : (us ++ rest).drop ps.length = rest := by rw [← hl]; exact List.drop_left
  simp [f0, zs, zl, dr, e3']
  intro x hx hno
  obtain ⟨u, hu⟩ := look_zip (us := us) hl.symm x hx
  exact absurd (look_mem hu) (hno u)
theorem fn_starZ {CX : L2.CXT} {P : PySem.Program} {w : PySem.World} {K : PySem.W.Frag} {mg : Str → Option Value} {base : PySem.Heap} {k : Nat} {f : Addr} {name qual : Str} {params : Arguments} {body : List Stmt} {scope : Scope} {dV kV doc pm cdv ct oc : Value} {an od : Option Addr}
    {osl : Array (Option Value)} {N ps : List Str} {sp : L2.Sp} {pv : Str} (lk : K.lookup f = some ⟨oc, od, .func (PySem.W.fnOf name qual params body scope dV kV doc pm an cdv ct), osl⟩) (hcd : PySem.W.codeIn K cdv qual = true) (S : L2.FnScope N (ps ++ [pv]) scope) (hCX : StX.CXUp CX)
    (hb : ∀ us rest : List Value, us.length = ps.length → PySem.bindArgs (PySem.W.fnOf name qual params body scope dV kV doc pm an cdv ct) ⟨us ++ rest, []⟩ = (PySem.newTuple rest >>= fun t => pure (ps.zip us ++ [(pv, t)])))
    (hbody : ∀ (A : PySem.Around) (outer : List PySem.Env) (s : Shared) (H : Hp) (vs : List V) (Q : VK) (E : XK), Room k (A.deeper (PyProof.Rows.envOfC qual scope s.heap.objs.size f cdv)) → sp vs H Q E →
      ∃ t, L2.PSs (L2.cxOf CX P w K mg base N qual scope f cdv A outer s H E) body t ∧ t { nx := fun _ H' => Q .non H', rt := Q } (L2.start N vs) H) :
    FnR P w K mg base CX (k + 1) f (fun vs H Q E => ∃ ws rest, vs = ws ++ rest ∧ ws.length = ps.length ∧ rest.length ≤ sizeLine ∧ ∀ (p : Addr) (o : Obj), o.dict = none → H p = Option.none → sp (ws ++ [V.ref p]) (upd H p (.frz o (.tup rest))) Q E) := by
  intro A outer s H us vs Q E hr e0 r hsp
  obtain ⟨ws, rest, ev, hl, hz, hq⟩ := hsp
  subst ev
  obtain ⟨u1, u2, eu, r1, r2⟩ := StX.vals_split r
  subst eu
  have hn : H s.heap.objs.size = Option.none := e0.hok.fresh (Nat.le_refl _)
  have hl1 : u1.length = ps.length := by rw [← r1.length]; exact hl
  have hl2 : u2.length ≤ sizeLine := by rw [← r2.length]; exact hz
  refine StX.run_bnd lk hcd S hr e0 (G := fun xs H2 => ∃ (p : Addr) (o : Obj), o.dict = none ∧ H p = Option.none ∧ xs = ws ++ [V.ref p] ∧ H2 = upd H p (.frz o (.tup rest))) (fun A' Ex Q' h => ?_) fun s2 H2 xs ⟨p, o, hd, hp, ex, eH⟩ hr' => ?_
  · rw [hb u1 u2 hl1]
    refine PySem.wpAny_bind (PySem.wpAny_newTuple (PySem.wpAny_pure ?_) hl2)
    have new : L2.ObjOk P w (upd H s.heap.objs.size (.frz { cls := .type "tuple", data := .seq u2.toArray } (.tup rest))) (s.heap.push ({ cls := .type "tuple", data := .seq u2.toArray } : Obj)) s.heap.objs.size (.frz { cls := .type "tuple", data := .seq u2.toArray } (.tup rest)) :=
      ⟨PySem.Heap.get?_push_size _ rfl, hz, u2, r2, ⟨_, PySem.Heap.get?_push_size _ rfl, rfl, _, rfl⟩⟩
    have un := StX.un_laid (fs := L2.frs outer) (s := s) (o := ({ cls := .type "tuple", data := .seq u2.toArray } : Obj)) (u := .frz { cls := .type "tuple", data := .seq u2.toArray } (.tup rest)) hn
    have z := h _ _ (ws ++ [V.ref s.heap.objs.size]) (u1 ++ [Value.ref s.heap.objs.size]) (StX.env0_laid e0 new) un rfl (fun e s' => hCX outer s H _ _ E e s' un (fun b o q => PySem.Heap.get?_push_of_some _ q) rfl) (r1.append (.cons rfl .nil))
      (by rw [List.length_append, List.length_append, hl] <;> rfl) ⟨_, _, rfl, hn, rfl, rfl⟩
    rw [List.zip_append hl1.symm] at z
    exact z
  · subst ex eH
    exact hbody A outer s2 _ _ Q E hr' (hq p o hd hp)
/-! ### all defs -/
@[irreducible] def FUEL : Nat := 200
structure DefOk (K : PySem.W.Frag) (G : Prog) (free : List Str) (f : Fn) (a : Addr) : Prop where
  ex : ∃ (x qual : Str) (params : Arguments) (body : List Stmt) (scope : Scope) (dvs : List V) (kws : List (Str × V)) (fd : FuncData) (N : List Str), L2.FunD K x qual params body scope dvs kws a fd ∧ plainArgs params f.ps = true ∧
    L2.FnScope N f.ps scope ∧ chkSs FUEL ⟨N, scope, false, free, G⟩ body f.body = true ∧ N.length = f.ns ∧ f.ps.length ≤ f.ns ∧ ∀ i ∈ PS.asgss f.body, f.asg.contains i = true
/-- a star def, its last parameter the tuple -/
structure StarOk (K : PySem.W.Frag) (G : Prog) (free : List Str) (f : Fn) (a : Addr) : Prop where
  ex : ∃ (x qual : Str) (params : Arguments) (body : List Stmt) (scope : Scope) (kws : List (Str × V)) (fd : FuncData) (N ps : List Str) (pv : Str), L2.FunD K x qual params body scope [] kws a fd ∧ starArgsB params ps pv = true ∧ f.ps = ps ++ [pv] ∧ f.ps.length = f.npos ∧
    L2.FnScope N f.ps scope ∧ chkSs FUEL ⟨N, scope, false, free, G⟩ body f.body = true ∧ N.length = f.ns ∧ f.ps.length ≤ f.ns ∧ ∀ i ∈ PS.asgss f.body, f.asg.contains i = true
structure WorldOk (K : PySem.W.Frag) (mg : Str → Option Value) (G : Prog) (free : List Str) (adr : FnKey → Addr) : Prop where
  fre : ∀ x, free.contains x = true → mg x = none
  pf : PF K mg G adr
  pi : PI1 K mg G
  tyB : ∀ s ∈ tyL, PT1 K mg G s (.type s)
  tyO : ∀ t, G.oc t = true → ∃ Cc, mg t = some (.ref Cc) ∧ PT1 K mg G t (.ref Cc)
  defs : ∀ k f, G.fns.lookup k = some f → DefOk K G free f (adr k) ∨ f.body = [.bad]
  stars : ∀ k f, G.stars.lookup k = some f → G.fns.lookup k = none ∧ StarOk K G free f (adr k)
  topS : ∀ x f, G.stars.lookup (x, none) = some f → mg x = some (.ref (adr (x, none))) ∧ PySem.W.keepIn K (.ref (adr (x, none))) = true
theorem def_ok {P : PySem.Program} {w : PySem.World} {K : PySem.W.Frag} {mg : Str → Option Value} {base : PySem.Heap} {G : Prog} {free : List Str} {adr : FnKey → Addr} (Wd : WorldOk K mg G free adr) (n : Nat)
    (all : ∀ (k : FnKey) (f : Fn), G.fns.lookup k = some f → FnR P w K mg base (L2.CX P w) (2 * n) (adr k) (spF K mg f.ps.length (evF G n k)))
    (allS : ∀ (k : FnKey) (f : Fn), G.stars.lookup k = some f → FnR P w K mg base (L2.CX P w) (2 * n) (adr k) (spS K mg f (evF G n k))) {k : FnKey} {f : Fn} (hk : G.fns.lookup k = some f)
    {x qual : Str} {params : Arguments} {body : List Stmt} {scope : Scope} {dvs : List V} {kws : List (Str × V)} {fd : FuncData} {N : List Str} {a : Addr} (F : L2.FunD K x qual params body scope dvs kws a fd)
    (S : L2.FnScope N f.ps scope) (hc : chkSs FUEL ⟨N, scope, false, free, G⟩ body f.body = true) (hn : N.length = f.ns) (hle : f.ps.length ≤ f.ns) (hasg : ∀ i ∈ PS.asgss f.body, f.asg.contains i = true) :
    L2.FnOk P w K mg base (L2.CX P w) (2 * n + 1 + 1) a fd f.ps (spF K mg f.ps.length (evF G (n + 1) k)) := by
  have e1 : evF G (n + 1) k = fun ds => if ds.length = f.ps.length then runF G (evF G n) f ds else .bad := by
    funext ds
    show (match G.fns.lookup k with
      | some f => if ds.length = f.ps.length then runF G (evF G n) f ds else .bad
      | none => match G.stars.lookup k with
        | some f => if ds.length = f.ps.length then runF G (evF G n) f ds else .bad
        | none => .bad) = _
    rw [hk]
  refine F.ok S (fun vs H Q E h => h.1) fun cdv A outer s H vs Q E hr h => ?_
  rw [e1] at h
  have ok : CkOk ⟨N, scope, false, free, G⟩ (L2.cxOf (L2.CX P w) P w K mg base N qual scope a cdv A outer s H E) (fun cls d _ H => E cls d H) (evF G n) adr (2 * n) :=
    { N := rfl, nd := S.nd, sc := rfl, calm := rfl, free := Wd.fre, pf := Wd.pf, pi := Wd.pi, tyB := Wd.tyB, tyO := Wd.tyO, hF := fun k f hk => all k f hk, hS := fun k f hk => allS k f hk, topS := Wd.topS, hr := hr,
      tk := L2.takes_of rfl rfl rfl rfl, hp := fun _ => L2.passes_of rfl, fn := fun _ _ => rfl }
  exact ⟨_, ((sndS FUEL).ss ok hc).run, body_sp (P := P) (w := w) (base := base) (sts := body) rfl rfl hn hle hasg h⟩
theorem star_ok {P : PySem.Program} {w : PySem.World} {K : PySem.W.Frag} {mg : Str → Option Value} {base : PySem.Heap} {G : Prog} {free : List Str} {adr : FnKey → Addr} (Wd : WorldOk K mg G free adr) (n : Nat)
    (all : ∀ (k : FnKey) (f : Fn), G.fns.lookup k = some f → FnR P w K mg base (L2.CX P w) (2 * n) (adr k) (spF K mg f.ps.length (evF G n k)))
    (allS : ∀ (k : FnKey) (f : Fn), G.stars.lookup k = some f → FnR P w K mg base (L2.CX P w) (2 * n) (adr k) (spS K mg f (evF G n k))) {k : FnKey} {f : Fn} (hk : G.stars.lookup k = some f) :
    FnR P w K mg base (L2.CX P w) (2 * n + 1 + 1) (adr k) (spS K mg f (evF G (n + 1) k)) := by
  obtain ⟨h0, D⟩ := Wd.stars k f hk
  obtain ⟨x, qual, params, body, scope, kws, fd, N, ps, pv, F, hp, eps, hnp, S, hc, hn, hle, hasg⟩ := D.ex
  obtain ⟨oc, od, dV, kV, doc, pm, an, cdv, ct, osl, rfl, lk, hcd, hD, _⟩ := F.ex
  have hdV : dV = .none := by
    rcases hD with ⟨_, e⟩ | ⟨e, _⟩
    · exact e
    · exact absurd rfl e
  subst hdV
  have e1 : evF G (n + 1) k = fun ds => if ds.length = f.ps.length then runF G (evF G n) f ds else .bad := by
    funext ds
    show (match G.fns.lookup k with
      | some f => if ds.length = f.ps.length then runF G (evF G n) f ds else .bad
      | none => match G.stars.lookup k with
        | some f => if ds.length = f.ps.length then runF G (evF G n) f ds else .bad
        | none => .bad) = _
    rw [h0, hk]
  have nd : ps.Nodup := by
    have : f.ps.Nodup := by rw [← S.pre]; exact S.nd.sublist (List.take_sublist _ _)
    rw [eps] at this
    exact (List.nodup_append.mp this).1
  have S' : L2.FnScope N (ps ++ [pv]) scope := by rw [← eps]; exact S
  have FR := fn_starZ (P := P) (w := w) (mg := mg) (base := base) (k := 2 * n + 1) (sp := spF K mg f.ps.length (evF G (n + 1) k)) lk hcd S' (StX.cxUp (P := P) (w := w)) (fun us rest hl => binds_star hp nd hl rfl) fun A outer s H vs Q E hr h => by
    rw [e1] at h
    have ok : CkOk ⟨N, scope, false, free, G⟩ (L2.cxOf (L2.CX P w) P w K mg base N qual scope (adr k) cdv A outer s H E) (fun cls d _ H => E cls d H) (evF G n) adr (2 * n) :=
      { N := rfl, nd := S.nd, sc := rfl, calm := rfl, free := Wd.fre, pf := Wd.pf, pi := Wd.pi, tyB := Wd.tyB, tyO := Wd.tyO, hF := fun k f hk => all k f hk, hS := fun k f hk => allS k f hk, topS := Wd.topS, hr := hr,
        tk := L2.takes_of rfl rfl rfl rfl, hp := fun _ => L2.passes_of rfl, fn := fun _ _ => rfl }
    exact ⟨_, ((sndS FUEL).ss ok hc).run, body_sp (P := P) (w := w) (base := base) (sts := body) rfl rfl hn hle hasg h⟩
  refine FR.imp fun vs H Q E h => ?_
  have l1 : ps.length = f.npos - 1 := by rw [← hnp, eps]; simp
  have l0 : 0 < f.npos := by rw [← hnp, eps]; simp
  have hv : f.npos ≤ vs.length + 1 := h.1
  refine ⟨vs.take (f.npos - 1), vs.drop (f.npos - 1), (List.take_append_drop _ _).symm, by rw [List.length_take, l1]; omega, ?_, fun p o hd hp' => ?_⟩
  · have := h.2.1
    rw [← line_eq, List.length_drop]
    omega
  · refine spS_body hd hp' hnp l0 (by rw [List.length_take]; omega) ?_
    rw [List.take_append_drop]
    exact h
theorem all_both {P : PySem.Program} {w : PySem.World} {K : PySem.W.Frag} {mg : Str → Option Value} {base : PySem.Heap} {G : Prog} {free : List Str} {adr : FnKey → Addr} (Wd : WorldOk K mg G free adr) :
    ∀ (n : Nat), (∀ (k : FnKey) (f : Fn), G.fns.lookup k = some f → FnR P w K mg base (L2.CX P w) (2 * n) (adr k) (spF K mg f.ps.length (evF G n k))) ∧
      ∀ (k : FnKey) (f : Fn), G.stars.lookup k = some f → FnR P w K mg base (L2.CX P w) (2 * n) (adr k) (spS K mg f (evF G n k))
  | 0 => ⟨fun k f hk A outer s H us vs Q E hr e0 r ⟨_, _, _, _, _, _, c⟩ => by exact False.elim c, fun k f hk A outer s H us vs Q E hr e0 r ⟨_, _, _, _, _, _, c⟩ => by exact False.elim c⟩
  | n + 1 => by
    obtain ⟨ih1, ih2⟩ := all_both (P := P) (w := w) (base := base) Wd n
    refine ⟨fun k f hk => ?_, fun k f hk => star_ok Wd n ih1 ih2 hk⟩
    rcases Wd.defs k f hk with D | D
    · obtain ⟨x, qual, params, body, scope, dvs, kws, fd, N, F, hp, S, hc, hn, hle, hasg⟩ := D.ex
      have nd : f.ps.Nodup := by rw [← S.pre]; exact S.nd.sublist (List.take_sublist _ _)
      exact ((def_ok Wd n ih1 ih2 hk F S hc hn hle hasg).raw (funD_binds F hp nd) .nil).imp fun vs H Q E h => by simpa using h
    · intro A outer s H us vs Q E hr e0 r ⟨_, Fz, ds, B, _, _, c⟩
      have e1 : evF G (n + 1) k ds = .bad := by
        show (match G.fns.lookup k with
          | some f => if ds.length = f.ps.length then runF G (evF G n) f ds else .bad
          | none => match G.stars.lookup k with
            | some f => if ds.length = f.ps.length then runF G (evF G n) f ds else .bad
            | none => .bad) = _
        rw [hk]
        dsimp only
        split
        · unfold runF
          rw [D]
          simp [evSs, evS]
        · rfl
      rw [e1] at c
      exact False.elim c
end PL

-- S39
set_option Elab.async false
set_option linter.all false
set_option maxRecDepth 100000
set_option maxHeartbeats 4000000
namespace PL
open PySem (Str Addr Value Shared Expr Stmt Pos Scope Obj Sem Operator CmpOp sizeLine PyData FuncData Arguments)
open PySem.W (Frag nsIn findIn recIn typeIn specialIn takesIn keepIn isFn fnIn mroIn kitOne readsIn findCls plainGet isClsIn copiedNames)
open L2 (V HO Hp SqL SqT RelV)
open He (ga ma eqO eqO_ok)
/-- where a def's function stands -/
def adrK (K : Frag) : FnKey → Addr
  | (x, none) => ga K x
  | (c, some m) => match recIn K (ma K (ga K c) m) "property" with
    | some (.ref f :: _) => f
    | _ => match recIn K (ma K (ga K c) m) "classmethod" with
      | some (.ref f :: _) => f
      | _ => match recIn K (ma K (ga K c) m) "staticmethod" with
        | some (.ref f :: _) => f
        | _ => ma K (ga K c) m
def gloB (K : Frag) (x : Str) : Bool := (He.Fa.glo x).ok K
def clsB (K : Frag) (x : Str) : Bool := (He.Fa.cls x).ok K
/-! ### values of constants -/
mutual
def conB (K : Frag) : D → Value → Bool
  | .non, .none => true
  | .bl b, .bool c => b == c
  | .int i, .int j _ => decide (i = j)
  | .str s, .str t _ => decide (s = t) && (PyData.strOk s && decide (s.cps.size ≤ LINE))
  | .glb g, .ref a => gloB K g && decide (a = ga K g)
  | .tup ds, .ref a => (match K.lookup a with
    | some ⟨.type n, none, .seq its _, _⟩ => n == "tuple" && (decide (its.size ≤ sizeLine) && conBs K ds its.toList)
    | _ => false)
  | _, _ => false
def conBs (K : Frag) : List D → List Value → Bool
  | [], [] => true
  | d :: ds, u :: us => conB K d u && conBs K ds us
  | _, _ => false
end
section
variable {K : Frag} {h : PySem.Heap} {mg : Str → Option Value}
theorem glo_mg (X : K.In h) (G : h.Ns PySem.mainGlobals mg) {x : Str} (c : gloB K x = true) : mg x = some (.ref (ga K x)) := He.glo_ok X G c
mutual
theorem conB_ok (X : K.In h) (G : h.Ns PySem.mainGlobals mg) : ∀ (d : D) (u : Value), conB K d u = true → ∃ v, RelV v u ∧ ∀ Fz, RF K mg Fz v d
  | .non, u, c => by
    cases u <;> first | (unfold conB at c; cases c; done) | exact ⟨.non, rfl, fun _ => .non⟩
  | .bl b, u, c => by
    cases u <;> first | (unfold conB at c; cases c; done) | skip
    unfold conB at c
    obtain rfl := beq_iff_eq.mp c
    exact ⟨.bl _, rfl, fun _ => .bl _⟩
  | .int i, u, c => by
    cases u <;> first | (unfold conB at c; cases c; done) | skip
    unfold conB at c
    obtain rfl := of_decide_eq_true c
    exact ⟨.int _, ⟨_, rfl⟩, fun _ => .int _⟩
  | .str s, u, c => by
    cases u <;> first | (unfold conB at c; cases c; done) | skip
    unfold conB at c
    obtain ⟨c1, c⟩ := ba c
    obtain ⟨c2, c3⟩ := ba c
    obtain rfl := of_decide_eq_true c1
    exact ⟨.str _, ⟨_, rfl⟩, fun _ => .str _ c2 (of_decide_eq_true c3)⟩
  | .glb g, u, c => by
    cases u <;> first | (unfold conB at c; cases c; done) | skip
    unfold conB at c
    obtain ⟨c1, c2⟩ := ba c
    obtain rfl := of_decide_eq_true c2
    exact ⟨.ref _, rfl, fun _ => .glb (glo_mg X G c1)⟩
  | .tup ds, u, c => by
    cases u <;> first | (unfold conB at c; cases c; done) | skip
    rename_i a
    unfold conB at c
    split at c
    · rename_i n its m sl e
      obtain ⟨c1, c⟩ := ba c
      obtain ⟨c2, c3⟩ := ba c
      obtain rfl := beq_iff_eq.mp c1
      obtain ⟨vs, r1, r2⟩ := conBs_ok X G ds _ c3
      exact ⟨.ref a, rfl, fun Fz => .tup (.inr ⟨_, its, m, e, rfl, rfl, rfl, of_decide_eq_true c2, r1⟩) (r2 Fz)⟩
    · cases c
  | .lst _ _, u, c => by unfold conB at c; cases u <;> cases c
  | .dct _ _ _, u, c => by unfold conB at c; cases u <;> cases c
  | .set _, u, c => by unfold conB at c; cases u <;> cases c
  | .ins _ _ _ _, u, c => by unfold conB at c; cases u <;> cases c
  | .exo _ _ _, u, c => by unfold conB at c; cases u <;> cases c
  | .scr _, u, c => by unfold conB at c; cases u <;> cases c
theorem conBs_ok (X : K.In h) (G : h.Ns PySem.mainGlobals mg) : ∀ (ds : List D) (us : List Value), conBs K ds us = true → ∃ vs, L2.Vals vs us ∧ ∀ Fz, RFs K mg Fz vs ds
  | [], [], _ => ⟨[], .nil, fun _ => .nil⟩
  | [], _ :: _, c => by unfold conBs at c; cases c
  | _ :: _, [], c => by unfold conBs at c; cases c
  | d :: ds, u :: us, c => by
    unfold conBs at c
    obtain ⟨c1, c2⟩ := ba c
    obtain ⟨v, r1, r2⟩ := conB_ok X G d u c1
    obtain ⟨vs, r3, r4⟩ := conBs_ok X G ds us c2
    exact ⟨v :: vs, .cons r1 r3, fun Fz => .cons (r2 Fz) (r4 Fz)⟩
end
end
/-! ### what the module's names stand for -/
def conOkB (K : Frag) (x : Str) (d : D) : Bool := match nsIn K PySem.mainGlobals x with
  | some (some u) => conB K d u
  | _ => false
def cconOkB (K : Frag) (c f : Str) (d : D) : Bool := gloB K c && (clsB K c && (!copiedNames.contains f && (match findIn K (.ref (ga K c)) f with
  | some (some u) => conB K d u && eqO (specialIn K u "__get__") (some none)
  | _ => false)))
def propB (K : Frag) (C : Addr) (f : Str) (g : Addr) : Bool := eqO (findIn K (.ref C) f) (some (some (.ref (ma K C f)))) && (eqO (specialIn K (.ref (ma K C f)) "__get__") (some (some (.builtin "property.__get__"))) &&
  (decide (takesIn K (.ref (ma K C f)) = some true) && (match recIn K (ma K C f) "property" with
    | some (.ref a :: _) => decide (a = g)
    | _ => false)))
def methB (K : Frag) (C : Addr) (m : Str) (g : Addr) : Bool := eqO (findIn K (.ref C) m) (some (some (.ref g))) && (isFn K (.ref g) && keepIn K (.ref g))
def mkB (K : Frag) (C : Addr) (g : Addr) : Bool := PySem.W.makesIn K C && (eqO (findIn K (.ref C) "__init__") (some (some (.ref g))) && (isFn K (.ref g) && keepIn K (.ref C)))
def clsmB (K : Frag) (C : Addr) (m : Str) (g : Addr) : Bool := (readsIn K C (.type "type") && eqO (specialIn K (.ref C) "__getattribute__") (some (some (.builtin "type.__getattribute__")))) &&
  ((match findCls K (.ref C) (.type "type") m with
    | some (.get (.builtin gid) (.ref p) .none (.ref D)) => decide (gid = "classmethod.__get__") && (decide (p = ma K C m) && decide (D = C))
    | _ => false) && ((match recIn K (ma K C m) "classmethod" with
    | some (.ref a :: _) => decide (a = g)
    | _ => false) && (fnIn K g && (plainGet K C Str.empty && (isClsIn K C && (eqO (findIn K (.ref C) m) (some (some (.ref (ma K C m)))) && (decide (typeIn K (.ref (ma K C m)) = some (.type "classmethod")) &&
      (eqO (specialIn K (.ref (ma K C m)) "__get__") (some (some (.builtin "classmethod.__get__"))) && (decide (takesIn K (.ref (ma K C m)) = some false) && !copiedNames.contains m)))))))))
def mkindB (K : Frag) (c m : Str) (kd : MK) (k : FnKey) : Bool := gloB K c && (clsB K c && (match kd with
  | .inst => methB K (ga K c) m (adrK K k)
  | .prop => propB K (ga K c) m (adrK K k)
  | .clsm => clsmB K (ga K c) m (adrK K k)
  | .stat => true))
def initB (K : Frag) (G : Prog) (c m : Str) (kd : MK) (k : FnKey) : Bool := !(decide (kd = .inst) && (decide (m = ("__init__" : Str)) && (G.cls.lookup c).isSome)) || mkB K (ga K c) (adrK K k)
def insB (K : Frag) (c : Str) : Bool := gloB K c && (clsB K c && (eqO (findIn K (.ref (ga K c)) "__class__") (some (some (.builtin "object.__class__"))) && decide (mroIn K (ga K c) (.type "object") = some true)))
def tyTab : List (String × List Str) := [("NoneType", ["NoneType"]), ("bool", ["bool", "int"]), ("int", ["int"]), ("str", ["str"]), ("tuple", ["tuple"]), ("list", ["list"]), ("dict", ["dict"])]
def ptB (K : Frag) (G : Prog) (t : Str) (u : Value) : Bool := (tyTab.all fun p => decide (kitOne K (.type p.1) u = some (p.2.contains t))) && (G.cls.all fun p => !G.oc p.1 || decide (kitOne K (.ref (ga K p.1)) u = some ((G.mroOf p.1).contains t)))
def worldB (K : Frag) (G : Prog) (free : List Str) : Bool :=
  (free.all fun x => eqO (nsIn K PySem.mainGlobals x) (some none)) && ((G.cls.all fun p => p.2.flds.all fun f => gloB K p.1 && (clsB K p.1 && eqO (findIn K (.ref (ga K p.1)) f) (some none))) &&
  ((G.meth.all fun p => mkindB K p.1.1 p.1.2 p.2.1 p.2.2 && initB K G p.1.1 p.1.2 p.2.1 p.2.2) && ((G.ccon.all fun p => cconOkB K p.1.1 p.1.2 p.2) && ((G.con.all fun p => conOkB K p.1 p.2) &&
  ((((G.fns.all fun p => p.1.2.isSome || (gloB K p.1.1 && keepIn K (.ref (ga K p.1.1)))) && (G.stars.all fun p => p.1.2.isSome || (gloB K p.1.1 && keepIn K (.ref (ga K p.1.1)))))) && ((G.cls.all fun p => !G.oc p.1 || insB K p.1) &&
  ((eqO (specialIn K (.builtin "object.__class__") "__get__") (some (some (.builtin "getset_descriptor.__get__"))) && decide (takesIn K (.builtin "object.__class__") = some true)) &&
  ((tyL.all fun s => ptB K G s (.type s)) && (G.cls.all fun p => !G.oc p.1 || (gloB K p.1 && ptB K G p.1 (.ref (ga K p.1))))))))))))
section
variable {K : Frag} {h : PySem.Heap} {mg : Str → Option Value} {G : Prog} {free : List Str}
theorem oc_mem {t : Str} (ho : G.oc t = true) : ∃ k, (t, k) ∈ G.cls := by
  unfold Prog.oc at ho
  cases e : G.cls.lookup t with
  | none => rw [e] at ho; cases ho
  | some k => exact ⟨k, look_mem e⟩
theorem ty_tab {d : D} {s : String} (hd : d.ty = some s) : (s, tyNames d) ∈ tyTab := by
  cases d <;> simp only [D.ty] at hd <;> cases hd <;> simp [tyTab, tyNames]
theorem ptB_ok (X : K.In h) (N : h.Ns PySem.mainGlobals mg) {t : Str} {u : Value} (hi : ∀ c, G.oc c = true → gloB K c = true) (c : ptB K G t u = true) : PT1 K mg G t u := by
  obtain ⟨c1, c2⟩ := ba c
  refine ⟨fun d s hd => of_decide_eq_true (List.all_eq_true.mp c1 _ (ty_tab hd)), fun cn C ho g => ?_⟩
  obtain ⟨k, hk⟩ := oc_mem ho
  have z := List.all_eq_true.mp c2 _ hk
  dsimp only at z
  rw [ho] at z
  have e := glo_mg X N (hi cn ho)
  rw [g] at e
  cases e
  exact of_decide_eq_true (by simpa using z)
theorem worldB_ok (X : K.In h) (N : h.Ns PySem.mainGlobals mg) (c : worldB K G free = true) (hd : ∀ k f, G.fns.lookup k = some f → DefOk K G free f (adrK K k) ∨ f.body = [.bad]) (hds : ∀ k f, G.stars.lookup k = some f → G.fns.lookup k = none ∧ StarOk K G free f (adrK K k)) : WorldOk K mg G free (adrK K) := by
  obtain ⟨c1, c⟩ := ba c
  obtain ⟨c2, c⟩ := ba c
  obtain ⟨c3, c⟩ := ba c
  obtain ⟨c4, c⟩ := ba c
  obtain ⟨c5, c⟩ := ba c
  obtain ⟨c6, c⟩ := ba c
  obtain ⟨c6, c6s⟩ := ba c6
  obtain ⟨c7, c⟩ := ba c
  obtain ⟨c8, c⟩ := ba c
  obtain ⟨c9, c10⟩ := ba c
  have hins : ∀ cn, G.oc cn = true → insB K cn = true := fun cn ho => by
    obtain ⟨k, hk⟩ := oc_mem ho
    have z := List.all_eq_true.mp c7 _ hk
    dsimp only at z
    rw [ho] at z
    simpa using z
  have hglo : ∀ cn, G.oc cn = true → gloB K cn = true := fun cn ho => (ba (hins cn ho)).1
  have hm : ∀ cn f kd k, G.meth.lookup (cn, f) = some (kd, k) → mkindB K cn f kd k = true ∧ initB K G cn f kd k = true := fun cn f kd k e => ba (List.all_eq_true.mp c3 _ (look_mem e))
  have gl : ∀ {cn f kd k}, mkindB K cn f kd k = true → ∀ C, mg cn = some (.ref C) → C = ga K cn := fun {cn f kd k} q C hC => by
    have e := glo_mg X N (ba q).1
    rw [hC] at e
    cases e; rfl
  refine { fre := fun x hx => ?_, pf := ?_, pi := ?_, tyB := fun s hs => ptB_ok X N hglo (List.all_eq_true.mp c9 s hs), tyO := fun t ht => ?_, defs := hd, stars := hds, topS := fun x f e => ?_ }
  · exact He.free_ok X N (x := x) (List.all_eq_true.mp c1 x (by simpa using hx))
  · constructor
    · intro cn f hf
      unfold Prog.fld at hf
      cases e : G.cls.lookup cn with
      | none => rw [e] at hf; cases hf
      | some k =>
        rw [e] at hf
        obtain ⟨q1, q⟩ := ba (List.all_eq_true.mp (List.all_eq_true.mp c2 _ (look_mem e)) f (by simpa using hf))
        obtain ⟨q2, q3⟩ := ba q
        exact ⟨_, glo_mg X N q1, He.cls_ok q2, eqO_ok q3⟩
    · intro cn f kk e
      obtain ⟨kd, k⟩ := kk
      obtain ⟨q1, q⟩ := ba (hm _ _ _ _ e).1
      exact ⟨_, glo_mg X N q1, He.cls_ok (ba q).1⟩
    · intro cn f k e C hC
      have q := (hm _ _ _ _ e).1
      obtain rfl := gl q C hC
      obtain ⟨k1, k⟩ := ba (show propB K (ga K cn) f (adrK K k) = true from (ba (ba q).2).2)
      obtain ⟨k2, k⟩ := ba k
      obtain ⟨k3, k4⟩ := ba k
      refine ⟨_, eqO_ok k1, eqO_ok k2, of_decide_eq_true k3, ?_⟩
      split at k4
      · rename_i a rest e2
        obtain rfl := of_decide_eq_true k4
        exact ⟨rest, e2⟩
      · cases k4
    · intro cn f k e C hC
      have q := (hm _ _ _ _ e).1
      obtain rfl := gl q C hC
      obtain ⟨k1, k⟩ := ba (show methB K (ga K cn) f (adrK K k) = true from (ba (ba q).2).2)
      obtain ⟨k2, k3⟩ := ba k
      exact ⟨eqO_ok k1, k2, k3⟩
    · intro cn m k e C hC
      have q := (hm _ _ _ _ e).1
      obtain rfl := gl q C hC
      obtain ⟨k0, kk⟩ := ba (show clsmB K (ga K cn) m (adrK K k) = true from (ba (ba q).2).2)
      obtain ⟨k1, k2⟩ := ba k0
      obtain ⟨k3, kk⟩ := ba kk
      obtain ⟨k4, kk⟩ := ba kk
      obtain ⟨k5, kk⟩ := ba kk
      obtain ⟨k6, kk⟩ := ba kk
      obtain ⟨k7, kk⟩ := ba kk
      obtain ⟨k8, kk⟩ := ba kk
      obtain ⟨k9, kk⟩ := ba kk
      obtain ⟨k10, kk⟩ := ba kk
      obtain ⟨k11, k12⟩ := ba kk
      have rc : ∃ rest, recIn K (ma K (ga K cn) m) "classmethod" = some (.ref (adrK K k) :: rest) := by
        split at k4
        · rename_i a rest e2
          obtain rfl := of_decide_eq_true k4
          exact ⟨rest, e2⟩
        · cases k4
      refine ⟨⟨.type "type", ma K (ga K cn) m, ⟨k1, eqO_ok k2⟩, ⟨?_, rc, k5⟩⟩, _, ⟨k6, k7, eqO_ok k8, of_decide_eq_true k9, eqO_ok k10, of_decide_eq_true k11, by simpa using k12, rc, k5⟩⟩
      split at k3
      · rename_i gid p D e2
        obtain ⟨j1, j⟩ := ba k3
        obtain ⟨j2, j3⟩ := ba j
        rw [e2, of_decide_eq_true j1, of_decide_eq_true j2, of_decide_eq_true j3]
      · cases k3
    · intro cn f d e C hC
      obtain ⟨q1, q⟩ := ba (List.all_eq_true.mp c4 _ (look_mem e))
      obtain ⟨q2, q⟩ := ba q
      obtain ⟨q3, q4⟩ := ba q
      have e1 := glo_mg X N q1
      rw [hC] at e1
      cases e1
      refine ⟨He.cls_ok q2, ?_⟩
      dsimp only at q4
      split at q4
      · rename_i u e2
        obtain ⟨q5, q6⟩ := ba q4
        obtain ⟨v, r1, r2⟩ := conB_ok X N d u q5
        exact ⟨v, u, ⟨e2, r1, eqO_ok q6, by simpa using q3⟩, r2⟩
      · cases q4
    · intro cn kc key e1 e2
      obtain ⟨q1, q2⟩ := hm _ _ _ _ e2
      unfold initB at q2
      rw [e1] at q2
      have q3 : mkB K (ga K cn) (adrK K key) = true := by simpa using q2
      obtain ⟨k1, k⟩ := ba q3
      obtain ⟨k2, k⟩ := ba k
      obtain ⟨k3, k4⟩ := ba k
      exact ⟨_, glo_mg X N (ba q1).1, k1, eqO_ok k2, k3, k4⟩
    · intro x d e
      have q := List.all_eq_true.mp c5 _ (look_mem e)
      unfold conOkB at q
      split at q
      · rename_i u e2
        obtain ⟨v, r1, r2⟩ := conB_ok X N d u q
        exact ⟨v, u, PySem.W.mg_of X N e2, r1, r2⟩
      · cases q
    · intro x f e
      have q := List.all_eq_true.mp c6 _ (look_mem e)
      obtain ⟨q1, q2⟩ := ba (show (gloB K x && keepIn K (.ref (ga K x))) = true from by simpa using q)
      exact ⟨glo_mg X N q1, q2⟩
  · obtain ⟨k1, k2⟩ := ba c8
    refine ⟨fun cn C ho hC => ?_, eqO_ok k1, of_decide_eq_true k2⟩
    obtain ⟨q1, q⟩ := ba (hins cn ho)
    obtain ⟨q2, q⟩ := ba q
    obtain ⟨q3, q4⟩ := ba q
    have e := glo_mg X N q1
    rw [hC] at e
    cases e
    exact ⟨He.cls_ok q2, eqO_ok q3, of_decide_eq_true q4⟩
  · obtain ⟨k, hk⟩ := oc_mem ht
    have z := List.all_eq_true.mp c10 _ hk
    dsimp only at z
    rw [ht] at z
    obtain ⟨z1, z2⟩ := ba (show (gloB K t && ptB K G t (.ref (ga K t))) = true from by simpa using z)
    exact ⟨_, glo_mg X N z1, ptB_ok X N hglo z2⟩
  · have q := List.all_eq_true.mp c6s _ (look_mem e)
    obtain ⟨q1, q2⟩ := ba (show (gloB K x && keepIn K (.ref (ga K x))) = true from by simpa using q)
    exact ⟨glo_mg X N q1, q2⟩
end
end PL

-- S40
set_option Elab.async false
set_option linter.all false
set_option maxRecDepth 100000
set_option maxHeartbeats 4000000
namespace PL
open PySem (Str Addr Value Shared Expr Stmt Pos Scope Obj Sem Operator CmpOp sizeLine PyData FuncData Arguments)
open PySem.W (Frag nsIn)
open L2 (V HO Hp SqL SqT RelV)
/-! ### a program's table -/
structure Ent where
  key : FnKey
  fn : Fn
  N : List Str
  st : Stmt
  qual : Str
  dfl : List He.Dv := []
def Fn.none (f : Fn) : Bool := match f.body with
  | [.bad] => true
  | _ => false
def Ent.dA (e : Ent) : He5.DefA := { at_ := fun K => adrK K e.key, name := e.key.2.getD e.key.1, qual := e.qual, params := L2.defArgs e.st, body := L2.defBody e.st, scope := L2.defScope e.st, dfl := e.dfl }
def scopeB (N ps : List Str) (sc : Scope) : Bool := decide (sc.kind = .function) && (decide (sc.isCoroutine = false) && (decide (sc.isGenerator = false) && (decide N.Nodup && (decide (N.take ps.length = ps) &&
  ((ps.all fun x => decide (sc.names.lookup x = some .local ∨ sc.names.lookup x = some .cell)) && sc.names.all fun y => decide (y.2 ≠ .free))))))
theorem scopeB_ok {N ps : List Str} {sc : Scope} (h : scopeB N ps sc = true) : L2.FnScope N ps sc := by
  obtain ⟨h1, h⟩ := ba h
  obtain ⟨h2, h⟩ := ba h
  obtain ⟨h3, h⟩ := ba h
  obtain ⟨h4, h⟩ := ba h
  obtain ⟨h5, h⟩ := ba h
  obtain ⟨h6, h7⟩ := ba h
  exact ⟨of_decide_eq_true h1, of_decide_eq_true h2, of_decide_eq_true h3, of_decide_eq_true h4, of_decide_eq_true h5, fun x hx => of_decide_eq_true (List.all_eq_true.mp h6 x hx), fun y hy => of_decide_eq_true (List.all_eq_true.mp h7 y hy)⟩
def Ent.okB (G : Prog) (free : List Str) (e : Ent) : Bool := e.fn.none || (plainArgs (L2.defArgs e.st) e.fn.ps && (scopeB e.N e.fn.ps (L2.defScope e.st) && (chkSs FUEL ⟨e.N, L2.defScope e.st, false, free, G⟩ (L2.defBody e.st) e.fn.body &&
  (decide (e.N.length = e.fn.ns) && (decide (e.fn.ps.length ≤ e.fn.ns) && (PS.asgss e.fn.body).all e.fn.asg.contains)))))
/-- a star def -/
def Ent.okS (G : Prog) (free : List Str) (e : Ent) : Bool := !e.fn.none && (decide (e.dfl.length = 0) && ((match (L2.defArgs e.st).vararg with
  | some a => starArgsB (L2.defArgs e.st) (e.fn.ps.take (e.fn.ps.length - 1)) a.arg && decide (e.fn.ps = e.fn.ps.take (e.fn.ps.length - 1) ++ [a.arg])
  | none => false) && (decide (e.fn.ps.length = e.fn.npos) && (scopeB e.N e.fn.ps (L2.defScope e.st) && (chkSs FUEL ⟨e.N, L2.defScope e.st, false, free, G⟩ (L2.defBody e.st) e.fn.body &&
  (decide (e.N.length = e.fn.ns) && (decide (e.fn.ps.length ≤ e.fn.ns) && ((PS.asgss e.fn.body).all e.fn.asg.contains && decide ((G.fns.map (·.1)).contains e.key = false)))))))))
def tabFn (t : List Ent) : List He5.DefA := (t.filter fun e => !e.fn.none).map Ent.dA
/-! ### the Hook -/
def obsP (n : Nat) (fn : List He5.DefA) (ex : Frag → Bool) (g : Addr → Option Obj) : He.AlD × Bool := (He5.obsA [] fn (He.frG g (He5.asA g n)), ex (He.frG g (He5.asA g n)))
def hookP (n : Nat) (fn : List He5.DefA) (ex : Frag → Bool) : PySem.W.Hook where
  α := He.AlD × Bool
  obs := fun s => obsP n fn ex s.heap.get?
  val := fun _ => (He5.valA fn, true)
  says := fun _ h => ∃ K : Frag, K.In h ∧ He5.SaysA [] fn K ∧ ex K = true
  of := fun _ _ e => ⟨_, He.frG_in, congrArg (fun z : He.AlD × Bool => z.1) e, congrArg (fun z : He.AlD × Bool => z.2) e⟩
  keeps := fun _ _ _ ⟨K, hK, c⟩ k => ⟨K, PySem.W.Frag.In.keeps hK k, c⟩
theorem obsP_eq {n : Nat} {fn : List He5.DefA} {ex : Frag → Bool} {g : Addr → Option Obj} {s : Shared} (h : ∀ a, g a = s.heap.get? a) : obsP n fn ex g = (hookP n fn ex).obs s := by
  have e : g = s.heap.get? := funext h
  rw [e] <;> rfl
theorem says_mem {fn : List He5.DefA} {K : Frag} (c : He5.SaysA [] fn K) {d : He5.DefA} (h : d ∈ fn) : ∃ fd, L2.FunD K d.name d.qual d.params d.body d.scope (d.dvs K) (d.kws K) (d.at_ K) fd := by
  obtain ⟨i, hi, e⟩ := List.mem_iff_getElem.mp h
  exact c.def_ i (d := d) (by rw [List.getElem?_eq_getElem hi, e])
section
variable {G : Prog} {free : List Str} {t : List Ent} {K : Frag} {h : PySem.Heap} {mg : Str → Option Value}
theorem none_eq {f : Fn} (h : f.none = true) : f.body = [.bad] := by
  unfold Fn.none at h
  split at h
  · assumption
  · cases h
theorem ent_of (hG : G.fns = t.map fun e => (e.key, e.fn)) {k : FnKey} {f : Fn} (hk : G.fns.lookup k = some f) : ∃ e ∈ t, e.key = k ∧ e.fn = f := by
  rw [hG] at hk
  obtain ⟨e, he, q⟩ := List.mem_map.mp (look_mem hk)
  cases q
  exact ⟨e, he, rfl, rfl⟩
theorem ent_ok {ts : List Ent} (hB : (t.all (Ent.okB G free)) = true) (c : He5.SaysA [] (tabFn (t ++ ts)) K) {e : Ent} (he : e ∈ t) (hn : e.fn.none = false) :
    ∃ fd, L2.FunD K (e.key.2.getD e.key.1) e.qual (L2.defArgs e.st) (L2.defBody e.st) (L2.defScope e.st) (e.dA.dvs K) (e.dA.kws K) (adrK K e.key) fd ∧ plainArgs (L2.defArgs e.st) e.fn.ps = true ∧ L2.FnScope e.N e.fn.ps (L2.defScope e.st) ∧
      chkSs FUEL ⟨e.N, L2.defScope e.st, false, free, G⟩ (L2.defBody e.st) e.fn.body = true ∧ e.N.length = e.fn.ns ∧ e.fn.ps.length ≤ e.fn.ns ∧ ∀ i ∈ PS.asgss e.fn.body, e.fn.asg.contains i = true := by
  have b := List.all_eq_true.mp hB e he
  unfold Ent.okB at b
  rw [hn] at b
  obtain ⟨b1, b⟩ := ba (show (_ && _) = true from b)
  obtain ⟨b2, b⟩ := ba b
  obtain ⟨b3, b⟩ := ba b
  obtain ⟨b4, b⟩ := ba b
  obtain ⟨b5, b6⟩ := ba b
  obtain ⟨fd, F⟩ := says_mem c (d := e.dA) (List.mem_map.mpr ⟨e, List.mem_filter.mpr ⟨List.mem_append_left _ he, by rw [hn]; rfl⟩, rfl⟩)
  exact ⟨fd, F, b1, scopeB_ok b2, b3, of_decide_eq_true b4, of_decide_eq_true b5, fun i hi => List.all_eq_true.mp b6 i hi⟩
theorem look_none {α β : Type} [BEq α] [LawfulBEq α] {k : α} : ∀ {l : List (α × β)}, (l.map (·.1)).contains k = false → l.lookup k = none
  | [], _ => rfl
  | (a, b) :: l, h => by
    rw [List.map_cons, List.contains_cons, Bool.or_eq_false_iff] at h
    rw [List.lookup_cons, h.1]
    exact look_none h.2
theorem star_of {ts : List Ent} (hS : G.stars = ts.map fun e => (e.key, e.fn)) (hBS : (ts.all (Ent.okS G free)) = true) (c : ∀ e ∈ ts, ∃ fd, L2.FunD K (e.key.2.getD e.key.1) e.qual (L2.defArgs e.st) (L2.defBody e.st) (L2.defScope e.st) (e.dA.dvs K) (e.dA.kws K) (adrK K e.key) fd) {k : FnKey} {f : Fn} (hk : G.stars.lookup k = some f) :
    G.fns.lookup k = none ∧ StarOk K G free f (adrK K k) := by
  rw [hS] at hk
  obtain ⟨e, he, q⟩ := List.mem_map.mp (look_mem hk)
  cases q
  have b := List.all_eq_true.mp hBS e he
  obtain ⟨b0, b⟩ := ba b
  obtain ⟨b1, b⟩ := ba b
  obtain ⟨b2, b⟩ := ba b
  obtain ⟨b3, b⟩ := ba b
  obtain ⟨b4, b⟩ := ba b
  obtain ⟨b5, b⟩ := ba b
  obtain ⟨b6, b⟩ := ba b
  obtain ⟨b7, b⟩ := ba b
  obtain ⟨b8, b9⟩ := ba b
  refine ⟨look_none (of_decide_eq_true b9), ?_⟩
  obtain ⟨fd, F⟩ := c e he
  have d0 : e.dfl = [] := List.eq_nil_of_length_eq_zero (of_decide_eq_true b1)
  have dv : e.dA.dvs K = [] := by show e.dfl.map _ = []; rw [d0]; rfl
  rw [dv] at F
  split at b2
  · rename_i a ea
    obtain ⟨b21, b22⟩ := ba b2
    exact ⟨⟨_, _, _, _, _, _, fd, _, _, a.arg, F, b21, of_decide_eq_true b22, of_decide_eq_true b3, scopeB_ok b4, b5, of_decide_eq_true b6, of_decide_eq_true b7, fun i hi => List.all_eq_true.mp b8 i hi⟩⟩
  · cases b2
theorem world_of (X : K.In h) (N : h.Ns PySem.mainGlobals mg) (hG : G.fns = t.map fun e => (e.key, e.fn)) (hB : (t.all (Ent.okB G free)) = true) {ts : List Ent} (c : He5.SaysA [] (tabFn (t ++ ts)) K) (cw : worldB K G free = true) (hS : G.stars = ts.map fun e => (e.key, e.fn)) (hBS : (ts.all (Ent.okS G free)) = true) : WorldOk K mg G free (adrK K) := by
  refine worldB_ok X N cw ?_ fun k f hk => star_of hS hBS (fun e he => ?_) hk
  rotate_left
  · have b := List.all_eq_true.mp hBS e he
    obtain ⟨b0, b⟩ := ba b
    obtain ⟨fd, F⟩ := says_mem c (d := e.dA) (List.mem_map.mpr ⟨e, List.mem_filter.mpr ⟨List.mem_append_right _ he, by simpa using b0⟩, rfl⟩)
    exact ⟨fd, F⟩
  · intro k f hk
    obtain ⟨e, he, rfl, rfl⟩ := ent_of hG hk
    cases hn : e.fn.none with
    | true => exact .inr (none_eq hn)
    | false =>
      obtain ⟨fd, F, b1, b2, b3, b4, b5, b6⟩ := ent_ok hB c he hn
      exact .inl ⟨⟨_, _, _, _, _, _, _, fd, _, F, b1, b2, b3, b4, b5, b6⟩⟩
/-- nothing comes out -/
theorem fn_nox {P : PySem.Program} {w : PySem.World} {base : PySem.Heap} {k : Nat} {f : Addr} {fd : FuncData} {ps : List Str} {sp : L2.Sp} (F : L2.FnOk P w K mg base (L2.CX P w) k f fd ps sp) :
    L2.FnOk P w K mg base L2.CX0 k f fd ps (fun vs H Q _ => sp vs H Q fun _ _ _ => False) := by
  refine ⟨fun vs H Q E h => F.len _ _ _ _ h, fun A outer s H args us vs Q E hr e0 hb hv h => ?_⟩
  refine PySem.codeAny_mono (F.run A outer s H args us vs Q _ hr e0 hb hv h) fun z s' hz => ?_
  match z, hz with
  | .error e, hz =>
    obtain ⟨_, _, _, _, _, _, _, _, _, _, _, _, z⟩ := hz
    exact z.elim
  | .ok (.ret u), hz => exact hz
  | .ok .next, hz => exact hz
  | .ok .brk, hz => exact hz
  | .ok .cont, hz => exact hz
/-- the law's def: what the walk's end asks -/
theorem law_end {P : PySem.Program} {w : PySem.World} {n : Nat} {e : Ent} {fa : Addr} (X : K.In h) (N : h.Ns PySem.mainGlobals mg) (hG : G.fns = t.map fun e => (e.key, e.fn)) {ts : List Ent} (hB : (t.all (Ent.okB G free)) = true) (c : He5.SaysA [] (tabFn (t ++ ts)) K)
    (cw : worldB K G free = true) (he : e ∈ t) (hk : G.fns.lookup e.key = some e.fn) (hn : e.fn.none = false) (hkey : e.key = (("law" : Str), none)) (hps : e.fn.ps = [("script" : Str)]) (hd : e.dfl = []) (hfa : mg "law" = some (.ref fa))
    (hS : G.stars = ts.map fun e => (e.key, e.fn)) (hBS : (ts.all (Ent.okS G free)) = true) (plain : ∀ ns : List Int, ns.length ≤ 63 → ∃ fin, evF G (n + 1) (("law" : Str), none) [.scr ns] = .ret (.bl true) fin) :
    ∃ (K : Frag) (fd : FuncData) (sp : L2.Sp), K.In h ∧ (∀ (s : Shared) (u : Value), PySem.BindsTo s fd ⟨[u], []⟩ [("script", u)]) ∧
      (∀ (H : Hp) (a : Addr) (ns : List Int), ns.length ≤ 63 → L2.Only H → SqL K H a (ns.map V.int) → sp [.ref a] H (fun v _ => v = .bl true) fun _ _ _ => False) ∧
      ∀ base : PySem.Heap, K.In base → base.Ns PySem.mainGlobals mg → L2.FnOk P w K mg base L2.CX0 (2 * n + 1 + 1) fa fd [("script" : Str)] sp := by
  obtain ⟨fd, F, b1, b2, b3, b4, b5, b6⟩ := ent_ok hB c he hn
  have Wd := world_of X N hG hB c cw hS hBS
  obtain ⟨g1, g2⟩ := Wd.pf.top "law" e.fn (by rw [← hkey]; exact hk)
  have ea : adrK K e.key = fa := by
    rw [hkey]
    rw [hfa] at g1
    cases g1; rfl
  rw [ea] at F
  have dv : e.dA.dvs K = [] := by show e.dfl.map _ = []; rw [hd]; rfl
  rw [dv] at F
  rw [hps] at b1 b2 b5
  have e1 : e.fn.ps.length = 1 := by rw [hps]; rfl
  refine ⟨K, fd, (fun vs H Q _ => spF K mg 1 (evF G (n + 1) e.key) vs H Q fun _ _ _ => False), X, fun s u => ?_, fun H a ns hl hO hS => ?_, fun base _ _ => ?_⟩
  · refine F.bindsA (ps := [("script" : Str)]) (fun kV doc pm an cdv ct us hl => ?_) s [u] rfl
    obtain ⟨k, e2, h2⟩ := binds_plain (fd := PySem.W.fnOf (e.key.2.getD e.key.1) e.qual (L2.defArgs e.st) (L2.defBody e.st) (L2.defScope e.st) .none kV doc pm an cdv ct) (us := us) b1 (by simp) hl
    rw [e2]
    show (PySem.seqItems? Value.none >>= k) = _
    have : PySem.seqItems? Value.none = pure none := rfl
    rw [this, pure_bind, h2]
  · refine ⟨rfl, H, [.scr ns], [], ⟨fun _ _ e => e, by simp, fun a h => (nomatch h), fun a h => (nomatch h)⟩, .cons (B := []) (.sh (.scr hS)) .nil, ?_⟩
    obtain ⟨fin, hf⟩ := plain ns hl
    rw [hkey, hf]
    intro v Fz H' A B ok re ro st
    exact ro.bl
  · have z := def_ok (P := P) (w := w) (base := base) Wd n (all_both Wd n).1 (all_both Wd n).2 hk F (by rw [hps]; exact b2) b3 b4 (by rw [e1]; rw [show ([("script" : Str)] : List Str).length = 1 from rfl] at b5; exact b5) b6
    rw [hps] at z
    exact fn_nox z
end
end PL

-- BG
set_option linter.all false
set_option maxRecDepth 100000
namespace BG
open PL PySem
def f_is_integer : Fn := { ps := ["value"], npos := 1, star := false, dfl := [], ns := 1, asg := [], body := [
      .ret (.and (.isi (.var 0) ["int"]) (.not (.isi (.var 0) ["bool"])))] }
@[simp] theorem ps_is_integer : f_is_integer.ps = (["value"] : List Str) := rfl
def b_is_bag_0 : List PS := [.ite (.or (.not (.val (.isi (.var 2) ["tuple"]))) (.val (.cmp .NotEq (.blt .len [(.var 2)]) (.lit (.int 2))))) [.ret (.lit (.bl false))] [], .asg (.tup [(.nm 3), (.nm 4)]) (.var 2), .ite (.or (.not (.val (.call "is_integer" [(.var 3)]))) (.or (.not (.val (.call "is_integer" [(.var 4)]))) (.val (.cmp .Lt (.var 4) (.lit (.int 1)))))) [.ret (.lit (.bl false))] [], .ite (.and (.val (.cmp .NotEq (.var 1) (.lst []))) (.val (.cmp .LtE (.var 3) (.sub (.var 1) (.neg (.lit (.int 1))))))) [.ret (.lit (.bl false))] [], .expr (.bmeth (.var 1) "append" [(.var 3)])]
def l_is_bag_0 : PS := .for_ (.nm 2) .seq [(.var 0)] b_is_bag_0
def f_is_bag : Fn := { ps := ["value"], npos := 1, star := false, dfl := [], ns := 5, asg := [1, 2, 3, 4], body := [
      .ite (.not (.val (.isi (.var 0) ["tuple"]))) [.ret (.lit (.bl false))] [],
      .asg (.nm 1) (.lst []),
      l_is_bag_0,
      .ret (.lit (.bl true))] }
@[simp] theorem ps_is_bag : f_is_bag.ps = (["value"] : List Str) := rfl
def f_check_bag : Fn := { ps := ["value"], npos := 1, star := false, dfl := [], ns := 1, asg := [], body := [
      .ite (.not (.val (.call "is_bag" [(.var 0)]))) [.bad] []] }
@[simp] theorem ps_check_bag : f_check_bag.ps = (["value"] : List Str) := rfl
def f_total : Fn := { ps := ["bag"], npos := 1, star := false, dfl := [], ns := 3, asg := [], body := [
      .ret (.blt .sum [(.comp (.var 2) (.tup [(.nm 1), (.nm 2)]) [1, 2] .seq [(.var 0)] [])])] }
@[simp] theorem ps_total : f_total.ps = (["bag"] : List Str) := rfl
def f_size_of : Fn := { ps := ["bag"], npos := 1, star := false, dfl := [], ns := 1, asg := [], body := [
      .expr (.call "check_bag" [(.var 0)]),
      .ret (.call "total" [(.var 0)])] }
@[simp] theorem ps_size_of : f_size_of.ps = (["bag"] : List Str) := rfl
def f__law_pool : Fn := { ps := ["script", "k"], npos := 2, star := false, dfl := [], ns := 5, asg := [2, 3, 4], body := [
      .asg (.nm 2) (.bin .Add (.bin .Mult (.lit (.int 11)) (.blt .sum [(.sl (.var 0) none (some (.lit (.int 63))))])) (.var 1)),
      .ite (.val (.cmp .Lt (.var 1) (.blt .len [(.var 0)]))) [.asg (.nm 2) (.sub (.var 0) (.var 1))] [],
      .asg (.nm 3) (.blt .abs [(.var 2)]),
      .asg (.nm 4) (.bin .Mod (.bin .Mult (.bin .Add (.bin .Add (.bin .Add (.bin .Mod (.var 3) (.lit (.int 2147483629))) (.bin .Mult (.bin .Mult (.lit (.int 7919)) (.var 1)) (.var 1))) (.bin .Mult (.lit (.int 31)) (.var 1))) (.lit (.int 17))) (.lit (.int 48271))) (.lit (.int 2147483647))),
      .ret (.lst [(.bin .Mult (.var 3) (.blt .int [(.cmp .GtE (.var 3) (.bin .Pow (.lit (.int 10)) (.lit (.int 18))))])), (.bin .Mod (.bin .Mult (.var 4) (.var 4)) (.lit (.int 2147483629)))])] }
@[simp] theorem ps__law_pool : f__law_pool.ps = (["script", "k"] : List Str) := rfl
def f__law_draw : Fn := { ps := ["pool", "many"], npos := 2, star := false, dfl := [], ns := 3, asg := [2], body := [
      .ite (.val (.cmp .Gt (.sub (.var 0) (.lit (.int 0))) (.lit (.int 0)))) [.asg (.nm 2) (.bin .Mod (.sub (.var 0) (.lit (.int 0))) (.var 1)), .asgSub (.var 0) (.lit (.int 0)) (.bin .FloorDiv (.sub (.var 0) (.lit (.int 0))) (.var 1)), .ret (.var 2)] [],
      .asgSub (.var 0) (.lit (.int 1)) (.bin .Mod (.bin .Add (.bin .Mult (.sub (.var 0) (.lit (.int 1))) (.lit (.int 48271))) (.lit (.int 11))) (.lit (.int 2147483647))),
      .ret (.bin .Mod (.bin .FloorDiv (.bin .Mod (.bin .Mult (.sub (.var 0) (.lit (.int 1))) (.sub (.var 0) (.lit (.int 1)))) (.lit (.int 2147483629))) (.lit (.int 16))) (.var 1))] }
@[simp] theorem ps__law_draw : f__law_draw.ps = (["pool", "many"] : List Str) := rfl
def f__law_integer : Fn := { ps := ["thing"], npos := 1, star := false, dfl := [], ns := 1, asg := [], body := [
      .ret (.and (.isi (.var 0) ["int"]) (.not (.isi (.var 0) ["bool"])))] }
@[simp] theorem ps__law_integer : f__law_integer.ps = (["thing"] : List Str) := rfl
def f_is_count : Fn := { ps := ["value"], npos := 1, star := false, dfl := [], ns := 1, asg := [], body := [
      .ret (.and (.call "is_integer" [(.var 0)]) (.cmp .GtE (.var 0) (.lit (.int 0))))] }
@[simp] theorem ps_is_count : f_is_count.ps = (["value"] : List Str) := rfl
def f_check_number : Fn := { ps := ["value"], npos := 1, star := false, dfl := [], ns := 1, asg := [], body := [
      .ite (.not (.val (.call "is_integer" [(.var 0)]))) [.bad] []] }
@[simp] theorem ps_check_number : f_check_number.ps = (["value"] : List Str) := rfl
def f_check_count : Fn := { ps := ["value"], npos := 1, star := false, dfl := [], ns := 1, asg := [], body := [
      .ite (.not (.val (.call "is_count" [(.var 0)]))) [.bad] []] }
@[simp] theorem ps_check_count : f_check_count.ps = (["value"] : List Str) := rfl
def f_from_counts : Fn := { ps := ["counts"], npos := 1, star := false, dfl := [], ns := 3, asg := [], body := [
      .ret (.blt .tuple [(.blt .sorted [(.compD false (.tup [(.var 1), (.var 2)]) (.tup [(.nm 1), (.nm 2)]) [1, 2] 0 [(.val (.cmp .Gt (.var 2) (.lit (.int 0))))])])])] }
@[simp] theorem ps_from_counts : f_from_counts.ps = (["counts"] : List Str) := rfl
def b_add_0 : List PS := [.asgSub (.var 2) (.var 3) (.bin .Add (.bmeth (.var 2) "get" [(.var 3), (.lit (.int 0))]) (.var 4))]
def l_add_0 : PS := .for_ (.tup [(.nm 3), (.nm 4)]) .seq [(.var 1)] b_add_0
def f_add : Fn := { ps := ["first", "second"], npos := 2, star := false, dfl := [], ns := 5, asg := [2, 3, 4], body := [
      .asg (.nm 2) (.blt .dict [(.var 0)]),
      l_add_0,
      .ret (.call "from_counts" [(.var 2)])] }
@[simp] theorem ps_add : f_add.ps = (["first", "second"] : List Str) := rfl
def b_subtract_0 : List PS := [.asgSub (.var 2) (.var 3) (.bin .Sub (.bmeth (.var 2) "get" [(.var 3), (.lit (.int 0))]) (.var 4))]
def l_subtract_0 : PS := .for_ (.tup [(.nm 3), (.nm 4)]) .seq [(.var 1)] b_subtract_0
def f_subtract : Fn := { ps := ["bag", "other"], npos := 2, star := false, dfl := [], ns := 5, asg := [2, 3, 4], body := [
      .asg (.nm 2) (.blt .dict [(.var 0)]),
      l_subtract_0,
      .ret (.ite (.val (.blt .any [(.compD true (.cmp .Lt (.var 4) (.lit (.int 0))) (.nm 4) [4] 2 [])])) (.lit .non) (.call "from_counts" [(.var 2)]))] }
@[simp] theorem ps_subtract : f_subtract.ps = (["bag", "other"] : List Str) := rfl
def f_level : Fn := { ps := ["bag", "number"], npos := 2, star := false, dfl := [], ns := 4, asg := [], body := [
      .ret (.blt .sum [(.comp (.var 3) (.tup [(.nm 2), (.nm 3)]) [2, 3] .seq [(.var 0)] [(.val (.cmp .LtE (.var 2) (.var 1)))])])] }
@[simp] theorem ps_level : f_level.ps = (["bag", "number"] : List Str) := rfl
def f_scale : Fn := { ps := ["bag", "count"], npos := 2, star := false, dfl := [], ns := 4, asg := [], body := [
      .ret (.ite (.val (.cmp .Gt (.var 1) (.lit (.int 0)))) (.blt .tuple [(.comp (.tup [(.var 2), (.bin .Mult (.var 3) (.var 1))]) (.tup [(.nm 2), (.nm 3)]) [2, 3] .seq [(.var 0)] [])]) (.tup []))] }
@[simp] theorem ps_scale : f_scale.ps = (["bag", "count"] : List Str) := rfl
def b_take_0 : List PS := [.ite (.val (.cmp .Gt (.var 2) (.lit (.int 0)))) [.expr (.bmeth (.var 3) "append" [(.tup [(.var 4), (.blt .min [(.var 2), (.var 5)])])]), .aug 2 .Sub (.sub (.sub (.var 3) (.neg (.lit (.int 1)))) (.lit (.int 1)))] []]
def l_take_0 : PS := .for_ (.tup [(.nm 4), (.nm 5)]) .seq [(.var 0)] b_take_0
def f_take : Fn := { ps := ["bag", "count"], npos := 2, star := false, dfl := [], ns := 6, asg := [2, 3, 4, 5], body := [
      .par [2, 3] [(.var 1), (.lst [])],
      l_take_0,
      .ret (.blt .tuple [(.var 3)])] }
@[simp] theorem ps_take : f_take.ps = (["bag", "count"] : List Str) := rfl
def b_drop_0 : List PS := [.asg (.nm 6) (.blt .min [(.var 2), (.var 5)]), .aug 2 .Sub (.var 6), .ite (.val (.cmp .Gt (.var 5) (.var 6))) [.expr (.bmeth (.var 3) "append" [(.tup [(.var 4), (.bin .Sub (.var 5) (.var 6))])])] []]
def l_drop_0 : PS := .for_ (.tup [(.nm 4), (.nm 5)]) .seq [(.var 0)] b_drop_0
def f_drop : Fn := { ps := ["bag", "count"], npos := 2, star := false, dfl := [], ns := 7, asg := [2, 3, 4, 5, 6], body := [
      .par [2, 3] [(.var 1), (.lst [])],
      l_drop_0,
      .ret (.blt .tuple [(.var 3)])] }
@[simp] theorem ps_drop : f_drop.ps = (["bag", "count"] : List Str) := rfl
def b_bag_of_0 : List PS := [.expr (.call "check_number" [(.var 2)]), .asgSub (.var 1) (.var 2) (.bin .Add (.bmeth (.var 1) "get" [(.var 2), (.lit (.int 0))]) (.lit (.int 1)))]
def l_bag_of_0 : PS := .for_ (.nm 2) .seq [(.var 0)] b_bag_of_0
def f_bag_of : Fn := { ps := ["numbers"], npos := 1, star := false, dfl := [], ns := 3, asg := [1, 2], body := [
      .ite (.not (.val (.isi (.var 0) ["list"]))) [.bad] [],
      .asg (.nm 1) (.dct [] []),
      l_bag_of_0,
      .ret (.call "from_counts" [(.var 1)])] }
@[simp] theorem ps_bag_of : f_bag_of.ps = (["numbers"] : List Str) := rfl
def f_numbers_in : Fn := { ps := ["bag", "limit"], npos := 1, star := false, dfl := [("limit", (.int 1000))], ns := 5, asg := [], body := [
      .bad] }
@[simp] theorem ps_numbers_in : f_numbers_in.ps = (["bag", "limit"] : List Str) := rfl
def f_at_most : Fn := { ps := ["bag", "number"], npos := 2, star := false, dfl := [], ns := 2, asg := [], body := [
      .expr (.call "check_bag" [(.var 0)]),
      .expr (.call "check_number" [(.var 1)]),
      .ret (.call "level" [(.var 0), (.var 1)])] }
@[simp] theorem ps_at_most : f_at_most.ps = (["bag", "number"] : List Str) := rfl
def b_union_0 : List PS := [.expr (.call "check_bag" [(.var 2)]), .asg (.nm 1) (.call "add" [(.var 1), (.var 2)])]
def l_union_0 : PS := .for_ (.nm 2) .seq [(.var 0)] b_union_0
def f_union : Fn := { ps := ["bags"], npos := 1, star := true, dfl := [], ns := 3, asg := [1, 2], body := [
      .asg (.nm 1) (.tup []),
      l_union_0,
      .ret (.var 1)] }
@[simp] theorem ps_union : f_union.ps = (["bags"] : List Str) := rfl
def f_times : Fn := { ps := ["bag", "count"], npos := 2, star := false, dfl := [], ns := 2, asg := [], body := [
      .expr (.call "check_bag" [(.var 0)]),
      .expr (.call "check_count" [(.var 1)]),
      .ret (.call "scale" [(.var 0), (.var 1)])] }
@[simp] theorem ps_times : f_times.ps = (["bag", "count"] : List Str) := rfl
def f_contains : Fn := { ps := ["bag", "other"], npos := 2, star := false, dfl := [], ns := 2, asg := [], body := [
      .ret (.isN true (.call "difference" [(.var 0), (.var 1)]))] }
@[simp] theorem ps_contains : f_contains.ps = (["bag", "other"] : List Str) := rfl
def f_difference : Fn := { ps := ["bag", "other"], npos := 2, star := false, dfl := [], ns := 2, asg := [], body := [
      .expr (.call "check_bag" [(.var 0)]),
      .expr (.call "check_bag" [(.var 1)]),
      .ret (.call "subtract" [(.var 0), (.var 1)])] }
@[simp] theorem ps_difference : f_difference.ps = (["bag", "other"] : List Str) := rfl
def f_smallest : Fn := { ps := ["bag", "count"], npos := 2, star := false, dfl := [], ns := 2, asg := [], body := [
      .expr (.call "check_bag" [(.var 0)]),
      .expr (.call "check_count" [(.var 1)]),
      .ret (.call "take" [(.var 0), (.var 1)])] }
@[simp] theorem ps_smallest : f_smallest.ps = (["bag", "count"] : List Str) := rfl
def f_without_smallest : Fn := { ps := ["bag", "count"], npos := 2, star := false, dfl := [], ns := 2, asg := [], body := [
      .expr (.call "check_bag" [(.var 0)]),
      .expr (.call "check_count" [(.var 1)]),
      .ret (.call "drop" [(.var 0), (.var 1)])] }
@[simp] theorem ps_without_smallest : f_without_smallest.ps = (["bag", "count"] : List Str) := rfl
def f__law_random_numbers : Fn := { ps := ["pool", "many", "most"], npos := 3, star := false, dfl := [], ns := 4, asg := [], body := [
      .ret (.comp (.bin .Sub (.call "_law_draw" [(.var 0), (.var 2)]) (.bin .FloorDiv (.var 2) (.lit (.int 2)))) (.nm 3) [3] .rng [(.var 1)] [])] }
@[simp] theorem ps__law_random_numbers : f__law_random_numbers.ps = (["pool", "many", "most"] : List Str) := rfl
def f__law_bag : Fn := { ps := ["numbers"], npos := 1, star := false, dfl := [], ns := 2, asg := [], body := [
      .ret (.blt .tuple [(.comp (.tup [(.var 1), (.meth (.var 0) "count" [(.var 1)])]) (.nm 1) [1] .seq [(.blt .sorted [.bad])] [])])] }
@[simp] theorem ps__law_bag : f__law_bag.ps = (["numbers"] : List Str) := rfl
def f__law_level : Fn := { ps := ["entries", "number"], npos := 2, star := false, dfl := [], ns := 4, asg := [], body := [
      .ret (.blt .sum [(.comp (.var 3) (.tup [(.nm 2), (.nm 3)]) [2, 3] .seq [(.var 0)] [(.val (.cmp .LtE (.var 2) (.var 1)))])])] }
@[simp] theorem ps__law_level : f__law_level.ps = (["entries", "number"] : List Str) := rfl
def f_is_step : Fn := { ps := ["step", "depth"], npos := 2, star := false, dfl := [], ns := 6, asg := [2, 3, 4, 5], body := [
      .mtch (.var 0) [[2, 3, 4], [2, 4], [2, 4, 5]] [(some (.val (.cmp .Eq (.var 2) (.lit (.str "insert"))))), (some (.val (.cmp .Eq (.var 2) (.lit (.str "remove"))))), (some (.val (.cmp .Eq (.var 2) (.lit (.str "repeat")))))] [[.ret (.and (.isi (.var 0) ["tuple"]) (.and (.call "is_integer" [(.var 3)]) (.call "is_count" [(.var 4)])))], [.ret (.and (.isi (.var 0) ["tuple"]) (.call "is_count" [(.var 4)]))], [.ret (.and (.isi (.var 0) ["tuple"]) (.and (.call "is_count" [(.var 4)]) (.and (.isi (.var 5) ["tuple"]) (.cmp .Lt (.var 1) (.glob "MAX_DEPTH")))))]] [.ret (.lit (.bl false))]] }
@[simp] theorem ps_is_step : f_is_step.ps = (["step", "depth"] : List Str) := rfl
def b_find_invalid_0 : List PS := [.ite (.not (.val (.call "is_step" [(.var 3), (.var 1)]))) [.ret (.tup [(.var 2)])] [], .asg (.nm 4) (.ite (.val (.cmp .Eq (.sub (.var 3) (.lit (.int 0))) (.lit (.str "repeat")))) (.call "find_invalid" [(.sub (.var 3) (.lit (.int 2))), (.bin .Add (.var 1) (.lit (.int 1)))]) (.lit .non)), .ite (.val (.isN true (.var 4))) [.ret (.bin .Add (.tup [(.var 2)]) (.var 4))] []]
def l_find_invalid_0 : PS := .for_ (.tup [(.nm 2), (.nm 3)]) .enum [(.var 0)] b_find_invalid_0
def f_find_invalid : Fn := { ps := ["program", "depth"], npos := 2, star := false, dfl := [], ns := 5, asg := [2, 3, 4], body := [
      l_find_invalid_0,
      .ret (.lit .non)] }
@[simp] theorem ps_find_invalid : f_find_invalid.ps = (["program", "depth"] : List Str) := rfl
def f_check_program : Fn := { ps := ["program"], npos := 1, star := false, dfl := [], ns := 2, asg := [1], body := [
      .asg (.nm 1) (.ite (.val (.isi (.var 0) ["tuple"])) (.call "find_invalid" [(.var 0), (.lit (.int 1))]) (.tup [])),
      .ite (.val (.isN true (.var 1))) [.bad] []] }
@[simp] theorem ps_check_program : f_check_program.ps = (["program"] : List Str) := rfl
def b_count_steps_0 : List PS := [.ite (.val (.cmp .Eq (.sub (.var 3) (.lit (.int 0))) (.lit (.str "repeat")))) [.aug 2 .Add (.bin .Mult (.sub (.var 3) (.lit (.int 1))) (.call "count_steps" [(.sub (.var 3) (.lit (.int 2))), (.var 1)]))] [.ite (.or (.val (.isN false (.var 1))) (.val (.cmp .Eq (.sub (.var 3) (.lit (.int 0))) (.var 1)))) [.aug 2 .Add (.sub (.var 3) (.neg (.lit (.int 1))))] []]]
def l_count_steps_0 : PS := .for_ (.nm 3) .seq [(.var 0)] b_count_steps_0
def f_count_steps : Fn := { ps := ["program", "word"], npos := 2, star := false, dfl := [], ns := 4, asg := [2, 3], body := [
      .asg (.nm 2) (.lit (.int 0)),
      l_count_steps_0,
      .ret (.var 2)] }
@[simp] theorem ps_count_steps : f_count_steps.ps = (["program", "word"] : List Str) := rfl
def b_first_part_0 : List PS := [.asg (.nm 5) (.call "count_steps" [(.tup [(.var 2)]), (.lit .non)]), .ite (.val (.cmp .GtE (.var 3) (.var 5))) [.expr (.bmeth (.var 4) "append" [(.var 2)]), .aug 3 .Sub (.var 5)] [.ite (.val (.cmp .Eq (.sub (.var 2) (.lit (.int 0))) (.lit (.str "repeat")))) [.asg (.nm 6) (.call "count_steps" [(.sub (.var 2) (.lit (.int 2))), (.lit .non)]), .expr (.bmeth (.var 4) "append" [(.tup [(.lit (.str "repeat")), (.bin .FloorDiv (.var 3) (.var 6)), (.sub (.var 2) (.lit (.int 2)))])]), .expr (.bmeth (.var 4) "extend" [(.call "first_part" [(.sub (.var 2) (.lit (.int 2))), (.bin .Mod (.var 3) (.var 6))])]), .brk] [.expr (.bmeth (.var 4) "append" [(.bin .Add (.sl (.var 2) none (some (.neg (.lit (.int 1))))) (.tup [(.var 3)]))]), .brk]]]
def l_first_part_0 : PS := .for_ (.nm 2) .seq [(.var 0)] b_first_part_0
def f_first_part : Fn := { ps := ["program", "index"], npos := 2, star := false, dfl := [], ns := 7, asg := [2, 3, 4, 5, 6], body := [
      .par [3, 4] [(.var 1), (.lst [])],
      l_first_part_0,
      .ret (.blt .tuple [(.var 4)])] }
@[simp] theorem ps_first_part : f_first_part.ps = (["program", "index"] : List Str) := rfl
def b_last_part_0 : List PS := [.asg (.nm 5) (.call "count_steps" [(.tup [(.var 4)]), (.lit .non)]), .ite (.val (.cmp .Lt (.var 2) (.var 5))) [.asg (.nm 6) (.sl (.var 0) (some (.bin .Add (.var 3) (.lit (.int 1)))) none), .ite (.val (.cmp .Eq (.sub (.var 4) (.lit (.int 0))) (.lit (.str "repeat")))) [.asg (.nm 7) (.call "count_steps" [(.sub (.var 4) (.lit (.int 2))), (.lit .non)]), .asg (.nm 8) (.call "last_part" [(.sub (.var 4) (.lit (.int 2))), (.bin .Mod (.var 2) (.var 7))]), .ret (.bin .Add (.bin .Add (.var 8) (.tup [(.tup [(.lit (.str "repeat")), (.bin .Sub (.bin .Sub (.sub (.var 4) (.lit (.int 1))) (.bin .FloorDiv (.var 2) (.var 7))) (.lit (.int 1))), (.sub (.var 4) (.lit (.int 2)))])])) (.var 6))] [], .ret (.bin .Add (.tup [(.bin .Add (.sl (.var 4) none (some (.neg (.lit (.int 1))))) (.tup [(.bin .Sub (.sub (.var 4) (.neg (.lit (.int 1)))) (.var 2))]))]) (.var 6))] [], .aug 2 .Sub (.var 5)]
def l_last_part_0 : PS := .for_ (.tup [(.nm 3), (.nm 4)]) .enum [(.var 0)] b_last_part_0
def f_last_part : Fn := { ps := ["program", "index"], npos := 2, star := false, dfl := [], ns := 9, asg := [2, 3, 4, 5, 6, 7, 8], body := [
      .asg (.nm 2) (.var 1),
      l_last_part_0,
      .ret (.tup [])] }
@[simp] theorem ps_last_part : f_last_part.ps = (["program", "index"] : List Str) := rfl
def f_check_index : Fn := { ps := ["program", "index", "past"], npos := 3, star := false, dfl := [], ns := 3, asg := [], body := [
      .expr (.call "check_program" [(.var 0)]),
      .ite (.or (.not (.val (.call "is_count" [(.var 1)]))) (.val (.cmp .GtE (.var 1) (.bin .Add (.call "count_steps" [(.var 0), (.lit .non)]) (.var 2))))) [.bad] []] }
@[simp] theorem ps_check_index : f_check_index.ps = (["program", "index", "past"] : List Str) := rfl
def f_step_count : Fn := { ps := ["program"], npos := 1, star := false, dfl := [], ns := 1, asg := [], body := [
      .expr (.call "check_program" [(.var 0)]),
      .ret (.call "count_steps" [(.var 0), (.lit .non)])] }
@[simp] theorem ps_step_count : f_step_count.ps = (["program"] : List Str) := rfl
def f_insertion_count : Fn := { ps := ["program"], npos := 1, star := false, dfl := [], ns := 1, asg := [], body := [
      .expr (.call "check_program" [(.var 0)]),
      .ret (.call "count_steps" [(.var 0), (.lit (.str "insert"))])] }
@[simp] theorem ps_insertion_count : f_insertion_count.ps = (["program"] : List Str) := rfl
def f_removal_count : Fn := { ps := ["program"], npos := 1, star := false, dfl := [], ns := 1, asg := [], body := [
      .expr (.call "check_program" [(.var 0)]),
      .ret (.call "count_steps" [(.var 0), (.lit (.str "remove"))])] }
@[simp] theorem ps_removal_count : f_removal_count.ps = (["program"] : List Str) := rfl
def f_expand : Fn := { ps := ["program", "limit"], npos := 1, star := false, dfl := [("limit", (.int 1000))], ns := 2, asg := [], body := [
      .bad] }
@[simp] theorem ps_expand : f_expand.ps = (["program", "limit"] : List Str) := rfl
def b_find_step_0 : List PS := [.asg (.nm 4) (.call "count_steps" [(.tup [(.var 3)]), (.lit .non)]), .ite (.val (.cmp .Lt (.var 2) (.var 4))) [.ite (.val (.cmp .Eq (.sub (.var 3) (.lit (.int 0))) (.lit (.str "repeat")))) [.ret (.call "find_step" [(.sub (.var 3) (.lit (.int 2))), (.bin .Mod (.var 2) (.call "count_steps" [(.sub (.var 3) (.lit (.int 2))), (.lit .non)]))])] [], .ret (.bin .Add (.sl (.var 3) none (some (.neg (.lit (.int 1))))) (.tup [(.lit (.int 1))]))] [], .aug 2 .Sub (.var 4)]
def l_find_step_0 : PS := .for_ (.nm 3) .seq [(.var 0)] b_find_step_0
def f_find_step : Fn := { ps := ["program", "index"], npos := 2, star := false, dfl := [], ns := 5, asg := [2, 3, 4], body := [
      .asg (.nm 2) (.var 1),
      l_find_step_0,
      .bad] }
@[simp] theorem ps_find_step : f_find_step.ps = (["program", "index"] : List Str) := rfl
def f_step_at : Fn := { ps := ["program", "index"], npos := 2, star := false, dfl := [], ns := 2, asg := [], body := [
      .expr (.call "check_index" [(.var 0), (.var 1), (.lit (.int 0))]),
      .ret (.call "find_step" [(.var 0), (.var 1)])] }
@[simp] theorem ps_step_at : f_step_at.ps = (["program", "index"] : List Str) := rfl
def f_prefix : Fn := { ps := ["program", "index"], npos := 2, star := false, dfl := [], ns := 2, asg := [], body := [
      .expr (.call "check_index" [(.var 0), (.var 1), (.lit (.int 1))]),
      .ret (.call "first_part" [(.var 0), (.var 1)])] }
@[simp] theorem ps_prefix : f_prefix.ps = (["program", "index"] : List Str) := rfl
def f_suffix : Fn := { ps := ["program", "index"], npos := 2, star := false, dfl := [], ns := 2, asg := [], body := [
      .expr (.call "check_index" [(.var 0), (.var 1), (.lit (.int 1))]),
      .ret (.call "last_part" [(.var 0), (.var 1)])] }
@[simp] theorem ps_suffix : f_suffix.ps = (["program", "index"] : List Str) := rfl
def b__law_random_program_0 : List PS := [.asg (.nm 4) (.call "_law_draw" [(.var 0), (.lit (.int 5))]), .ite (.val (.cmp .Lt (.var 4) (.lit (.int 2)))) [.expr (.bmeth (.var 2) "append" [(.tup [(.lit (.str "insert")), (.bin .Sub (.call "_law_draw" [(.var 0), (.lit (.int 6))]) (.lit (.int 2))), (.call "_law_draw" [(.var 0), (.lit (.int 3))])])])] [.ite (.or (.val (.cmp .Lt (.var 4) (.lit (.int 4)))) (.val (.cmp .Eq (.var 1) (.lit (.int 0))))) [.expr (.bmeth (.var 2) "append" [(.tup [(.lit (.str "remove")), (.call "_law_draw" [(.var 0), (.lit (.int 3))])])])] [.expr (.bmeth (.var 2) "append" [(.tup [(.lit (.str "repeat")), (.call "_law_draw" [(.var 0), (.lit (.int 4))]), (.call "_law_random_program" [(.var 0), (.bin .Sub (.var 1) (.lit (.int 1)))])])])]]]
def l__law_random_program_0 : PS := .for_ (.nm 3) .rng [(.call "_law_draw" [(.var 0), (.lit (.int 4))])] b__law_random_program_0
def f__law_random_program : Fn := { ps := ["pool", "depth"], npos := 2, star := false, dfl := [], ns := 5, asg := [2, 3, 4], body := [
      .asg (.nm 2) (.lst []),
      l__law_random_program_0,
      .ret (.blt .tuple [(.var 2)])] }
@[simp] theorem ps__law_random_program : f__law_random_program.ps = (["pool", "depth"] : List Str) := rfl
def b__law_expanded_0 : List PS := [.ite (.val (.cmp .Eq (.sub (.var 2) (.lit (.int 0))) (.lit (.str "repeat")))) [.asg (.nm 1) (.bin .Add (.var 1) (.bin .Mult (.call "_law_expanded" [(.sub (.var 2) (.lit (.int 2)))]) (.sub (.var 2) (.lit (.int 1)))))] [.asg (.nm 1) (.bin .Add (.var 1) (.bin .Mult (.lst [(.bin .Add (.sl (.var 2) none (some (.neg (.lit (.int 1))))) (.tup [(.lit (.int 1))]))]) (.sub (.var 2) (.neg (.lit (.int 1))))))]]
def l__law_expanded_0 : PS := .for_ (.nm 2) .seq [(.var 0)] b__law_expanded_0
def f__law_expanded : Fn := { ps := ["program"], npos := 1, star := false, dfl := [], ns := 3, asg := [1, 2], body := [
      .asg (.nm 1) (.lst []),
      l__law_expanded_0,
      .ret (.var 1)] }
@[simp] theorem ps__law_expanded : f__law_expanded.ps = (["program"] : List Str) := rfl
def b__law_great_program_0 : List PS := [.asg (.nm 4) (.call "_law_draw" [(.var 0), (.lit (.int 5))]), .asg (.nm 5) (.sub (.lst [(.call "_law_draw" [(.var 0), (.lit (.int 4))]), (.call "_law_draw" [(.var 0), (.bin .Pow (.lit (.int 10)) (.lit (.int 24)))])]) (.call "_law_draw" [(.var 0), (.lit (.int 2))])), .ite (.val (.cmp .Lt (.var 4) (.lit (.int 2)))) [.expr (.bmeth (.var 2) "append" [(.tup [(.lit (.str "insert")), (.bin .Sub (.call "_law_draw" [(.var 0), (.lit (.int 9))]) (.lit (.int 4))), (.var 5)])])] [.ite (.or (.val (.cmp .Lt (.var 4) (.lit (.int 3)))) (.val (.cmp .Eq (.var 1) (.lit (.int 0))))) [.expr (.bmeth (.var 2) "append" [(.tup [(.lit (.str "remove")), (.var 5)])])] [.expr (.bmeth (.var 2) "append" [(.tup [(.lit (.str "repeat")), (.var 5), (.call "_law_great_program" [(.var 0), (.bin .Sub (.var 1) (.lit (.int 1)))])])])]]]
def l__law_great_program_0 : PS := .for_ (.nm 3) .rng [(.bin .Add (.lit (.int 1)) (.call "_law_draw" [(.var 0), (.lit (.int 3))]))] b__law_great_program_0
def f__law_great_program : Fn := { ps := ["pool", "depth"], npos := 2, star := false, dfl := [], ns := 6, asg := [2, 3, 4, 5], body := [
      .asg (.nm 2) (.lst []),
      l__law_great_program_0,
      .ret (.blt .tuple [(.var 2)])] }
@[simp] theorem ps__law_great_program : f__law_great_program.ps = (["pool", "depth"] : List Str) := rfl
def f_Heapu_initu : Fn := { ps := ["self", "bag"], npos := 2, star := false, dfl := [("bag", (.tup []))], ns := 2, asg := [], body := [
      .expr (.call "check_bag" [(.var 1)]),
      .asgAttr (.var 0) "own_bag" (.var 1)] }
@[simp] theorem ps_Heapu_initu : f_Heapu_initu.ps = (["self", "bag"] : List Str) := rfl
def f_Heap_of : Fn := { ps := ["cls", "numbers"], npos := 2, star := true, dfl := [], ns := 2, asg := [], body := [
      .bad] }
@[simp] theorem ps_Heap_of : f_Heap_of.ps = (["cls", "numbers"] : List Str) := rfl
def f_Heap_contents : Fn := { ps := ["self"], npos := 1, star := false, dfl := [], ns := 1, asg := [], body := [
      .ret (.attr (.var 0) "own_bag")] }
@[simp] theorem ps_Heap_contents : f_Heap_contents.ps = (["self"] : List Str) := rfl
def f_Heap_size : Fn := { ps := ["self"], npos := 1, star := false, dfl := [], ns := 1, asg := [], body := [
      .ret (.call "total" [(.attr (.var 0) "own_bag")])] }
@[simp] theorem ps_Heap_size : f_Heap_size.ps = (["self"] : List Str) := rfl
def f_Heap_smallest : Fn := { ps := ["self"], npos := 1, star := false, dfl := [], ns := 1, asg := [], body := [
      .ret (.ite (.val (.cmp .NotEq (.attr (.var 0) "own_bag") (.tup []))) (.sub (.sub (.attr (.var 0) "own_bag") (.lit (.int 0))) (.lit (.int 0))) (.lit .non))] }
@[simp] theorem ps_Heap_smallest : f_Heap_smallest.ps = (["self"] : List Str) := rfl
def f_Heap_push : Fn := { ps := ["self", "number", "count"], npos := 2, star := false, dfl := [("count", (.int 1))], ns := 3, asg := [], body := [
      .bad] }
@[simp] theorem ps_Heap_push : f_Heap_push.ps = (["self", "number", "count"] : List Str) := rfl
def f_Heap_remove_smallest : Fn := { ps := ["self", "count"], npos := 1, star := false, dfl := [("count", (.int 1))], ns := 2, asg := [], body := [
      .bad] }
@[simp] theorem ps_Heap_remove_smallest : f_Heap_remove_smallest.ps = (["self", "count"] : List Str) := rfl
def f_Heap_put : Fn := { ps := ["self", "number", "count"], npos := 3, star := false, dfl := [], ns := 3, asg := [], body := [
      .asgAttr (.var 0) "own_bag" (.call "add" [(.attr (.var 0) "own_bag"), (.call "scale" [(.tup [(.tup [(.var 1), (.lit (.int 1))])]), (.var 2)])])] }
@[simp] theorem ps_Heap_put : f_Heap_put.ps = (["self", "number", "count"] : List Str) := rfl
def f_Heap_pick : Fn := { ps := ["self", "count"], npos := 2, star := false, dfl := [], ns := 3, asg := [2], body := [
      .asg (.nm 2) (.call "take" [(.attr (.var 0) "own_bag"), (.var 1)]),
      .asgAttr (.var 0) "own_bag" (.call "drop" [(.attr (.var 0) "own_bag"), (.var 1)]),
      .ret (.var 2)] }
@[simp] theorem ps_Heap_pick : f_Heap_pick.ps = (["self", "count"] : List Str) := rfl
def f_Heap_copy : Fn := { ps := ["self"], npos := 1, star := false, dfl := [], ns := 1, asg := [], body := [
      .ret (.mk "Heap" [(.attr (.var 0) "own_bag")])] }
@[simp] theorem ps_Heap_copy : f_Heap_copy.ps = (["self"] : List Str) := rfl
def f_Heap_state : Fn := { ps := ["self"], npos := 1, star := false, dfl := [], ns := 1, asg := [], body := [
      .ret (.tup [(.attr (.var 0) "KIND"), (.attr (.var 0) "own_bag")])] }
@[simp] theorem ps_Heap_state : f_Heap_state.ps = (["self"] : List Str) := rfl
def f_Heapu_equ : Fn := { ps := ["self", "other"], npos := 2, star := false, dfl := [], ns := 2, asg := [], body := [
      .ret (.and (.isi (.var 1) ["Heap"]) (.cmp .Eq (.attr (.var 0) "state") (.attr (.var 1) "state")))] }
@[simp] theorem ps_Heapu_equ : f_Heapu_equ.ps = (["self", "other"] : List Str) := rfl
def f_Heapu_repru : Fn := { ps := ["self"], npos := 1, star := false, dfl := [], ns := 1, asg := [], body := [
      .ret .bad] }
@[simp] theorem ps_Heapu_repru : f_Heapu_repru.ps = (["self"] : List Str) := rfl
def f_join_parts : Fn := { ps := ["first", "second"], npos := 2, star := false, dfl := [], ns := 6, asg := [2, 3, 4, 5], body := [
      .asg (.tup [(.nm 3), (.nm 4), (.nm 5)]) (.var 1),
      .asg (.nm 2) (.call "drop" [(.call "add" [(.sub (.var 0) (.lit (.int 2))), (.call "subtract" [(.var 3), (.var 5)])]), (.var 4)]),
      .ret (.tup [(.call "add" [(.sub (.var 0) (.lit (.int 0))), (.var 3)]), (.bin .Add (.sub (.var 0) (.lit (.int 1))) (.var 4)), (.call "add" [(.var 5), (.var 2)])])] }
@[simp] theorem ps_join_parts : f_join_parts.ps = (["first", "second"] : List Str) := rfl
def f_repeat_parts : Fn := { ps := ["parts", "count"], npos := 2, star := false, dfl := [], ns := 6, asg := [2, 3, 4, 5], body := [
      .ite (.val (.cmp .Eq (.var 1) (.lit (.int 0)))) [.ret (.glob "IDENTITY")] [],
      .asg (.tup [(.nm 3), (.nm 4), (.nm 5)]) (.var 0),
      .asg (.nm 2) (.call "scale" [(.call "drop" [(.var 3), (.var 4)]), (.bin .Sub (.var 1) (.lit (.int 1)))]),
      .ret (.tup [(.call "scale" [(.var 3), (.var 1)]), (.bin .Mult (.var 4) (.var 1)), (.call "add" [(.var 5), (.var 2)])])] }
@[simp] theorem ps_repeat_parts : f_repeat_parts.ps = (["parts", "count"] : List Str) := rfl
def f_step_parts : Fn := { ps := ["step"], npos := 1, star := false, dfl := [], ns := 6, asg := [1, 2, 3, 4, 5], body := [
      .mtch (.var 0) [[1, 2, 3], [1, 3], [1, 3, 5]] [(some (.val (.cmp .Eq (.var 1) (.lit (.str "insert"))))), none, none] [[.asg (.nm 4) (.call "scale" [(.tup [(.tup [(.var 2), (.lit (.int 1))])]), (.var 3)]), .ret (.tup [(.var 4), (.lit (.int 0)), (.var 4)])], [.ret (.tup [(.tup []), (.var 3), (.tup [])])], [.ret (.call "repeat_parts" [(.call "program_parts" [(.var 5)]), (.var 3)])]] []] }
@[simp] theorem ps_step_parts : f_step_parts.ps = (["step"] : List Str) := rfl
def b_program_parts_0 : List PS := [.asg (.nm 1) (.call "join_parts" [(.var 1), (.call "step_parts" [(.var 2)])])]
def l_program_parts_0 : PS := .for_ (.nm 2) .seq [(.var 0)] b_program_parts_0
def f_program_parts : Fn := { ps := ["program"], npos := 1, star := false, dfl := [], ns := 3, asg := [1, 2], body := [
      .asg (.nm 1) (.glob "IDENTITY"),
      l_program_parts_0,
      .ret (.var 1)] }
@[simp] theorem ps_program_parts : f_program_parts.ps = (["program"] : List Str) := rfl
def f_find_fault : Fn := { ps := ["inserted", "removals", "survivors"], npos := 3, star := false, dfl := [], ns := 4, asg := [3], body := [
      .asg (.nm 3) (.call "subtract" [(.var 0), (.var 2)]),
      .ite (.val (.isN false (.var 3))) [.ret (.lit (.str "survivors"))] [],
      .ret (.ite (.val (.cmp .Gt (.call "total" [(.var 3)]) (.var 1))) (.lit (.str "removals")) (.lit .non))] }
@[simp] theorem ps_find_fault : f_find_fault.ps = (["inserted", "removals", "survivors"] : List Str) := rfl
def f_Effectu_initu : Fn := { ps := ["self", "inserted", "removals", "survivors"], npos := 4, star := false, dfl := [], ns := 5, asg := [4], body := [
      .expr (.call "check_bag" [(.var 1)]),
      .expr (.call "check_count" [(.var 2)]),
      .expr (.call "check_bag" [(.var 3)]),
      .asg (.nm 4) (.call "find_fault" [(.var 1), (.var 2), (.var 3)]),
      .ite (.val (.isN true (.var 4))) [.bad] [],
      .asgAttr (.var 0) "own_parts" (.tup [(.var 1), (.var 2), (.var 3)])] }
@[simp] theorem ps_Effectu_initu : f_Effectu_initu.ps = (["self", "inserted", "removals", "survivors"] : List Str) := rfl
def f_Effect_of : Fn := { ps := ["cls", "program"], npos := 2, star := false, dfl := [], ns := 5, asg := [2, 3, 4], body := [
      .expr (.call "check_program" [(.var 1)]),
      .asg (.tup [(.nm 2), (.nm 3), (.nm 4)]) (.call "program_parts" [(.var 1)]),
      .ret (.mkV 0 [(.var 2), (.var 3), (.var 4)])] }
@[simp] theorem ps_Effect_of : f_Effect_of.ps = (["cls", "program"] : List Str) := rfl
def f_Effect_inserted : Fn := { ps := ["self"], npos := 1, star := false, dfl := [], ns := 1, asg := [], body := [
      .ret (.sub (.attr (.var 0) "own_parts") (.lit (.int 0)))] }
@[simp] theorem ps_Effect_inserted : f_Effect_inserted.ps = (["self"] : List Str) := rfl
def f_Effect_removals : Fn := { ps := ["self"], npos := 1, star := false, dfl := [], ns := 1, asg := [], body := [
      .ret (.sub (.attr (.var 0) "own_parts") (.lit (.int 1)))] }
@[simp] theorem ps_Effect_removals : f_Effect_removals.ps = (["self"] : List Str) := rfl
def f_Effect_survivors : Fn := { ps := ["self"], npos := 1, star := false, dfl := [], ns := 1, asg := [], body := [
      .ret (.sub (.attr (.var 0) "own_parts") (.lit (.int 2)))] }
@[simp] theorem ps_Effect_survivors : f_Effect_survivors.ps = (["self"] : List Str) := rfl
def f_Effect_consumed : Fn := { ps := ["self"], npos := 1, star := false, dfl := [], ns := 1, asg := [], body := [
      .ret (.call "subtract" [(.sub (.attr (.var 0) "own_parts") (.lit (.int 0))), (.sub (.attr (.var 0) "own_parts") (.lit (.int 2)))])] }
@[simp] theorem ps_Effect_consumed : f_Effect_consumed.ps = (["self"] : List Str) := rfl
def f_Effect_needed : Fn := { ps := ["self"], npos := 1, star := false, dfl := [], ns := 1, asg := [], body := [
      .ret (.bin .Add (.bin .Sub (.sub (.attr (.var 0) "own_parts") (.lit (.int 1))) (.call "total" [(.sub (.attr (.var 0) "own_parts") (.lit (.int 0)))])) (.call "total" [(.sub (.attr (.var 0) "own_parts") (.lit (.int 2)))]))] }
@[simp] theorem ps_Effect_needed : f_Effect_needed.ps = (["self"] : List Str) := rfl
def f_Effect_pool : Fn := { ps := ["self", "bag"], npos := 2, star := false, dfl := [], ns := 2, asg := [], body := [
      .expr (.call "check_bag" [(.var 1)]),
      .ite (.val (.cmp .Lt (.call "total" [(.var 1)]) (.attr (.var 0) "needed"))) [.bad] [],
      .ret (.call "add" [(.var 1), (.attr (.var 0) "consumed")])] }
@[simp] theorem ps_Effect_pool : f_Effect_pool.ps = (["self", "bag"] : List Str) := rfl
def f_Effect_apply : Fn := { ps := ["self", "bag"], npos := 2, star := false, dfl := [], ns := 2, asg := [], body := [
      .ret (.call "add" [(.attr (.var 0) "survivors"), (.call "drop" [(.meth (.var 0) "pool" [(.var 1)]), (.attr (.var 0) "removals")])])] }
@[simp] theorem ps_Effect_apply : f_Effect_apply.ps = (["self", "bag"] : List Str) := rfl
def f_Effect_removed : Fn := { ps := ["self", "bag"], npos := 2, star := false, dfl := [], ns := 2, asg := [], body := [
      .ret (.call "take" [(.meth (.var 0) "pool" [(.var 1)]), (.attr (.var 0) "removals")])] }
@[simp] theorem ps_Effect_removed : f_Effect_removed.ps = (["self", "bag"] : List Str) := rfl
def f_Effectu_equ : Fn := { ps := ["self", "other"], npos := 2, star := false, dfl := [], ns := 2, asg := [], body := [
      .ret (.and (.isi (.var 1) ["Effect"]) (.cmp .Eq (.attr (.var 0) "own_parts") (.attr (.var 1) "own_parts")))] }
@[simp] theorem ps_Effectu_equ : f_Effectu_equ.ps = (["self", "other"] : List Str) := rfl
def f_Effectu_repru : Fn := { ps := ["self"], npos := 1, star := false, dfl := [], ns := 1, asg := [], body := [
      .ret .bad] }
@[simp] theorem ps_Effectu_repru : f_Effectu_repru.ps = (["self"] : List Str) := rfl
def f_counted : Fn := { ps := ["step", "number"], npos := 2, star := false, dfl := [], ns := 2, asg := [], body := [
      .ret (.and (.cmp .Eq (.sub (.var 0) (.lit (.int 0))) (.lit (.str "insert"))) (.or (.isN false (.var 1)) (.cmp .Lt (.sub (.var 0) (.lit (.int 1))) (.var 1))))] }
@[simp] theorem ps_counted : f_counted.ps = (["step", "number"] : List Str) := rfl
def b_balance_0 : List PS := [.asg (.tup [(.nm 5), (.nm 6)]) (.call "step_balance" [(.var 2), (.var 1)]), .asg (.nm 4) (.blt .max [(.var 4), (.bin .Sub (.var 6) (.var 3))]), .aug 3 .Add (.var 5)]
def l_balance_0 : PS := .for_ (.nm 2) .seq [(.var 0)] b_balance_0
def f_balance : Fn := { ps := ["program", "number"], npos := 2, star := false, dfl := [], ns := 7, asg := [2, 3, 4, 5, 6], body := [
      .asg (.tup [(.nm 3), (.nm 4)]) (.tup [(.lit (.int 0)), (.lit (.int 0))]),
      l_balance_0,
      .ret (.tup [(.var 3), (.var 4)])] }
@[simp] theorem ps_balance : f_balance.ps = (["program", "number"] : List Str) := rfl
def f_step_balance : Fn := { ps := ["step", "number"], npos := 2, star := false, dfl := [], ns := 4, asg := [2, 3], body := [
      .ite (.val (.cmp .Eq (.sub (.var 0) (.lit (.int 0))) (.lit (.str "insert")))) [.ret (.tup [(.ite (.val (.call "counted" [(.var 0), (.var 1)])) (.sub (.var 0) (.lit (.int 2))) (.lit (.int 0))), (.lit (.int 0))])] [],
      .ite (.val (.cmp .Eq (.sub (.var 0) (.lit (.int 0))) (.lit (.str "remove")))) [.ret (.tup [(.neg (.sub (.var 0) (.lit (.int 1)))), (.sub (.var 0) (.lit (.int 1)))])] [],
      .asg (.tup [(.nm 2), (.nm 3)]) (.call "balance" [(.sub (.var 0) (.lit (.int 2))), (.var 1)]),
      .ite (.val (.cmp .Eq (.sub (.var 0) (.lit (.int 1))) (.lit (.int 0)))) [.ret (.tup [(.lit (.int 0)), (.lit (.int 0))])] [],
      .ret (.tup [(.bin .Mult (.sub (.var 0) (.lit (.int 1))) (.var 2)), (.bin .Sub (.var 3) (.bin .Mult (.blt .min [(.var 2), (.lit (.int 0))]) (.bin .Sub (.sub (.var 0) (.lit (.int 1))) (.lit (.int 1)))))])] }
@[simp] theorem ps_step_balance : f_step_balance.ps = (["step", "number"] : List Str) := rfl
def b_find_failure_0 : List PS := [.asg (.tup [(.nm 6), (.nm 7)]) (.call "step_balance" [(.var 3), (.var 2)]), .ite (.val (.cmp .Lt (.var 4) (.var 7))) [.ret (.bin .Add (.var 5) (.call "failure_within" [(.var 4), (.var 3), (.var 2)]))] [], .aug 4 .Add (.var 6), .aug 5 .Add (.call "count_steps" [(.tup [(.var 3)]), (.lit .non)])]
def l_find_failure_0 : PS := .for_ (.nm 3) .seq [(.var 1)] b_find_failure_0
def f_find_failure : Fn := { ps := ["size", "program", "number"], npos := 3, star := false, dfl := [], ns := 8, asg := [3, 4, 5, 6, 7], body := [
      .par [4, 5] [(.var 0), (.lit (.int 0))],
      l_find_failure_0,
      .ret (.lit .non)] }
@[simp] theorem ps_find_failure : f_find_failure.ps = (["size", "program", "number"] : List Str) := rfl
def f_failure_within : Fn := { ps := ["size", "step", "number"], npos := 3, star := false, dfl := [], ns := 7, asg := [3, 4, 5, 6], body := [
      .ite (.val (.cmp .Eq (.sub (.var 1) (.lit (.int 0))) (.lit (.str "remove")))) [.ret (.var 0)] [],
      .asg (.tup [(.nm 5), (.nm 6)]) (.call "balance" [(.sub (.var 1) (.lit (.int 2))), (.var 2)]),
      .asg (.nm 3) (.ite (.val (.cmp .Lt (.var 0) (.var 6))) (.lit (.int 0)) (.bin .Add (.bin .FloorDiv (.bin .Sub (.var 0) (.var 6)) (.neg (.var 5))) (.lit (.int 1)))),
      .asg (.nm 4) (.call "find_failure" [(.bin .Add (.var 0) (.bin .Mult (.var 3) (.var 5))), (.sub (.var 1) (.lit (.int 2))), (.var 2)]),
      .ret (.bin .Add (.bin .Mult (.var 3) (.call "count_steps" [(.sub (.var 1) (.lit (.int 2))), (.lit .non)])) (.ite (.val (.isN false (.var 4))) (.lit (.int 0)) (.var 4)))] }
@[simp] theorem ps_failure_within : f_failure_within.ps = (["size", "step", "number"] : List Str) := rfl
def f_Heap_run : Fn := { ps := ["self", "program"], npos := 2, star := false, dfl := [], ns := 5, asg := [2, 3, 4], body := [
      .expr (.call "check_program" [(.var 1)]),
      .asg (.nm 2) (.call "find_failure" [(.call "total" [(.attr (.var 0) "own_bag")]), (.var 1), (.lit .non)]),
      .ite (.val (.isN true (.var 2))) [.bad] [],
      .asg (.nm 3) (.smeth "Effect" "of" [(.var 1)]),
      .asg (.nm 4) (.meth (.var 3) "removed" [(.attr (.var 0) "own_bag")]),
      .asgAttr (.var 0) "own_bag" (.meth (.var 3) "apply" [(.attr (.var 0) "own_bag")]),
      .ret (.var 4)] }
@[simp] theorem ps_Heap_run : f_Heap_run.ps = (["self", "program"] : List Str) := rfl
def f_RecordedHeapu_initu : Fn := { ps := ["self", "bag"], npos := 2, star := false, dfl := [("bag", (.tup []))], ns := 2, asg := [], body := [
      .expr .bad,
      .asgAttr (.var 0) "own_record" (.lst [])] }
@[simp] theorem ps_RecordedHeapu_initu : f_RecordedHeapu_initu.ps = (["self", "bag"] : List Str) := rfl
def f_RecordedHeap_record : Fn := { ps := ["self"], npos := 1, star := false, dfl := [], ns := 3, asg := [], body := [
      .ret (.comp (.var 1) (.tup [(.nm 1), (.nm 2)]) [1, 2] .seq [(.attr (.var 0) "own_record")] [])] }
@[simp] theorem ps_RecordedHeap_record : f_RecordedHeap_record.ps = (["self"] : List Str) := rfl
def f_RecordedHeap_put : Fn := { ps := ["self", "number", "count"], npos := 3, star := false, dfl := [], ns := 3, asg := [], body := [
      .expr (.bmeth (.attr (.var 0) "own_record") "append" [(.tup [(.tup [(.lit (.str "insert")), (.var 1), (.var 2)]), (.attr (.var 0) "own_bag")])]),
      .expr .bad] }
@[simp] theorem ps_RecordedHeap_put : f_RecordedHeap_put.ps = (["self", "number", "count"] : List Str) := rfl
def f_RecordedHeap_pick : Fn := { ps := ["self", "count"], npos := 2, star := false, dfl := [], ns := 2, asg := [], body := [
      .expr (.bmeth (.attr (.var 0) "own_record") "append" [(.tup [(.tup [(.lit (.str "remove")), (.var 1)]), (.attr (.var 0) "own_bag")])]),
      .ret .bad] }
@[simp] theorem ps_RecordedHeap_pick : f_RecordedHeap_pick.ps = (["self", "count"] : List Str) := rfl
def f_RecordedHeap_run : Fn := { ps := ["self", "program"], npos := 2, star := false, dfl := [], ns := 4, asg := [2, 3], body := [
      .asg (.nm 2) (.attr (.var 0) "own_bag"),
      .asg (.nm 3) .bad,
      .expr (.bmeth (.attr (.var 0) "own_record") "append" [(.tup [(.tup [(.lit (.str "run")), (.var 1)]), (.var 2)])]),
      .ret (.var 3)] }
@[simp] theorem ps_RecordedHeap_run : f_RecordedHeap_run.ps = (["self", "program"] : List Str) := rfl
def f_RecordedHeap_undo : Fn := { ps := ["self"], npos := 1, star := false, dfl := [], ns := 3, asg := [1, 2], body := [
      .ite (.val (.cmp .Eq (.attr (.var 0) "own_record") (.lst []))) [.bad] [],
      .asg (.tup [(.nm 1), (.nm 2)]) (.bmeth (.attr (.var 0) "own_record") "pop" []),
      .asgAttr (.var 0) "own_bag" (.var 2),
      .ret (.var 1)] }
@[simp] theorem ps_RecordedHeap_undo : f_RecordedHeap_undo.ps = (["self"] : List Str) := rfl
def f_BoundedHeapu_initu : Fn := { ps := ["self", "bag", "capacity"], npos := 2, star := false, dfl := [("bag", (.tup []))], ns := 3, asg := [], body := [
      .bad] }
@[simp] theorem ps_BoundedHeapu_initu : f_BoundedHeapu_initu.ps = (["self", "bag", "capacity"] : List Str) := rfl
def f_BoundedHeap_check_capacity : Fn := { ps := ["self", "capacity"], npos := 2, star := false, dfl := [], ns := 2, asg := [], body := [
      .ite (.or (.not (.val (.call "is_integer" [(.var 1)]))) (.val (.cmp .Lt (.var 1) (.blt .max [(.lit (.int 1)), (.call "total" [(.attr (.var 0) "own_bag")])])))) [.bad] []] }
@[simp] theorem ps_BoundedHeap_check_capacity : f_BoundedHeap_check_capacity.ps = (["self", "capacity"] : List Str) := rfl
def f_BoundedHeap_capacity : Fn := { ps := ["self"], npos := 1, star := false, dfl := [], ns := 1, asg := [], body := [
      .ret (.attr (.var 0) "own_capacity")] }
@[simp] theorem ps_BoundedHeap_capacity : f_BoundedHeap_capacity.ps = (["self"] : List Str) := rfl
def f_BoundedHeap_put : Fn := { ps := ["self", "number", "count"], npos := 3, star := false, dfl := [], ns := 3, asg := [], body := [
      .expr .bad,
      .asgAttr (.var 0) "own_bag" (.call "take" [(.attr (.var 0) "own_bag"), (.attr (.var 0) "own_capacity")])] }
@[simp] theorem ps_BoundedHeap_put : f_BoundedHeap_put.ps = (["self", "number", "count"] : List Str) := rfl
def b_BoundedHeap_run_0 : List PS := [.ite (.val (.cmp .Eq (.sub (.var 5) (.lit (.int 0))) (.lit (.str "insert")))) [.asg (.nm 2) (.call "take" [(.call "add" [(.var 2), (.tup [(.tup [(.sub (.var 5) (.lit (.int 1))), (.lit (.int 1))])])]), (.attr (.var 0) "own_capacity")])] [.ite (.val (.cmp .Eq (.var 2) (.tup []))) [.bad] [.asg (.nm 3) (.call "add" [(.var 3), (.call "take" [(.var 2), (.lit (.int 1))])]), .asg (.nm 2) (.call "drop" [(.var 2), (.lit (.int 1))])]]]
def l_BoundedHeap_run_0 : PS := .for_ (.tup [(.nm 4), (.nm 5)]) .enum [(.call "elementary" [(.var 1)])] b_BoundedHeap_run_0
def f_BoundedHeap_run : Fn := { ps := ["self", "program"], npos := 2, star := false, dfl := [], ns := 6, asg := [2, 3, 4, 5], body := [
      .expr (.call "check_program" [(.var 1)]),
      .ite (.val (.cmp .Gt (.call "count_steps" [(.var 1), (.lit .non)]) (.glob "MAX_STEPS"))) [.bad] [],
      .par [2, 3] [(.attr (.var 0) "own_bag"), (.tup [])],
      l_BoundedHeap_run_0,
      .asgAttr (.var 0) "own_bag" (.var 2),
      .ret (.var 3)] }
@[simp] theorem ps_BoundedHeap_run : f_BoundedHeap_run.ps = (["self", "program"] : List Str) := rfl
def f_BoundedHeap_copy : Fn := { ps := ["self"], npos := 1, star := false, dfl := [], ns := 1, asg := [], body := [
      .ret .bad] }
@[simp] theorem ps_BoundedHeap_copy : f_BoundedHeap_copy.ps = (["self"] : List Str) := rfl
def f_BoundedHeap_state : Fn := { ps := ["self"], npos := 1, star := false, dfl := [], ns := 1, asg := [], body := [
      .ret (.tup [(.attr (.var 0) "KIND"), (.attr (.var 0) "own_bag"), (.attr (.var 0) "own_capacity")])] }
@[simp] theorem ps_BoundedHeap_state : f_BoundedHeap_state.ps = (["self"] : List Str) := rfl
def f_BoundedHeapu_repru : Fn := { ps := ["self"], npos := 1, star := false, dfl := [], ns := 1, asg := [], body := [
      .ret .bad] }
@[simp] theorem ps_BoundedHeapu_repru : f_BoundedHeapu_repru.ps = (["self"] : List Str) := rfl
def b__law_random_steps_0 : List PS := [.asg (.nm 5) (.bin .Sub (.call "_law_draw" [(.var 0), (.var 2)]) (.bin .FloorDiv (.var 2) (.lit (.int 2)))), .expr (.bmeth (.var 3) "append" [(.sub (.lst [(.tup [(.lit (.str "insert")), (.var 5), (.lit (.int 1))]), (.tup [(.lit (.str "remove")), (.lit (.int 1))])]) (.call "_law_draw" [(.var 0), (.lit (.int 2))]))])]
def l__law_random_steps_0 : PS := .for_ (.nm 4) .rng [(.var 1)] b__law_random_steps_0
def f__law_random_steps : Fn := { ps := ["pool", "many", "most"], npos := 3, star := false, dfl := [], ns := 6, asg := [3, 4, 5], body := [
      .asg (.nm 3) (.lst []),
      l__law_random_steps_0,
      .ret (.var 3)] }
@[simp] theorem ps__law_random_steps : f__law_random_steps.ps = (["pool", "many", "most"] : List Str) := rfl
def b__law_run_0 : List PS := [.ite (.val (.cmp .Eq (.sub (.sub (.var 1) (.var 4)) (.lit (.int 0))) (.lit (.str "insert")))) [.asg (.nm 2) (.blt .sorted [(.bin .Add (.var 2) (.lst [(.sub (.sub (.var 1) (.var 4)) (.lit (.int 1)))]))])] [.ite (.val (.cmp .Eq (.var 2) (.lst []))) [.ret (.lst [(.lit .non), (.var 3), (.var 4)])] [.expr (.bmeth (.var 3) "append" [(.sub (.var 2) (.lit (.int 0)))]), .asg (.nm 2) (.sl (.var 2) (some (.lit (.int 1))) none)]]]
def l__law_run_0 : PS := .for_ (.nm 4) .rng [(.blt .len [(.var 1)])] b__law_run_0
def f__law_run : Fn := { ps := ["heap", "steps"], npos := 2, star := false, dfl := [], ns := 5, asg := [2, 3, 4], body := [
      .asg (.nm 2) (.blt .sorted [(.var 0)]),
      .asg (.nm 3) (.lst []),
      l__law_run_0,
      .ret (.lst [(.var 2), (.var 3), (.lit .non)])] }
@[simp] theorem ps__law_run : f__law_run.ps = (["heap", "steps"] : List Str) := rfl
def f_BoundedHeap_resize : Fn := { ps := ["self", "capacity"], npos := 2, star := false, dfl := [], ns := 2, asg := [], body := [
      .expr (.meth (.var 0) "check_capacity" [(.var 1)]),
      .asgAttr (.var 0) "own_capacity" (.var 1)] }
@[simp] theorem ps_BoundedHeap_resize : f_BoundedHeap_resize.ps = (["self", "capacity"] : List Str) := rfl
def f_first_failure : Fn := { ps := ["bag", "program"], npos := 2, star := false, dfl := [], ns := 2, asg := [], body := [
      .expr (.call "check_bag" [(.var 0)]),
      .expr (.call "check_program" [(.var 1)]),
      .ret (.call "find_failure" [(.call "total" [(.var 0)]), (.var 1), (.lit .non)])] }
@[simp] theorem ps_first_failure : f_first_failure.ps = (["bag", "program"] : List Str) := rfl
def f_Effect_identity : Fn := { ps := ["cls"], npos := 1, star := false, dfl := [], ns := 1, asg := [], body := [
      .ret (.mkV 0 [(.tup []), (.lit (.int 0)), (.tup [])])] }
@[simp] theorem ps_Effect_identity : f_Effect_identity.ps = (["cls"] : List Str) := rfl
def f__law_left : Fn := { ps := ["steps"], npos := 1, star := false, dfl := [], ns := 5, asg := [1, 2], body := [
      .asg (.nm 1) (.bin .Add (.blt .max [(.bin .Add (.lst [(.lit (.int 0))]) (.comp (.sub (.var 4) (.lit (.int 1))) (.nm 4) [4] .seq [(.var 0)] [(.val (.cmp .Eq (.sub (.var 4) (.lit (.int 0))) (.lit (.str "insert"))))]))]) (.lit (.int 1))),
      .asg (.nm 2) (.sub (.call "_law_run" [(.bin .Mult (.lst [(.var 1)]) (.blt .len [(.var 0)])), (.var 0)]) (.lit (.int 0))),
      .ret (.call "_law_bag" [(.comp (.var 3) (.nm 3) [3] .seq [(.var 2)] [(.val (.cmp .Lt (.var 3) (.var 1)))])])] }
@[simp] theorem ps__law_left : f__law_left.ps = (["steps"] : List Str) := rfl
def f_Effect_is_valid : Fn := { ps := ["inserted", "removals", "survivors"], npos := 3, star := false, dfl := [], ns := 3, asg := [], body := [
      .ite (.or (.not (.val (.call "is_bag" [(.var 0)]))) (.or (.not (.val (.call "is_count" [(.var 1)]))) (.not (.val (.call "is_bag" [(.var 2)]))))) [.ret (.lit (.bl false))] [],
      .ret (.isN false (.call "find_fault" [(.var 0), (.var 1), (.var 2)]))] }
@[simp] theorem ps_Effect_is_valid : f_Effect_is_valid.ps = (["inserted", "removals", "survivors"] : List Str) := rfl
def b__law_inside_1 : List PS := [.asg (.nm 4) (.bin .Add (.var 4) (.comp (.bin .Add (.var 6) (.bin .Mult (.tup [(.tup [(.var 2), (.var 5)])]) (.blt .int [(.cmp .Gt (.var 5) (.lit (.int 0)))]))) (.nm 6) [6] .seq [(.var 1)] []))]
def l__law_inside_1 : PS := .for_ (.nm 5) .rng [(.bin .Add (.var 3) (.lit (.int 1)))] b__law_inside_1
def b__law_inside_0 : List PS := [.asg (.nm 4) (.lst []), l__law_inside_1, .asg (.nm 1) (.var 4)]
def l__law_inside_0 : PS := .for_ (.tup [(.nm 2), (.nm 3)]) .seq [(.var 0)] b__law_inside_0
def f__law_inside : Fn := { ps := ["entries"], npos := 1, star := false, dfl := [], ns := 7, asg := [1, 2, 3, 4, 5], body := [
      .asg (.nm 1) (.lst [(.tup [])]),
      l__law_inside_0,
      .ret (.var 1)] }
@[simp] theorem ps__law_inside : f__law_inside.ps = (["entries"] : List Str) := rfl
def f_insert_steps : Fn := { ps := ["bag"], npos := 1, star := false, dfl := [], ns := 3, asg := [], body := [
      .ret (.blt .tuple [(.comp (.tup [(.lit (.str "insert")), (.var 1), (.var 2)]) (.tup [(.nm 1), (.nm 2)]) [1, 2] .seq [(.var 0)] [])])] }
@[simp] theorem ps_insert_steps : f_insert_steps.ps = (["bag"] : List Str) := rfl
def f_Effect_normal : Fn := { ps := ["self"], npos := 1, star := false, dfl := [], ns := 2, asg := [1], body := [
      .asg (.nm 1) (.ite (.val (.cmp .Gt (.attr (.var 0) "removals") (.lit (.int 0)))) (.tup [(.tup [(.lit (.str "remove")), (.attr (.var 0) "removals")])]) (.tup [])),
      .ret (.bin .Add (.bin .Add (.call "insert_steps" [(.attr (.var 0) "consumed")]) (.var 1)) (.call "insert_steps" [(.attr (.var 0) "survivors")]))] }
@[simp] theorem ps_Effect_normal : f_Effect_normal.ps = (["self"] : List Str) := rfl
def b__law_great_effect_0 : List PS := [.asg (.nm 6) (.sub (.lst [(.lit (.int 0)), (.call "_law_draw" [(.var 0), (.lit (.int 4))]), (.call "_law_draw" [(.var 0), (.bin .Pow (.lit (.int 10)) (.lit (.int 30)))])]) (.call "_law_draw" [(.var 0), (.lit (.int 3))])), .asg (.nm 7) (.sub (.lst [(.lit (.int 0)), (.var 6), (.call "_law_draw" [(.var 0), (.bin .Add (.var 6) (.lit (.int 1)))])]) (.call "_law_draw" [(.var 0), (.lit (.int 3))])), .expr (.bmeth (.var 2) "append" [(.tup [(.var 1), (.var 6)])]), .expr (.bmeth (.var 3) "append" [(.tup [(.var 1), (.var 7)])]), .asg (.nm 5) (.bin .Sub (.bin .Add (.var 5) (.var 6)) (.var 7))]
def l__law_great_effect_0 : PS := .for_ (.nm 1) .rng [(.neg (.lit (.int 3))), (.lit (.int 4))] b__law_great_effect_0
def f__law_great_effect : Fn := { ps := ["pool"], npos := 1, star := false, dfl := [], ns := 9, asg := [1, 2, 3, 4, 5, 6, 7], body := [
      .par [2, 3, 5] [(.lst []), (.lst []), (.lit (.int 0))],
      l__law_great_effect_0,
      .asg (.nm 2) (.blt .tuple [(.comp (.var 8) (.nm 8) [8] .seq [(.var 2)] [(.val (.cmp .Gt (.sub (.var 8) (.lit (.int 1))) (.lit (.int 0))))])]),
      .asg (.nm 3) (.blt .tuple [(.comp (.var 8) (.nm 8) [8] .seq [(.var 3)] [(.val (.cmp .Gt (.sub (.var 8) (.lit (.int 1))) (.lit (.int 0))))])]),
      .asg (.nm 4) (.sub (.lst [(.lit (.int 0)), (.call "_law_draw" [(.var 0), (.lit (.int 4))]), (.call "_law_draw" [(.var 0), (.bin .Pow (.lit (.int 10)) (.lit (.int 30)))])]) (.call "_law_draw" [(.var 0), (.lit (.int 3))])),
      .ret (.mk "Effect" [(.var 2), (.bin .Add (.var 5) (.var 4)), (.var 3)])] }
@[simp] theorem ps__law_great_effect : f__law_great_effect.ps = (["pool"] : List Str) := rfl
def f_move_bag : Fn := { ps := ["bag", "number"], npos := 2, star := false, dfl := [], ns := 4, asg := [], body := [
      .ret (.blt .tuple [(.comp (.tup [(.bin .Add (.var 2) (.var 1)), (.var 3)]) (.tup [(.nm 2), (.nm 3)]) [2, 3] .seq [(.var 0)] [])])] }
@[simp] theorem ps_move_bag : f_move_bag.ps = (["bag", "number"] : List Str) := rfl
def f_Effect_moved : Fn := { ps := ["self", "number"], npos := 2, star := false, dfl := [], ns := 2, asg := [], body := [
      .expr (.call "check_number" [(.var 1)]),
      .ret (.mk "Effect" [(.call "move_bag" [(.attr (.var 0) "inserted"), (.var 1)]), (.attr (.var 0) "removals"), (.call "move_bag" [(.attr (.var 0) "survivors"), (.var 1)])])] }
@[simp] theorem ps_Effect_moved : f_Effect_moved.ps = (["self", "number"] : List Str) := rfl
def b_check_effects_0 : List PS := [.ite (.not (.val (.isi (.var 1) ["Effect"]))) [.bad] []]
def l_check_effects_0 : PS := .for_ (.nm 1) .seq [(.var 0)] b_check_effects_0
def f_check_effects : Fn := { ps := ["values"], npos := 1, star := false, dfl := [], ns := 2, asg := [1], body := [
      l_check_effects_0] }
@[simp] theorem ps_check_effects : f_check_effects.ps = (["values"] : List Str) := rfl
def f_make_effect : Fn := { ps := ["parts"], npos := 1, star := false, dfl := [], ns := 1, asg := [], body := [
      .ret (.mk "Effect" [(.sub (.var 0) (.lit (.int 0))), (.sub (.var 0) (.lit (.int 1))), (.sub (.var 0) (.lit (.int 2)))])] }
@[simp] theorem ps_make_effect : f_make_effect.ps = (["parts"] : List Str) := rfl
def b_compose_0 : List PS := [.asg (.nm 1) (.call "join_parts" [(.var 1), (.attr (.var 2) "own_parts")])]
def l_compose_0 : PS := .for_ (.nm 2) .seq [(.var 0)] b_compose_0
def f_compose : Fn := { ps := ["effects"], npos := 1, star := true, dfl := [], ns := 3, asg := [1, 2], body := [
      .expr (.call "check_effects" [(.var 0)]),
      .asg (.nm 1) (.glob "IDENTITY"),
      l_compose_0,
      .ret (.call "make_effect" [(.var 1)])] }
@[simp] theorem ps_compose : f_compose.ps = (["effects"] : List Str) := rfl
def f_power : Fn := { ps := ["effect", "count"], npos := 2, star := false, dfl := [], ns := 2, asg := [], body := [
      .expr (.call "check_effects" [(.lst [(.var 0)])]),
      .expr (.call "check_count" [(.var 1)]),
      .ret (.call "make_effect" [(.call "repeat_parts" [(.attr (.var 0) "own_parts"), (.var 1)])])] }
@[simp] theorem ps_power : f_power.ps = (["effect", "count"] : List Str) := rfl
def b__law_parts_1 : List PS := [.asg (.nm 4) (.bin .Add (.var 4) (.comp (.bin .Add (.var 5) (.tup [(.tup [(.var 2), (.var 7)])])) (.nm 7) [7] .rng [(.bin .Add (.var 3) (.lit (.int 1)))] []))]
def l__law_parts_1 : PS := .for_ (.nm 5) .seq [(.var 1)] b__law_parts_1
def b__law_parts_0 : List PS := [.asg (.nm 4) (.lst []), l__law_parts_1, .asg (.nm 1) (.var 4)]
def l__law_parts_0 : PS := .for_ (.tup [(.nm 2), (.nm 3)]) .seq [(.var 0)] b__law_parts_0
def f__law_parts : Fn := { ps := ["bag"], npos := 1, star := false, dfl := [], ns := 8, asg := [1, 2, 3, 4, 5], body := [
      .asg (.nm 1) (.lst [(.tup [])]),
      l__law_parts_0,
      .ret (.comp (.blt .tuple [(.comp (.var 6) (.nm 6) [6] .seq [(.var 5)] [(.val (.cmp .Gt (.sub (.var 6) (.lit (.int 1))) (.lit (.int 0))))])]) (.nm 5) [5] .seq [(.var 1)] [])] }
@[simp] theorem ps__law_parts : f__law_parts.ps = (["bag"] : List Str) := rfl
def f_commute : Fn := { ps := ["first", "second"], npos := 2, star := false, dfl := [], ns := 2, asg := [], body := [
      .expr (.call "check_effects" [(.lst [(.var 0), (.var 1)])]),
      .ret (.cmp .Eq (.call "join_parts" [(.attr (.var 0) "own_parts"), (.attr (.var 1) "own_parts")]) (.call "join_parts" [(.attr (.var 1) "own_parts"), (.attr (.var 0) "own_parts")]))] }
@[simp] theorem ps_commute : f_commute.ps = (["first", "second"] : List Str) := rfl
def f_root : Fn := { ps := ["effect", "count"], npos := 2, star := false, dfl := [], ns := 7, asg := [2, 3, 4], body := [
      .expr (.call "check_effects" [(.lst [(.var 0)])]),
      .expr (.call "check_count" [(.var 1)]),
      .ite (.val (.cmp .Eq (.var 1) (.lit (.int 0)))) [.bad] [],
      .ite (.or (.val (.cmp .NotEq (.bin .Mod (.attr (.var 0) "removals") (.var 1)) (.lit (.int 0)))) (.val (.blt .any [(.comp (.cmp .NotEq (.bin .Mod (.var 6) (.var 1)) (.lit (.int 0))) (.tup [(.nm 5), (.nm 6)]) [5, 6] .seq [(.attr (.var 0) "inserted")] [])]))) [.ret (.lit .non)] [],
      .asg (.nm 2) (.blt .tuple [(.comp (.tup [(.var 5), (.bin .FloorDiv (.var 6) (.var 1))]) (.tup [(.nm 5), (.nm 6)]) [5, 6] .seq [(.attr (.var 0) "inserted")] [])]),
      .asg (.nm 3) (.bin .FloorDiv (.attr (.var 0) "removals") (.var 1)),
      .asg (.nm 4) (.call "subtract" [(.attr (.var 0) "survivors"), (.call "scale" [(.call "drop" [(.var 2), (.var 3)]), (.bin .Sub (.var 1) (.lit (.int 1)))])]),
      .ite (.or (.val (.isN false (.var 4))) (.val (.isN true (.call "find_fault" [(.var 2), (.var 3), (.var 4)])))) [.ret (.lit .non)] [],
      .ret (.mk "Effect" [(.var 2), (.var 3), (.var 4)])] }
@[simp] theorem ps_root : f_root.ps = (["effect", "count"] : List Str) := rfl
def f_exponent : Fn := { ps := ["effect", "base"], npos := 2, star := false, dfl := [], ns := 3, asg := [2], body := [
      .expr (.call "check_effects" [(.lst [(.var 0), (.var 1)])]),
      .ite (.val (.cmp .Eq (.attr (.var 0) "own_parts") (.glob "IDENTITY"))) [.ret (.lit (.int 0))] [],
      .ite (.val (.cmp .Eq (.attr (.var 1) "own_parts") (.glob "IDENTITY"))) [.ret (.lit .non)] [],
      .ite (.val (.cmp .Gt (.attr (.var 1) "removals") (.lit (.int 0)))) [.asg (.nm 2) (.bin .FloorDiv (.attr (.var 0) "removals") (.attr (.var 1) "removals"))] [.asg (.nm 2) (.bin .FloorDiv (.call "total" [(.attr (.var 0) "inserted")]) (.call "total" [(.attr (.var 1) "inserted")]))],
      .ret (.ite (.val (.cmp .Eq (.call "repeat_parts" [(.attr (.var 1) "own_parts"), (.var 2)]) (.attr (.var 0) "own_parts"))) (.var 2) (.lit .non))] }
@[simp] theorem ps_exponent : f_exponent.ps = (["effect", "base"] : List Str) := rfl
def f_lowest : Fn := { ps := ["bags"], npos := 1, star := false, dfl := [], ns := 2, asg := [], body := [
      .ret (.bin .Sub .bad (.lit (.int 1)))] }
@[simp] theorem ps_lowest : f_lowest.ps = (["bags"] : List Str) := rfl
def b_first_difference_0 : List PS := [.par [5, 6] [(.bmeth (.blt .dict [(.var 0)]) "get" [(.var 4), (.lit (.int 0))]), (.bmeth (.blt .dict [(.var 1)]) "get" [(.var 4), (.lit (.int 0))])], .ite (.val (.cmp .NotEq (.var 5) (.var 6))) [.ret (.bin .Add (.var 3) (.blt .min [(.var 5), (.var 6)]))] [], .aug 3 .Add (.var 5)]
def l_first_difference_0 : PS := .for_ (.nm 4) .seq [(.var 2)] b_first_difference_0
def f_first_difference : Fn := { ps := ["first", "second"], npos := 2, star := false, dfl := [], ns := 8, asg := [2, 3, 4, 5, 6], body := [
      .asg (.nm 2) (.rev (.blt .sorted [.bad])),
      .asg (.nm 3) (.lit (.int 1)),
      l_first_difference_0,
      .ret (.var 3)] }
@[simp] theorem ps_first_difference : f_first_difference.ps = (["first", "second"] : List Str) := rfl
def f_separating_heap : Fn := { ps := ["first", "second"], npos := 2, star := false, dfl := [], ns := 3, asg := [2], body := [
      .expr (.call "check_effects" [(.lst [(.var 0), (.var 1)])]),
      .ite (.val (.cmp .Eq (.var 0) (.var 1))) [.ret (.lit .non)] [],
      .asg (.nm 2) (.blt .min [(.attr (.var 0) "needed"), (.attr (.var 1) "needed")]),
      .ite (.and (.val (.cmp .Eq (.attr (.var 0) "needed") (.attr (.var 1) "needed"))) (.val (.cmp .Eq (.attr (.var 0) "survivors") (.attr (.var 1) "survivors")))) [.aug 2 .Add (.call "first_difference" [(.attr (.var 0) "consumed"), (.attr (.var 1) "consumed")])] [],
      .ret (.call "scale" [(.tup [(.tup [(.call "lowest" [(.lst [(.attr (.var 0) "inserted"), (.attr (.var 1) "inserted")])]), (.lit (.int 1))])]), (.var 2)])] }
@[simp] theorem ps_separating_heap : f_separating_heap.ps = (["first", "second"] : List Str) := rfl
def f__law_list : Fn := { ps := ["entries"], npos := 1, star := false, dfl := [], ns := 3, asg := [], body := [
      .ret (.blt .sum [(.comp (.bin .Mult (.lst [(.var 1)]) (.var 2)) (.tup [(.nm 1), (.nm 2)]) [1, 2] .seq [(.var 0)] []), (.lst [])])] }
@[simp] theorem ps__law_list : f__law_list.ps = (["entries"] : List Str) := rfl
def f_identify : Fn := { ps := ["low", "high", "size", "low_result", "high_result"], npos := 5, star := false, dfl := [], ns := 10, asg := [5, 6, 7, 8], body := [
      .expr (.call "check_number" [(.var 0)]),
      .expr (.call "check_number" [(.var 1)]),
      .expr (.call "check_count" [(.var 2)]),
      .ite (.val (.cmp .Gt (.var 0) (.var 1))) [.bad] [],
      .expr (.call "check_bag" [(.var 3)]),
      .expr (.call "check_bag" [(.var 4)]),
      .asg (.nm 5) (.blt .tuple [(.comp (.var 9) (.nm 9) [9] .seq [(.var 3)] [(.val .bad)])]),
      .asg (.nm 6) (.blt .tuple [(.comp (.var 9) (.nm 9) [9] .seq [(.var 4)] [(.val .bad)])]),
      .asg (.nm 7) (.call "level" [(.var 3), (.bin .Sub (.var 0) (.lit (.int 1)))]),
      .ite (.or (.val (.cmp .Gt (.var 7) (.var 2))) (.not (.val .bad))) [.ret (.lit .non)] [],
      .asg (.nm 8) (.mk "Effect" [(.var 5), (.bin .Sub (.var 2) (.var 7)), (.var 6)]),
      .ite (.or (.val (.cmp .NotEq (.call "total" [(.var 3)]) (.bin .Add (.call "total" [(.var 5)]) (.var 7)))) (.val (.cmp .NotEq (.bmeth (.blt .dict [(.var 3)]) "get" [(.bin .Sub (.var 0) (.lit (.int 1))), (.lit (.int 0))]) (.var 7)))) [.ret (.lit .non)] [],
      .ret (.ite (.val (.cmp .Eq (.meth (.var 8) "apply" [(.call "scale" [(.tup [(.tup [(.bin .Add (.var 1) (.lit (.int 1))), (.lit (.int 1))])]), (.var 2)])]) (.var 4))) (.var 8) (.lit .non))] }
@[simp] theorem ps_identify : f_identify.ps = (["low", "high", "size", "low_result", "high_result"] : List Str) := rfl
def f_numbers_of : Fn := { ps := ["bags"], npos := 1, star := false, dfl := [], ns := 4, asg := [], body := [
      .ret (.blt .sorted [.bad])] }
@[simp] theorem ps_numbers_of : f_numbers_of.ps = (["bags"] : List Str) := rfl
def f_bag_with_levels : Fn := { ps := ["numbers", "levels"], npos := 2, star := false, dfl := [], ns := 6, asg := [2], body := [
      .asg (.nm 2) (.bin .Add (.lst [(.lit (.int 0))]) (.var 1)),
      .ret (.call "from_counts" [.bad])] }
@[simp] theorem ps_bag_with_levels : f_bag_with_levels.ps = (["numbers", "levels"] : List Str) := rfl
def f_greatest_levels : Fn := { ps := ["inserted", "numbers", "bounds"], npos := 3, star := false, dfl := [], ns := 10, asg := [3, 4, 5, 6, 7, 8, 9], body := [
      .par [4, 5, 6] [(.lit (.int 0)), (.lit (.int 0)), (.lst [])],
      .bad,
      .bad,
      .ret (.var 6)] }
@[simp] theorem ps_greatest_levels : f_greatest_levels.ps = (["inserted", "numbers", "bounds"] : List Str) := rfl
def f_remainder : Fn := { ps := ["whole", "part"], npos := 2, star := false, dfl := [], ns := 3, asg := [2], body := [
      .asg (.nm 2) (.call "subtract" [(.attr (.var 0) "inserted"), (.attr (.var 1) "inserted")]),
      .ite (.or (.val (.isN false (.var 2))) (.val (.cmp .Lt (.attr (.var 0) "removals") (.attr (.var 1) "removals")))) [.ret (.lit .non)] [],
      .ret (.tup [(.var 2), (.bin .Sub (.attr (.var 0) "removals") (.attr (.var 1) "removals"))])] }
@[simp] theorem ps_remainder : f_remainder.ps = (["whole", "part"] : List Str) := rfl
def f_quotient_parts : Fn := { ps := ["rest", "numbers", "bounds"], npos := 3, star := false, dfl := [], ns := 6, asg := [3, 4], body := [
      .asg (.nm 3) (.call "greatest_levels" [(.sub (.var 0) (.lit (.int 0))), (.var 1), (.var 2)]),
      .ite (.val (.blt .any [(.comp (.cmp .Lt (.var 5) (.lit (.int 0))) (.nm 5) [5] .seq [(.var 3)] [])])) [.ret (.lit .non)] [],
      .asg (.nm 4) (.call "bag_with_levels" [(.var 1), (.var 3)]),
      .ite (.val (.isN true (.call "find_fault" [(.sub (.var 0) (.lit (.int 0))), (.sub (.var 0) (.lit (.int 1))), (.var 4)]))) [.ret (.lit .non)] [],
      .ret (.tup [(.sub (.var 0) (.lit (.int 0))), (.sub (.var 0) (.lit (.int 1))), (.var 4)])] }
@[simp] theorem ps_quotient_parts : f_quotient_parts.ps = (["rest", "numbers", "bounds"] : List Str) := rfl
def f_right_quotient : Fn := { ps := ["whole", "first"], npos := 2, star := false, dfl := [], ns := 6, asg := [2, 3, 4], body := [
      .expr (.call "check_effects" [(.lst [(.var 0), (.var 1)])]),
      .asg (.nm 2) (.call "remainder" [(.var 0), (.var 1)]),
      .ite (.val (.isN false (.var 2))) [.ret (.lit .non)] [],
      .asg (.nm 3) (.call "numbers_of" [(.lst [(.attr (.var 0) "inserted")])]),
      .asg (.nm 4) (.call "quotient_parts" [(.var 2), (.var 3), (.comp (.call "level" [(.attr (.var 0) "survivors"), (.var 5)]) (.nm 5) [5] .seq [(.var 3)] [])]),
      .ite (.or (.val (.isN false (.var 4))) (.val (.cmp .NotEq (.call "join_parts" [(.attr (.var 1) "own_parts"), (.var 4)]) (.attr (.var 0) "own_parts")))) [.ret (.lit .non)] [],
      .ret (.call "make_effect" [(.var 4)])] }
@[simp] theorem ps_right_quotient : f_right_quotient.ps = (["whole", "first"] : List Str) := rfl
def b__law_greatest_1 : List PS := [.ite (.val (.cmp .Lt (.call "_law_level" [(.attr (.var 0) "survivors"), (.var 3)]) (.call "_law_level" [(.attr (.var 2) "survivors"), (.var 3)]))) [.ret (.lit (.bl false))] []]
def l__law_greatest_1 : PS := .for_ (.nm 3) .rng [(.neg (.lit (.int 5))), (.lit (.int 6))] b__law_greatest_1
def b__law_greatest_0 : List PS := [l__law_greatest_1]
def l__law_greatest_0 : PS := .for_ (.nm 2) .seq [(.var 1)] b__law_greatest_0
def f__law_greatest : Fn := { ps := ["one", "others"], npos := 2, star := false, dfl := [], ns := 4, asg := [2, 3], body := [
      l__law_greatest_0,
      .ret (.cmp .In (.var 0) (.var 1))] }
@[simp] theorem ps__law_greatest : f__law_greatest.ps = (["one", "others"] : List Str) := rfl
def f_left_quotient : Fn := { ps := ["whole", "last"], npos := 2, star := false, dfl := [], ns := 7, asg := [2, 3, 4, 5], body := [
      .expr (.call "check_effects" [(.lst [(.var 0), (.var 1)])]),
      .asg (.nm 2) (.call "remainder" [(.var 0), (.var 1)]),
      .ite (.val (.isN false (.var 2))) [.ret (.lit .non)] [],
      .asg (.nm 3) (.call "numbers_of" [(.lst [(.attr (.var 0) "inserted")])]),
      .asg (.nm 4) (.comp (.bin .Add (.bin .Sub (.call "level" [(.attr (.var 0) "survivors"), (.var 6)]) (.call "level" [(.attr (.var 1) "inserted"), (.var 6)])) (.attr (.var 1) "removals")) (.nm 6) [6] .seq [(.var 3)] []),
      .asg (.nm 5) (.call "quotient_parts" [(.var 2), (.var 3), (.var 4)]),
      .ite (.or (.val (.isN false (.var 5))) (.val (.cmp .NotEq (.call "join_parts" [(.var 5), (.attr (.var 1) "own_parts")]) (.attr (.var 0) "own_parts")))) [.ret (.lit .non)] [],
      .ret (.call "make_effect" [(.var 5)])] }
@[simp] theorem ps_left_quotient : f_left_quotient.ps = (["whole", "last"] : List Str) := rfl
def f_is_elementary : Fn := { ps := ["value"], npos := 1, star := false, dfl := [], ns := 1, asg := [], body := [
      .ret (.and (.call "is_step" [(.var 0), (.lit (.int 1))]) (.and (.cmp .NotEq (.sub (.var 0) (.lit (.int 0))) (.lit (.str "repeat"))) (.cmp .Eq (.sub (.var 0) (.neg (.lit (.int 1)))) (.lit (.int 1)))))] }
@[simp] theorem ps_is_elementary : f_is_elementary.ps = (["value"] : List Str) := rfl
def b_check_sequence_0 : List PS := [.ite (.not (.val (.call "is_elementary" [(.var 2)]))) [.bad] []]
def l_check_sequence_0 : PS := .for_ (.tup [(.nm 1), (.nm 2)]) .enum [(.var 0)] b_check_sequence_0
def f_check_sequence : Fn := { ps := ["sequence"], npos := 1, star := false, dfl := [], ns := 3, asg := [1, 2], body := [
      .ite (.or (.not (.val (.isi (.var 0) ["list"]))) (.val (.cmp .Gt (.blt .len [(.var 0)]) (.glob "MAX_STEPS")))) [.bad] [],
      l_check_sequence_0] }
@[simp] theorem ps_check_sequence : f_check_sequence.ps = (["sequence"] : List Str) := rfl
def f_effect_of : Fn := { ps := ["sequence"], npos := 1, star := false, dfl := [], ns := 1, asg := [], body := [
      .expr (.call "check_sequence" [(.var 0)]),
      .ret (.smeth "Effect" "of" [(.blt .tuple [(.var 0)])])] }
@[simp] theorem ps_effect_of : f_effect_of.ps = (["sequence"] : List Str) := rfl
def f__law_drawB : Fn := { ps := ["pool", "count"], npos := 2, star := false, dfl := [], ns := 4, asg := [2, 3], body := [
      .ite (.val (.cmp .Eq (.sub (.var 0) (.lit (.int 2))) (.lit (.int 0)))) [.asg (.nm 3) (.ite (.val (.cmp .Lt (.sub (.var 0) (.lit (.int 1))) (.blt .len [(.sub (.var 0) (.lit (.int 0)))]))) (.sub (.sub (.var 0) (.lit (.int 0))) (.sub (.var 0) (.lit (.int 1)))) (.lit (.int 0))), .asgSub (.var 0) (.lit (.int 1)) (.bin .Add (.sub (.var 0) (.lit (.int 1))) (.lit (.int 1))), .ite (.val (.cmp .Lt (.var 3) (.bin .Pow (.lit (.int 10)) (.lit (.int 18))))) [.asgSub (.var 0) (.lit (.int 3)) (.bin .Mod (.bin .Add (.bin .Add (.bin .Mult (.sub (.var 0) (.lit (.int 3))) (.lit (.int 48271))) (.bin .Mod (.var 3) (.lit (.int 2147483629)))) (.sub (.var 0) (.lit (.int 1)))) (.lit (.int 2147483647))), .ret (.bin .Mod (.bin .FloorDiv (.bin .Mod (.bin .Mult (.sub (.var 0) (.lit (.int 3))) (.sub (.var 0) (.lit (.int 3)))) (.lit (.int 2147483629))) (.lit (.int 7))) (.var 1))] [], .asgSub (.var 0) (.lit (.int 2)) (.var 3)] [],
      .asg (.nm 2) (.bin .Mod (.sub (.var 0) (.lit (.int 2))) (.var 1)),
      .asgSub (.var 0) (.lit (.int 2)) (.bin .FloorDiv (.sub (.var 0) (.lit (.int 2))) (.var 1)),
      .ret (.var 2)] }
@[simp] theorem ps__law_drawB : f__law_drawB.ps = (["pool", "count"] : List Str) := rfl
def f__law_base : Fn := { ps := ["pool"], npos := 1, star := false, dfl := [], ns := 1, asg := [], body := [
      .ret (.sub (.lst [(.lit (.int 0)), (.neg (.lit (.int 2))), (.bin .Pow (.lit (.int 10)) (.lit (.int 25))), (.bin .Add (.bin .Sub (.lit (.int 0)) (.bin .Pow (.lit (.int 10)) (.lit (.int 25)))) (.call "_law_draw" [(.var 0), (.bin .Pow (.lit (.int 10)) (.lit (.int 6)))]))]) (.call "_law_draw" [(.var 0), (.lit (.int 4))]))] }
@[simp] theorem ps__law_base : f__law_base.ps = (["pool"] : List Str) := rfl
def b__law_steps_0 : List PS := [.ite (.val (.cmp .Lt (.call "_law_draw" [(.var 0), (.lit (.int 4))]) (.var 4))) [.expr (.bmeth (.var 5) "append" [(.tup [(.lit (.str "insert")), (.bin .Add (.var 3) (.call "_law_draw" [(.var 0), (.var 2)])), (.lit (.int 1))])])] [.expr (.bmeth (.var 5) "append" [(.tup [(.lit (.str "remove")), (.lit (.int 1))])])]]
def l__law_steps_0 : PS := .for_ (.nm 6) .rng [(.var 1)] b__law_steps_0
def f__law_steps : Fn := { ps := ["pool", "count", "width"], npos := 3, star := false, dfl := [], ns := 7, asg := [3, 4, 5, 6], body := [
      .asg (.nm 3) (.call "_law_base" [(.var 0)]),
      .asg (.nm 4) (.call "_law_draw" [(.var 0), (.lit (.int 5))]),
      .asg (.nm 5) (.lst []),
      l__law_steps_0,
      .ret (.var 5)] }
@[simp] theorem ps__law_steps : f__law_steps.ps = (["pool", "count", "width"] : List Str) := rfl
def b__law_triple_0 : List PS := [.ite (.val (.cmp .Eq (.sub (.var 3) (.lit (.int 0))) (.lit (.str "insert")))) [.asg (.nm 2) (.blt .sorted [(.bin .Add (.var 2) (.lst [(.sub (.var 3) (.lit (.int 1)))]))])] [.asg (.nm 2) (.sl (.var 2) (some (.lit (.int 1))) none)]]
def l__law_triple_0 : PS := .for_ (.nm 3) .seq [(.var 0)] b__law_triple_0
def f__law_triple : Fn := { ps := ["steps"], npos := 1, star := false, dfl := [], ns := 4, asg := [1, 2, 3], body := [
      .asg (.nm 1) (.comp (.sub (.var 3) (.lit (.int 1))) (.nm 3) [3] .seq [(.var 0)] [(.val (.cmp .Eq (.sub (.var 3) (.lit (.int 0))) (.lit (.str "insert"))))]),
      .asg (.nm 2) (.lst []),
      l__law_triple_0,
      .ret (.tup [(.call "_law_bag" [(.var 1)]), (.bin .Sub (.blt .len [(.var 0)]) (.blt .len [(.var 1)])), (.call "_law_bag" [(.var 2)])])] }
@[simp] theorem ps__law_triple : f__law_triple.ps = (["steps"] : List Str) := rfl
def f_SequenceCounteru_initu : Fn := { ps := ["self", "effect"], npos := 2, star := false, dfl := [], ns := 3, asg := [2], body := [
      .expr (.call "check_effects" [(.lst [(.var 1)])]),
      .asg (.nm 2) (.bin .Add (.call "total" [(.attr (.var 1) "inserted")]) (.attr (.var 1) "removals")),
      .ite (.val (.cmp .Gt (.var 2) (.glob "MAX_COUNTED"))) [.bad] [],
      .asgAttr (.var 0) "length" (.var 2),
      .asgAttr (.var 0) "wanted" (.attr (.var 1) "survivors"),
      .asgAttr (.var 0) "start" (.tup [(.attr (.var 1) "inserted"), (.attr (.var 1) "removals"), (.tup [])]),
      .asgAttr (.var 0) "known" (.dct [] [])] }
@[simp] theorem ps_SequenceCounteru_initu : f_SequenceCounteru_initu.ps = (["self", "effect"] : List Str) := rfl
def b_SequenceCounter_choices_0 : List PS := [.asg (.nm 8) (.tup [(.tup [(.var 6), (.lit (.int 1))])]), .expr (.bmeth (.var 2) "append" [(.tup [(.tup [(.lit (.str "insert")), (.var 6), (.lit (.int 1))]), (.tup [(.call "subtract" [(.var 3), (.var 8)]), (.var 4), (.call "add" [(.var 5), (.var 8)])])])])]
def l_SequenceCounter_choices_0 : PS := .for_ (.tup [(.nm 6), (.nm 7)]) .seq [(.var 3)] b_SequenceCounter_choices_0
def f_SequenceCounter_choices : Fn := { ps := ["self", "state"], npos := 2, star := false, dfl := [], ns := 9, asg := [2, 3, 4, 5, 6, 7, 8], body := [
      .asg (.tup [(.nm 3), (.nm 4), (.nm 5)]) (.var 1),
      .asg (.nm 2) (.lst []),
      l_SequenceCounter_choices_0,
      .ite (.val (.cmp .Gt (.var 4) (.lit (.int 0)))) [.expr (.bmeth (.var 2) "append" [(.tup [(.glob "REMOVAL"), (.tup [(.var 3), (.bin .Sub (.var 4) (.lit (.int 1))), (.call "drop" [(.var 5), (.lit (.int 1))])])])])] [],
      .ret (.var 2)] }
@[simp] theorem ps_SequenceCounter_choices : f_SequenceCounter_choices.ps = (["self", "state"] : List Str) := rfl
def f_SequenceCounter_ways : Fn := { ps := ["self", "state"], npos := 2, star := false, dfl := [], ns := 4, asg := [], body := [
      .ite (.val (.cmp .NotIn (.var 1) (.attr (.var 0) "known"))) [.ite (.and (.val (.cmp .Eq (.sub (.var 1) (.lit (.int 0))) (.tup []))) (.val (.cmp .Eq (.sub (.var 1) (.lit (.int 1))) (.lit (.int 0))))) [.asgSub (.attr (.var 0) "known") (.var 1) (.ite (.val (.cmp .Eq (.sub (.var 1) (.lit (.int 2))) (.attr (.var 0) "wanted"))) (.lit (.int 1)) (.lit (.int 0)))] [.asgSub (.attr (.var 0) "known") (.var 1) (.blt .sum [(.comp (.meth (.var 0) "ways" [(.var 3)]) (.tup [(.nm 2), (.nm 3)]) [2, 3] .seq [(.meth (.var 0) "choices" [(.var 1)])] [])])]] [],
      .ret (.sub (.attr (.var 0) "known") (.var 1))] }
@[simp] theorem ps_SequenceCounter_ways : f_SequenceCounter_ways.ps = (["self", "state"] : List Str) := rfl
def b_SequenceCounter_sequence_1 : List PS := [.ite (.val (.cmp .Lt (.var 4) (.meth (.var 0) "ways" [(.var 7)]))) [.expr (.bmeth (.var 5) "append" [(.var 6)]), .asg (.nm 3) (.var 7), .brk] [], .aug 4 .Sub (.meth (.var 0) "ways" [(.var 7)])]
def l_SequenceCounter_sequence_1 : PS := .for_ (.tup [(.nm 6), (.nm 7)]) .seq [(.meth (.var 0) "choices" [(.var 3)])] b_SequenceCounter_sequence_1
def b_SequenceCounter_sequence_0 : List PS := [l_SequenceCounter_sequence_1]
def l_SequenceCounter_sequence_0 : PS := .for_ (.nm 2) .rng [(.attr (.var 0) "length")] b_SequenceCounter_sequence_0
def f_SequenceCounter_sequence : Fn := { ps := ["self", "index"], npos := 2, star := false, dfl := [], ns := 8, asg := [2, 3, 4, 5, 6, 7], body := [
      .par [3, 4, 5] [(.attr (.var 0) "start"), (.var 1), (.lst [])],
      l_SequenceCounter_sequence_0,
      .ret (.var 5)] }
@[simp] theorem ps_SequenceCounter_sequence : f_SequenceCounter_sequence.ps = (["self", "index"] : List Str) := rfl
def b_SequenceCounter_place_1 : List PS := [.ite (.val (.cmp .Eq (.var 5) (.var 2))) [.asg (.nm 3) (.var 6), .brk] [], .aug 4 .Add (.meth (.var 0) "ways" [(.var 6)])]
def l_SequenceCounter_place_1 : PS := .for_ (.tup [(.nm 5), (.nm 6)]) .seq [(.meth (.var 0) "choices" [(.var 3)])] b_SequenceCounter_place_1
def b_SequenceCounter_place_0 : List PS := [l_SequenceCounter_place_1]
def l_SequenceCounter_place_0 : PS := .for_ (.nm 2) .seq [(.var 1)] b_SequenceCounter_place_0
def f_SequenceCounter_place : Fn := { ps := ["self", "sequence"], npos := 2, star := false, dfl := [], ns := 7, asg := [2, 3, 4, 5, 6], body := [
      .par [3, 4] [(.attr (.var 0) "start"), (.lit (.int 0))],
      l_SequenceCounter_place_0,
      .ret (.var 4)] }
@[simp] theorem ps_SequenceCounter_place : f_SequenceCounter_place.ps = (["self", "sequence"] : List Str) := rfl
def f_count_sequences : Fn := { ps := ["effect"], npos := 1, star := false, dfl := [], ns := 2, asg := [1], body := [
      .asg (.nm 1) (.mk "SequenceCounter" [(.var 0)]),
      .ret (.meth (.var 1) "ways" [(.attr (.var 1) "start")])] }
@[simp] theorem ps_count_sequences : f_count_sequences.ps = (["effect"] : List Str) := rfl
def f_sequence_at : Fn := { ps := ["effect", "index"], npos := 2, star := false, dfl := [], ns := 3, asg := [2], body := [
      .asg (.nm 2) (.mk "SequenceCounter" [(.var 0)]),
      .ite (.or (.not (.val (.call "is_count" [(.var 1)]))) (.val (.cmp .GtE (.var 1) (.meth (.var 2) "ways" [(.attr (.var 2) "start")])))) [.bad] [],
      .ret (.meth (.var 2) "sequence" [(.var 1)])] }
@[simp] theorem ps_sequence_at : f_sequence_at.ps = (["effect", "index"] : List Str) := rfl
def f_index_of : Fn := { ps := ["sequence"], npos := 1, star := false, dfl := [], ns := 2, asg := [1], body := [
      .asg (.nm 1) (.mk "SequenceCounter" [(.call "effect_of" [(.var 0)])]),
      .ret (.meth (.var 1) "place" [(.var 0)])] }
@[simp] theorem ps_index_of : f_index_of.ps = (["sequence"] : List Str) := rfl
def f_parts_of : Fn := { ps := ["sequence"], npos := 1, star := false, dfl := [], ns := 1, asg := [], body := [
      .ret (.call "program_parts" [(.blt .tuple [(.var 0)])])] }
@[simp] theorem ps_parts_of : f_parts_of.ps = (["sequence"] : List Str) := rfl
def f_exchanged : Fn := { ps := ["sequence", "index"], npos := 2, star := false, dfl := [], ns := 2, asg := [], body := [
      .ret (.bin .Add (.bin .Add (.sl (.var 0) none (some (.var 1))) (.lst [(.sub (.var 0) (.bin .Add (.var 1) (.lit (.int 1)))), (.sub (.var 0) (.var 1))])) (.sl (.var 0) (some (.bin .Add (.var 1) (.lit (.int 2)))) none))] }
@[simp] theorem ps_exchanged : f_exchanged.ps = (["sequence", "index"] : List Str) := rfl
def f_is_allowed : Fn := { ps := ["sequence", "index"], npos := 2, star := false, dfl := [], ns := 2, asg := [], body := [
      .ite (.val (.cmp .Eq (.sub (.var 0) (.var 1)) (.sub (.var 0) (.bin .Add (.var 1) (.lit (.int 1)))))) [.ret (.lit (.bl false))] [],
      .ret (.cmp .Eq (.call "parts_of" [(.call "exchanged" [(.var 0), (.var 1)])]) (.call "parts_of" [(.var 0)]))] }
@[simp] theorem ps_is_allowed : f_is_allowed.ps = (["sequence", "index"] : List Str) := rfl
def f_allowed_exchanges : Fn := { ps := ["sequence"], npos := 1, star := false, dfl := [], ns := 2, asg := [], body := [
      .expr (.call "check_sequence" [(.var 0)]),
      .ret (.comp (.var 1) (.nm 1) [1] .rng [(.bin .Sub (.blt .len [(.var 0)]) (.lit (.int 1)))] [(.val (.call "is_allowed" [(.var 0), (.var 1)]))])] }
@[simp] theorem ps_allowed_exchanges : f_allowed_exchanges.ps = (["sequence"] : List Str) := rfl
def f__law_swapped : Fn := { ps := ["steps", "at"], npos := 2, star := false, dfl := [], ns := 2, asg := [], body := [
      .ret (.bin .Add (.bin .Add (.sl (.var 0) none (some (.var 1))) (.lst [(.sub (.var 0) (.bin .Add (.var 1) (.lit (.int 1)))), (.sub (.var 0) (.var 1))])) (.sl (.var 0) (some (.bin .Add (.var 1) (.lit (.int 2)))) none))] }
@[simp] theorem ps__law_swapped : f__law_swapped.ps = (["steps", "at"] : List Str) := rfl
def b_roles_0 : List PS := [.ite (.val (.cmp .Eq (.var 4) (.glob "REMOVAL"))) [.expr (.bmeth (.var 1) "append" [(.glob "REMOVING")]), .ite (.val (.cmp .NotEq (.var 2) (.lst []))) [.asg (.tup [(.nm 5), (.nm 6)]) (.blt .min [(.var 2)]), .expr (.meth (.var 2) "remove" [(.tup [(.var 5), (.var 6)])]), .asgSub (.var 1) (.var 6) (.glob "CONSUMED")] []] [.expr (.bmeth (.var 1) "append" [(.glob "SURVIVING")]), .expr (.bmeth (.var 2) "append" [(.tup [(.sub (.var 4) (.lit (.int 1))), (.var 3)])])]]
def l_roles_0 : PS := .for_ (.tup [(.nm 3), (.nm 4)]) .enum [(.var 0)] b_roles_0
def f_roles : Fn := { ps := ["sequence"], npos := 1, star := false, dfl := [], ns := 7, asg := [1, 2, 3, 4, 5, 6], body := [
      .par [1, 2] [(.lst []), (.lst [])],
      l_roles_0,
      .ret (.var 1)] }
@[simp] theorem ps_roles : f_roles.ps = (["sequence"] : List Str) := rfl
def f_sort_key : Fn := { ps := ["role", "step"], npos := 2, star := false, dfl := [], ns := 2, asg := [], body := [
      .ret (.tup [(.var 0), (.ite (.val (.cmp .Eq (.var 1) (.glob "REMOVAL"))) (.lit (.int 0)) (.sub (.var 1) (.lit (.int 1))))])] }
@[simp] theorem ps_sort_key : f_sort_key.ps = (["role", "step"] : List Str) := rfl
def f_Normalizeru_initu : Fn := { ps := ["self", "sequence"], npos := 2, star := false, dfl := [], ns := 2, asg := [], body := [
      .asgAttr (.var 0) "rows" .bad,
      .asgAttr (.var 0) "exchanges" (.lst [])] }
@[simp] theorem ps_Normalizeru_initu : f_Normalizeru_initu.ps = (["self", "sequence"] : List Str) := rfl
def b_Normalizer_sort_by_1 : List PS := [.bad, .expr (.bmeth (.attr (.var 0) "exchanges") "append" [(.bin .Sub (.var 3) (.lit (.int 1)))]), .aug 3 .Sub (.lit (.int 1))]
def l_Normalizer_sort_by_1 : PS := .wh (.and (.val (.cmp .Gt (.var 3) (.lit (.int 0)))) (.val (.cmp .Gt .bad .bad))) b_Normalizer_sort_by_1
def b_Normalizer_sort_by_0 : List PS := [.asg (.nm 3) (.var 2), l_Normalizer_sort_by_1]
def l_Normalizer_sort_by_0 : PS := .for_ (.nm 2) .rng [(.lit (.int 1)), (.blt .len [(.attr (.var 0) "rows")])] b_Normalizer_sort_by_0
def f_Normalizer_sort_by : Fn := { ps := ["self", "rank"], npos := 2, star := false, dfl := [], ns := 4, asg := [2, 3], body := [
      l_Normalizer_sort_by_0] }
@[simp] theorem ps_Normalizer_sort_by : f_Normalizer_sort_by.ps = (["self", "rank"] : List Str) := rfl
def f_derivation : Fn := { ps := ["sequence", "target"], npos := 2, star := false, dfl := [], ns := 2, asg := [], body := [
      .expr (.call "check_sequence" [(.var 0)]),
      .expr (.call "check_sequence" [(.var 1)]),
      .ite (.val (.cmp .NotEq (.call "parts_of" [(.var 0)]) (.call "parts_of" [(.var 1)]))) [.ret (.lit .non)] [],
      .ret (.bin .Add (.call "normalizing_exchanges" [(.var 0)]) (.rev (.call "normalizing_exchanges" [(.var 1)])))] }
@[simp] theorem ps_derivation : f_derivation.ps = (["sequence", "target"] : List Str) := rfl
def b_check_derivation_0 : List PS := [.ite (.or (.not (.val (.call "is_count" [(.var 4)]))) (.or (.val (.cmp .GtE (.bin .Add (.var 4) (.lit (.int 1))) (.blt .len [(.var 3)]))) (.not (.val (.call "is_allowed" [(.var 3), (.var 4)]))))) [.ret (.lit (.bl false))] [], .asg (.nm 3) (.call "exchanged" [(.var 3), (.var 4)])]
def l_check_derivation_0 : PS := .for_ (.nm 4) .seq [(.var 2)] b_check_derivation_0
def f_check_derivation : Fn := { ps := ["sequence", "target", "value"], npos := 3, star := false, dfl := [], ns := 5, asg := [3, 4], body := [
      .expr (.call "check_sequence" [(.var 0)]),
      .expr (.call "check_sequence" [(.var 1)]),
      .ite (.not (.val (.isi (.var 2) ["list"]))) [.ret (.lit (.bl false))] [],
      .asg (.nm 3) (.blt .list [(.var 0)]),
      l_check_derivation_0,
      .ret (.cmp .Eq (.var 3) (.var 1))] }
@[simp] theorem ps_check_derivation : f_check_derivation.ps = (["sequence", "target", "value"] : List Str) := rfl
def b__law_program_0 : List PS := [.asg (.nm 6) (.call "_law_draw" [(.var 0), (.lit (.int 5))]), .asg (.nm 7) (.tup [(.lit (.str "remove")), (.sub (.lst [(.lit (.int 1)), (.lit (.int 1)), (.lit (.int 2)), (.lit (.int 0))]) (.call "_law_draw" [(.var 0), (.lit (.int 4))]))]), .ite (.and (.val (.cmp .Eq (.var 6) (.lit (.int 4)))) (.val (.cmp .Gt (.var 1) (.lit (.int 1))))) [.asg (.nm 7) (.tup [(.lit (.str "repeat")), (.call "_law_draw" [(.var 0), (.lit (.int 3))]), (.call "_law_program" [(.var 0), (.bin .Sub (.var 1) (.lit (.int 1))), (.var 2), (.var 3)])])] [.ite (.val (.cmp .Eq (.bin .Mod (.var 6) (.lit (.int 2))) (.lit (.int 0)))) [.asg (.nm 7) (.tup [(.lit (.str "insert")), (.bin .Add (.var 2) (.call "_law_draw" [(.var 0), (.var 3)])), (.sub (.var 7) (.lit (.int 1)))])] []], .asg (.nm 4) (.bin .Add (.var 4) (.tup [(.var 7)]))]
def l__law_program_0 : PS := .for_ (.nm 5) .rng [(.call "_law_draw" [(.var 0), (.lit (.int 4))])] b__law_program_0
def f__law_program : Fn := { ps := ["pool", "depth", "base", "width"], npos := 4, star := false, dfl := [], ns := 8, asg := [4, 5, 6, 7], body := [
      .asg (.nm 4) (.tup []),
      l__law_program_0,
      .ret (.var 4)] }
@[simp] theorem ps__law_program : f__law_program.ps = (["pool", "depth", "base", "width"] : List Str) := rfl
def b__law_expand_0 : List PS := [.ite (.val (.cmp .Eq (.sub (.var 2) (.lit (.int 0))) (.lit (.str "repeat")))) [.asg (.nm 1) (.bin .Add (.var 1) (.bin .Mult (.call "_law_expand" [(.sub (.var 2) (.lit (.int 2)))]) (.sub (.var 2) (.lit (.int 1)))))] [.asg (.nm 1) (.bin .Add (.var 1) (.bin .Mult (.lst [(.bin .Add (.sl (.var 2) none (some (.neg (.lit (.int 1))))) (.tup [(.lit (.int 1))]))]) (.sub (.var 2) (.neg (.lit (.int 1))))))]]
def l__law_expand_0 : PS := .for_ (.nm 2) .seq [(.var 0)] b__law_expand_0
def f__law_expand : Fn := { ps := ["program"], npos := 1, star := false, dfl := [], ns := 3, asg := [1, 2], body := [
      .asg (.nm 1) (.lst []),
      l__law_expand_0,
      .ret (.var 1)] }
@[simp] theorem ps__law_expand : f__law_expand.ps = (["program"] : List Str) := rfl
def f_check_runs : Fn := { ps := ["bag", "program"], npos := 2, star := false, dfl := [], ns := 3, asg := [2], body := [
      .asg (.nm 2) (.call "find_failure" [(.call "total" [(.var 0)]), (.var 1), (.lit .non)]),
      .ite (.val (.isN true (.var 2))) [.bad] []] }
@[simp] theorem ps_check_runs : f_check_runs.ps = (["bag", "program"] : List Str) := rfl
def f_contents_after : Fn := { ps := ["bag", "program", "index"], npos := 3, star := false, dfl := [], ns := 3, asg := [], body := [
      .ret (.meth (.smeth "Effect" "of" [(.call "first_part" [(.var 1), (.var 2)])]) "apply" [(.var 0)])] }
@[simp] theorem ps_contents_after : f_contents_after.ps = (["bag", "program", "index"] : List Str) := rfl
def f_heap_after : Fn := { ps := ["bag", "program", "index"], npos := 3, star := false, dfl := [], ns := 3, asg := [], body := [
      .expr (.call "check_bag" [(.var 0)]),
      .expr (.call "check_index" [(.var 1), (.var 2), (.lit (.int 1))]),
      .expr (.call "check_runs" [(.var 0), (.call "first_part" [(.var 1), (.var 2)])]),
      .ret (.call "contents_after" [(.var 0), (.var 1), (.var 2)])] }
@[simp] theorem ps_heap_after : f_heap_after.ps = (["bag", "program", "index"] : List Str) := rfl
def b_removal_index_0 : List PS := [.asg (.nm 5) (.call "count_steps" [(.tup [(.var 2)]), (.lit (.str "remove"))]), .ite (.val (.cmp .Lt (.var 3) (.var 5))) [.ite (.val (.cmp .Eq (.sub (.var 2) (.lit (.int 0))) (.lit (.str "remove")))) [.ret (.bin .Add (.var 4) (.var 3))] [], .asg (.nm 6) (.call "count_steps" [(.sub (.var 2) (.lit (.int 2))), (.lit (.str "remove"))]), .asg (.nm 7) (.bin .FloorDiv (.var 3) (.var 6)), .ret (.bin .Add (.bin .Add (.var 4) (.bin .Mult (.var 7) (.call "count_steps" [(.sub (.var 2) (.lit (.int 2))), (.lit .non)]))) (.call "removal_index" [(.sub (.var 2) (.lit (.int 2))), (.bin .Mod (.var 3) (.var 6))]))] [], .aug 3 .Sub (.var 5), .aug 4 .Add (.call "count_steps" [(.tup [(.var 2)]), (.lit .non)])]
def l_removal_index_0 : PS := .for_ (.nm 2) .seq [(.var 0)] b_removal_index_0
def f_removal_index : Fn := { ps := ["program", "ordinal"], npos := 2, star := false, dfl := [], ns := 8, asg := [2, 3, 4, 5, 6, 7], body := [
      .par [3, 4] [(.var 1), (.lit (.int 0))],
      l_removal_index_0,
      .bad] }
@[simp] theorem ps_removal_index : f_removal_index.ps = (["program", "ordinal"] : List Str) := rfl
def f_check_ordinal : Fn := { ps := ["program", "ordinal"], npos := 2, star := false, dfl := [], ns := 2, asg := [], body := [
      .expr (.call "check_program" [(.var 0)]),
      .ite (.or (.not (.val (.call "is_count" [(.var 1)]))) (.val (.cmp .GtE (.var 1) (.call "count_steps" [(.var 0), (.lit (.str "remove"))])))) [.bad] []] }
@[simp] theorem ps_check_ordinal : f_check_ordinal.ps = (["program", "ordinal"] : List Str) := rfl
def f_removed_at : Fn := { ps := ["bag", "program", "ordinal"], npos := 3, star := false, dfl := [], ns := 4, asg := [3], body := [
      .expr (.call "check_bag" [(.var 0)]),
      .expr (.call "check_ordinal" [(.var 1), (.var 2)]),
      .asg (.nm 3) (.call "removal_index" [(.var 1), (.var 2)]),
      .expr (.call "check_runs" [(.var 0), (.call "first_part" [(.var 1), (.bin .Add (.var 3) (.lit (.int 1)))])]),
      .ret (.sub (.sub (.call "contents_after" [(.var 0), (.var 1), (.var 3)]) (.lit (.int 0))) (.lit (.int 0)))] }
@[simp] theorem ps_removed_at : f_removed_at.ps = (["bag", "program", "ordinal"] : List Str) := rfl
def f_fate : Fn := { ps := ["bag", "program", "index"], npos := 3, star := false, dfl := [], ns := 7, asg := [3, 4, 5, 6], body := [
      .expr (.call "check_bag" [(.var 0)]),
      .expr (.call "check_index" [(.var 1), (.var 2), (.lit (.int 0))]),
      .asg (.nm 3) (.call "find_step" [(.var 1), (.var 2)]),
      .ite (.val (.cmp .NotEq (.sub (.var 3) (.lit (.int 0))) (.lit (.str "insert")))) [.bad] [],
      .expr (.call "check_runs" [(.var 0), (.var 1)]),
      .asg (.nm 4) (.sub (.var 3) (.lit (.int 1))),
      .asg (.nm 5) (.call "level" [(.call "contents_after" [(.var 0), (.var 1), (.var 2)]), (.var 4)]),
      .asg (.nm 6) (.call "find_failure" [(.var 5), (.call "last_part" [(.var 1), (.bin .Add (.var 2) (.lit (.int 1)))]), (.var 4)]),
      .ret (.ite (.val (.isN false (.var 6))) (.lit .non) (.bin .Add (.bin .Add (.var 2) (.lit (.int 1))) (.var 6)))] }
@[simp] theorem ps_fate : f_fate.ps = (["bag", "program", "index"] : List Str) := rfl
def f_removal_bound : Fn := { ps := ["program", "ordinal"], npos := 2, star := false, dfl := [], ns := 3, asg := [2], body := [
      .expr (.call "check_ordinal" [(.var 0), (.var 1)]),
      .asg (.nm 2) (.attr (.smeth "Effect" "of" [(.call "first_part" [(.var 0), (.call "removal_index" [(.var 0), (.var 1)])])]) "survivors"),
      .ret (.ite (.val (.cmp .NotEq (.var 2) (.tup []))) (.sub (.sub (.var 2) (.lit (.int 0))) (.lit (.int 0))) (.lit .non))] }
@[simp] theorem ps_removal_bound : f_removal_bound.ps = (["program", "ordinal"] : List Str) := rfl
def b_removals_needed_0 : List PS := [.ite (.val (.cmp .Gt (.var 4) (.bmeth (.var 2) "get" [(.var 3), (.lit (.int 0))]))) [.ret (.bin .Sub (.call "level" [(.var 0), (.var 3)]) (.bmeth (.var 2) "get" [(.var 3), (.lit (.int 0))]))] []]
def l_removals_needed_0 : PS := .for_ (.tup [(.nm 3), (.nm 4)]) .seq [(.rev (.var 0))] b_removals_needed_0
def f_removals_needed : Fn := { ps := ["start", "goal"], npos := 2, star := false, dfl := [], ns := 5, asg := [2, 3, 4], body := [
      .asg (.nm 2) (.blt .dict [(.var 1)]),
      l_removals_needed_0,
      .ret (.lit (.int 0))] }
@[simp] theorem ps_removals_needed : f_removals_needed.ps = (["start", "goal"] : List Str) := rfl
def f_distance : Fn := { ps := ["start", "goal"], npos := 2, star := false, dfl := [], ns := 2, asg := [], body := [
      .expr (.call "check_bag" [(.var 0)]),
      .expr (.call "check_bag" [(.var 1)]),
      .ret (.bin .Sub (.bin .Add (.bin .Mult (.lit (.int 2)) (.call "removals_needed" [(.var 0), (.var 1)])) (.call "total" [(.var 1)])) (.call "total" [(.var 0)]))] }
@[simp] theorem ps_distance : f_distance.ps = (["start", "goal"] : List Str) := rfl
def f_plan : Fn := { ps := ["start", "goal", "stock"], npos := 2, star := false, dfl := [("stock", .non)], ns := 6, asg := [3, 4, 5], body := [
      .bad] }
@[simp] theorem ps_plan : f_plan.ps = (["start", "goal", "stock"] : List Str) := rfl
def b__law_drop_0 : List PS := [.asg (.nm 6) (.blt .min [(.var 2), (.var 5)]), .asg (.nm 2) (.bin .Sub (.var 2) (.var 6)), .ite (.val (.cmp .Gt (.var 5) (.var 6))) [.asg (.nm 3) (.bin .Add (.var 3) (.tup [(.tup [(.var 4), (.bin .Sub (.var 5) (.var 6))])]))] []]
def l__law_drop_0 : PS := .for_ (.tup [(.nm 4), (.nm 5)]) .seq [(.var 0)] b__law_drop_0
def f__law_drop : Fn := { ps := ["bag", "count"], npos := 2, star := false, dfl := [], ns := 7, asg := [2, 3, 4, 5, 6], body := [
      .asg (.nm 2) (.var 1),
      .asg (.nm 3) (.tup []),
      l__law_drop_0,
      .ret (.var 3)] }
@[simp] theorem ps__law_drop : f__law_drop.ps = (["bag", "count"] : List Str) := rfl
def b__law_minus_0 : List PS := [.asgSub (.var 2) (.var 3) (.bin .Sub (.bmeth (.var 2) "get" [(.var 3), (.lit (.int 0))]) (.var 4))]
def l__law_minus_0 : PS := .for_ (.tup [(.nm 3), (.nm 4)]) .seq [(.var 1)] b__law_minus_0
def f__law_minus : Fn := { ps := ["bag", "other"], npos := 2, star := false, dfl := [], ns := 5, asg := [2, 3, 4], body := [
      .asg (.nm 2) (.blt .dict [(.var 0)]),
      l__law_minus_0,
      .ite (.val (.cmp .NotEq (.comp (.var 3) (.nm 3) [3] .seq [(.var 2)] [(.val (.cmp .Lt (.sub (.var 2) (.var 3)) (.lit (.int 0))))]) (.lst []))) [.ret (.lit .non)] [],
      .ret (.blt .tuple [(.comp (.tup [(.var 3), (.sub (.var 2) (.var 3))]) (.nm 3) [3] .seq [(.blt .sorted [(.var 2)])] [(.val (.cmp .Gt (.sub (.var 2) (.var 3)) (.lit (.int 0))))])])] }
@[simp] theorem ps__law_minus : f__law_minus.ps = (["bag", "other"] : List Str) := rfl
def b__law_plus_0 : List PS := [.asgSub (.var 2) (.var 3) (.bin .Add (.bmeth (.var 2) "get" [(.var 3), (.lit (.int 0))]) (.var 4))]
def l__law_plus_0 : PS := .for_ (.tup [(.nm 3), (.nm 4)]) .seq [(.var 1)] b__law_plus_0
def f__law_plus : Fn := { ps := ["bag", "other"], npos := 2, star := false, dfl := [], ns := 5, asg := [2, 3, 4], body := [
      .asg (.nm 2) (.blt .dict [(.var 0)]),
      l__law_plus_0,
      .ret (.blt .tuple [(.comp (.tup [(.var 3), (.sub (.var 2) (.var 3))]) (.nm 3) [3] .seq [(.blt .sorted [(.var 2)])] [(.val (.cmp .Gt (.sub (.var 2) (.var 3)) (.lit (.int 0))))])])] }
@[simp] theorem ps__law_plus : f__law_plus.ps = (["bag", "other"] : List Str) := rfl
def f__law_size : Fn := { ps := ["bag"], npos := 1, star := false, dfl := [], ns := 3, asg := [], body := [
      .ret (.blt .sum [(.comp (.var 2) (.tup [(.nm 1), (.nm 2)]) [1, 2] .seq [(.var 0)] [])])] }
@[simp] theorem ps__law_size : f__law_size.ps = (["bag"] : List Str) := rfl
def b__law_great_bag_0 : List PS := [.asg (.nm 4) (.sub (.lst [(.bin .Add (.lit (.int 1)) (.call "_law_draw" [(.var 0), (.lit (.int 3))])), (.bin .Add (.lit (.int 1)) (.call "_law_draw" [(.var 0), (.bin .Pow (.lit (.int 10)) (.lit (.int 30)))]))]) (.call "_law_draw" [(.var 0), (.lit (.int 2))])), .asg (.nm 2) (.bin .Add (.var 2) (.tup [(.tup [(.bin .Add (.bin .Add (.var 1) (.bin .Mult (.lit (.int 2)) (.var 3))) (.call "_law_draw" [(.var 0), (.lit (.int 2))])), (.var 4)])]))]
def l__law_great_bag_0 : PS := .for_ (.nm 3) .rng [(.call "_law_draw" [(.var 0), (.lit (.int 5))])] b__law_great_bag_0
def f__law_great_bag : Fn := { ps := ["pool", "base"], npos := 2, star := false, dfl := [], ns := 5, asg := [2, 3, 4], body := [
      .asg (.nm 2) (.tup []),
      l__law_great_bag_0,
      .ret (.var 2)] }
@[simp] theorem ps__law_great_bag : f__law_great_bag.ps = (["pool", "base"] : List Str) := rfl
def f_preimage : Fn := { ps := ["effect", "result"], npos := 2, star := false, dfl := [], ns := 7, asg := [2, 3, 4, 5], body := [
      .expr (.call "check_effects" [(.lst [(.var 0)])]),
      .expr (.call "check_bag" [(.var 1)]),
      .asg (.nm 2) (.call "subtract" [(.var 1), (.attr (.var 0) "survivors")]),
      .ite (.val (.isN false (.var 2))) [.ret (.lit .non)] [],
      .ite (.val (.cmp .Eq (.var 2) (.tup []))) [.ret (.call "scale" [(.tup [(.tup [(.lit (.int 0)), (.lit (.int 1))])]), (.attr (.var 0) "needed")])] [],
      .asg (.nm 3) (.sub (.sub (.var 2) (.lit (.int 0))) (.lit (.int 0))),
      .asg (.nm 4) (.blt .tuple [(.comp (.var 6) (.nm 6) [6] .seq [(.attr (.var 0) "consumed")] [(.val (.cmp .Gt (.sub (.var 6) (.lit (.int 0))) (.var 3)))])]),
      .asg (.nm 5) (.call "subtract" [(.var 2), (.var 4)]),
      .ite (.val (.isN false (.var 5))) [.ret (.lit .non)] [],
      .ret (.call "add" [(.var 5), (.call "scale" [(.tup [(.tup [(.var 3), (.lit (.int 1))])]), (.bin .Sub (.attr (.var 0) "removals") (.call "level" [(.attr (.var 0) "consumed"), (.var 3)]))])])] }
@[simp] theorem ps_preimage : f_preimage.ps = (["effect", "result"] : List Str) := rfl
def f_is_sized_step : Fn := { ps := ["value"], npos := 1, star := false, dfl := [], ns := 1, asg := [], body := [
      .ite (.or (.not (.val (.isi (.var 0) ["tuple"]))) (.or (.val (.cmp .Eq (.var 0) (.tup []))) (.not (.val (.isi (.sub (.var 0) (.lit (.int 0))) ["str"]))))) [.ret (.lit (.bl false))] [],
      .ite (.val (.cmp .Eq (.sub (.var 0) (.lit (.int 0))) (.lit (.str "insert")))) [.ret (.and (.cmp .Eq (.blt .len [(.var 0)]) (.lit (.int 2))) (.call "is_integer" [(.sub (.var 0) (.lit (.int 1)))]))] [],
      .ret (.or (.cmp .Eq (.var 0) (.tup [(.lit (.str "remove"))])) (.cmp .Eq (.var 0) (.tup [(.lit (.str "remove_greatest"))])))] }
@[simp] theorem ps_is_sized_step : f_is_sized_step.ps = (["value"] : List Str) := rfl
def b_check_sized_steps_0 : List PS := [.ite (.not (.val (.call "is_sized_step" [(.var 2)]))) [.bad] []]
def l_check_sized_steps_0 : PS := .for_ (.tup [(.nm 1), (.nm 2)]) .enum [(.var 0)] b_check_sized_steps_0
def f_check_sized_steps : Fn := { ps := ["steps"], npos := 1, star := false, dfl := [], ns := 3, asg := [1, 2], body := [
      .ite (.or (.not (.val (.isi (.var 0) ["list"]))) (.val (.cmp .Gt (.blt .len [(.var 0)]) (.glob "MAX_SIZED_STEPS")))) [.bad] [],
      l_check_sized_steps_0] }
@[simp] theorem ps_check_sized_steps : f_check_sized_steps.ps = (["steps"] : List Str) := rfl
def b_sizes_along_0 : List PS := [.ite (.and (.val (.cmp .NotEq (.sub (.var 5) (.lit (.int 0))) (.lit (.str "insert")))) (.val (.cmp .Eq (.sub (.var 3) (.neg (.lit (.int 1)))) (.lit (.int 0))))) [.bad] [], .asg (.nm 6) (.bin .Add (.sub (.var 3) (.neg (.lit (.int 1)))) (.ite (.val (.cmp .Eq (.sub (.var 5) (.lit (.int 0))) (.lit (.str "insert")))) (.lit (.int 1)) (.neg (.lit (.int 1))))), .expr (.bmeth (.var 3) "append" [(.ite (.val (.isN false (.var 2))) (.var 6) (.blt .min [(.var 6), (.var 2)]))])]
def l_sizes_along_0 : PS := .for_ (.tup [(.nm 4), (.nm 5)]) .enum [(.var 0)] b_sizes_along_0
def f_sizes_along : Fn := { ps := ["steps", "size", "capacity"], npos := 3, star := false, dfl := [], ns := 7, asg := [3, 4, 5, 6], body := [
      .asg (.nm 3) (.lst [(.var 1)]),
      l_sizes_along_0,
      .ret (.var 3)] }
@[simp] theorem ps_sizes_along : f_sizes_along.ps = (["steps", "size", "capacity"] : List Str) := rfl
def f_clamp : Fn := { ps := ["count", "least", "most"], npos := 3, star := false, dfl := [], ns := 3, asg := [], body := [
      .ret (.blt .max [(.var 1), (.blt .min [(.var 2), (.var 0)])])] }
@[simp] theorem ps_clamp : f_clamp.ps = (["count", "least", "most"] : List Str) := rfl
def f_step_level : Fn := { ps := ["step", "number", "sizes"], npos := 3, star := false, dfl := [], ns := 3, asg := [], body := [
      .ite (.val (.cmp .Eq (.sub (.var 0) (.lit (.int 0))) (.lit (.str "remove_greatest")))) [.ret (.tup [(.lit (.int 0)), (.lit (.int 0)), (.sub (.var 2) (.lit (.int 1)))])] [],
      .ite (.val (.cmp .Eq (.sub (.var 0) (.lit (.int 0))) (.lit (.str "remove")))) [.ret (.tup [(.neg (.lit (.int 1))), (.lit (.int 0)), (.sub (.var 2) (.lit (.int 1)))])] [],
      .ite (.val (.cmp .Gt (.sub (.var 0) (.lit (.int 1))) (.var 1))) [.ret (.tup [(.lit (.int 0)), (.lit (.int 0)), (.blt .min [(.var 2)])])] [],
      .ret (.tup [(.lit (.int 1)), (.lit (.int 1)), (.sub (.var 2) (.lit (.int 1)))])] }
@[simp] theorem ps_step_level : f_step_level.ps = (["step", "number", "sizes"] : List Str) := rfl
def f_join_levels : Fn := { ps := ["first", "second"], npos := 2, star := false, dfl := [], ns := 5, asg := [2, 3, 4], body := [
      .asg (.tup [(.nm 2), (.nm 3), (.nm 4)]) (.var 1),
      .ret (.tup [(.bin .Add (.sub (.var 0) (.lit (.int 0))) (.var 2)), (.call "clamp" [(.bin .Add (.sub (.var 0) (.lit (.int 1))) (.var 2)), (.var 3), (.var 4)]), (.call "clamp" [(.bin .Add (.sub (.var 0) (.lit (.int 2))) (.var 2)), (.var 3), (.var 4)])])] }
@[simp] theorem ps_join_levels : f_join_levels.ps = (["first", "second"] : List Str) := rfl
def b_steps_level_0 : List PS := [.asg (.nm 3) (.call "join_levels" [(.var 3), (.call "step_level" [(.var 5), (.var 1), (.sl (.var 2) (some (.var 4)) (some (.bin .Add (.var 4) (.lit (.int 2)))))])])]
def l_steps_level_0 : PS := .for_ (.tup [(.nm 4), (.nm 5)]) .enum [(.var 0)] b_steps_level_0
def f_steps_level : Fn := { ps := ["steps", "number", "sizes"], npos := 3, star := false, dfl := [], ns := 6, asg := [3, 4, 5], body := [
      .asg (.nm 3) (.tup [(.lit (.int 0)), (.lit (.int 0)), (.sub (.var 2) (.lit (.int 0)))]),
      l_steps_level_0,
      .ret (.var 3)] }
@[simp] theorem ps_steps_level : f_steps_level.ps = (["steps", "number", "sizes"] : List Str) := rfl
def f_SizedEffectu_initu : Fn := { ps := ["self", "steps", "size", "capacity"], npos := 2, star := false, dfl := [("capacity", .non)], ns := 7, asg := [4], body := [
      .bad] }
@[simp] theorem ps_SizedEffectu_initu : f_SizedEffectu_initu.ps = (["self", "steps", "size", "capacity"] : List Str) := rfl
def f_SizedEffect_size : Fn := { ps := ["self"], npos := 1, star := false, dfl := [], ns := 1, asg := [], body := [
      .ret (.sub (.attr (.var 0) "own_sizes") (.lit (.int 0)))] }
@[simp] theorem ps_SizedEffect_size : f_SizedEffect_size.ps = (["self"] : List Str) := rfl
def f_SizedEffect_capacity : Fn := { ps := ["self"], npos := 1, star := false, dfl := [], ns := 1, asg := [], body := [
      .ret (.attr (.var 0) "own_capacity")] }
@[simp] theorem ps_SizedEffect_capacity : f_SizedEffect_capacity.ps = (["self"] : List Str) := rfl
def f_SizedEffect_size_after : Fn := { ps := ["self"], npos := 1, star := false, dfl := [], ns := 1, asg := [], body := [
      .ret (.sub (.attr (.var 0) "own_sizes") (.lit (.int 1)))] }
@[simp] theorem ps_SizedEffect_size_after : f_SizedEffect_size_after.ps = (["self"] : List Str) := rfl
def f_SizedEffect_find_level : Fn := { ps := ["self", "number"], npos := 2, star := false, dfl := [], ns := 5, asg := [2, 3, 4], body := [
      .asg (.nm 2) (.attr (.var 0) "lowest_level"),
      .bad,
      .ret (.var 2)] }
@[simp] theorem ps_SizedEffect_find_level : f_SizedEffect_find_level.ps = (["self", "number"] : List Str) := rfl
def f_SizedEffect_level : Fn := { ps := ["self", "number"], npos := 2, star := false, dfl := [], ns := 2, asg := [], body := [
      .expr (.call "check_number" [(.var 1)]),
      .ret (.meth (.var 0) "find_level" [(.var 1)])] }
@[simp] theorem ps_SizedEffect_level : f_SizedEffect_level.ps = (["self", "number"] : List Str) := rfl
def b_SizedEffect_apply_0 : List PS := [.asg (.tup [(.nm 6), (.nm 7), (.nm 8)]) (.meth (.var 0) "find_level" [(.var 2)]), .asg (.nm 5) (.call "clamp" [(.bin .Add (.call "level" [(.var 1), (.var 2)]) (.var 6)), (.var 7), (.var 8)]), .asgSub (.var 4) (.var 2) (.bin .Sub (.var 5) (.var 3)), .asg (.nm 3) (.var 5)]
def l_SizedEffect_apply_0 : PS := .for_ (.nm 2) .seq [(.blt .sorted [(.bin .BitOr .bad .bad)])] b_SizedEffect_apply_0
def f_SizedEffect_apply : Fn := { ps := ["self", "bag"], npos := 2, star := false, dfl := [], ns := 10, asg := [2, 3, 4, 5, 6, 7, 8], body := [
      .expr (.call "check_bag" [(.var 1)]),
      .ite (.val (.cmp .NotEq (.call "total" [(.var 1)]) (.sub (.attr (.var 0) "own_sizes") (.lit (.int 0))))) [.bad] [],
      .par [3, 4] [(.lit (.int 0)), (.dct [] [])],
      l_SizedEffect_apply_0,
      .ret (.call "from_counts" [(.var 4)])] }
@[simp] theorem ps_SizedEffect_apply : f_SizedEffect_apply.ps = (["self", "bag"] : List Str) := rfl
def f_SizedEffect_then : Fn := { ps := ["self", "other"], npos := 2, star := false, dfl := [], ns := 4, asg := [2], body := [
      .ite (.not (.val (.isi (.var 1) ["SizedEffect"]))) [.bad] [],
      .ite (.val (.cmp .NotEq (.sub (.attr (.var 1) "own_sizes") (.lit (.int 0))) (.sub (.attr (.var 0) "own_sizes") (.lit (.int 1))))) [.bad] [],
      .ite (.val (.cmp .NotEq (.attr (.var 1) "own_capacity") (.attr (.var 0) "own_capacity"))) [.bad] [],
      .asg (.nm 2) .bad,
      .asgAttr (.var 2) "own_sizes" (.tup [(.sub (.attr (.var 0) "own_sizes") (.lit (.int 0))), (.sub (.attr (.var 1) "own_sizes") (.lit (.int 1)))]),
      .asgAttr (.var 2) "numbers" (.blt .sorted [(.bin .BitOr .bad .bad)]),
      .asgAttr (.var 2) "lowest_level" (.call "join_levels" [(.attr (.var 0) "lowest_level"), (.attr (.var 1) "lowest_level")]),
      .asgAttr (.var 2) "levels" (.comp (.call "join_levels" [(.meth (.var 0) "find_level" [(.var 3)]), (.meth (.var 1) "find_level" [(.var 3)])]) (.nm 3) [3] .seq [(.attr (.var 2) "numbers")] []),
      .ret (.var 2)] }
@[simp] theorem ps_SizedEffect_then : f_SizedEffect_then.ps = (["self", "other"] : List Str) := rfl
def b_SizedEffect_acts_like_0 : List PS := [.expr (.bmeth (.var 2) "append" [(.tup [(.meth (.var 0) "find_level" [(.var 3)]), (.meth (.var 1) "find_level" [(.var 3)])])])]
def l_SizedEffect_acts_like_0 : PS := .for_ (.nm 3) .seq [(.blt .sorted [(.bin .BitOr .bad .bad)])] b_SizedEffect_acts_like_0
def f_SizedEffect_acts_like : Fn := { ps := ["self", "other"], npos := 2, star := false, dfl := [], ns := 6, asg := [2, 3], body := [
      .asg (.nm 2) (.lst [(.tup [(.attr (.var 0) "lowest_level"), (.attr (.var 1) "lowest_level")])]),
      l_SizedEffect_acts_like_0,
      .ret (.blt .all [(.comp (.and (.cmp .Eq (.sl (.var 4) (some (.lit (.int 1))) none) (.sl (.var 5) (some (.lit (.int 1))) none)) (.or (.cmp .Eq (.sub (.var 4) (.lit (.int 0))) (.sub (.var 5) (.lit (.int 0)))) (.cmp .Eq (.sub (.var 4) (.lit (.int 1))) (.sub (.var 4) (.lit (.int 2)))))) (.tup [(.nm 4), (.nm 5)]) [4, 5] .seq [(.var 2)] [])])] }
@[simp] theorem ps_SizedEffect_acts_like : f_SizedEffect_acts_like.ps = (["self", "other"] : List Str) := rfl
def f_SizedEffectu_equ : Fn := { ps := ["self", "other"], npos := 2, star := false, dfl := [], ns := 2, asg := [], body := [
      .ite (.or (.not (.val (.isi (.var 1) ["SizedEffect"]))) (.val (.cmp .NotEq (.sub (.attr (.var 0) "own_sizes") (.lit (.int 0))) (.sub (.attr (.var 1) "own_sizes") (.lit (.int 0)))))) [.ret (.lit (.bl false))] [],
      .ret (.and (.cmp .Eq (.attr (.var 0) "own_capacity") (.attr (.var 1) "own_capacity")) (.meth (.var 0) "acts_like" [(.var 1)]))] }
@[simp] theorem ps_SizedEffectu_equ : f_SizedEffectu_equ.ps = (["self", "other"] : List Str) := rfl
def b__law_sized_steps_0 : List PS := [.asg (.nm 7) (.call "_law_draw" [(.var 0), (.lit (.int 5))]), .ite (.val (.cmp .Lt (.var 7) (.lit (.int 3)))) [.expr (.bmeth (.var 5) "append" [(.tup [(.lit (.str "insert")), (.bin .Add (.var 2) (.call "_law_draw" [(.var 0), (.var 3)]))])])] [.expr (.bmeth (.var 5) "append" [(.sub (.lst [(.tup [(.lit (.str "remove"))]), (.tup [(.lit (.str "remove_greatest"))])]) (.bin .Mult (.bin .Sub (.var 7) (.lit (.int 3))) (.var 4)))])]]
def l__law_sized_steps_0 : PS := .for_ (.nm 6) .rng [(.var 1)] b__law_sized_steps_0
def f__law_sized_steps : Fn := { ps := ["pool", "count", "base", "width", "way"], npos := 5, star := false, dfl := [], ns := 8, asg := [5, 6, 7], body := [
      .asg (.nm 5) (.lst []),
      l__law_sized_steps_0,
      .ret (.var 5)] }
@[simp] theorem ps__law_sized_steps : f__law_sized_steps.ps = (["pool", "count", "base", "width", "way"] : List Str) := rfl
def b__law_sized_run_0 : List PS := [.ite (.val (.cmp .Eq (.sub (.sub (.var 1) (.var 4)) (.lit (.int 0))) (.lit (.str "insert")))) [.asg (.nm 3) (.blt .sorted [(.bin .Add (.var 3) (.lst [(.sub (.sub (.var 1) (.var 4)) (.lit (.int 1)))]))]), .asg (.nm 3) (.ite (.val (.isN false (.var 2))) (.var 3) (.sl (.var 3) none (some (.var 2))))] [.ite (.val (.cmp .Eq (.var 3) (.lst []))) [.ret (.lst [(.lit .non), (.var 4)])] [.asg (.nm 3) (.ite (.val (.cmp .Eq (.sub (.sub (.var 1) (.var 4)) (.lit (.int 0))) (.lit (.str "remove")))) (.sl (.var 3) (some (.lit (.int 1))) none) (.sl (.var 3) none (some (.neg (.lit (.int 1))))))]]]
def l__law_sized_run_0 : PS := .for_ (.nm 4) .rng [(.blt .len [(.var 1)])] b__law_sized_run_0
def f__law_sized_run : Fn := { ps := ["heap", "steps", "room"], npos := 3, star := false, dfl := [], ns := 5, asg := [3, 4], body := [
      .asg (.nm 3) (.blt .sorted [(.var 0)]),
      l__law_sized_run_0,
      .ret (.lst [(.var 3), (.lit .non)])] }
@[simp] theorem ps__law_sized_run : f__law_sized_run.ps = (["heap", "steps", "room"] : List Str) := rfl
def b__law_kept_steps_0 : List PS := [.ite (.val (.cmp .Eq (.sub (.var 5) (.lit (.int 0))) (.lit (.str "insert")))) [.asg (.nm 4) (.ite (.val (.isN false (.var 2))) (.bin .Add (.var 4) (.lit (.int 1))) (.blt .min [(.bin .Add (.var 4) (.lit (.int 1))), (.var 2)])), .expr (.bmeth (.var 3) "append" [(.var 5)])] [.ite (.val (.cmp .Gt (.var 4) (.lit (.int 0)))) [.asg (.nm 4) (.bin .Sub (.var 4) (.lit (.int 1))), .expr (.bmeth (.var 3) "append" [(.var 5)])] []]]
def l__law_kept_steps_0 : PS := .for_ (.nm 5) .seq [(.var 0)] b__law_kept_steps_0
def f__law_kept_steps : Fn := { ps := ["steps", "many", "room"], npos := 3, star := false, dfl := [], ns := 6, asg := [3, 4, 5], body := [
      .asg (.nm 3) (.lst []),
      .asg (.nm 4) (.var 1),
      l__law_kept_steps_0,
      .ret (.var 3)] }
@[simp] theorem ps__law_kept_steps : f__law_kept_steps.ps = (["steps", "many", "room"] : List Str) := rfl
def b__law_all_heaps_1 : List PS := [.asg (.nm 4) (.bin .Add (.var 4) (.comp (.bin .Add (.var 5) (.tup [(.var 6)])) (.nm 6) [6] .seq [(.var 0)] [(.or (.val (.cmp .Eq (.var 5) (.tup []))) (.val (.cmp .GtE (.var 6) (.sub (.var 5) (.neg (.lit (.int 1)))))))]))]
def l__law_all_heaps_1 : PS := .for_ (.nm 5) .seq [(.var 2)] b__law_all_heaps_1
def b__law_all_heaps_0 : List PS := [.asg (.nm 4) (.lst []), l__law_all_heaps_1, .asg (.nm 2) (.var 4)]
def l__law_all_heaps_0 : PS := .for_ (.nm 3) .rng [(.var 1)] b__law_all_heaps_0
def f__law_all_heaps : Fn := { ps := ["numbers", "many"], npos := 2, star := false, dfl := [], ns := 7, asg := [2, 3, 4, 5], body := [
      .asg (.nm 2) (.lst [(.tup [])]),
      l__law_all_heaps_0,
      .ret (.var 2)] }
@[simp] theorem ps__law_all_heaps : f__law_all_heaps.ps = (["numbers", "many"] : List Str) := rfl
def f__law_capacity : Fn := { ps := ["pool", "many"], npos := 2, star := false, dfl := [], ns := 2, asg := [], body := [
      .ret (.sub (.lst [(.lit .non), (.blt .max [(.lit (.int 1)), (.var 1)]), (.bin .Add (.blt .max [(.lit (.int 1)), (.var 1)]) (.call "_law_draw" [(.var 0), (.lit (.int 3))]))]) (.call "_law_draw" [(.var 0), (.lit (.int 3))]))] }
@[simp] theorem ps__law_capacity : f__law_capacity.ps = (["pool", "many"] : List Str) := rfl
def f_is_observation : Fn := { ps := ["value"], npos := 1, star := false, dfl := [], ns := 1, asg := [], body := [
      .ret (.and (.isi (.var 0) ["tuple"]) (.and (.cmp .Eq (.blt .len [(.var 0)]) (.lit (.int 2))) (.and (.call "is_bag" [(.sub (.var 0) (.lit (.int 0)))]) (.call "is_bag" [(.sub (.var 0) (.lit (.int 1)))]))))] }
@[simp] theorem ps_is_observation : f_is_observation.ps = (["value"] : List Str) := rfl
def b_check_observations_0 : List PS := [.ite (.not (.val (.call "is_observation" [(.var 2)]))) [.bad] []]
def l_check_observations_0 : PS := .for_ (.tup [(.nm 1), (.nm 2)]) .enum [(.var 0)] b_check_observations_0
def f_check_observations : Fn := { ps := ["observations"], npos := 1, star := false, dfl := [], ns := 3, asg := [1, 2], body := [
      .ite (.or (.not (.val (.isi (.var 0) ["list"]))) (.val (.cmp .Gt (.blt .len [(.var 0)]) (.glob "MAX_OBSERVATIONS")))) [.bad] [],
      l_check_observations_0] }
@[simp] theorem ps_check_observations : f_check_observations.ps = (["observations"] : List Str) := rfl
def f_agrees : Fn := { ps := ["effect", "observations"], npos := 2, star := false, dfl := [], ns := 4, asg := [], body := [
      .expr (.call "check_effects" [(.lst [(.var 0)])]),
      .expr (.call "check_observations" [(.var 1)]),
      .ret (.blt .all [(.comp (.and (.cmp .GtE (.call "total" [(.var 2)]) (.attr (.var 0) "needed")) (.cmp .Eq (.meth (.var 0) "apply" [(.var 2)]) (.var 3))) (.tup [(.nm 2), (.nm 3)]) [2, 3] .seq [(.var 1)] [])])] }
@[simp] theorem ps_agrees : f_agrees.ps = (["effect", "observations"] : List Str) := rfl
def b_LevelBoundsu_initu_1 : List PS := [.expr (.meth (.var 0) "observe" [(.var 6), (.call "level" [(.var 4), (.var 6)]), (.call "level" [(.var 5), (.var 6)])])]
def l_LevelBoundsu_initu_1 : PS := .for_ (.nm 6) .seq [(.blt .sorted [.bad])] b_LevelBoundsu_initu_1
def b_LevelBoundsu_initu_0 : List PS := [.asgAttr (.var 0) "possible" (.and (.attr (.var 0) "possible") (.cmp .Eq (.bin .Sub (.call "total" [(.var 5)]) (.call "total" [(.var 4)])) (.bin .Sub (.call "total" [(.var 1)]) (.var 2)))), l_LevelBoundsu_initu_1]
def l_LevelBoundsu_initu_0 : PS := .for_ (.tup [(.nm 4), (.nm 5)]) .seq [(.var 3)] b_LevelBoundsu_initu_0
def f_LevelBoundsu_initu : Fn := { ps := ["self", "inserted", "removals", "observations"], npos := 4, star := false, dfl := [], ns := 10, asg := [4, 5, 6], body := [
      .asgAttr (.var 0) "own_inserted" (.var 1),
      .asgAttr (.var 0) "own_removals" (.var 2),
      .asgAttr (.var 0) "least" (.comp (.lit (.int 0)) (.nm 7) [7] .seq [(.var 1)] []),
      .asgAttr (.var 0) "most" (.comp (.call "level" [(.var 1), (.var 6)]) (.tup [(.nm 6), (.nm 8)]) [6, 8] .seq [(.var 1)] []),
      .asgAttr (.var 0) "possible" (.lit (.bl true)),
      l_LevelBoundsu_initu_0,
      .expr (.meth (.var 0) "restrict" [(.bin .Sub (.blt .len [(.var 1)]) (.lit (.int 1))), (.bin .Sub (.call "total" [(.var 1)]) (.var 2)), (.call "total" [(.var 1)])])] }
@[simp] theorem ps_LevelBoundsu_initu : f_LevelBoundsu_initu.ps = (["self", "inserted", "removals", "observations"] : List Str) := rfl
def f_LevelBounds_restrict : Fn := { ps := ["self", "place", "least", "most"], npos := 4, star := false, dfl := [], ns := 4, asg := [], body := [
      .ite (.val (.cmp .Lt (.var 1) (.lit (.int 0)))) [.asgAttr (.var 0) "possible" (.and (.attr (.var 0) "possible") .bad)] [.asgSub (.attr (.var 0) "least") (.var 1) (.blt .max [(.sub (.attr (.var 0) "least") (.var 1)), (.var 2)]), .asgSub (.attr (.var 0) "most") (.var 1) (.blt .min [(.sub (.attr (.var 0) "most") (.var 1)), (.var 3)])]] }
@[simp] theorem ps_LevelBounds_restrict : f_LevelBounds_restrict.ps = (["self", "place", "least", "most"] : List Str) := rfl
def f_LevelBounds_observe : Fn := { ps := ["self", "number", "before", "after"], npos := 4, star := false, dfl := [], ns := 8, asg := [4, 5], body := [
      .asg (.nm 4) (.bin .Sub (.blt .len [(.comp (.var 6) (.tup [(.nm 6), (.nm 7)]) [6, 7] .seq [(.attr (.var 0) "own_inserted")] [(.val (.cmp .LtE (.var 6) (.var 1)))])]) (.lit (.int 1))),
      .asg (.nm 5) (.bin .Sub (.bin .Add (.var 2) (.call "level" [(.attr (.var 0) "own_inserted"), (.var 1)])) (.attr (.var 0) "own_removals")),
      .ite (.val (.cmp .Lt (.var 3) (.var 5))) [.asgAttr (.var 0) "possible" (.lit (.bl false))] [],
      .expr (.meth (.var 0) "restrict" [(.var 4), (.ite (.val (.cmp .Gt (.var 3) (.var 5))) (.var 3) (.lit (.int 0))), (.var 3)])] }
@[simp] theorem ps_LevelBounds_observe : f_LevelBounds_observe.ps = (["self", "number", "before", "after"] : List Str) := rfl
def b_LevelBounds_settle_2 : List PS := [.asg (.nm 2) (.sub (.sub (.attr (.var 0) "own_inserted") (.var 1)) (.lit (.int 1))), .expr (.meth (.var 0) "restrict" [(.bin .Sub (.var 1) (.lit (.int 1))), (.bin .Sub (.sub (.attr (.var 0) "least") (.var 1)) (.var 2)), (.sub (.attr (.var 0) "most") (.var 1))])]
def l_LevelBounds_settle_2 : PS := .for_ (.nm 1) .rng [(.bin .Sub (.blt .len [(.attr (.var 0) "least")]) (.lit (.int 1))), (.lit (.int 0)), (.neg (.lit (.int 1)))] b_LevelBounds_settle_2
def b_LevelBounds_settle_0 : List PS := [.asg (.nm 2) (.sub (.sub (.attr (.var 0) "own_inserted") (.var 1)) (.lit (.int 1))), .expr (.meth (.var 0) "restrict" [(.var 1), (.sub (.attr (.var 0) "least") (.bin .Sub (.var 1) (.lit (.int 1)))), (.bin .Add (.sub (.attr (.var 0) "most") (.bin .Sub (.var 1) (.lit (.int 1)))) (.var 2))])]
def l_LevelBounds_settle_0 : PS := .for_ (.nm 1) .rng [(.lit (.int 1)), (.blt .len [(.attr (.var 0) "least")])] b_LevelBounds_settle_0
def f_LevelBounds_settle : Fn := { ps := ["self"], npos := 1, star := false, dfl := [], ns := 5, asg := [1, 2], body := [
      l_LevelBounds_settle_0,
      l_LevelBounds_settle_2,
      .ret (.and (.attr (.var 0) "possible") (.blt .all [.bad]))] }
@[simp] theorem ps_LevelBounds_settle : f_LevelBounds_settle.ps = (["self"] : List Str) := rfl
def f_LevelBounds_bag : Fn := { ps := ["self", "levels"], npos := 2, star := false, dfl := [], ns := 6, asg := [2], body := [
      .asg (.nm 2) (.bin .Add (.lst [(.lit (.int 0))]) (.var 1)),
      .ret (.call "from_counts" [.bad])] }
@[simp] theorem ps_LevelBounds_bag : f_LevelBounds_bag.ps = (["self", "levels"] : List Str) := rfl
def b_LevelBounds_ways_0 : List PS := [.asg (.nm 4) (.dct [] []), .bad, .asg (.nm 1) (.var 4)]
def l_LevelBounds_ways_0 : PS := .for_ (.tup [(.nm 2), (.nm 3)]) .enum [(.attr (.var 0) "own_inserted")] b_LevelBounds_ways_0
def f_LevelBounds_ways : Fn := { ps := ["self"], npos := 1, star := false, dfl := [], ns := 8, asg := [1, 2, 3, 4, 5, 6, 7], body := [
      .asg (.nm 1) .bad,
      l_LevelBounds_ways_0,
      .ret (.var 1)] }
@[simp] theorem ps_LevelBounds_ways : f_LevelBounds_ways.ps = (["self"] : List Str) := rfl
def f_settled_bounds : Fn := { ps := ["inserted", "removals", "observations"], npos := 3, star := false, dfl := [], ns := 4, asg := [3], body := [
      .expr (.call "check_bag" [(.var 0)]),
      .expr (.call "check_count" [(.var 1)]),
      .expr (.call "check_observations" [(.var 2)]),
      .ite (.val (.cmp .Gt (.call "total" [(.var 0)]) (.glob "MAX_INSERTED"))) [.bad] [],
      .asg (.nm 3) (.mk "LevelBounds" [(.var 0), (.var 1), (.var 2)]),
      .ret (.ite (.val (.meth (.var 3) "settle" [])) (.var 3) (.lit .non))] }
@[simp] theorem ps_settled_bounds : f_settled_bounds.ps = (["inserted", "removals", "observations"] : List Str) := rfl
def f_possible_survivors : Fn := { ps := ["inserted", "removals", "observations"], npos := 3, star := false, dfl := [], ns := 4, asg := [3], body := [
      .asg (.nm 3) (.call "settled_bounds" [(.var 0), (.var 1), (.var 2)]),
      .ite (.val (.isN false (.var 3))) [.ret (.tup [(.lit (.int 0)), (.lit .non), (.lit .non)])] [],
      .ret (.tup [.bad, (.meth (.var 3) "bag" [(.attr (.var 3) "least")]), (.meth (.var 3) "bag" [(.attr (.var 3) "most")])])] }
@[simp] theorem ps_possible_survivors : f_possible_survivors.ps = (["inserted", "removals", "observations"] : List Str) := rfl
def f_question_size : Fn := { ps := ["inserted", "removals", "observations"], npos := 3, star := false, dfl := [], ns := 7, asg := [3, 4, 5, 6], body := [
      .asg (.nm 3) (.call "settled_bounds" [(.var 0), (.var 1), (.var 2)]),
      .asg (.nm 4) (.ite (.val (.isN false (.var 3))) (.dct [] []) (.meth (.var 3) "ways" [])),
      .ite (.val (.cmp .Lt .bad (.lit (.int 2)))) [.ret (.lit .non)] [],
      .asg (.nm 5) .bad,
      .asg (.nm 6) (.ite (.val (.cmp .Gt (.sub (.var 4) (.sub (.var 5) (.lit (.int 0)))) (.lit (.int 1)))) (.sub (.var 5) (.lit (.int 0))) (.sub (.var 5) (.lit (.int 1)))),
      .ret (.bin .Add (.bin .Sub (.var 1) (.call "total" [(.var 0)])) (.var 6))] }
@[simp] theorem ps_question_size : f_question_size.ps = (["inserted", "removals", "observations"] : List Str) := rfl
def f__law_at_most : Fn := { ps := ["bag", "number"], npos := 2, star := false, dfl := [], ns := 4, asg := [], body := [
      .ret (.blt .sum [(.comp (.var 3) (.tup [(.nm 2), (.nm 3)]) [2, 3] .seq [(.var 0)] [(.val (.cmp .LtE (.var 2) (.var 1)))])])] }
@[simp] theorem ps__law_at_most : f__law_at_most.ps = (["bag", "number"] : List Str) := rfl
def f_check_user : Fn := { ps := ["value"], npos := 1, star := false, dfl := [], ns := 2, asg := [], body := [
      .ite (.or (.not (.val (.isi (.var 0) ["str"]))) (.not (.val .bad))) [.bad] [],
      .ite (.not (.val (.blt .all [(.comp (.cmp .In (.var 1) (.glob "LETTERS")) (.nm 1) [1] .seq [(.var 0)] [])]))) [.bad] []] }
@[simp] theorem ps_check_user : f_check_user.ps = (["value"] : List Str) := rfl
def f_Sessionu_initu : Fn := { ps := ["self", "bag"], npos := 2, star := false, dfl := [("bag", (.tup []))], ns := 2, asg := [], body := [
      .expr (.call "check_bag" [(.var 1)]),
      .asgAttr (.var 0) "own_start" (.var 1),
      .asgAttr (.var 0) "own_contents" (.var 1),
      .asgAttr (.var 0) "own_entries" (.lst [])] }
@[simp] theorem ps_Sessionu_initu : f_Sessionu_initu.ps = (["self", "bag"] : List Str) := rfl
def f_Session_contents : Fn := { ps := ["self"], npos := 1, star := false, dfl := [], ns := 1, asg := [], body := [
      .ret (.attr (.var 0) "own_contents")] }
@[simp] theorem ps_Session_contents : f_Session_contents.ps = (["self"] : List Str) := rfl
def f_Session_entries : Fn := { ps := ["self"], npos := 1, star := false, dfl := [], ns := 1, asg := [], body := [
      .ret (.blt .list [(.attr (.var 0) "own_entries")])] }
@[simp] theorem ps_Session_entries : f_Session_entries.ps = (["self"] : List Str) := rfl
def f_Session_run : Fn := { ps := ["self", "user", "program"], npos := 3, star := false, dfl := [], ns := 6, asg := [3, 4, 5], body := [
      .expr (.call "check_user" [(.var 1)]),
      .expr (.call "check_program" [(.var 2)]),
      .asg (.nm 3) (.call "find_failure" [(.call "total" [(.attr (.var 0) "own_contents")]), (.var 2), (.lit .non)]),
      .ite (.val (.isN true (.var 3))) [.bad] [],
      .asg (.nm 4) (.smeth "Effect" "of" [(.var 2)]),
      .asg (.nm 5) (.meth (.var 4) "removed" [(.attr (.var 0) "own_contents")]),
      .asgAttr (.var 0) "own_contents" (.meth (.var 4) "apply" [(.attr (.var 0) "own_contents")]),
      .expr (.bmeth (.attr (.var 0) "own_entries") "append" [(.tup [(.var 1), (.var 2)])]),
      .ret (.var 5)] }
@[simp] theorem ps_Session_run : f_Session_run.ps = (["self", "user", "program"] : List Str) := rfl
def f_Session_undo : Fn := { ps := ["self", "user"], npos := 2, star := false, dfl := [], ns := 9, asg := [2, 3, 4, 5, 6], body := [
      .expr (.call "check_user" [(.var 1)]),
      .asg (.nm 2) (.comp (.var 7) (.tup [(.nm 7), (.nm 8)]) [7, 8] .enum [(.attr (.var 0) "own_entries")] [(.val (.cmp .Eq (.sub (.var 8) (.lit (.int 0))) (.var 1)))]),
      .ite (.val (.cmp .Eq (.var 2) (.lst []))) [.bad] [],
      .asg (.nm 3) (.sub (.var 2) (.neg (.lit (.int 1)))),
      .asg (.nm 4) (.bin .Add (.sl (.attr (.var 0) "own_entries") none (some (.var 3))) (.sl (.attr (.var 0) "own_entries") (some (.bin .Add (.var 3) (.lit (.int 1)))) none)),
      .asg (.nm 5) (.call "contents_after" [(.attr (.var 0) "own_start"), (.comp (.sub (.var 8) (.lit (.int 1))) (.nm 8) [8] .seq [(.var 4)] [])]),
      .asg (.nm 6) (.sub (.sub (.attr (.var 0) "own_entries") (.var 3)) (.lit (.int 1))),
      .asgAttr (.var 0) "own_contents" (.var 5),
      .asgAttr (.var 0) "own_entries" (.var 4),
      .ret (.var 6)] }
@[simp] theorem ps_Session_undo : f_Session_undo.ps = (["self", "user"] : List Str) := rfl
def f_Session_effect : Fn := { ps := ["self", "user"], npos := 2, star := false, dfl := [], ns := 5, asg := [2], body := [
      .expr (.call "check_user" [(.var 1)]),
      .asg (.nm 2) (.comp (.smeth "Effect" "of" [(.var 4)]) (.tup [(.nm 3), (.nm 4)]) [3, 4] .seq [(.attr (.var 0) "own_entries")] [(.val (.cmp .Eq (.var 3) (.var 1)))]),
      .ret .bad] }
@[simp] theorem ps_Session_effect : f_Session_effect.ps = (["self", "user"] : List Str) := rfl
def f_Sessionu_equ : Fn := { ps := ["self", "other"], npos := 2, star := false, dfl := [], ns := 2, asg := [], body := [
      .ite (.not (.val (.isi (.var 1) ["Session"]))) [.ret (.lit (.bl false))] [],
      .ret (.cmp .Eq (.tup [(.attr (.var 0) "own_start"), (.attr (.var 0) "own_entries")]) (.tup [(.attr (.var 1) "own_start"), (.attr (.var 1) "own_entries")]))] }
@[simp] theorem ps_Sessionu_equ : f_Sessionu_equ.ps = (["self", "other"] : List Str) := rfl
def f__law_user : Fn := { ps := ["pool"], npos := 1, star := false, dfl := [], ns := 1, asg := [], body := [
      .ret (.sub (.lst [(.lit (.str "ann")), (.lit (.str "bo")), (.lit (.str "a")), (.lit (.str "zzzzzzzz"))]) (.call "_law_draw" [(.var 0), (.lit (.int 4))]))] }
@[simp] theorem ps__law_user : f__law_user.ps = (["pool"] : List Str) := rfl
def f_entry_text : Fn := { ps := ["number", "count"], npos := 2, star := false, dfl := [], ns := 2, asg := [], body := [
      .ret (.ite (.val (.cmp .Eq (.var 1) (.lit (.int 1)))) .bad .bad)] }
@[simp] theorem ps_entry_text : f_entry_text.ps = (["number", "count"] : List Str) := rfl
def f_bag_text : Fn := { ps := ["bag"], npos := 1, star := false, dfl := [], ns := 3, asg := [], body := [
      .ret (.ite (.val (.cmp .NotEq (.var 0) (.tup []))) (.meth (.lit (.str " ")) "join" [(.comp (.call "entry_text" [(.var 1), (.var 2)]) (.tup [(.nm 1), (.nm 2)]) [1, 2] .seq [(.var 0)] [])]) (.lit (.str "-")))] }
@[simp] theorem ps_bag_text : f_bag_text.ps = (["bag"] : List Str) := rfl
def f_step_text : Fn := { ps := ["step"], npos := 1, star := false, dfl := [], ns := 1, asg := [], body := [
      .ite (.val (.cmp .Eq (.sub (.var 0) (.lit (.int 0))) (.lit (.str "insert")))) [.ret .bad] [],
      .ite (.val (.cmp .Eq (.sub (.var 0) (.lit (.int 0))) (.lit (.str "remove")))) [.ret (.ite (.val (.cmp .Eq (.sub (.var 0) (.lit (.int 1))) (.lit (.int 1)))) (.lit (.str "!")) .bad)] [],
      .ret .bad] }
@[simp] theorem ps_step_text : f_step_text.ps = (["step"] : List Str) := rfl
def f_program_text : Fn := { ps := ["program"], npos := 1, star := false, dfl := [], ns := 2, asg := [], body := [
      .ret (.ite (.val (.cmp .NotEq (.var 0) (.tup []))) (.meth (.lit (.str " ")) "join" [(.comp (.call "step_text" [(.var 1)]) (.nm 1) [1] .seq [(.var 0)] [])]) (.lit (.str "-")))] }
@[simp] theorem ps_program_text : f_program_text.ps = (["program"] : List Str) := rfl
def f_format_bag : Fn := { ps := ["bag"], npos := 1, star := false, dfl := [], ns := 1, asg := [], body := [
      .expr (.call "check_bag" [(.var 0)]),
      .ret (.call "bag_text" [(.var 0)])] }
@[simp] theorem ps_format_bag : f_format_bag.ps = (["bag"] : List Str) := rfl
def f_format_program : Fn := { ps := ["program"], npos := 1, star := false, dfl := [], ns := 1, asg := [], body := [
      .expr (.call "check_program" [(.var 0)]),
      .ret (.call "program_text" [(.var 0)])] }
@[simp] theorem ps_format_program : f_format_program.ps = (["program"] : List Str) := rfl
def f_format_effect : Fn := { ps := ["effect"], npos := 1, star := false, dfl := [], ns := 1, asg := [], body := [
      .expr (.call "check_effects" [(.lst [(.var 0)])]),
      .ret .bad] }
@[simp] theorem ps_format_effect : f_format_effect.ps = (["effect"] : List Str) := rfl
def f_read_count : Fn := { ps := ["text"], npos := 1, star := false, dfl := [], ns := 2, asg := [], body := [
      .ite (.or (.val (.cmp .Eq (.var 0) (.lit (.str "")))) (.or (.val (.cmp .Gt (.blt .len [(.var 0)]) (.glob "MAX_DIGITS"))) (.not (.val (.blt .all [(.comp (.cmp .In (.var 1) (.glob "DIGITS")) (.nm 1) [1] .seq [(.var 0)] [])]))))) [.ret (.lit .non)] [],
      .ret (.ite (.or (.val (.cmp .Eq (.var 0) (.lit (.str "0")))) (.val (.cmp .NotEq (.sub (.var 0) (.lit (.int 0))) (.lit (.str "0"))))) (.blt .int [(.var 0)]) (.lit .non))] }
@[simp] theorem ps_read_count : f_read_count.ps = (["text"] : List Str) := rfl
def f_read_number : Fn := { ps := ["text"], npos := 1, star := false, dfl := [], ns := 2, asg := [1], body := [
      .ite (.val (.cmp .NotEq (.sl (.var 0) none (some (.lit (.int 1)))) (.lit (.str "-")))) [.ret (.call "read_count" [(.var 0)])] [],
      .asg (.nm 1) (.call "read_count" [(.sl (.var 0) (some (.lit (.int 1))) none)]),
      .ret (.ite (.and (.val (.isN true (.var 1))) (.val (.cmp .Gt (.var 1) (.lit (.int 0))))) (.neg (.var 1)) (.lit .non))] }
@[simp] theorem ps_read_number : f_read_number.ps = (["text"] : List Str) := rfl
def f_read_entry : Fn := { ps := ["text"], npos := 1, star := false, dfl := [], ns := 4, asg := [1, 2, 3], body := [
      .asg (.nm 1) (.meth (.var 0) "split" [(.lit (.str "x"))]),
      .asg (.nm 2) (.call "read_number" [(.sub (.var 1) (.lit (.int 0)))]),
      .ite (.or (.val (.isN false (.var 2))) (.val (.cmp .Gt (.blt .len [(.var 1)]) (.lit (.int 2))))) [.ret (.lit .non)] [],
      .ite (.val (.cmp .Eq (.blt .len [(.var 1)]) (.lit (.int 1)))) [.ret (.tup [(.var 2), (.lit (.int 1))])] [],
      .asg (.nm 3) (.call "read_count" [(.sub (.var 1) (.lit (.int 1)))]),
      .ret (.ite (.or (.val (.isN false (.var 3))) (.val (.cmp .Eq (.var 3) (.lit (.int 1))))) (.lit .non) (.tup [(.var 2), (.var 3)]))] }
@[simp] theorem ps_read_entry : f_read_entry.ps = (["text"] : List Str) := rfl
def f_read_step : Fn := { ps := ["word"], npos := 1, star := false, dfl := [], ns := 3, asg := [1, 2], body := [
      .ite (.val (.cmp .Eq (.sl (.var 0) none (some (.lit (.int 1)))) (.lit (.str "+")))) [.asg (.nm 2) (.call "read_entry" [(.sl (.var 0) (some (.lit (.int 1))) none)]), .ret (.ite (.val (.isN false (.var 2))) (.lit .non) (.tup [(.lit (.str "insert")), (.sub (.var 2) (.lit (.int 0))), (.sub (.var 2) (.lit (.int 1)))]))] [],
      .ite (.val (.cmp .Eq (.var 0) (.lit (.str "!")))) [.ret (.tup [(.lit (.str "remove")), (.lit (.int 1))])] [],
      .asg (.nm 1) (.ite (.val (.cmp .Eq (.sl (.var 0) none (some (.lit (.int 1)))) (.lit (.str "!")))) (.call "read_count" [(.sl (.var 0) (some (.lit (.int 1))) none)]) (.lit .non)),
      .ret (.ite (.or (.val (.isN false (.var 1))) (.val (.cmp .Eq (.var 1) (.lit (.int 1))))) (.lit .non) (.tup [(.lit (.str "remove")), (.var 1)]))] }
@[simp] theorem ps_read_step : f_read_step.ps = (["word"] : List Str) := rfl
def f_Readeru_initu : Fn := { ps := ["self", "text"], npos := 2, star := false, dfl := [], ns := 2, asg := [], body := [
      .ite (.not (.val (.isi (.var 1) ["str"]))) [.bad] [],
      .asgAttr (.var 0) "words" (.meth (.var 1) "split" [(.lit (.str " "))]),
      .asgAttr (.var 0) "position" (.lit (.int 0))] }
@[simp] theorem ps_Readeru_initu : f_Readeru_initu.ps = (["self", "text"] : List Str) := rfl
def f_Reader_word : Fn := { ps := ["self"], npos := 1, star := false, dfl := [], ns := 1, asg := [], body := [
      .ret (.ite (.val (.cmp .Lt (.attr (.var 0) "position") (.blt .len [(.attr (.var 0) "words")]))) (.sub (.attr (.var 0) "words") (.attr (.var 0) "position")) (.lit .non))] }
@[simp] theorem ps_Reader_word : f_Reader_word.ps = (["self"] : List Str) := rfl
def f_Reader_require : Fn := { ps := ["self", "found"], npos := 2, star := false, dfl := [], ns := 2, asg := [], body := [
      .ite (.or (.val (.isN false (.var 1))) (.val (.isN false (.meth (.var 0) "word" [])))) [.bad] [],
      .bad] }
@[simp] theorem ps_Reader_require : f_Reader_require.ps = (["self", "found"] : List Str) := rfl
def f_Reader_read_word : Fn := { ps := ["self", "wanted"], npos := 2, star := false, dfl := [], ns := 2, asg := [], body := [
      .expr (.meth (.var 0) "require" [(.ite (.val (.cmp .Eq (.meth (.var 0) "word" []) (.var 1))) (.lit (.bl true)) (.lit .non))])] }
@[simp] theorem ps_Reader_read_word : f_Reader_read_word.ps = (["self", "wanted"] : List Str) := rfl
def f_Reader_read_end : Fn := { ps := ["self"], npos := 1, star := false, dfl := [], ns := 1, asg := [], body := [
      .ite (.val (.isN true (.meth (.var 0) "word" []))) [.bad] []] }
@[simp] theorem ps_Reader_read_end : f_Reader_read_end.ps = (["self"] : List Str) := rfl
def b_Reader_read_bag_0 : List PS := [.asg (.nm 2) (.call "read_entry" [(.or (.meth (.var 0) "word" []) (.lit (.str "")))]), .asg (.nm 3) (.and (.isN true (.var 2)) (.and (.cmp .Gt (.sub (.var 2) (.lit (.int 1))) (.lit (.int 0))) (.or (.cmp .Eq (.var 1) (.lst [])) (.cmp .Gt (.sub (.var 2) (.lit (.int 0))) (.sub (.sub (.var 1) (.neg (.lit (.int 1)))) (.lit (.int 0))))))), .expr (.meth (.var 0) "require" [(.ite (.val (.var 3)) (.lit (.bl true)) (.lit .non))]), .expr (.bmeth (.var 1) "append" [(.var 2)])]
def l_Reader_read_bag_0 : PS := .wh (.or (.val (.cmp .Eq (.var 1) (.lst []))) (.val (.cmp .NotIn (.meth (.var 0) "word" []) (.tup [(.lit .non), (.lit (.str "|"))])))) b_Reader_read_bag_0
def f_Reader_read_bag : Fn := { ps := ["self"], npos := 1, star := false, dfl := [], ns := 4, asg := [1, 2, 3], body := [
      .ite (.val (.cmp .Eq (.meth (.var 0) "word" []) (.lit (.str "-")))) [.bad, .ret (.tup [])] [],
      .asg (.nm 1) (.lst []),
      l_Reader_read_bag_0,
      .ret (.blt .tuple [(.var 1)])] }
@[simp] theorem ps_Reader_read_bag : f_Reader_read_bag.ps = (["self"] : List Str) := rfl
def f_Reader_read_removals : Fn := { ps := ["self"], npos := 1, star := false, dfl := [], ns := 2, asg := [1], body := [
      .asg (.nm 1) (.call "read_count" [(.or (.meth (.var 0) "word" []) (.lit (.str "")))]),
      .expr (.meth (.var 0) "require" [(.var 1)]),
      .ret (.var 1)] }
@[simp] theorem ps_Reader_read_removals : f_Reader_read_removals.ps = (["self"] : List Str) := rfl
def b_Reader_read_program_0 : List PS := [.ite (.and (.val (.cmp .Eq (.meth (.var 0) "word" []) (.lit (.str "[")))) (.val (.cmp .Lt (.var 1) (.glob "MAX_DEPTH")))) [.expr (.bmeth (.var 2) "append" [(.meth (.var 0) "read_repeat" [(.var 1)])])] [.asg (.nm 3) (.call "read_step" [(.or (.meth (.var 0) "word" []) (.lit (.str "")))]), .expr (.meth (.var 0) "require" [(.var 3)]), .expr (.bmeth (.var 2) "append" [(.var 3)])]]
def l_Reader_read_program_0 : PS := .wh (.or (.val (.cmp .Eq (.var 2) (.lst []))) (.and (.val (.isN true (.meth (.var 0) "word" []))) (.not (.and (.val (.cmp .Gt (.var 1) (.lit (.int 1)))) (.val (.cmp .Eq (.sl (.meth (.var 0) "word" []) none (some (.lit (.int 1)))) (.lit (.str "]")))))))) b_Reader_read_program_0
def f_Reader_read_program : Fn := { ps := ["self", "depth"], npos := 2, star := false, dfl := [], ns := 4, asg := [2, 3], body := [
      .ite (.val (.cmp .Eq (.meth (.var 0) "word" []) (.lit (.str "-")))) [.bad, .ret (.tup [])] [],
      .asg (.nm 2) (.lst []),
      l_Reader_read_program_0,
      .ret (.blt .tuple [(.var 2)])] }
@[simp] theorem ps_Reader_read_program : f_Reader_read_program.ps = (["self", "depth"] : List Str) := rfl
def f_Reader_read_repeat : Fn := { ps := ["self", "depth"], npos := 2, star := false, dfl := [], ns := 5, asg := [2, 3, 4], body := [
      .bad,
      .asg (.nm 2) (.meth (.var 0) "read_program" [(.bin .Add (.var 1) (.lit (.int 1)))]),
      .asg (.nm 3) (.or (.meth (.var 0) "word" []) (.lit (.str ""))),
      .asg (.nm 4) (.ite (.val (.cmp .Eq (.sl (.var 3) none (some (.lit (.int 1)))) (.lit (.str "]")))) (.call "read_count" [(.sl (.var 3) (some (.lit (.int 1))) none)]) (.lit .non)),
      .expr (.meth (.var 0) "require" [(.var 4)]),
      .ret (.tup [(.lit (.str "repeat")), (.var 4), (.var 2)])] }
@[simp] theorem ps_Reader_read_repeat : f_Reader_read_repeat.ps = (["self", "depth"] : List Str) := rfl
def f_parse_bag : Fn := { ps := ["text"], npos := 1, star := false, dfl := [], ns := 3, asg := [1, 2], body := [
      .asg (.nm 1) (.mk "Reader" [(.var 0)]),
      .asg (.nm 2) (.meth (.var 1) "read_bag" []),
      .expr (.meth (.var 1) "read_end" []),
      .ret (.var 2)] }
@[simp] theorem ps_parse_bag : f_parse_bag.ps = (["text"] : List Str) := rfl
def f_parse_program : Fn := { ps := ["text"], npos := 1, star := false, dfl := [], ns := 3, asg := [1, 2], body := [
      .asg (.nm 1) (.mk "Reader" [(.var 0)]),
      .asg (.nm 2) (.meth (.var 1) "read_program" [(.lit (.int 1))]),
      .expr (.meth (.var 1) "read_end" []),
      .ret (.var 2)] }
@[simp] theorem ps_parse_program : f_parse_program.ps = (["text"] : List Str) := rfl
def f_parse_effect : Fn := { ps := ["text"], npos := 1, star := false, dfl := [], ns := 5, asg := [1, 2, 3, 4], body := [
      .asg (.nm 1) (.mk "Reader" [(.var 0)]),
      .asg (.nm 2) (.meth (.var 1) "read_bag" []),
      .expr (.meth (.var 1) "read_word" [(.lit (.str "|"))]),
      .asg (.nm 3) (.meth (.var 1) "read_removals" []),
      .expr (.meth (.var 1) "read_word" [(.lit (.str "|"))]),
      .asg (.nm 4) (.meth (.var 1) "read_bag" []),
      .expr (.meth (.var 1) "read_end" []),
      .ite (.not (.val .bad)) [.bad] [],
      .ret (.mk "Effect" [(.var 2), (.var 3), (.var 4)])] }
@[simp] theorem ps_parse_effect : f_parse_effect.ps = (["text"] : List Str) := rfl
def f__law_entry_text : Fn := { ps := ["number", "count"], npos := 2, star := false, dfl := [], ns := 2, asg := [], body := [
      .ret (.ite (.val (.cmp .Eq (.var 1) (.lit (.int 1)))) .bad (.bin .Add (.bin .Add .bad (.lit (.str "x"))) .bad))] }
@[simp] theorem ps__law_entry_text : f__law_entry_text.ps = (["number", "count"] : List Str) := rfl
def f__law_bag_text : Fn := { ps := ["bag"], npos := 1, star := false, dfl := [], ns := 3, asg := [], body := [
      .ret (.ite (.val (.cmp .NotEq (.var 0) (.tup []))) (.meth (.lit (.str " ")) "join" [(.comp (.call "_law_entry_text" [(.var 1), (.var 2)]) (.tup [(.nm 1), (.nm 2)]) [1, 2] .seq [(.var 0)] [])]) (.lit (.str "-")))] }
@[simp] theorem ps__law_bag_text : f__law_bag_text.ps = (["bag"] : List Str) := rfl
def f__law_step_text : Fn := { ps := ["step"], npos := 1, star := false, dfl := [], ns := 1, asg := [], body := [
      .ite (.val (.cmp .Eq (.sub (.var 0) (.lit (.int 0))) (.lit (.str "insert")))) [.ret (.bin .Add (.lit (.str "+")) (.call "_law_entry_text" [(.sub (.var 0) (.lit (.int 1))), (.sub (.var 0) (.lit (.int 2)))]))] [],
      .ite (.val (.cmp .Eq (.sub (.var 0) (.lit (.int 0))) (.lit (.str "remove")))) [.ret (.ite (.val (.cmp .Eq (.sub (.var 0) (.lit (.int 1))) (.lit (.int 1)))) (.lit (.str "!")) (.bin .Add (.lit (.str "!")) .bad))] [],
      .ret (.bin .Add (.bin .Add (.bin .Add (.lit (.str "[ ")) (.call "_law_program_text" [(.sub (.var 0) (.lit (.int 2)))])) (.lit (.str " ]"))) .bad)] }
@[simp] theorem ps__law_step_text : f__law_step_text.ps = (["step"] : List Str) := rfl
def f__law_program_text : Fn := { ps := ["program"], npos := 1, star := false, dfl := [], ns := 2, asg := [], body := [
      .ret (.ite (.val (.cmp .NotEq (.var 0) (.tup []))) (.meth (.lit (.str " ")) "join" [(.comp (.call "_law_step_text" [(.var 1)]) (.nm 1) [1] .seq [(.var 0)] [])]) (.lit (.str "-")))] }
@[simp] theorem ps__law_program_text : f__law_program_text.ps = (["program"] : List Str) := rfl
end BG

-- L_k38
set_option Elab.async false
set_option linter.all false
set_option maxRecDepth 100000
set_option maxHeartbeats 0
namespace K_k38
open PL PySem
def b__wall_0 : List PS := [.pass]
def l__wall_0 : PS := .wh (.val (.lit (.bl true))) b__wall_0
def f__wall : Fn := { ps := ["k"], npos := 1, star := false, dfl := [], ns := 1, asg := [], body := [
      l__wall_0] }
def f_Effect_is_valid : Fn := { ps := ["inserted", "removals", "survivors"], npos := 3, star := false, dfl := [], ns := 3, asg := [], body := [
      .expr (.call "_wall" [(.lit (.int 0))])] }
def f_Effect_identity : Fn := { ps := ["cls"], npos := 1, star := false, dfl := [], ns := 1, asg := [], body := [
      .expr (.call "_wall" [(.lit (.int 1))])] }
def f_Effect_normal : Fn := { ps := ["self"], npos := 1, star := false, dfl := [], ns := 1, asg := [], body := [
      .expr (.call "_wall" [(.lit (.int 2))])] }
def f_Effect_moved : Fn := { ps := ["self", "number"], npos := 2, star := false, dfl := [], ns := 2, asg := [], body := [
      .expr (.call "_wall" [(.lit (.int 3))])] }
def s_law_4_0 : PS := .asg (.nm 12) (.bin .Sub (.call "at_most" [(.attr (.var 7) "inserted"), (.var 4)]) (.attr (.var 7) "removals"))
def s_law_4_1 : PS := .asg (.nm 13) (.blt .max [(.bin .Add (.call "at_most" [(.var 5), (.var 4)]) (.var 12)), (.call "at_most" [(.attr (.var 7) "survivors"), (.var 4)])])
def s_law_4_2 : PS := .ite (.val (.cmp .NotEq (.call "at_most" [(.var 11), (.var 4)]) (.var 13))) [.ret (.lit (.bl false))] []
def b_law_4 : List PS := [s_law_4_0, s_law_4_1, s_law_4_2]
def l_law_4 : PS := .for_ (.nm 4) .rng [(.neg (.lit (.int 5))), (.lit (.int 7))] b_law_4
def s_law_2_0 : PS := .asg (.nm 9) (.sub (.lst [(.lit (.int 0)), (.call "_law_draw" [(.var 2), (.lit (.int 4))]), (.call "_law_draw" [(.var 2), (.bin .Pow (.lit (.int 10)) (.lit (.int 30)))])]) (.call "_law_draw" [(.var 2), (.lit (.int 3))]))
def s_law_2_1 : PS := .expr (.bmeth (.var 8) "append" [(.tup [(.var 4), (.bin .Add (.var 9) (.bin .Mult (.attr (.var 7) "needed") (.blt .int [(.cmp .Eq (.var 4) (.lit (.int 5)))])))])])
def b_law_2 : List PS := [s_law_2_0, s_law_2_1]
def l_law_2 : PS := .for_ (.nm 4) .rng [(.neg (.lit (.int 4))), (.lit (.int 6))] b_law_2
def s_law_1_0 : PS := .par [7, 8] [(.call "_law_great_effect" [(.var 2)]), (.lst [])]
def s_law_1_2 : PS := .asg (.nm 5) (.blt .tuple [(.comp (.var 14) (.nm 14) [14] .seq [(.var 8)] [(.val (.cmp .Gt (.sub (.var 14) (.lit (.int 1))) (.lit (.int 0))))])])
def s_law_1_3 : PS := .par [10, 11] [(.meth (.var 7) "removed" [(.var 5)]), (.meth (.var 7) "apply" [(.var 5)])]
def s_law_1_4 : PS := .ite (.or (.val (.cmp .NotEq (.callK "union" [(.var 10), (.var 11)] [] []) (.callK "union" [(.var 5), (.attr (.var 7) "inserted")] [] []))) (.val (.cmp .NotEq (.call "size_of" [(.var 10)]) (.attr (.var 7) "removals")))) [.ret (.lit (.bl false))] []
def s_law_1_5 : PS := .asg (.nm 6) (.call "difference" [(.var 11), (.attr (.var 7) "survivors")])
def s_law_1_6 : PS := .ite (.or (.val (.isN false (.var 6))) (.and (.val (.cmp .NotEq (.var 6) (.tup []))) (.and (.val (.cmp .NotEq (.var 10) (.tup []))) (.val (.cmp .Gt (.sub (.sub (.var 10) (.neg (.lit (.int 1)))) (.lit (.int 0))) (.sub (.sub (.var 6) (.lit (.int 0))) (.lit (.int 0)))))))) [.ret (.lit (.bl false))] []
def b_law_1 : List PS := [s_law_1_0, l_law_2, s_law_1_2, s_law_1_3, s_law_1_4, s_law_1_5, s_law_1_6, l_law_4]
def l_law_1 : PS := .for_ (.nm 3) .rng [(.lit (.int 3))] b_law_1
def s_law_0_0 : PS := .asg (.nm 2) (.call "_law_pool" [(.var 0), (.var 1)])
def b_law_0 : List PS := [s_law_0_0, l_law_1]
def l_law_0 : PS := .for_ (.nm 1) .rng [(.blt .max [(.lit (.int 1)), (.blt .min [(.blt .len [(.var 0)]), (.lit (.int 6))])])] b_law_0
def f_law : Fn := { ps := ["script"], npos := 1, star := false, dfl := [], ns := 15, asg := [1, 2, 3, 4, 5, 6, 7, 8, 9, 10, 11, 12, 13], body := [
      l_law_0,
      .ret (.lit (.bl true))] }
def prog : Prog := { fns := (([(("_wall", none), f__wall), (("is_integer", none), BG.f_is_integer), (("is_count", none), BG.f_is_count), (("is_bag", none), BG.f_is_bag), (("check_number", none), BG.f_check_number), (("check_count", none), BG.f_check_count), (("check_bag", none), BG.f_check_bag), (("from_counts", none), BG.f_from_counts), (("add", none), BG.f_add), (("subtract", none), BG.f_subtract), (("total", none), BG.f_total), (("level", none), BG.f_level)] : List (FnKey × Fn)) ++ ([(("scale", none), BG.f_scale), (("take", none), BG.f_take), (("drop", none), BG.f_drop), (("size_of", none), BG.f_size_of), (("at_most", none), BG.f_at_most), (("difference", none), BG.f_difference), (("is_step", none), BG.f_is_step), (("find_invalid", none), BG.f_find_invalid), (("check_program", none), BG.f_check_program), (("join_parts", none), BG.f_join_parts), (("repeat_parts", none), BG.f_repeat_parts), (("step_parts", none), BG.f_step_parts)] : List (FnKey × Fn)) ++ ([(("program_parts", none), BG.f_program_parts), (("find_fault", none), BG.f_find_fault), (("Effect", some "__init__"), BG.f_Effectu_initu), (("Effect", some "is_valid"), f_Effect_is_valid), (("Effect", some "of"), BG.f_Effect_of), (("Effect", some "identity"), f_Effect_identity), (("Effect", some "inserted"), BG.f_Effect_inserted), (("Effect", some "removals"), BG.f_Effect_removals), (("Effect", some "survivors"), BG.f_Effect_survivors), (("Effect", some "consumed"), BG.f_Effect_consumed), (("Effect", some "needed"), BG.f_Effect_needed), (("Effect", some "pool"), BG.f_Effect_pool)] : List (FnKey × Fn)) ++ ([(("Effect", some "apply"), BG.f_Effect_apply), (("Effect", some "removed"), BG.f_Effect_removed), (("Effect", some "normal"), f_Effect_normal), (("Effect", some "moved"), f_Effect_moved), (("Effect", some "__eq__"), BG.f_Effectu_equ), (("Effect", some "__repr__"), BG.f_Effectu_repru), (("_law_pool", none), BG.f__law_pool), (("_law_draw", none), BG.f__law_draw), (("_law_great_effect", none), BG.f__law_great_effect), (("law", none), f_law)] : List (FnKey × Fn))), stars := [(("union", none), BG.f_union)], cls := [("HeapError", { mro := ["HeapError", "ValueError"], frz := true, exf := (some none), flds := [] }), ("InvalidNumber", { mro := ["InvalidNumber", "HeapError", "ValueError"], frz := true, exf := (some (some "value")), flds := [] }), ("InvalidCount", { mro := ["InvalidCount", "HeapError", "ValueError"], frz := true, exf := (some (some "value")), flds := [] }), ("InvalidBag", { mro := ["InvalidBag", "HeapError", "ValueError"], frz := true, exf := (some (some "value")), flds := [] }), ("InvalidProgram", { mro := ["InvalidProgram", "HeapError", "ValueError"], frz := true, exf := (some (some "path")), flds := [] }), ("InvalidEffect", { mro := ["InvalidEffect", "HeapError", "ValueError"], frz := true, exf := (some (some "part")), flds := [] }), ("EmptyHeap", { mro := ["EmptyHeap", "LookupError"], frz := true, exf := (some (some "index")), flds := [] }), ("Effect", { mro := ["Effect"], frz := true, exf := none, flds := ["own_parts"] })], con := [("MAX_DEPTH", (.int 8)), ("IDENTITY", (.tup [(.tup []), (.int 0), (.tup [])]))], meth := (([(("Effect", "__init__"), (.inst, ("Effect", some "__init__"))), (("Effect", "is_valid"), (.stat, ("Effect", some "is_valid"))), (("Effect", "of"), (.clsm, ("Effect", some "of"))), (("Effect", "identity"), (.clsm, ("Effect", some "identity"))), (("Effect", "inserted"), (.prop, ("Effect", some "inserted"))), (("Effect", "removals"), (.prop, ("Effect", some "removals"))), (("Effect", "survivors"), (.prop, ("Effect", some "survivors"))), (("Effect", "consumed"), (.prop, ("Effect", some "consumed"))), (("Effect", "needed"), (.prop, ("Effect", some "needed"))), (("Effect", "pool"), (.inst, ("Effect", some "pool"))), (("Effect", "apply"), (.inst, ("Effect", some "apply"))), (("Effect", "removed"), (.inst, ("Effect", some "removed")))] : List ((Str × Str) × (MK × FnKey))) ++ ([(("Effect", "normal"), (.inst, ("Effect", some "normal"))), (("Effect", "moved"), (.inst, ("Effect", some "moved"))), (("Effect", "__eq__"), (.inst, ("Effect", some "__eq__"))), (("Effect", "__repr__"), (.inst, ("Effect", some "__repr__")))] : List ((Str × Str) × (MK × FnKey)))), ccon := [(("Effect", "PARTS"), (.tup [(.str "inserted"), (.str "removals"), (.str "survivors")]))] }
end K_k38
namespace K_k38
open PL PySem
def top (i : Nat) : Stmt := PySem.Challenge.pw_heapeffects_k38_whole_nothing_is_lost.main.body.getD i (.Pass ⟨0, 0, 0, 0⟩)
def sub (i j : Nat) : Stmt := match top i with
  | .ClassDef _ _ _ b _ _ _ _ _ _ _ => b.getD j (.Pass ⟨0, 0, 0, 0⟩)
  | s => s
def eLaw : Ent := { key := ("law", none), fn := f_law, N := ["script", "k", "pool", "turn", "number", "heap", "rest", "effect", "entries", "many", "removed", "result", "change", "expected", "entry"], st := (top 45), qual := "law", dfl := [] }
def tab0 : List Ent := (([{ key := ("_wall", none), fn := f__wall, N := ["k"], st := (top 0), qual := "_wall", dfl := [] }, { key := ("is_integer", none), fn := BG.f_is_integer, N := ["value"], st := (top 10), qual := "is_integer", dfl := [] }, { key := ("is_count", none), fn := BG.f_is_count, N := ["value"], st := (top 11), qual := "is_count", dfl := [] }, { key := ("is_bag", none), fn := BG.f_is_bag, N := ["value", "numbers", "entry", "number", "count"], st := (top 12), qual := "is_bag", dfl := [] }, { key := ("check_number", none), fn := BG.f_check_number, N := ["value"], st := (top 13), qual := "check_number", dfl := [] }, { key := ("check_count", none), fn := BG.f_check_count, N := ["value"], st := (top 14), qual := "check_count", dfl := [] }, { key := ("check_bag", none), fn := BG.f_check_bag, N := ["value"], st := (top 15), qual := "check_bag", dfl := [] }, { key := ("from_counts", none), fn := BG.f_from_counts, N := ["counts", "number", "count"], st := (top 16), qual := "from_counts", dfl := [] }, { key := ("add", none), fn := BG.f_add, N := ["first", "second", "counts", "number", "count"], st := (top 17), qual := "add", dfl := [] }, { key := ("subtract", none), fn := BG.f_subtract, N := ["bag", "other", "counts", "number", "count"], st := (top 18), qual := "subtract", dfl := [] }, { key := ("total", none), fn := BG.f_total, N := ["bag", "number", "count"], st := (top 19), qual := "total", dfl := [] }, { key := ("level", none), fn := BG.f_level, N := ["bag", "number", "one", "count"], st := (top 20), qual := "level", dfl := [] }] : List Ent) ++ ([{ key := ("scale", none), fn := BG.f_scale, N := ["bag", "count", "number", "many"], st := (top 21), qual := "scale", dfl := [] }, { key := ("take", none), fn := BG.f_take, N := ["bag", "count", "left", "taken", "number", "many"], st := (top 22), qual := "take", dfl := [] }, { key := ("drop", none), fn := BG.f_drop, N := ["bag", "count", "left", "kept", "number", "many", "dropped"], st := (top 23), qual := "drop", dfl := [] }, { key := ("size_of", none), fn := BG.f_size_of, N := ["bag"], st := (top 24), qual := "size_of", dfl := [] }, { key := ("at_most", none), fn := BG.f_at_most, N := ["bag", "number"], st := (top 25), qual := "at_most", dfl := [] }, { key := ("difference", none), fn := BG.f_difference, N := ["bag", "other"], st := (top 27), qual := "difference", dfl := [] }, { key := ("is_step", none), fn := BG.f_is_step, N := ["step", "depth", "word", "number", "count", "inner"], st := (top 30), qual := "is_step", dfl := [] }, { key := ("find_invalid", none), fn := BG.f_find_invalid, N := ["program", "depth", "index", "step", "path"], st := (top 31), qual := "find_invalid", dfl := [] }, { key := ("check_program", none), fn := BG.f_check_program, N := ["program", "path"], st := (top 32), qual := "check_program", dfl := [] }, { key := ("join_parts", none), fn := BG.f_join_parts, N := ["first", "second", "left", "inserted", "removals", "survivors"], st := (top 35), qual := "join_parts", dfl := [] }, { key := ("repeat_parts", none), fn := BG.f_repeat_parts, N := ["parts", "count", "more", "inserted", "removals", "survivors"], st := (top 36), qual := "repeat_parts", dfl := [] }, { key := ("step_parts", none), fn := BG.f_step_parts, N := ["step", "word", "number", "count", "bag", "inner"], st := (top 37), qual := "step_parts", dfl := [] }] : List Ent) ++ ([{ key := ("program_parts", none), fn := BG.f_program_parts, N := ["program", "parts", "step"], st := (top 38), qual := "program_parts", dfl := [] }, { key := ("find_fault", none), fn := BG.f_find_fault, N := ["inserted", "removals", "survivors", "consumed"], st := (top 39), qual := "find_fault", dfl := [] }, { key := ("Effect", some "__init__"), fn := BG.f_Effectu_initu, N := ["self", "inserted", "removals", "survivors", "fault"], st := (sub 40 1), qual := "Effect.__init__", dfl := [] }, { key := ("Effect", some "is_valid"), fn := f_Effect_is_valid, N := ["inserted", "removals", "survivors"], st := (sub 40 2), qual := "Effect.is_valid", dfl := [] }, { key := ("Effect", some "of"), fn := BG.f_Effect_of, N := ["cls", "program", "inserted", "removals", "survivors"], st := (sub 40 3), qual := "Effect.of", dfl := [] }, { key := ("Effect", some "identity"), fn := f_Effect_identity, N := ["cls"], st := (sub 40 4), qual := "Effect.identity", dfl := [] }, { key := ("Effect", some "inserted"), fn := BG.f_Effect_inserted, N := ["self"], st := (sub 40 5), qual := "Effect.inserted", dfl := [] }, { key := ("Effect", some "removals"), fn := BG.f_Effect_removals, N := ["self"], st := (sub 40 6), qual := "Effect.removals", dfl := [] }, { key := ("Effect", some "survivors"), fn := BG.f_Effect_survivors, N := ["self"], st := (sub 40 7), qual := "Effect.survivors", dfl := [] }, { key := ("Effect", some "consumed"), fn := BG.f_Effect_consumed, N := ["self"], st := (sub 40 8), qual := "Effect.consumed", dfl := [] }, { key := ("Effect", some "needed"), fn := BG.f_Effect_needed, N := ["self"], st := (sub 40 9), qual := "Effect.needed", dfl := [] }, { key := ("Effect", some "pool"), fn := BG.f_Effect_pool, N := ["self", "bag"], st := (sub 40 10), qual := "Effect.pool", dfl := [] }] : List Ent) ++ ([{ key := ("Effect", some "apply"), fn := BG.f_Effect_apply, N := ["self", "bag"], st := (sub 40 11), qual := "Effect.apply", dfl := [] }, { key := ("Effect", some "removed"), fn := BG.f_Effect_removed, N := ["self", "bag"], st := (sub 40 12), qual := "Effect.removed", dfl := [] }, { key := ("Effect", some "normal"), fn := f_Effect_normal, N := ["self"], st := (sub 40 13), qual := "Effect.normal", dfl := [] }, { key := ("Effect", some "moved"), fn := f_Effect_moved, N := ["self", "number"], st := (sub 40 14), qual := "Effect.moved", dfl := [] }, { key := ("Effect", some "__eq__"), fn := BG.f_Effectu_equ, N := ["self", "other"], st := (sub 40 15), qual := "Effect.__eq__", dfl := [] }, { key := ("Effect", some "__repr__"), fn := BG.f_Effectu_repru, N := ["self"], st := (sub 40 16), qual := "Effect.__repr__", dfl := [] }, { key := ("_law_pool", none), fn := BG.f__law_pool, N := ["script", "k", "cell", "great", "mixed"], st := (top 42), qual := "_law_pool", dfl := [] }, { key := ("_law_draw", none), fn := BG.f__law_draw, N := ["pool", "many", "found"], st := (top 43), qual := "_law_draw", dfl := [] }, { key := ("_law_great_effect", none), fn := BG.f__law_great_effect, N := ["pool", "number", "inserted", "survivors", "more", "consumed", "many", "some", "entry"], st := (top 44), qual := "_law_great_effect", dfl := [] }] : List Ent))
def tab : List Ent := tab0 ++ [eLaw]
theorem eLaw_mem : eLaw ∈ tab := List.mem_append_right _ (List.mem_singleton.mpr rfl)
def tabS : List Ent := [{ key := ("union", none), fn := BG.f_union, N := ["bags", "result", "bag"], st := (top 26), qual := "union", dfl := [] }]
def free : List Str := ((["len", "abs", "min", "max", "sum", "sorted", "tuple", "list", "dict", "any", "all", "int"] : List Str) ++ (["bool", "str", "isinstance", "range", "enumerate", "zip", "reversed", "set", "repr", "super"] : List Str))
theorem tab_ok : (tab.all (Ent.okB prog free)) = true := by decide +kernel
theorem tab_fns : prog.fns = tab.map fun e => (e.key, e.fn) := rfl
theorem tabS_ok : (tabS.all (Ent.okS prog free)) = true := by decide +kernel
theorem tabS_fns : prog.stars = tabS.map fun e => (e.key, e.fn) := rfl
end K_k38

-- H_k38
set_option Elab.async false
set_option linter.all false
set_option maxRecDepth 100000
set_option maxHeartbeats 0
namespace K_k38
open PySem PySem.Spec PyProof.Rows PL
abbrev R : PySem.W.OpenRow := PySem.W.OpenLaw.row PySem.Challenge.rw_heapeffects_k38_whole_nothing_is_lost
abbrev hk : PySem.W.Hook := hookP 6 (tabFn (tab ++ tabS)) (fun K => worldB K prog free)
def ob (s : PySem.W.SharedT) : He.AlD × Bool := obsP 6 (tabFn (tab ++ tabS)) (fun K => worldB K prog free) (HandSHeadRun.getT s)
theorem ob_eq (s : PySem.W.SharedT) : ob s = hk.obs s.abs := obsP_eq (HandSHeadRun.getT_eq s)
def nms : List PySem.Str := ((["_wall", "HeapError", "InvalidNumber", "InvalidCount", "InvalidBag", "InvalidProgram", "InvalidEffect", "EmptyHeap", "is_integer", "is_count", "is_bag", "check_number"] : List PySem.Str) ++ (["check_count", "check_bag", "from_counts", "add", "subtract", "total", "level", "scale", "take", "drop", "size_of", "at_most"] : List PySem.Str) ++ (["union", "difference", "MAX_DEPTH", "is_step", "find_invalid", "check_program", "IDENTITY", "join_parts", "repeat_parts", "step_parts", "program_parts", "find_fault"] : List PySem.Str) ++ (["Effect", "_law_pool", "_law_draw", "_law_great_effect"] : List PySem.Str))
theorem run (w : World) : HandSHeadRun.RunEq R (PySem.W.view R.prog [45]) hk ob 20000 nms w := by
  intro os
  kernel_rfl
end K_k38

-- Q0
set_option linter.all false
set_option maxRecDepth 100000
set_option maxHeartbeats 1000000
namespace PL
open PySem (Str)
@[simp] theorem qevE1 (G : Prog) (cf : CF) {i} : evE G cf (.var i) = (rdV i) := by
  first | rfl | rw [evE]
@[simp] theorem qevE2 (G : Prog) (cf : CF) {d} : evE G cf (.lit d) = (M.pure d) := by
  first | rfl | rw [evE]
@[simp] theorem qevE3 (G : Prog) (cf : CF) {g} : evE G cf (.glob g) = (M.opt (G.con.lookup g)) := by
  first | rfl | rw [evE]
@[simp] theorem qevE4 (G : Prog) (cf : CF) {op} {a} {b} : evE G cf (.bin op a b) = (M.bind (opd a (evE G cf a)) fun x => M.bind (opd b (evE G cf b)) fun y => M.bind x.get fun d => M.bind y.get fun d' => M.opt (binop op d d')) := by
  first | rfl | rw [evE]
@[simp] theorem qevE5 (G : Prog) (cf : CF) {a} : evE G cf (.neg a) = (M.bind (opd a (evE G cf a)) fun x => M.bind x.get fun d => M.opt (negD d)) := by
  first | rfl | rw [evE]
@[simp] theorem qevE6 (G : Prog) (cf : CF) {a} : evE G cf (.not a) = (M.bind (opd a (evE G cf a)) fun x => M.bind x.get fun d => M.opt (d.truth.map fun b => .bl !b)) := by
  first | rfl | rw [evE]
@[simp] theorem qevE7 (G : Prog) (cf : CF) {a} {b} : evE G cf (.and a b) = (M.bind (opd a (evE G cf a)) fun x => M.bind x.get fun d => match d.truth with
    | some true => evE G cf b
    | some false => valO x
    | none => M.bad) := by
  first | rfl | rw [evE]
@[simp] theorem qevE8 (G : Prog) (cf : CF) {a} {b} : evE G cf (.or a b) = (M.bind (opd a (evE G cf a)) fun x => M.bind x.get fun d => match d.truth with
    | some true => valO x
    | some false => evE G cf b
    | none => M.bad) := by
  first | rfl | rw [evE]
@[simp] theorem qevE9 (G : Prog) (cf : CF) {op} {a} {b} : evE G cf (.cmp op a b) = (M.bind (opd a (evE G cf a)) fun x => M.bind (opd b (evE G cf b)) fun y => M.bind x.get fun d => M.bind y.get fun d' => M.opt ((cmpop op d d').map D.bl)) := by
  first | rfl | rw [evE]
@[simp] theorem qevE10 (G : Prog) (cf : CF) {op} {op'} {a} {b} {c} : evE G cf (.chain op op' a b c) = (M.bind (opd a (evE G cf a)) fun x => M.bind (opd b (evE G cf b)) fun y => M.bind x.get fun d => M.bind y.get fun d' => M.bind (M.opt (cmpop op d d')) fun r => match r with
    | false => M.pure (.bl false)
    | true => M.bind (opd c (evE G cf c)) fun z => M.bind y.get fun d' => M.bind z.get fun d'' => M.bind (M.opt (cmpop op' d' d'')) fun r => M.pure (.bl r)) := by
  first | rfl | rw [evE]
@[simp] theorem qevE11 (G : Prog) (cf : CF) {n} {a} : evE G cf (.isN n a) = (M.bind (opd a (evE G cf a)) fun x => M.bind x.get fun d => M.pure (.bl (decide (d = .non) != n))) := by
  first | rfl | rw [evE]
@[simp] theorem qevE12 (G : Prog) (cf : CF) {n} {b} {a} : evE G cf (.isB n b a) = (M.bind (opd a (evE G cf a)) fun x => M.bind x.get fun d => M.pure (.bl (decide (d = .bl b) != n))) := by
  first | rfl | rw [evE]
@[simp] theorem qevE13 (G : Prog) (cf : CF) {c} {a} {b} : evE G cf (.ite c a b) = (M.bind (evT G cf c) fun r => if r then evE G cf a else evE G cf b) := by
  first | rfl | rw [evE]
@[simp] theorem qevE14 (G : Prog) (cf : CF) {es} : evE G cf (.tup es) = (M.bind (evEs G cf es) fun ds => if ds.length ≤ LINE then M.pure (.tup ds) else M.bad) := by
  first | rfl | rw [evE]
@[simp] theorem qevE15 (G : Prog) (cf : CF) {es} : evE G cf (.lst es) = (M.bind (evEs G cf es) fun ds => if ds.length ≤ LINE then M.pure (.lst true ds) else M.bad) := by
  first | rfl | rw [evE]
@[simp] theorem qevE16 (G : Prog) (cf : CF) {ks} {vs} : evE G cf (.dct ks vs) = (M.bind (evEs G cf ks) fun kd => M.bind (evEs G cf vs) fun vd => match dictOf ((kd.zip vd).map fun p => .tup [p.1, p.2]) with
    | some p => M.pure (.dct true p.1 p.2)
    | none => M.bad) := by
  first | rfl | rw [evE]
@[simp] theorem qevE17 (G : Prog) (cf : CF) {a} {b} : evE G cf (.sub a b) = (M.bind (opd a (evE G cf a)) fun x => M.bind (opd b (evE G cf b)) fun y => M.bind x.get fun d => M.bind y.get fun d' => M.opt (subscr d d')) := by
  first | rfl | rw [evE]
@[simp] theorem qevE18 (G : Prog) (cf : CF) {a} {lo} {hi} : evE G cf (.sl a lo hi) = (M.bind (opd a (evE G cf a)) fun x => M.bind (evOp G cf lo) fun l => M.bind (evOp G cf hi) fun h => M.bind x.get fun d => M.opt (slice d l h)) := by
  first | rfl | rw [evE]
@[simp] theorem qevE19 (G : Prog) (cf : CF) {a} : evE G cf (.rev a) = (M.bind (opd a (evE G cf a)) fun x => M.bind x.get fun d => M.opt (revD d)) := by
  first | rfl | rw [evE]
@[simp] theorem qevE20 (G : Prog) (cf : CF) {a} {f} : evE G cf (.attr a f) = (M.bind (opd a (evE G cf a)) fun x => getAttr G cf x f) := by
  first | rfl | rw [evE]
@[simp] theorem qevE21 (G : Prog) (cf : CF) {k} {es} : evE G cf (.call k es) = (M.bind (evOs G cf es) fun os => callX G cf (k, none) os) := by
  first | rfl | rw [evE]
@[simp] theorem qevE22 (G : Prog) (cf : CF) {c} {es} : evE G cf (.mk c es) = (match makeK G c with
    | some (k, key, f) => M.bind (evOs G cf es) fun os => makeX cf c k key f os
    | none => M.bad) := by
  first | rfl | rw [evE]
@[simp] theorem qevE23 (G : Prog) (cf : CF) {i} {es} : evE G cf (.mkV i es) = (M.bind (getS i) fun d => match d with
    | .glb c => (match makeK G c with
      | some (k, key, f) => M.bind (evOs G cf es) fun os => makeX cf c k key f os
      | none => M.bad)
    | _ => M.bad) := by
  first | rfl | rw [evE]
@[simp] theorem qevE24 (G : Prog) (cf : CF) {o} {m} {es} : evE G cf (.meth o m es) = (M.bind (opd o (evE G cf o)) fun x => M.bind x.get fun d => match methK G d m with
    | some (i, k, c) => M.bind (evOs G cf es) fun os => callX G cf k ((if i then x else .val (.glb c)) :: os)
    | none => M.bad) := by
  first | rfl | rw [evE]
@[simp] theorem qevE25 (G : Prog) (cf : CF) {o} {m} {es} : evE G cf (.bmeth o m es) = (M.bind (opd o (evE G cf o)) fun x => M.bind x.get fun d => if bmOk m d then M.bind (evEs G cf es) fun ds => callBM x m ds else M.bad) := by
  first | rfl | rw [evE]
@[simp] theorem qevE26 (G : Prog) (cf : CF) {c} {m} {es} : evE G cf (.smeth c m es) = (match G.meth.lookup (c, m) with
    | some (.stat, k) => M.bind (evOs G cf es) fun os => callX G cf k os
    | some (.clsm, k) => M.bind (evOs G cf es) fun os => callX G cf k (.val (.glb c) :: os)
    | _ => M.bad) := by
  first | rfl | rw [evE]
@[simp] theorem qevE27 (G : Prog) (cf : CF) {k} {es} {kn} {ks} : evE G cf (.callK k es kn ks) = (M.bind (evOs G cf es) fun os => M.bind (evOs G cf ks) fun kv => callB G cf (k, none) os kn kv) := by
  first | rfl | rw [evE]
@[simp] theorem qevE28 (G : Prog) (cf : CF) {c} {es} {kn} {ks} : evE G cf (.mkK c es kn ks) = (M.bind (evOs G cf es) fun os => M.bind (evOs G cf ks) fun kv => makeC G cf c os kn kv) := by
  first | rfl | rw [evE]
@[simp] theorem qevE29 (G : Prog) (cf : CF) {o} {m} {es} {kn} {ks} : evE G cf (.methK o m es kn ks) = (M.bind (opd o (evE G cf o)) fun x => M.bind (evOs G cf es) fun os => M.bind (evOs G cf ks) fun kv => callM G cf x m os kn kv) := by
  first | rfl | rw [evE]
@[simp] theorem qevE30 (G : Prog) (cf : CF) {c} {m} {es} {kn} {ks} : evE G cf (.smethK c m es kn ks) = (M.bind (evOs G cf es) fun os => M.bind (evOs G cf ks) fun kv => match G.meth.lookup (c, m) with
    | some (.stat, k) => callB G cf k os kn kv
    | some (.clsm, k) => callB G cf k (.val (.glb c) :: os) kn kv
    | _ => M.bad) := by
  first | rfl | rw [evE]
@[simp] theorem qevE31 (G : Prog) (cf : CF) {k} {es} : evE G cf (.sup k es) = (M.bind (evOs G cf es) fun os => callB G cf k (.slot 0 :: os) [] []) := by
  first | rfl | rw [evE]
@[simp] theorem qevE32 (G : Prog) (cf : CF) {b} {es} : evE G cf (.blt b es) = (M.bind (evOs G cf es) fun os => M.bind (getAll os) fun ds => M.opt (bltin b ds)) := by
  first | rfl | rw [evE]
@[simp] theorem qevE33 (G : Prog) (cf : CF) {a} {d} : evE G cf (.minD a d) = (M.bind (opd a (evE G cf a)) fun x => M.bind (evE G cf d) fun d0 => M.bind x.get fun d => match intsOf d with
    | some [] => M.pure d0
    | some (i :: is) => M.pure (.int (minI i is))
    | none => M.bad) := by
  first | rfl | rw [evE]
@[simp] theorem qevE34 (G : Prog) (cf : CF) {a} {ts} : evE G cf (.isi a ts) = (M.bind (opd a (evE G cf a)) fun x => M.bind x.get fun d => M.opt ((isiD G d ts).map D.bl)) := by
  first | rfl | rw [evE]
@[simp] theorem qevE35 (G : Prog) (cf : CF) {b} {k} {es} : evE G cf (.ofIt b k es) = (M.bind (evOs G cf es) fun os => M.bind (getAll os) fun ds => M.bind (M.opt (items k ds)) fun xs => M.opt (ofKind b xs)) := by
  first | rfl | rw [evE]
theorem qe_comp (G : Prog) (cf : CF) {elt} {tg} {own} {k} {it} {ifs} : evE G cf (.comp elt tg own k it ifs) = (M.bind (evOs G cf it) fun os => M.bind (getAll os) fun ds => M.bind (M.opt (items k ds)) fun xs => fun e =>
      if still (watch os e) (wipeSlots own e) then (compL (turnC own (asgT tg) (condsL (evTs G cf ifs)) (evE G cf elt)) (watch os e) xs [] (wipeSlots own e)).bind fun ds e' => .ok (.lst true ds) e' else .bad) := by
  first | rfl | rw [evE]
theorem qe_compD (G : Prog) (cf : CF) {vals} {elt} {tg} {own} {i} {ifs} : evE G cf (.compD vals elt tg own i ifs) = (fun e => match e[i]? with
    | some (some (.dct true ks vs)) => if !vals && !ks.all keyOk then .bad else (compL (turnC own (asgT tg) (condsL (evTs G cf ifs)) (evE G cf elt)) []
        (if vals then vs else (ks.zip vs).map fun p => .tup [D.ofKey p.1, p.2]) [] (wipeSlots own (e.set i none))).bind fun ds e' => .ok (.lst true ds) (e'.set i (some (.dct true ks vs)))
    | _ => .bad) := by
  first | rfl | rw [evE]
theorem qe_comp2 (G : Prog) (cf : CF) {elt} {tg} {own} {k} {it} {tg2} {k2} {it2} : evE G cf (.comp2 elt tg own k it tg2 k2 it2) = (M.bind (evOs G cf it) fun os => M.bind (getAll os) fun ds => M.bind (M.opt (items k ds)) fun xs => fun e =>
      (comp2L (fun d => M.nox (M.bind (asgT tg d) fun _ => M.bind (evOs G cf it2) fun os => M.bind (getAll os) fun ds => M.opt (items k2 ds))) (fun d => M.nox (M.bind (asgT tg2 d) fun _ => M.bind (evE G cf elt) fun v => M.pure v.frz)) (watch os e) xs []
        (wipeSlots own e)).bind fun ds e' => M.opt (ofKind .list ds) (wipeSlots own e')) := by
  first | rfl | rw [evE]
@[simp] theorem qevE39 (G : Prog) (cf : CF) {ke} {ve} {tg} {own} {k} {it} : evE G cf (.dcomp ke ve tg own k it) = (M.bind (evOs G cf it) fun os => M.bind (getAll os) fun ds => M.bind (M.opt (items k ds)) fun xs => fun e =>
      (compL (fun d => fun e => (M.bind (asgT tg d) fun _ => M.bind (evE G cf ke) fun a => M.bind (evE G cf ve) fun v => M.pure (some (.tup [a, v.frz]))) (wipeSlots own e)) (watch os e) xs [] e).bind fun ds e' => M.opt ((dictOf ds).map fun p => .dct true p.1 p.2) (wipeSlots own e')) := by
  first | rfl | rw [evE]
@[simp] theorem qevE40 (G : Prog) (cf : CF) {ps} {rs} : evE G cf (.fstr ps rs) = (M.bind (evEs G cf ps) fun ds => M.bind (M.opt (fmts ds rs)) fun s => M.pure (.str s)) := by
  first | rfl | rw [evE]
@[simp] theorem qevE41 (G : Prog) (cf : CF)  : evE G cf (.bad) = (M.bad) := by
  first | rfl | rw [evE]
@[simp] theorem qevEs42 (G : Prog) (cf : CF)  : evEs G cf ([]) = (M.pure []) := by
  first | rfl | rw [evEs]
@[simp] theorem qevEs43 (G : Prog) (cf : CF) {e} {es} : evEs G cf (e :: es) = (M.bind (evE G cf e) fun d => M.bind (evEs G cf es) fun ds => M.pure (d.frz :: ds)) := by
  first | rfl | rw [evEs]
@[simp] theorem qevRs44 (G : Prog) (cf : CF)  : evRs G cf ([]) = (M.pure []) := by
  first | rfl | rw [evRs]
@[simp] theorem qevRs45 (G : Prog) (cf : CF) {e} {es} : evRs G cf (e :: es) = (M.bind (evE G cf e) fun d => M.bind (evRs G cf es) fun ds => M.pure (d :: ds)) := by
  first | rfl | rw [evRs]
@[simp] theorem qevOs46 (G : Prog) (cf : CF)  : evOs G cf ([]) = (M.pure []) := by
  first | rfl | rw [evOs]
@[simp] theorem qevOs47 (G : Prog) (cf : CF) {e} {es} : evOs G cf (e :: es) = (M.bind (opd e (evE G cf e)) fun d => M.bind (evOs G cf es) fun ds => M.pure (d :: ds)) := by
  first | rfl | rw [evOs]
@[simp] theorem qevT48 (G : Prog) (cf : CF) {e} : evT G cf (.val e) = (test (opd e (evE G cf e))) := by
  first | rfl | rw [evT]
@[simp] theorem qevT49 (G : Prog) (cf : CF) {a} : evT G cf (.not a) = (M.bind (evT G cf a) fun r => M.pure (!r)) := by
  first | rfl | rw [evT]
@[simp] theorem qevT50 (G : Prog) (cf : CF) {a} {b} : evT G cf (.and a b) = (M.bind (evT G cf a) fun r => if r then evT G cf b else M.pure false) := by
  first | rfl | rw [evT]
@[simp] theorem qevT51 (G : Prog) (cf : CF) {a} {b} : evT G cf (.or a b) = (M.bind (evT G cf a) fun r => if r then M.pure true else evT G cf b) := by
  first | rfl | rw [evT]
@[simp] theorem qevTs52 (G : Prog) (cf : CF)  : evTs G cf ([]) = ([]) := by
  first | rfl | rw [evTs]
@[simp] theorem qevTs53 (G : Prog) (cf : CF) {e} {es} : evTs G cf (e :: es) = (evT G cf e :: evTs G cf es) := by
  first | rfl | rw [evTs]
@[simp] theorem qevOp54 (G : Prog) (cf : CF)  : evOp G cf (none) = (M.pure none) := by
  first | rfl | rw [evOp]
@[simp] theorem qevOp55 (G : Prog) (cf : CF) {e} : evOp G cf (some e) = (M.bind (evE G cf e) fun d => M.opt ((intOf d).map some)) := by
  first | rfl | rw [evOp]
@[simp] theorem qevS56 (G : Prog) (cf : CF) {e} : evS G cf (.expr e) = (M.bind (evE G cf e) fun _ => M.pure .nx) := by
  first | rfl | rw [evS]
@[simp] theorem qevS57 (G : Prog) (cf : CF) {t} {e} : evS G cf (.asg t e) = (M.bind (evE G cf e) fun d => M.bind (asgT t d) fun _ => M.pure .nx) := by
  first | rfl | rw [evS]
@[simp] theorem qevS58 (G : Prog) (cf : CF) {ts} {es} : evS G cf (.par ts es) = (M.bind (evRs G cf es) fun ds => M.bind (bindAll ts ds) fun _ => M.pure .nx) := by
  first | rfl | rw [evS]
@[simp] theorem qevS59 (G : Prog) (cf : CF) {a} {b} {e} : evS G cf (.asgSub a b e) = (M.bind (evE G cf e) fun v => M.bind (opd a (M.bad)) fun x => M.bind (opd b (evE G cf b)) fun y => M.bind x.get fun d => M.bind y.get fun k => match setAt d k v.frz with
    | some d' => M.bind (putBack x d') fun _ => M.pure .nx
    | none => M.bad) := by
  first | rfl | rw [evS]
@[simp] theorem qevS60 (G : Prog) (cf : CF) {a} {f} {e} : evS G cf (.asgAttr a f e) = (M.bind (evE G cf e) fun v => M.bind (opd a (M.bad)) fun x => M.bind x.get fun d => match setAttrD G d f v.frz with
    | some d' => M.bind (putBack x d') fun _ => M.pure .nx
    | none => M.bad) := by
  first | rfl | rw [evS]
@[simp] theorem qevS61 (G : Prog) (cf : CF) {i} {op} {e} : evS G cf (.aug i op e) = (M.bind (getS i) fun d => M.bind (opd e (evE G cf e)) fun y => M.bind y.get fun d' => match augD op d d' with
    | some r => M.bind (setS i r) fun _ => M.pure .nx
    | none => M.bad) := by
  first | rfl | rw [evS]
@[simp] theorem qevS62 (G : Prog) (cf : CF) {a} {f} {op} {e} : evS G cf (.augAttr a f op e) = (M.bad) := by
  first | rfl | rw [evS]
@[simp] theorem qevS63 (G : Prog) (cf : CF) {c} {a} {b} : evS G cf (.ite c a b) = (M.bind (evT G cf c) fun r => if r then evSs G cf a else evSs G cf b) := by
  first | rfl | rw [evS]
theorem qevS64 (G : Prog) (cf : CF) {c} {b} : evS G cf (.wh c b) = (whL (evT G cf c) (evSs G cf b) TURNS) := by
  first | rfl | rw [evS]
theorem qevS65 (G : Prog) (cf : CF) {t} {k} {it} {b} : evS G cf (.for_ t k it b) = (M.bind (evOs G cf it) fun os => M.bind (getAll os) fun ds => M.bind (M.opt (items k ds)) fun xs => fun e =>
      if noAsg (watch os e) (t.slots ++ PS.asgss b) then forL (fun d => M.bind (asgT t d) fun _ => evSs G cf b) (watch os e) xs e else .bad) := by
  first | rfl | rw [evS]
@[simp] theorem qevS66 (G : Prog) (cf : CF) {e} : evS G cf (.ret e) = (retV e (evE G cf e)) := by
  first | rfl | rw [evS]
@[simp] theorem qevS67 (G : Prog) (cf : CF) {c} {es} : evS G cf (.raise_ c es) = (M.bind (evEs G cf es) fun ds => match excOf G c ds with
    | some x => fun e => .exc x e
    | none => M.bad) := by
  first | rfl | rw [evS]
@[simp] theorem qevS68 (G : Prog) (cf : CF)  : evS G cf (.brk) = (M.pure .bk) := by
  first | rfl | rw [evS]
@[simp] theorem qevS69 (G : Prog) (cf : CF)  : evS G cf (.cont) = (M.pure .ct) := by
  first | rfl | rw [evS]
@[simp] theorem qevS70 (G : Prog) (cf : CF)  : evS G cf (.pass) = (M.pure .nx) := by
  first | rfl | rw [evS]
@[simp] theorem qevS71 (G : Prog) (cf : CF)  : evS G cf (.bad) = (M.bad) := by
  first | rfl | rw [evS]
@[simp] theorem qevS72 (G : Prog) (cf : CF) {b} {hs} {nm} {bs} : evS G cf (.try_ b hs nm bs) = (fun e => match evSs G cf b e with
    | .exc x e => evHs G cf x hs nm bs e
    | r => r) := by
  first | rfl | rw [evS]
@[simp] theorem qevS73 (G : Prog) (cf : CF) {s} {pats} {gs} {bs} {dfl} : evS G cf (.mtch s pats gs bs dfl) = (M.bind (evE G cf s) fun d => evCs G cf d.frz pats gs bs (evSs G cf dfl)) := by
  first | rfl | rw [evS]
@[simp] theorem qevSs74 (G : Prog) (cf : CF)  : evSs G cf ([]) = (M.pure .nx) := by
  first | rfl | rw [evSs]
@[simp] theorem qevSs75 (G : Prog) (cf : CF) {s} {ss} : evSs G cf (s :: ss) = (M.bind (evS G cf s) fun f => match f with
    | .nx => evSs G cf ss
    | f => M.pure f) := by
  first | rfl | rw [evSs]
abbrev K1 (s : Str) : FnKey := (s, none)
theorem evF_succ {G : Prog} {n : Nat} {k : FnKey} {f : Fn} {ds : List D} (h : G.fns.lookup k = some f) (hl : ds.length = f.ps.length) : evF G (n + 1) k ds = runF G (evF G n) f ds := by
  show (match G.fns.lookup k with
    | some f => if ds.length = f.ps.length then runF G (evF G n) f ds else .bad
    | none => match G.stars.lookup k with
      | some f => if ds.length = f.ps.length then runF G (evF G n) f ds else .bad
      | none => .bad) = _
  rw [h]
  dsimp only
  rw [if_pos hl]
theorem evF_star {G : Prog} {n : Nat} {k : FnKey} {f : Fn} {ds : List D} (h0 : G.fns.lookup k = none) (h : G.stars.lookup k = some f) (hl : ds.length = f.ps.length) : evF G (n + 1) k ds = runF G (evF G n) f ds := by
  show (match G.fns.lookup k with
    | some f => if ds.length = f.ps.length then runF G (evF G n) f ds else .bad
    | none => match G.stars.lookup k with
      | some f => if ds.length = f.ps.length then runF G (evF G n) f ds else .bad
      | none => .bad) = _
  rw [h0, h]
  dsimp only
  rw [if_pos hl]
theorem toNat_inj {a b : Char} (h : a.toNat = b.toNat) : a = b := Char.ext (UInt32.toNat_inj.mp h)
@[simp] theorem str_eq {a b : String} : (Str.ofString a = Str.ofString b) ↔ a = b := by
  constructor
  · intro h
    rw [Str.ofString_eq_toList, Str.ofString_eq_toList] at h
    simp only [Str.mk.injEq] at h
    have h2 : a.toList.map Char.toNat = b.toList.map Char.toNat := by simpa using h
    have : a.toList = b.toList := by
      have inj : ∀ (l m : List Char), l.map Char.toNat = m.map Char.toNat → l = m := by
        intro l
        induction l with
        | nil => intro m h; cases m with
          | nil => rfl
          | cons _ _ => simp at h
        | cons x l ih => intro m h; cases m with
          | nil => simp at h
          | cons y m =>
            simp only [List.map_cons, List.cons.injEq] at h
            rw [toNat_inj h.1, ih m h.2]
      exact inj _ _ h2
    exact String.ext this
  · intro h; rw [h]

/-! ### operations by kinds -/
@[simp] theorem cmp_lt (i j : Int) : cmpop .Lt (.int i) (.int j) = some (decide (i < j)) := rfl
@[simp] theorem cmp_le (i j : Int) : cmpop .LtE (.int i) (.int j) = some (decide (i ≤ j)) := rfl
@[simp] theorem cmp_gt (i j : Int) : cmpop .Gt (.int i) (.int j) = some (decide (j < i)) := rfl
@[simp] theorem cmp_ge (i j : Int) : cmpop .GtE (.int i) (.int j) = some (decide (j ≤ i)) := rfl
@[simp] theorem cmp_eqi (i j : Int) : cmpop .Eq (.int i) (.int j) = some (decide (i = j)) := by
  simp only [cmpop, pyEq, D.plain, D.depth, D.eqv, Bool.and_self, Nat.zero_le, decide_true, if_true]
  rfl
@[simp] theorem cmp_nei (i j : Int) : cmpop .NotEq (.int i) (.int j) = some (!decide (i = j)) := by
  simp only [cmpop, pyEq, D.plain, D.depth, D.eqv, Bool.and_self, Nat.zero_le, decide_true, if_true]
  rfl
@[simp] theorem cmp_eqs (s t : Str) : cmpop .Eq (.str s) (.str t) = some (decide (s = t)) := by
  simp only [cmpop, pyEq, D.plain, D.depth, D.eqv, Bool.and_self, Nat.zero_le, decide_true, if_true]
  rfl
@[simp] theorem bin_add (i j : Int) : binop .Add (.int i) (.int j) = some (.int (i + j)) := rfl
@[simp] theorem bin_sub (i j : Int) : binop .Sub (.int i) (.int j) = some (.int (i - j)) := rfl
@[simp] theorem aug_add (i j : Int) : augD .Add (.int i) (.int j) = some (.int (i + j)) := rfl
@[simp] theorem aug_sub (i j : Int) : augD .Sub (.int i) (.int j) = some (.int (i - j)) := rfl
@[simp] theorem neg_int (i : Int) : negD (.int i) = some (.int (-i)) := rfl
theorem bin_mul {i j : Int} (h : mulOk i j = true) : binop .Mult (.int i) (.int j) = some (.int (i * j)) := by simp [binop, h]
theorem bin_fdiv {i j : Int} (h : divOk j = true) : binop .FloorDiv (.int i) (.int j) = some (.int (i / j)) := by simp [binop, h]
theorem bin_mod {i j : Int} (h : 0 < j) : binop .Mod (.int i) (.int j) = some (.int (i % j)) := by simp [binop, h]
@[simp] theorem tr_bl (b : Bool) : (D.bl b).truth = some b := rfl
@[simp] theorem tr_int (i : Int) : (D.int i).truth = some (i != 0) := rfl
@[simp] theorem tr_non : D.non.truth = some false := rfl
@[simp] theorem ow_non : D.non.own = false := rfl
@[simp] theorem ow_bl (b : Bool) : (D.bl b).own = false := rfl
@[simp] theorem ow_int (i : Int) : (D.int i).own = false := rfl
@[simp] theorem ow_str (s : Str) : (D.str s).own = false := rfl
@[simp] theorem ow_tup (ds : List D) : (D.tup ds).own = false := rfl
@[simp] theorem ow_scr (ds : List Int) : (D.scr ds).own = false := rfl
@[simp] theorem ow_lst (o : Bool) (ds : List D) : (D.lst o ds).own = o := rfl
@[simp] theorem ow_dct (o : Bool) (ks : List Key) (ds : List D) : (D.dct o ks ds).own = o := rfl
@[simp] theorem ow_ins (o : Bool) (c : Str) (fs : List Str) (ds : List D) : (D.ins o c fs ds).own = o := rfl
@[simp] theorem fz_non : D.non.frz = .non := rfl
@[simp] theorem fz_bl (b : Bool) : (D.bl b).frz = .bl b := rfl
@[simp] theorem fz_int (i : Int) : (D.int i).frz = .int i := rfl
@[simp] theorem fz_str (s : Str) : (D.str s).frz = .str s := rfl
@[simp] theorem fz_tup (ds : List D) : (D.tup ds).frz = .tup ds := rfl
@[simp] theorem fz_scr (ds : List Int) : (D.scr ds).frz = .scr ds := rfl
@[simp] theorem fz_lst (o : Bool) (ds : List D) : (D.lst o ds).frz = .lst false ds := rfl
@[simp] theorem fz_dct (o : Bool) (ks : List Key) (ds : List D) : (D.dct o ks ds).frz = .dct false ks ds := rfl
@[simp] theorem fz_ins (o : Bool) (c : Str) (fs : List Str) (ds : List D) : (D.ins o c fs ds).frz = .ins false c fs ds := rfl
@[simp] theorem opd_slot (i : Nat) (v : M D) (e : Env) : opd (.var i) v e = (match e[i]? with
  | some (some _) => .ok (.slot i) e
  | _ => .bad) := rfl
theorem opd_val {p : PE} {v : M D} (h : isVar p = none) : opd p v = M.bind v fun d => M.pure (.val d) := by unfold opd; rw [h]
@[simp] theorem ret_slot (i : Nat) (v : M D) (e : Env) : retV (.var i) v e = ((getS i e).bind fun d e => .ok (.rt d) (if d.own then e.set i none else e)) := rfl
theorem ret_val {p : PE} {v : M D} (h : isVar p = none) : retV p v = M.bind v fun d => M.pure (.rt d) := by unfold retV; rw [h]
/-! ### loops -/
theorem ss_nx {G : Prog} {cf : CF} {s : PS} {ss : List PS} {e e' : Env} (h : evS G cf s e = .ok .nx e') : evSs G cf (s :: ss) e = evSs G cf ss e' := by
  simp [h]
theorem ev_for {G : Prog} {cf : CF} {t : Tgt} {k : ItK} {it : List PE} {b : List PS} {e e1 : Env} {os : List Opd} {ds xs : List D} (h1 : evOs G cf it e = .ok os e1) (h2 : getAll os e1 = .ok ds e1) (h3 : items k ds = some xs)
    (h4 : noAsg (watch os e1) (t.slots ++ PS.asgss b) = true) : evS G cf (.for_ t k it b) e = forL (fun d => M.bind (asgT t d) fun _ => evSs G cf b) (watch os e1) xs e1 := by
  rw [evS]
  simp only [M.bind, h1, R.bind, h2, h3, M.opt, h4, if_true]
/-- over a sequence in a slot that owns nothing -/
theorem ev_forS {G : Prog} {cf : CF} {t : Tgt} {i : Nat} {b : List PS} {e : Env} {d : D} {xs : List D} (h1 : e[i]? = some (some d)) (ho : d.own = false) (h3 : seqOf d = some xs) :
    evS G cf (.for_ t .seq [.var i] b) e = forL (fun d => M.bind (asgT t d) fun _ => evSs G cf b) [] xs e := by
  have w : watch [Opd.slot i] e = [] := by simp [watch, h1, ho]
  rw [ev_for (os := [.slot i]) (ds := [d]) (xs := xs) (e1 := e) (by simp [h1]) (by simp [h1]) (by simpa [items] using h3) (by rw [w]; rfl), w]
theorem compL_pure {turn : D → M (Option D)} {w : List (Nat × D)} {e : Env} {f : D → Option D} (hs : still w e = true) : ∀ (xs acc : List D), (∀ d ∈ xs, turn d e = .ok (f d) e) → acc.length + xs.length ≤ LINE → compL turn w xs acc e = .ok (acc ++ xs.filterMap f) e
  | [], acc, _, _ => by simp [compL]
  | d :: xs, acc, h, hl => by
    have hd := h d List.mem_cons_self
    unfold compL
    simp only [M.bind, M.nox, hd, R.bind, hs, if_true]
    cases q : f d with
    | none =>
      dsimp only
      rw [compL_pure hs xs acc (fun d hd => h d (List.mem_cons_of_mem _ hd)) (by simp at hl; omega), List.filterMap_cons, q]
    | some v =>
      have l : acc.length < LINE := by simp at hl; omega
      dsimp only
      rw [if_pos l, compL_pure hs xs (acc ++ [v]) (fun d hd => h d (List.mem_cons_of_mem _ hd)) (by simp at hl ⊢; omega), List.filterMap_cons, q]
      simp
/-- a loop that goes on: I holds of what was walked and the slots -/
theorem forL_ind {turn : D → M Fl} {w : List (Nat × D)} (I : List D → Env → Prop) : ∀ (xs done : List D) (e : Env), I done e →
    (∀ done d e, I done e → d ∈ xs → ∃ e', (turn d e = .ok .nx e' ∨ turn d e = .ok .ct e') ∧ I (done ++ [d]) e' ∧ still w e' = true) → ∃ e', forL turn w xs e = .ok .nx e' ∧ I (done ++ xs) e'
  | [], done, e, h, _ => ⟨e, rfl, by simpa using h⟩
  | d :: xs, done, e, h, k => by
    obtain ⟨e1, t1, i1, s1⟩ := k done d e h List.mem_cons_self
    obtain ⟨e2, t2, i2⟩ := forL_ind I xs (done ++ [d]) e1 i1 fun done d e h m => k done d e h (List.mem_cons_of_mem _ m)
    refine ⟨e2, ?_, by simpa using i2⟩
    unfold forL
    rcases t1 with t1 | t1 <;> simp only [M.bind, t1, R.bind, s1, if_true, t2]
end PL

-- Q1
set_option linter.all false
set_option maxRecDepth 100000
set_option maxHeartbeats 1000000
namespace PL
open PySem (Str)
abbrev Bag := List (Int × Int)
def bagD (b : Bag) : D := .tup (b.map pairD)
@[simp] theorem ow_bag (b : Bag) : (bagD b).own = false := rfl
@[simp] theorem fz_bag (b : Bag) : (bagD b).frz = bagD b := rfl
@[simp] theorem seq_bag (b : Bag) : seqOf (bagD b) = some (b.map pairD) := rfl
theorem compL_map {α : Type} {turn : D → M (Option D)} {w : List (Nat × D)} {e : Env} {inj : α → D} {g : α → Option D} {acc : List D} {l : List α} (h : ∀ a ∈ l, turn (inj a) e = .ok (g a) e) (hs : still w e = true) (hl : acc.length + l.length ≤ LINE) :
    compL turn w (l.map inj) acc e = .ok (acc ++ l.filterMap g) e := by
  induction l generalizing acc with
  | nil => simp [compL]
  | cons a l ih =>
    have hd := h a List.mem_cons_self
    rw [List.map_cons]
    unfold compL
    simp only [M.bind, M.nox, hd, R.bind, hs, if_true]
    have lt : acc.length < LINE := by simp at hl; omega
    cases q : g a with
    | none =>
      dsimp only
      rw [ih (fun d hd => h d (List.mem_cons_of_mem _ hd)) (by simp at hl; omega), List.filterMap_cons, q]
    | some v =>
      dsimp only
      rw [if_pos lt, ih (fun d hd => h d (List.mem_cons_of_mem _ hd)) (by simp at hl ⊢; omega), List.filterMap_cons, q]
      simp
theorem intsOf_map {α : Type} (l : List α) (g : α → Int) : intL (l.map fun a => D.int (g a)) = some (l.map g) := by
  induction l with
  | nil => rfl
  | cons a l ih => rw [List.map_cons, intL, ih]; rfl
theorem fm_some {α β : Type} (l : List α) (g : α → β) : l.filterMap (fun a => some (g a)) = l.map g := by
  induction l with
  | nil => rfl
  | cons a l ih => rw [List.filterMap_cons, ih]; rfl
theorem fm_if {α β : Type} (l : List α) (p : α → Bool) (g : α → β) : l.filterMap (fun a => if p a then some (g a) else none) = (l.filter p).map g := by
  induction l with
  | nil => rfl
  | cons a l ih =>
    rw [List.filterMap_cons, List.filter_cons]
    cases p a with
    | true => simp [ih]
    | false => simp [ih]
/-! ### what the functions of bags compute -/
def totalB (b : Bag) : Int := sumI (b.map (·.2))
def levelB (b : Bag) (x : Int) : Int := sumI ((b.filter fun p => decide (p.1 ≤ x)).map (·.2))
variable {G : Prog} {n : Nat}
theorem ev_total (h : G.fns.lookup (K1 "total") = some BG.f_total) {b : Bag} (hl : b.length ≤ LINE) : evF G (n + 1) (K1 "total") [bagD b] = .ret (.int (totalB b)) [none] := by
  rw [evF_succ h rfl]
  simp [runF, BG.f_total, qe_comp, retV, opd, items, watch, wipeSlots, still]
  rw [compL_map (g := fun p => some (.int p.2)) (by intro p hp; simp [turnC, pairD, asgT, asgTs, condsL, wipeSlots]) (by simp [still]) (by simpa using hl)]
  simp [fm_some, bltin, blt1, intsOf, listOf, intsOf_map, totalB, fins]
theorem ev_level (h : G.fns.lookup (K1 "level") = some BG.f_level) {b : Bag} {x : Int} (hl : b.length ≤ LINE) : evF G (n + 1) (K1 "level") [bagD b, .int x] = .ret (.int (levelB b x)) [none, none] := by
  rw [evF_succ h rfl]
  simp [runF, BG.f_level, qe_comp, retV, opd, items, watch, wipeSlots, still]
  rw [compL_map (g := fun p => if decide (p.1 ≤ x) then some (.int p.2) else none) (by
    intro p hp
    simp [turnC, pairD, asgT, asgTs, condsL, wipeSlots, test, opd]
    by_cases q : p.1 ≤ x <;> simp [q]) (by simp [still]) (by simpa using hl)]
  rw [fm_if]
  simp [bltin, blt1, intsOf, listOf, intsOf_map, levelB, fins]
theorem forL_map {α : Type} {inj : α → D} {turn : D → M Fl} {w : List (Nat × D)} (I : List α → Env → Prop) {l : List α} {e : Env} (h0 : I [] e)
    (step : ∀ (done : List α) (a : α) (rest : List α) (e : Env), l = done ++ a :: rest → I done e → ∃ e', (turn (inj a) e = .ok .nx e' ∨ turn (inj a) e = .ok .ct e') ∧ I (done ++ [a]) e' ∧ still w e' = true) :
    ∃ e', forL turn w (l.map inj) e = .ok .nx e' ∧ I l e' := by
  have gen : ∀ (rest done : List α) (e : Env), l = done ++ rest → I done e → ∃ e', forL turn w (rest.map inj) e = .ok .nx e' ∧ I l e' := by
    intro rest
    induction rest with
    | nil => intro done e hl h; exact ⟨e, rfl, by rw [hl, List.append_nil]; exact h⟩
    | cons a rest ih =>
      intro done e hl h
      obtain ⟨e1, t1, i1, s1⟩ := step done a rest e hl h
      obtain ⟨e2, t2, i2⟩ := ih (done ++ [a]) e1 (by rw [hl, List.append_assoc]; rfl) i1
      refine ⟨e2, ?_, i2⟩
      rw [List.map_cons]
      unfold forL
      rcases t1 with t1 | t1 <;> simp only [M.bind, t1, R.bind, s1, if_true, t2]
  exact gen l [] e rfl h0
/-! ### lists of intL -/
def intsD (l : List Int) : D := .lst true (l.map D.int)
@[simp] theorem ow_ints (l : List Int) : (intsD l).own = true := rfl
theorem plainL_ints (l : List Int) : D.plainL (l.map D.int) = true := by
  induction l with
  | nil => rfl
  | cons a l ih => rw [List.map_cons, D.plainL, ih]; rfl
theorem depthL_ints (l : List Int) : D.depthL (l.map D.int) = 0 := by
  induction l with
  | nil => rfl
  | cons a l ih => rw [List.map_cons, D.depthL, ih]; rfl
@[simp] theorem ne_nil (l : List Int) (o : Bool) : cmpop .NotEq (intsD l) (.lst o []) = some (!l.isEmpty) := by
  have e : D.plain (intsD l) = true := by unfold intsD; rw [D.plain]; exact plainL_ints l
  have e2 : D.depth (intsD l) = 1 := by unfold intsD; rw [D.depth, depthL_ints]
  have e3 : D.eqv (intsD l) (.lst o []) = l.isEmpty := by cases l <;> rfl
  have e4 : D.plain (.lst o []) = true := rfl
  have e5 : D.depth (.lst o []) = 1 := rfl
  simp only [cmpop, pyEq, e, e2, e3, e4, e5]
  rfl
theorem last_ints (l : List Int) (x : Int) : subscr (intsD (l ++ [x])) (.int (-1)) = some (.int x) := by
  have e : place (l.length + 1) (-1) = some l.length := by
    unfold place
    rw [if_neg (by decide), if_pos (by omega)]
    congr 1
    omega
  unfold intsD
  simp only [subscr, List.length_map, List.length_append, List.length_cons, List.length_nil, Nat.zero_add, e, Option.bind_some, List.map_append, List.map_cons, List.map_nil]
  rw [List.getElem?_append_right (by simp)]
  simp
theorem app_ints (l : List Int) (x : Int) (h : l.length < LINE) : bmeth (intsD l) "append" [.int x] = some (intsD (l ++ [x]), .non) := by
  unfold intsD
  simp [bmeth, h]
/-! ### bags -/
structure Canon (b : Bag) : Prop where
  srt : b.Pairwise fun p q => p.1 < q.1
  pos : ∀ p ∈ b, 0 < p.2
theorem ev_is_integer (h : G.fns.lookup (K1 "is_integer") = some BG.f_is_integer) (i : Int) : evF G (n + 1) (K1 "is_integer") [.int i] = .ret (.bl true) [none] := by
  rw [evF_succ h rfl]
  simp [runF, BG.f_is_integer, opd, retV, isiD, isinst, tyIs, tyNames, fins]
theorem ev_is_count (h : G.fns.lookup (K1 "is_integer") = some BG.f_is_integer) (h2 : G.fns.lookup (K1 "is_count") = some BG.f_is_count) (i : Int) : evF G (n + 2) (K1 "is_count") [.int i] = .ret (.bl (decide (0 ≤ i))) [none] := by
  rw [evF_succ h2 rfl]
  simp [runF, BG.f_is_count, callX, h, opd, retV, fins, callO, ownSlots, nodupN, ev_is_integer h, backTo]
theorem ev_check_count (h : G.fns.lookup (K1 "is_integer") = some BG.f_is_integer) (h2 : G.fns.lookup (K1 "is_count") = some BG.f_is_count) (h3 : G.fns.lookup (K1 "check_count") = some BG.f_check_count) {i : Int} (hi : 0 ≤ i) :
    evF G (n + 3) (K1 "check_count") [.int i] = .ret .non [none] := by
  rw [evF_succ h3 rfl]
  simp [runF, BG.f_check_count, callX, h2, opd, test, retV, fins, callO, ownSlots, nodupN, ev_is_count h h2, backTo, hi]
@[simp] theorem bmok_ints (l : List Int) : bmOk "append" (intsD l) = true := by unfold intsD; simp [bmOk]
@[simp] theorem isi_bag (b : Bag) : isiD G (bagD b) ["tuple"] = some true := by simp [isiD, isinst, tyIs, tyNames, bagD]
@[simp] theorem isi_pair (p : Int × Int) : isiD G (pairD p) ["tuple"] = some true := by simp [isiD, isinst, tyIs, tyNames, pairD]
theorem ev_is_bag (h : G.fns.lookup (K1 "is_integer") = some BG.f_is_integer) (h2 : G.fns.lookup (K1 "is_bag") = some BG.f_is_bag) {b : Bag} (hb : Canon b) (hl : b.length < LINE) : evF G (n + 2) (K1 "is_bag") [bagD b] = .ret (.bl true) [none] := by
  rw [evF_succ h2 rfl]
  have loop := forL_map (inj := pairD) (l := b) (w := []) (turn := fun d => M.bind (asgT (.nm 2) d) fun _ => evSs G (evF G (n + 1)) BG.b_is_bag_0)
    (e := [some (bagD b), some (.lst true []), none, none, none])
    (fun done e => ∃ x y z, e = [some (bagD b), some (intsD (done.map (·.1))), x, y, z]) ⟨none, none, none, rfl⟩ (by
      rintro done p rest e hd ⟨x, y, z, rfl⟩
      have hp : 0 < p.2 := hb.pos p (by rw [hd]; simp)
      have hlt : done.length < LINE := by rw [hd] at hl; simp at hl; omega
      refine ⟨[some (bagD b), some (intsD (done.map (·.1) ++ [p.1])), some (pairD p), some (.int p.1), some (.int p.2)], .inl ?_, ⟨_, _, _, by rw [List.map_append]; rfl⟩, rfl⟩
      have c1 : ¬ p.2 < 1 := by omega
      have ap := app_ints (done.map (·.1)) p.1 (by simpa using hlt)
      have tests : (done.map (·.1)).isEmpty = false → ∃ q, subscr (intsD (done.map (·.1))) (.int (-1)) = some (.int q) ∧ q < p.1 := by
        intro hne
        rcases List.eq_nil_or_concat done with rfl | ⟨d2, q, rfl⟩
        · simp at hne
        · refine ⟨q.1, ?_, ?_⟩
          · simp only [List.concat_eq_append, List.map_append, List.map_cons, List.map_nil]
            exact last_ints _ _
          · have s := hb.srt
            rw [hd] at s
            exact (List.pairwise_append.mp s).2.2 q (by simp) p (by simp)
      cases hne : (done.map (·.1)).isEmpty with
      | true => simp [BG.b_is_bag_0, asgT, asgTs, pairD, opd, test, isiD, isinst, tyIs, tyNames, bltin, blt1, lenD, callX, h, callO, ownSlots, nodupN, ev_is_integer h, backTo, c1, hne, callBM, putBack, ap]
      | false =>
        obtain ⟨q, hq, hq2⟩ := tests hne
        have nle : ¬ p.1 ≤ q := by omega
        simp [BG.b_is_bag_0, asgT, asgTs, pairD, opd, test, isiD, isinst, tyIs, tyNames, bltin, blt1, lenD, callX, h, callO, ownSlots, nodupN, ev_is_integer h, backTo, c1, hne, hq, nle, callBM, putBack, ap])
  obtain ⟨e', h1, x, y, z, rfl⟩ := loop
  have lp : evS G (evF G (n + 1)) BG.l_is_bag_0 [some (bagD b), some (.lst true []), none, none, none] = .ok .nx [some (bagD b), some (intsD (b.map (·.1))), x, y, z] := by
    unfold BG.l_is_bag_0
    rw [ev_forS (d := bagD b) rfl rfl rfl, h1]
  simp [runF, BG.f_is_bag, opd, retV, test, asgT, LINE, lp, fins]
theorem ev_check_bag (h : G.fns.lookup (K1 "is_integer") = some BG.f_is_integer) (h2 : G.fns.lookup (K1 "is_bag") = some BG.f_is_bag) (h3 : G.fns.lookup (K1 "check_bag") = some BG.f_check_bag) {b : Bag} (hb : Canon b) (hl : b.length < LINE) :
    evF G (n + 3) (K1 "check_bag") [bagD b] = .ret .non [none] := by
  rw [evF_succ h3 rfl]
  simp [runF, BG.f_check_bag, callX, h2, opd, test, retV, fins, callO, ownSlots, nodupN, ev_is_bag h h2 hb hl, backTo]
end PL

-- Q2
set_option linter.all false
set_option maxRecDepth 100000
set_option maxHeartbeats 1000000
namespace PL
open PySem (Str)
/-! ### dicts from intL to intL -/
def dctD (kv : Bag) : D := .dct true (kv.map fun p => Sum.inl p.1) (kv.map fun p => .int p.2)
@[simp] theorem ow_dctD (kv : Bag) : (dctD kv).own = true := rfl
def putKV (k v : Int) (kv : Bag) : Bag := if kv.any (fun p => decide (p.1 = k)) then kv.map (fun p => if p.1 = k then (p.1, v) else p) else kv ++ [(k, v)]
def getKV (k : Int) (kv : Bag) : Option Int := (kv.find? fun p => decide (p.1 = k)).map (·.2)
def mkKV (b : Bag) : Bag := b.foldl (fun kv p => putKV p.1 p.2 kv) []
theorem put_kv (k v : Int) (kv : Bag) : dictPut (Sum.inl k : Key) (D.int v) (kv.map fun p => Sum.inl p.1) (kv.map fun p => .int p.2) = ((putKV k v kv).map fun p => (Sum.inl p.1 : Key), (putKV k v kv).map fun p => D.int p.2) := by
  unfold dictPut putKV
  have e : ((kv.map fun p => (Sum.inl p.1 : Key)).any fun k' => decide (k' = Sum.inl k)) = kv.any (fun p => decide (p.1 = k)) := by
    rw [List.any_map]
    congr 1
    funext p
    simp
  rw [e]
  by_cases h : kv.any (fun p => decide (p.1 = k)) = true
  · rw [if_pos h, if_pos h]
    congr 1
    · rw [List.map_map]
      apply List.map_congr_left
      intro p _
      by_cases q : p.1 = k <;> simp [q]
    · clear h e
      induction kv with
      | nil => rfl
      | cons p kv ih =>
        rw [List.map_cons, List.map_cons, List.zipWith_cons_cons, List.map_cons, List.map_cons, ih]
        by_cases q : p.1 = k <;> simp [q]
  · rw [if_neg h, if_neg h]
    simp
theorem get_kv (k : Int) (kv : Bag) : dictGet (Sum.inl k : Key) (kv.map fun p => Sum.inl p.1) (kv.map fun p => D.int p.2) = (getKV k kv).map D.int := by
  unfold dictGet getKV
  induction kv with
  | nil => rfl
  | cons p kv ih =>
    rw [List.map_cons, List.map_cons, List.zip_cons_cons, List.find?_cons, List.find?_cons]
    by_cases q : p.1 = k
    · simp [q]
    · have : decide ((Sum.inl p.1 : Key) = Sum.inl k) = false := by simpa using q
      rw [show decide ((((Sum.inl p.1 : Key), D.int p.2)).1 = Sum.inl k) = false from this]
      simp only [q, decide_false]
      exact ih
theorem putKV_len (k v : Int) (kv : Bag) : (putKV k v kv).length ≤ kv.length + 1 := by
  unfold putKV
  split <;> simp
theorem mkKV_len_gen (b : Bag) (acc : Bag) : (b.foldl (fun kv p => putKV p.1 p.2 kv) acc).length ≤ acc.length + b.length := by
  induction b generalizing acc with
  | nil => simp
  | cons p b ih =>
    rw [List.foldl_cons]
    refine Nat.le_trans (ih _) ?_
    have := putKV_len p.1 p.2 acc
    simp; omega
theorem mkKV_len (b : Bag) : (mkKV b).length ≤ b.length := by
  have := mkKV_len_gen b []
  unfold mkKV
  simpa using this
theorem pairsK_bag (b : Bag) : pairsK (b.map pairD) = some (b.map fun p => ((Sum.inl p.1 : Key), D.int p.2)) := by
  induction b with
  | nil => rfl
  | cons p b ih =>
    rw [List.map_cons, pairD, pairsK, ih]
    rfl
theorem dictAll_bag (b : Bag) : dictAll (b.map fun p => ((Sum.inl p.1 : Key), D.int p.2)) = ((mkKV b).map fun p => (Sum.inl p.1 : Key), (mkKV b).map fun p => D.int p.2) := by
  unfold dictAll mkKV
  rw [List.foldl_map]
  have gen : ∀ (b acc : Bag), b.foldl (fun x p => dictPut (Sum.inl p.1 : Key) (D.int p.2) x.1 x.2) (acc.map fun p => (Sum.inl p.1 : Key), acc.map fun p => D.int p.2) = ((b.foldl (fun kv p => putKV p.1 p.2 kv) acc).map fun p => (Sum.inl p.1 : Key), (b.foldl (fun kv p => putKV p.1 p.2 kv) acc).map fun p => D.int p.2) := by
    intro b
    induction b with
    | nil => intro acc; rfl
    | cons p b ih =>
      intro acc
      rw [List.foldl_cons, List.foldl_cons, put_kv]
      exact ih _
  exact gen b []
theorem dict_bag (b : Bag) : bltin .dict [bagD b] = some (dctD (mkKV b)) := by
  show dictD (.tup (b.map pairD)) = _
  have : dictD (.tup (b.map pairD)) = ((dictOf (b.map pairD))).map fun p => .dct true p.1 p.2 := rfl
  rw [this, dictOf, pairsK_bag, Option.map_some, dictAll_bag]
  rfl
@[simp] theorem dictD_bag (b : Bag) : dictD (bagD b) = some (dctD (mkKV b)) := dict_bag b
@[simp] theorem bmok_dct (kv : Bag) : bmOk "get" (dctD kv) = true := by unfold dctD; simp [bmOk]
@[simp] theorem bm_get (kv : Bag) (k d : Int) : bmeth (dctD kv) "get" [.int k, .int d] = some (dctD kv, .int ((getKV k kv).getD d)) := by
  unfold dctD
  simp only [bmeth, D.key, Option.map_some, if_true, get_kv]
  cases getKV k kv <;> rfl
theorem set_dct (kv : Bag) (k v : Int) (h : kv.length < LINE) : setAt (dctD kv) (.int k) (.int v) = some (dctD (putKV k v kv)) := by
  unfold dctD
  simp only [setAt, List.length_map, h, if_true, D.key, Option.map_some, put_kv]
/-! ### sorted pairs -/
theorem pairs_bag (b : Bag) : pairs (b.map pairD) = some b := by
  induction b with
  | nil => rfl
  | cons p b ih => rw [List.map_cons, pairD, pairs, ih]; rfl
theorem ints_bag (p : Int × Int) (b : Bag) : intL ((p :: b).map pairD) = none := rfl
theorem sortD_bag (b : Bag) : sortD (b.map pairD) = some ((isort ltP b).map pairD) := by
  cases b with
  | nil => rfl
  | cons p b =>
    unfold sortD
    rw [ints_bag, pairs_bag]
def fromKV (kv : Bag) : Bag := isort ltP (kv.filter fun p => decide (0 < p.2))
variable {G : Prog} {n : Nat}
theorem keyOk_all (kv : Bag) : ((kv.map fun p => (Sum.inl p.1 : Key)).all keyOk) = true := by
  induction kv with
  | nil => rfl
  | cons p kv ih => rw [List.map_cons, List.all_cons, ih]; rfl
theorem zip_kv (kv : Bag) : ((kv.map fun p => (Sum.inl p.1 : Key)).zip (kv.map fun p => D.int p.2)).map (fun p => D.tup [D.ofKey p.1, p.2]) = kv.map pairD := by
  induction kv with
  | nil => rfl
  | cons p kv ih => rw [List.map_cons, List.map_cons, List.zip_cons_cons, List.map_cons, ih]; rfl
theorem ev_compD {G : Prog} {cf : CF} {elt : PE} {tg : Tgt} {own : List Nat} {i : Nat} {ifs : List PB} {e : Env} {kv : Bag} (h : e[i]? = some (some (dctD kv))) :
    evE G cf (.compD false elt tg own i ifs) e = (compL (turnC own (asgT tg) (condsL (evTs G cf ifs)) (evE G cf elt)) [] (kv.map pairD) [] (wipeSlots own (e.set i none))).bind fun ds e' => .ok (.lst true ds) (e'.set i (some (dctD kv))) := by
  rw [evE]
  simp only [h, dctD, keyOk_all, zip_kv, Bool.not_true, Bool.not_false, Bool.and_false, Bool.true_and, Bool.false_eq_true, if_false]
theorem ev_compV {G : Prog} {cf : CF} {elt : PE} {tg : Tgt} {own : List Nat} {i : Nat} {ifs : List PB} {e : Env} {kv : Bag} (h : e[i]? = some (some (dctD kv))) :
    evE G cf (.compD true elt tg own i ifs) e = (compL (turnC own (asgT tg) (condsL (evTs G cf ifs)) (evE G cf elt)) [] (kv.map fun p => D.int p.2) [] (wipeSlots own (e.set i none))).bind fun ds e' => .ok (.lst true ds) (e'.set i (some (dctD kv))) := by
  rw [evE]
  simp only [h, dctD, Bool.not_true, Bool.false_and, Bool.false_eq_true, if_false, if_true]
theorem ev_from_counts (h : G.fns.lookup (K1 "from_counts") = some BG.f_from_counts) {kv : Bag} (hl : kv.length ≤ LINE) : evF G (n + 1) (K1 "from_counts") [dctD kv] = .ret (bagD (fromKV kv)) [some (dctD kv)] := by
  rw [evF_succ h rfl]
  have cp : evE G (evF G n) (.compD false (.tup [(.var 1), (.var 2)]) (.tup [(.nm 1), (.nm 2)]) [1, 2] 0 [(.val (.cmp .Gt (.var 2) (.lit (.int 0))))]) [some (dctD kv), none, none] = .ok (.lst true ((kv.filter fun p => decide (0 < p.2)).map pairD)) [some (dctD kv), none, none] := by
    rw [ev_compD (kv := kv) rfl, compL_map (g := fun p => if decide (0 < p.2) then some (pairD p) else none) (by
      intro p hp
      simp [turnC, pairD, asgT, asgTs, condsL, wipeSlots, test, opd]
      by_cases q : 0 < p.2 <;> simp [q, LINE]) rfl (by simpa using hl), fm_if]
    rfl
  simp [runF, BG.f_from_counts, opd, retV, cp, bltin, blt1, sortedD, listOf, sortD_bag, seqOf, fins, bagD, fromKV]
end PL

-- Q3
set_option linter.all false
set_option maxRecDepth 100000
set_option maxHeartbeats 1000000
namespace PL
open PySem (Str)
def optB : Option Bag → D
  | none => .non
  | some b => bagD b
def addKV (a b : Bag) : Bag := b.foldl (fun kv p => putKV p.1 ((getKV p.1 kv).getD 0 + p.2) kv) (mkKV a)
def subKV (a b : Bag) : Bag := b.foldl (fun kv p => putKV p.1 ((getKV p.1 kv).getD 0 - p.2) kv) (mkKV a)
def addB (a b : Bag) : Bag := fromKV (addKV a b)
def subB (a b : Bag) : Option Bag := if (subKV a b).any (fun p => decide (p.2 < 0)) then none else some (fromKV (subKV a b))
theorem foldKV_len (f : Bag → (Int × Int) → Int) (b : Bag) : ∀ acc : Bag, (b.foldl (fun kv p => putKV p.1 (f kv p) kv) acc).length ≤ acc.length + b.length := by
  induction b with
  | nil => intro acc; simp
  | cons p b ih =>
    intro acc
    rw [List.foldl_cons]
    refine Nat.le_trans (ih _) ?_
    have := putKV_len p.1 (f acc p) acc
    simp; omega
theorem addKV_len (a b : Bag) : (addKV a b).length ≤ a.length + b.length := Nat.le_trans (foldKV_len (fun kv p => (getKV p.1 kv).getD 0 + p.2) b (mkKV a)) (by have := mkKV_len a; omega)
theorem subKV_len (a b : Bag) : (subKV a b).length ≤ a.length + b.length := Nat.le_trans (foldKV_len (fun kv p => (getKV p.1 kv).getD 0 - p.2) b (mkKV a)) (by have := mkKV_len a; omega)
variable {G : Prog} {n : Nat}
theorem ev_add (h1 : G.fns.lookup (K1 "from_counts") = some BG.f_from_counts) (h : G.fns.lookup (K1 "add") = some BG.f_add) {a b : Bag} (hl : a.length + b.length < LINE) : evF G (n + 2) (K1 "add") [bagD a, bagD b] = .ret (bagD (addB a b)) [none, none] := by
  rw [evF_succ h rfl]
  have loop := forL_map (inj := pairD) (l := b) (w := []) (turn := fun d => M.bind (asgT (.tup [.nm 3, .nm 4]) d) fun _ => evSs G (evF G (n + 1)) BG.b_add_0)
    (e := [some (bagD a), some (bagD b), some (dctD (mkKV a)), none, none])
    (fun done e => ∃ x y, e = [some (bagD a), some (bagD b), some (dctD (addKV a done)), x, y]) ⟨none, none, rfl⟩ (by
      rintro done p rest e hd ⟨x, y, rfl⟩
      have e2 : addKV a (done ++ [p]) = putKV p.1 ((getKV p.1 (addKV a done)).getD 0 + p.2) (addKV a done) := by
        unfold addKV; rw [List.foldl_append]; rfl
      have hlt : (addKV a done).length < LINE := by
        have := addKV_len a done
        rw [hd] at hl
        simp at hl; omega
      refine ⟨[some (bagD a), some (bagD b), some (dctD (putKV p.1 ((getKV p.1 (addKV a done)).getD 0 + p.2) (addKV a done))), some (.int p.1), some (.int p.2)], .inl ?_, ⟨_, _, by rw [e2]⟩, rfl⟩
      simp [BG.b_add_0, asgT, asgTs, pairD, opd, callBM, putBack, set_dct _ _ _ hlt])
  obtain ⟨e', l1, x, y, rfl⟩ := loop
  have lp : evS G (evF G (n + 1)) BG.l_add_0 [some (bagD a), some (bagD b), some (dctD (mkKV a)), none, none] = .ok .nx [some (bagD a), some (bagD b), some (dctD (addKV a b)), x, y] := by
    unfold BG.l_add_0
    rw [ev_forS (d := bagD b) rfl rfl rfl, l1]
  have fc := ev_from_counts (n := n) h1 (kv := addKV a b) (by have := addKV_len a b; omega)
  simp [runF, BG.f_add, opd, retV, asgT, dict_bag, lp, callX, h1, callO, ownSlots, nodupN, fc, backTo, fins, addB]
theorem ev_subtract (h1 : G.fns.lookup (K1 "from_counts") = some BG.f_from_counts) (h : G.fns.lookup (K1 "subtract") = some BG.f_subtract) {a b : Bag} (hl : a.length + b.length < LINE) : evF G (n + 2) (K1 "subtract") [bagD a, bagD b] = .ret (optB (subB a b)) [none, none] := by
  rw [evF_succ h rfl]
  have loop := forL_map (inj := pairD) (l := b) (w := []) (turn := fun d => M.bind (asgT (.tup [.nm 3, .nm 4]) d) fun _ => evSs G (evF G (n + 1)) BG.b_subtract_0)
    (e := [some (bagD a), some (bagD b), some (dctD (mkKV a)), none, none])
    (fun done e => ∃ x y, e = [some (bagD a), some (bagD b), some (dctD (subKV a done)), x, y]) ⟨none, none, rfl⟩ (by
      rintro done p rest e hd ⟨x, y, rfl⟩
      have e2 : subKV a (done ++ [p]) = putKV p.1 ((getKV p.1 (subKV a done)).getD 0 - p.2) (subKV a done) := by
        unfold subKV; rw [List.foldl_append]; rfl
      have hlt : (subKV a done).length < LINE := by
        have := subKV_len a done
        rw [hd] at hl
        simp at hl; omega
      refine ⟨[some (bagD a), some (bagD b), some (dctD (putKV p.1 ((getKV p.1 (subKV a done)).getD 0 - p.2) (subKV a done))), some (.int p.1), some (.int p.2)], .inl ?_, ⟨_, _, by rw [e2]⟩, rfl⟩
      simp [BG.b_subtract_0, asgT, asgTs, pairD, opd, callBM, putBack, set_dct _ _ _ hlt])
  obtain ⟨e', l1, x, y, rfl⟩ := loop
  have lp : evS G (evF G (n + 1)) BG.l_subtract_0 [some (bagD a), some (bagD b), some (dctD (mkKV a)), none, none] = .ok .nx [some (bagD a), some (bagD b), some (dctD (subKV a b)), x, y] := by
    unfold BG.l_subtract_0
    rw [ev_forS (d := bagD b) rfl rfl rfl, l1]
  have hk : (subKV a b).length ≤ LINE := by have := subKV_len a b; omega
  have fc := ev_from_counts (n := n) h1 (kv := subKV a b) hk
  have cp : ∀ x y, evE G (evF G (n + 1)) (.compD true (.cmp .Lt (.var 4) (.lit (.int 0))) (.nm 4) [4] 2 []) [some (bagD a), some (bagD b), some (dctD (subKV a b)), x, y] = .ok (.lst true ((subKV a b).map fun p => .bl (decide (p.2 < 0)))) [some (bagD a), some (bagD b), some (dctD (subKV a b)), x, none] := fun x y => by
    rw [ev_compV (kv := subKV a b) rfl, compL_map (g := fun p => some (.bl (decide (p.2 < 0)))) (by
      intro p hp
      simp [turnC, asgT, asgTs, condsL, wipeSlots, test, opd]) rfl (by simpa using hk), fm_some]
    rfl
  have bs : ∀ l : Bag, bools (l.map fun p => D.bl (decide (p.2 < 0))) = some (l.map fun p => decide (p.2 < 0)) := by
    intro l
    induction l with
    | nil => rfl
    | cons p l ih => rw [List.map_cons, bools, ih]; rfl
  by_cases hn : (subKV a b).any (fun p => decide (p.2 < 0)) = true
  · have e1 : ((subKV a b).map fun p => decide (p.2 < 0)).any id = true := by rw [List.any_map]; exact hn
    simp [runF, BG.f_subtract, opd, retV, asgT, dict_bag, lp, cp, test, bltin, blt1, listOf, bs, e1, fins, subB, hn, optB]
  · have e1 : ((subKV a b).map fun p => decide (p.2 < 0)).any id = false := by rw [List.any_map]; simpa using hn
    simp [runF, BG.f_subtract, opd, retV, asgT, dict_bag, lp, cp, test, bltin, blt1, listOf, bs, e1, callX, h1, callO, ownSlots, nodupN, fc, backTo, fins, subB, hn, optB]
end PL

-- Q4
set_option linter.all false
set_option maxRecDepth 100000
set_option maxHeartbeats 1000000
namespace PL
open PySem (Str)
def scaleB (b : Bag) (c : Int) : Bag := if 0 < c then b.map (fun p => (p.1, p.2 * c)) else []
def minI2 (i j : Int) : Int := if j < i then j else i
def dstep (s : Int × Bag) (p : Int × Int) : Int × Bag := (s.1 - minI2 s.1 p.2, if minI2 s.1 p.2 < p.2 then s.2 ++ [(p.1, p.2 - minI2 s.1 p.2)] else s.2)
def dropB (b : Bag) (l : Int) : Bag := (b.foldl dstep (l, [])).2
def tstep (s : Int × Bag) (p : Int × Int) : Int × Bag := if 0 < s.1 then (s.1 - minI2 s.1 p.2, s.2 ++ [(p.1, minI2 s.1 p.2)]) else s
def takeB (b : Bag) (l : Int) : Bag := (b.foldl tstep (l, [])).2
theorem foldB_len (f : Int × Bag → Int × Int → Int × Bag) (hf : ∀ s p, (f s p).2.length ≤ s.2.length + 1) : ∀ (b : Bag) (s : Int × Bag), (b.foldl f s).2.length ≤ s.2.length + b.length := by
  intro b
  induction b with
  | nil => intro s; simp
  | cons p b ih =>
    intro s
    rw [List.foldl_cons]
    refine Nat.le_trans (ih _) ?_
    have := hf s p
    simp; omega
theorem dstep_len (s : Int × Bag) (p : Int × Int) : (dstep s p).2.length ≤ s.2.length + 1 := by
  unfold dstep
  dsimp only
  split <;> simp
theorem tstep_len (s : Int × Bag) (p : Int × Int) : (tstep s p).2.length ≤ s.2.length + 1 := by
  unfold tstep
  split <;> simp
/-- a list of pairs that is being made -/
def prsD (b : Bag) : D := .lst true (b.map pairD)
@[simp] theorem ow_prs (b : Bag) : (prsD b).own = true := rfl
@[simp] theorem bmok_prs (b : Bag) : bmOk "append" (prsD b) = true := by unfold prsD; simp [bmOk]
theorem app_prs (b : Bag) (x y : Int) (h : b.length < LINE) : bmeth (prsD b) "append" [.tup [.int x, .int y]] = some (prsD (b ++ [(x, y)]), .non) := by
  unfold prsD
  simp [bmeth, h, pairD]
@[simp] theorem tup_prs (b : Bag) : blt1 .tuple (prsD b) = some (bagD b) := rfl
theorem last_prs (b : Bag) (x y : Int) : subscr (prsD (b ++ [(x, y)])) (.int (-1)) = some (.tup [.int x, .int y]) := by
  have e : place (b.length + 1) (-1) = some b.length := by
    unfold place
    rw [if_neg (by decide), if_pos (by omega)]
    congr 1
    omega
  unfold prsD
  simp only [subscr, List.length_map, List.length_append, List.length_cons, List.length_nil, Nat.zero_add, e, Option.bind_some, List.map_append, List.map_cons, List.map_nil]
  rw [List.getElem?_append_right (by simp)]
  simp [pairD]
@[simp] theorem sub_t0 (a : D) (l : List D) : subscr (.tup (a :: l)) (.int 0) = some a := by
  have : place (l.length + 1) 0 = some 0 := by unfold place; rw [if_pos (by decide), if_pos (by omega)]; rfl
  simp [subscr, this]
@[simp] theorem sub_t1 (a b : D) (l : List D) : subscr (.tup (a :: b :: l)) (.int 1) = some b := by
  have : place (l.length + 1 + 1) 1 = some 1 := by unfold place; rw [if_pos (by decide), if_pos (by omega)]; rfl
  simp [subscr, this]
@[simp] theorem sub_t2 (a b c : D) (l : List D) : subscr (.tup (a :: b :: c :: l)) (.int 2) = some c := by
  have : place (l.length + 1 + 1 + 1) 2 = some 2 := by unfold place; rw [if_pos (by decide), if_pos (by omega)]; rfl
  simp [subscr, this]
@[simp] theorem sub_l0 (o : Bool) (a : D) (l : List D) : subscr (.lst o (a :: l)) (.int 0) = some a := by
  have : place (l.length + 1) 0 = some 0 := by unfold place; rw [if_pos (by decide), if_pos (by omega)]; rfl
  simp [subscr, this]
@[simp] theorem sub_l1 (o : Bool) (a b : D) (l : List D) : subscr (.lst o (a :: b :: l)) (.int 1) = some b := by
  have : place (l.length + 1 + 1) 1 = some 1 := by unfold place; rw [if_pos (by decide), if_pos (by omega)]; rfl
  simp [subscr, this]
@[simp] theorem min2 (i j : Int) : bltin .min [.int i, .int j] = some (.int (minI2 i j)) := by
  simp [bltin, minmax, minI2]
variable {G : Prog} {n : Nat}
theorem ev_scale (h : G.fns.lookup (K1 "scale") = some BG.f_scale) {b : Bag} {c : Int} (hm : ∀ p ∈ b, mulOk p.2 c = true) (hl : b.length ≤ LINE) : evF G (n + 1) (K1 "scale") [bagD b, .int c] = .ret (bagD (scaleB b c)) [none, none] := by
  rw [evF_succ h rfl]
  have cp : evE G (evF G n) (.comp (.tup [(.var 2), (.bin .Mult (.var 3) (.var 1))]) (.tup [(.nm 2), (.nm 3)]) [2, 3] .seq [(.var 0)] []) [some (bagD b), some (.int c), none, none] = .ok (prsD (b.map fun p => (p.1, p.2 * c))) [some (bagD b), some (.int c), none, none] := by
    simp [qe_comp, opd, items, watch, wipeSlots, still]
    rw [compL_map (g := fun p => some (pairD (p.1, p.2 * c))) (by
      intro p hp
      simp [turnC, pairD, asgT, asgTs, condsL, wipeSlots, opd, bin_mul (hm p hp), LINE]) rfl (by simpa using hl), fm_some]
    simp [prsD]
  by_cases hc : 0 < c
  · simp [runF, BG.f_scale, opd, retV, test, hc, cp, bltin, fins, scaleB]
  · simp [runF, BG.f_scale, opd, retV, test, hc, fins, scaleB, bagD, LINE]
theorem ev_drop (h : G.fns.lookup (K1 "drop") = some BG.f_drop) {b : Bag} {c : Int} (hl : b.length < LINE) : evF G (n + 1) (K1 "drop") [bagD b, .int c] = .ret (bagD (dropB b c)) [none, none] := by
  rw [evF_succ h rfl]
  have loop := forL_map (inj := pairD) (l := b) (w := []) (turn := fun d => M.bind (asgT (.tup [.nm 4, .nm 5]) d) fun _ => evSs G (evF G n) BG.b_drop_0)
    (e := [some (bagD b), some (.int c), some (.int c), some (.lst true []), none, none, none])
    (fun done e => ∃ x y z, e = [some (bagD b), some (.int c), some (.int (done.foldl dstep (c, [])).1), some (prsD (done.foldl dstep (c, [])).2), x, y, z]) ⟨none, none, none, rfl⟩ (by
      rintro done p rest e hd ⟨x, y, z, rfl⟩
      have hlt : (done.foldl dstep (c, [])).2.length < LINE := by
        have := foldB_len dstep dstep_len done (c, [])
        rw [hd] at hl
        simp at hl this; omega
      have e2 : (done ++ [p]).foldl dstep (c, []) = dstep (done.foldl dstep (c, [])) p := by rw [List.foldl_append]; rfl
      generalize hs : done.foldl dstep (c, []) = s at hlt e2
      refine ⟨[some (bagD b), some (.int c), some (.int (dstep s p).1), some (prsD (dstep s p).2), some (.int p.1), some (.int p.2), some (.int (minI2 s.1 p.2))], .inl ?_, ⟨_, _, _, by rw [e2]⟩, rfl⟩
      have ap := app_prs s.2 p.1 (p.2 - minI2 s.1 p.2) hlt
      by_cases q : minI2 s.1 p.2 < p.2
      · simp [BG.b_drop_0, asgT, asgTs, pairD, opd, test, callBM, putBack, q, ap, dstep, LINE]
      · simp [BG.b_drop_0, asgT, asgTs, pairD, opd, test, callBM, putBack, q, dstep])
  obtain ⟨e', l1, x, y, z, rfl⟩ := loop
  have lp : evS G (evF G n) BG.l_drop_0 [some (bagD b), some (.int c), some (.int c), some (.lst true []), none, none, none] = .ok .nx [some (bagD b), some (.int c), some (.int (b.foldl dstep (c, [])).1), some (prsD (b.foldl dstep (c, [])).2), x, y, z] := by
    unfold BG.l_drop_0
    rw [ev_forS (d := bagD b) rfl rfl rfl, l1]
  simp [runF, BG.f_drop, opd, retV, bindAll, LINE, lp, bltin, fins, dropB]
theorem ev_take (h : G.fns.lookup (K1 "take") = some BG.f_take) {b : Bag} {c : Int} (hl : b.length < LINE) : evF G (n + 1) (K1 "take") [bagD b, .int c] = .ret (bagD (takeB b c)) [none, none] := by
  rw [evF_succ h rfl]
  have loop := forL_map (inj := pairD) (l := b) (w := []) (turn := fun d => M.bind (asgT (.tup [.nm 4, .nm 5]) d) fun _ => evSs G (evF G n) BG.b_take_0)
    (e := [some (bagD b), some (.int c), some (.int c), some (.lst true []), none, none])
    (fun done e => ∃ x y, e = [some (bagD b), some (.int c), some (.int (done.foldl tstep (c, [])).1), some (prsD (done.foldl tstep (c, [])).2), x, y]) ⟨none, none, rfl⟩ (by
      rintro done p rest e hd ⟨x, y, rfl⟩
      have hlt : (done.foldl tstep (c, [])).2.length < LINE := by
        have := foldB_len tstep tstep_len done (c, [])
        rw [hd] at hl
        simp at hl this; omega
      have e2 : (done ++ [p]).foldl tstep (c, []) = tstep (done.foldl tstep (c, [])) p := by rw [List.foldl_append]; rfl
      generalize hs : done.foldl tstep (c, []) = s at hlt e2
      refine ⟨[some (bagD b), some (.int c), some (.int (tstep s p).1), some (prsD (tstep s p).2), some (.int p.1), some (.int p.2)], .inl ?_, ⟨_, _, by rw [e2]⟩, rfl⟩
      have ap := app_prs s.2 p.1 (minI2 s.1 p.2) hlt
      have ls := last_prs s.2 p.1 (minI2 s.1 p.2)
      by_cases q : 0 < s.1
      · simp [BG.b_take_0, asgT, asgTs, pairD, opd, test, callBM, putBack, q, ap, ls, tstep, LINE]
      · simp [BG.b_take_0, asgT, asgTs, pairD, opd, test, callBM, putBack, q, tstep])
  obtain ⟨e', l1, x, y, rfl⟩ := loop
  have lp : evS G (evF G n) BG.l_take_0 [some (bagD b), some (.int c), some (.int c), some (.lst true []), none, none] = .ok .nx [some (bagD b), some (.int c), some (.int (b.foldl tstep (c, [])).1), some (prsD (b.foldl tstep (c, [])).2), x, y] := by
    unfold BG.l_take_0
    rw [ev_forS (d := bagD b) rfl rfl rfl, l1]
  simp [runF, BG.f_take, opd, retV, bindAll, LINE, lp, bltin, fins, takeB]
end PL

-- M1
set_option linter.all false
set_option maxRecDepth 100000
set_option maxHeartbeats 1000000
namespace PL
/-! ### sums, levels -/
@[simp] theorem sumI_nil : sumI [] = 0 := rfl
@[simp] theorem sumI_cons (i : Int) (l : List Int) : sumI (i :: l) = i + sumI l := rfl
theorem sumI_append (a b : List Int) : sumI (a ++ b) = sumI a + sumI b := by
  induction a with
  | nil => simp
  | cons i a ih => rw [List.cons_append, sumI_cons, sumI_cons, ih]; omega
theorem sumI_perm {a b : List Int} (h : a.Perm b) : sumI a = sumI b := by
  induction h with
  | nil => rfl
  | cons x _ ih => rw [sumI_cons, sumI_cons, ih]
  | swap x y l => simp only [sumI_cons]; omega
  | trans _ _ h1 h2 => exact h1.trans h2
@[simp] theorem level_nil (x : Int) : levelB [] x = 0 := rfl
theorem level_cons (p : Int × Int) (b : Bag) (x : Int) : levelB (p :: b) x = (if p.1 ≤ x then p.2 else 0) + levelB b x := by
  unfold levelB
  rw [List.filter_cons]
  by_cases h : p.1 ≤ x <;> simp [h]
theorem level_append (a b : Bag) (x : Int) : levelB (a ++ b) x = levelB a x + levelB b x := by
  unfold levelB
  rw [List.filter_append, List.map_append, sumI_append]
theorem level_perm {a b : Bag} (h : a.Perm b) (x : Int) : levelB a x = levelB b x := sumI_perm ((h.filter _).map _)
@[simp] theorem total_nil : totalB [] = 0 := rfl
theorem total_cons (p : Int × Int) (b : Bag) : totalB (p :: b) = p.2 + totalB b := rfl
theorem total_append (a b : Bag) : totalB (a ++ b) = totalB a + totalB b := by
  unfold totalB
  rw [List.map_append, sumI_append]
theorem total_perm {a b : Bag} (h : a.Perm b) : totalB a = totalB b := sumI_perm (h.map _)
/-- all numbers of a bag are at most this -/
theorem level_total {b : Bag} {x : Int} (h : ∀ p ∈ b, p.1 ≤ x) : levelB b x = totalB b := by
  induction b with
  | nil => rfl
  | cons p b ih =>
    rw [level_cons, total_cons, ih fun q hq => h q (List.mem_cons_of_mem _ hq), if_pos (h p List.mem_cons_self)]
/-! ### insertion sort -/
theorem ins_permB {α : Type} (lt : α → α → Bool) (a : α) (l : List α) : (PL.insert lt a l).Perm (a :: l) := by
  induction l with
  | nil => exact List.Perm.refl _
  | cons b l ih =>
    unfold PL.insert
    split
    · exact (ih.cons b).trans (List.Perm.swap a b l)
    · exact List.Perm.refl _
theorem srt_permB {α : Type} (lt : α → α → Bool) (l : List α) : (isort lt l).Perm l := by
  induction l with
  | nil => exact List.Perm.refl _
  | cons a l ih => exact (ins_permB lt a _).trans (ih.cons a)
theorem insert_srt {p : Int × Int} {b : Bag} (hb : b.Pairwise fun p q => p.1 < q.1) (hp : ∀ q ∈ b, q.1 ≠ p.1) : (PL.insert ltP p b).Pairwise fun p q => p.1 < q.1 := by
  induction b with
  | nil => simp [PL.insert]
  | cons q b ih =>
    have h1 := List.pairwise_cons.mp hb
    have hq := hp q List.mem_cons_self
    unfold PL.insert
    by_cases h : ltP q p = true
    · rw [if_pos h]
      have lt : q.1 < p.1 := by
        unfold ltP at h
        simp at h
        rcases h with h | ⟨h, _⟩
        · exact h
        · exact absurd h hq
      refine List.pairwise_cons.mpr ⟨fun r hr => ?_, ih h1.2 fun r hr => hp r (List.mem_cons_of_mem _ hr)⟩
      have := (ins_permB ltP p b).mem_iff.mp hr
      rcases List.mem_cons.mp this with rfl | hr
      · exact lt
      · exact h1.1 r hr
    · rw [if_neg h]
      have lt : p.1 < q.1 := by
        unfold ltP at h
        simp at h
        have := h.1
        omega
      refine List.pairwise_cons.mpr ⟨fun r hr => ?_, hb⟩
      rcases List.mem_cons.mp hr with rfl | hr
      · exact lt
      · have := h1.1 r hr; omega
/-- different keys -/
abbrev NdK (kv : Bag) : Prop := (kv.map (·.1)).Nodup
theorem isort_srt {b : Bag} (hb : NdK b) : (isort ltP b).Pairwise fun p q => p.1 < q.1 := by
  induction b with
  | nil => exact List.Pairwise.nil
  | cons p b ih =>
    have h := List.nodup_cons.mp (show ((p :: b).map (·.1)).Nodup from hb)
    refine insert_srt (ih h.2) fun q hq e => ?_
    have := (srt_permB ltP b).mem_iff.mp hq
    exact h.1 (List.mem_map.mpr ⟨q, this, e⟩)
theorem fromKV_canon {kv : Bag} (h : NdK kv) : Canon (fromKV kv) := by
  refine ⟨isort_srt (h.sublist (List.filter_sublist.map _)), fun p hp => ?_⟩
  have := (srt_permB ltP _).mem_iff.mp hp
  simpa using (List.mem_filter.mp this).2
theorem level_filter_pos {kv : Bag} (h : ∀ p ∈ kv, 0 ≤ p.2) (x : Int) : levelB (kv.filter fun p => decide (0 < p.2)) x = levelB kv x := by
  induction kv with
  | nil => rfl
  | cons p kv ih =>
    have hp := h p List.mem_cons_self
    have ih := ih fun q hq => h q (List.mem_cons_of_mem _ hq)
    rw [List.filter_cons]
    by_cases q : 0 < p.2
    · simp only [q, decide_true, if_true]
      rw [level_cons, level_cons, ih]
    · have e : p.2 = 0 := by omega
      simp only [q, decide_false, Bool.false_eq_true, if_false]
      rw [level_cons, ih, e]
      simp
theorem fromKV_level {kv : Bag} (h : ∀ p ∈ kv, 0 ≤ p.2) (x : Int) : levelB (fromKV kv) x = levelB kv x := by
  unfold fromKV
  rw [level_perm (srt_permB ltP _), level_filter_pos h]
/-! ### dicts -/
theorem put_keys (k v : Int) (kv : Bag) : (putKV k v kv).map (·.1) = if kv.any (fun p => decide (p.1 = k)) then kv.map (·.1) else kv.map (·.1) ++ [k] := by
  unfold putKV
  split
  · rw [List.map_map]
    apply List.map_congr_left
    intro p _
    show (if p.1 = k then (p.1, v) else p).1 = p.1
    split <;> rfl
  · simp
theorem put_nd {k v : Int} {kv : Bag} (h : NdK kv) : NdK (putKV k v kv) := by
  unfold NdK
  rw [put_keys]
  split
  · exact h
  · rename_i q
    refine List.nodup_append.mpr ⟨h, by simp, fun a ha b hb e => ?_⟩
    simp at hb
    subst hb
    subst e
    obtain ⟨p, hp, e⟩ := List.mem_map.mp ha
    exact q (List.any_eq_true.mpr ⟨p, hp, by simpa using e⟩)
theorem get_none {k : Int} {kv : Bag} (h : ¬ kv.any (fun p => decide (p.1 = k)) = true) : getKV k kv = none := by
  unfold getKV
  rw [Option.map_eq_none_iff, List.find?_eq_none]
  intro p hp e
  exact h (List.any_eq_true.mpr ⟨p, hp, e⟩)
theorem put_level {k v : Int} {kv : Bag} (h : NdK kv) (x : Int) : levelB (putKV k v kv) x = levelB kv x + (if k ≤ x then v - (getKV k kv).getD 0 else 0) := by
  unfold putKV
  by_cases q : kv.any (fun p => decide (p.1 = k)) = true
  · rw [if_pos q]
    induction kv with
    | nil => simp at q
    | cons p kv ih =>
      have hn := List.nodup_cons.mp (show ((p :: kv).map (·.1)).Nodup from h)
      rw [List.map_cons, level_cons, level_cons]
      by_cases e : p.1 = k
      · have same : kv.map (fun p => if p.1 = k then (p.1, v) else p) = kv := by
          conv => rhs; rw [← List.map_id kv]
          apply List.map_congr_left
          intro r hr
          have : r.1 ≠ k := fun z => hn.1 (List.mem_map.mpr ⟨r, hr, by rw [z]; exact e.symm⟩)
          simp [this]
        have g : getKV k (p :: kv) = some p.2 := by unfold getKV; rw [List.find?_cons]; simp [e]
        rw [same, g, if_pos e]
        by_cases kx : k ≤ x
        · rw [if_pos (by simpa [e] using kx), if_pos (by rw [e]; exact kx), if_pos kx]
          simp; omega
        · rw [if_neg (by simpa [e] using kx), if_neg (by rw [e]; exact kx), if_neg kx]
          simp
      · have g : getKV k (p :: kv) = getKV k kv := by unfold getKV; rw [List.find?_cons]; simp [e]
        have q' : kv.any (fun p => decide (p.1 = k)) = true := by
          rw [List.any_cons] at q
          simpa [e] using q
        rw [ih hn.2 q', g, if_neg e]
        omega
  · rw [if_neg q, get_none q, level_append, level_cons]
    simp
theorem get_mem {k c : Int} {kv : Bag} (h : getKV k kv = some c) : (k, c) ∈ kv := by
  unfold getKV at h
  obtain ⟨p, hp, e⟩ := Option.map_eq_some_iff.mp h
  have h1 := List.find?_some hp
  have h2 := List.mem_of_find?_eq_some hp
  simp at h1
  rw [← h1, ← e]
  exact h2
theorem put_all {k v : Int} {kv : Bag} {P : Int × Int → Prop} (h : ∀ p ∈ kv, P p) (hv : P (k, v)) : ∀ p ∈ putKV k v kv, P p := by
  unfold putKV
  split
  · intro p hp
    obtain ⟨q, hq, rfl⟩ := List.mem_map.mp hp
    by_cases e : q.1 = k
    · simp only [e, if_true]; exact hv
    · simp only [e, if_false]; exact h q hq
  · intro p hp
    rcases List.mem_append.mp hp with hp | hp
    · exact h p hp
    · simp at hp; subst hp; exact hv
/-- a canonical bag is its own dict -/
theorem mkKV_canon {b : Bag} (h : NdK b) : mkKV b = b := by
  have gen : ∀ (r acc : Bag), NdK (acc ++ r) → r.foldl (fun kv p => putKV p.1 p.2 kv) acc = acc ++ r := by
    intro r
    induction r with
    | nil => intro acc _; simp
    | cons p r ih =>
      intro acc hn
      have np : ¬ acc.any (fun q => decide (q.1 = p.1)) = true := by
        intro z
        obtain ⟨q, hq, e⟩ := List.any_eq_true.mp z
        simp at e
        unfold NdK at hn
        rw [List.map_append] at hn
        exact (List.nodup_append.mp hn).2.2 q.1 (List.mem_map.mpr ⟨q, hq, rfl⟩) p.1 (by simp) e
      rw [List.foldl_cons]
      have e1 : putKV p.1 p.2 acc = acc ++ [p] := by unfold putKV; rw [if_neg np]
      rw [e1, ih _ (by rw [List.append_assoc]; exact hn), List.append_assoc]
      rfl
  exact gen b [] h
theorem Canon.nd {b : Bag} (h : Canon b) : NdK b := by
  unfold NdK
  refine List.Pairwise.map _ (fun p q (e : p.1 < q.1) => ?_) h.srt
  omega
/-! ### add -/
theorem addKV_nd {a : Bag} (ha : NdK a) (b : Bag) : NdK (addKV a b) := by
  unfold addKV
  rw [mkKV_canon ha]
  induction b generalizing a with
  | nil => exact ha
  | cons p b ih => rw [List.foldl_cons]; exact ih (put_nd ha)
theorem addKV_level {a : Bag} (ha : NdK a) (b : Bag) (x : Int) : levelB (addKV a b) x = levelB a x + levelB b x := by
  unfold addKV
  rw [mkKV_canon ha]
  induction b generalizing a with
  | nil => simp
  | cons p b ih =>
    rw [List.foldl_cons, ih (put_nd ha), put_level ha, level_cons]
    by_cases h : p.1 ≤ x
    · simp only [h, if_true]; omega
    · simp only [h, if_false]; omega
theorem addKV_pos {a b : Bag} (ha : NdK a) (pa : ∀ p ∈ a, 0 ≤ p.2) (pb : ∀ p ∈ b, 0 ≤ p.2) : ∀ p ∈ addKV a b, 0 ≤ p.2 := by
  unfold addKV
  rw [mkKV_canon ha]
  induction b generalizing a with
  | nil => exact pa
  | cons p b ih =>
    rw [List.foldl_cons]
    refine ih (put_nd ha) (put_all pa ?_) fun q hq => pb q (List.mem_cons_of_mem _ hq)
    have h1 := pb p List.mem_cons_self
    cases e : getKV p.1 a with
    | none => simpa using h1
    | some c =>
      have h2 := pa _ (get_mem e)
      simp at h2 ⊢
      omega
theorem Canon.nn {b : Bag} (h : Canon b) : ∀ p ∈ b, 0 ≤ p.2 := fun p hp => by have := h.pos p hp; omega
theorem addB_canon {a b : Bag} (ha : Canon a) : Canon (addB a b) := fromKV_canon (addKV_nd ha.nd b)
theorem addB_level {a b : Bag} (ha : Canon a) (hb : ∀ p ∈ b, 0 ≤ p.2) (x : Int) : levelB (addB a b) x = levelB a x + levelB b x := by
  unfold addB
  rw [fromKV_level (addKV_pos ha.nd ha.nn hb), addKV_level ha.nd]
/-! ### a canonical bag is known by its levels -/
theorem level_nonneg {b : Bag} (h : ∀ p ∈ b, 0 ≤ p.2) (x : Int) : 0 ≤ levelB b x := by
  induction b with
  | nil => simp
  | cons p b ih =>
    rw [level_cons]
    have h1 := h p List.mem_cons_self
    have := ih fun q hq => h q (List.mem_cons_of_mem _ hq)
    split <;> omega
theorem level_below {b : Bag} {x : Int} (h : ∀ p ∈ b, x < p.1) : levelB b x = 0 := by
  induction b with
  | nil => rfl
  | cons p b ih =>
    have h1 := h p List.mem_cons_self
    rw [level_cons, ih fun q hq => h q (List.mem_cons_of_mem _ hq), if_neg (by omega)]
    rfl
theorem canon_ext : ∀ {a b : Bag}, Canon a → Canon b → (∀ x, levelB a x = levelB b x) → a = b
  | [], [], _, _, _ => rfl
  | [], q :: b, _, hb, h => by
    have := h q.1
    rw [level_nil, level_cons, if_pos (Int.le_refl _)] at this
    have h1 := hb.pos q List.mem_cons_self
    have h2 := level_nonneg (fun p hp => hb.nn p (List.mem_cons_of_mem _ hp)) (b := b) q.1
    omega
  | p :: a, [], ha, _, h => by
    have := h p.1
    rw [level_nil, level_cons, if_pos (Int.le_refl _)] at this
    have h1 := ha.pos p List.mem_cons_self
    have h2 := level_nonneg (fun q hq => ha.nn q (List.mem_cons_of_mem _ hq)) (b := a) p.1
    omega
  | p :: a, q :: b, ha, hb, h => by
    have sa := List.pairwise_cons.mp ha.srt
    have sb := List.pairwise_cons.mp hb.srt
    have la : ∀ x, x < p.1 → levelB (p :: a) x = 0 := fun x hx => level_below fun r hr => by
      rcases List.mem_cons.mp hr with rfl | hr
      · exact hx
      · have := sa.1 r hr; omega
    have lb : ∀ x, x < q.1 → levelB (q :: b) x = 0 := fun x hx => level_below fun r hr => by
      rcases List.mem_cons.mp hr with rfl | hr
      · exact hx
      · have := sb.1 r hr; omega
    have la0 : levelB a p.1 = 0 := level_below fun r hr => sa.1 r hr
    have lb0 : levelB b q.1 = 0 := level_below fun r hr => sb.1 r hr
    have pa : levelB (p :: a) p.1 = p.2 := by rw [level_cons, if_pos (Int.le_refl _), la0]; omega
    have pb : levelB (q :: b) q.1 = q.2 := by rw [level_cons, if_pos (Int.le_refl _), lb0]; omega
    have hp := ha.pos p List.mem_cons_self
    have hq := hb.pos q List.mem_cons_self
    have e1 : p.1 = q.1 := by
      rcases Int.lt_trichotomy p.1 q.1 with z | z | z
      · have := h p.1
        rw [pa, lb _ z] at this
        omega
      · exact z
      · have := h q.1
        rw [pb, la _ z] at this
        omega
    have e2 : p.2 = q.2 := by
      have := h p.1
      rw [pa, e1, pb] at this
      exact this
    have e : p = q := Prod.ext e1 e2
    subst e
    have ca : Canon a := ⟨sa.2, fun r hr => ha.pos r (List.mem_cons_of_mem _ hr)⟩
    have cb : Canon b := ⟨sb.2, fun r hr => hb.pos r (List.mem_cons_of_mem _ hr)⟩
    rw [canon_ext ca cb fun x => by have := h x; rw [level_cons, level_cons] at this; omega]
end PL

-- M2
set_option linter.all false
set_option maxRecDepth 100000
set_option maxHeartbeats 1000000
namespace PL
/-! ### drop, take -/
def dropR : Bag → Int → Bag
  | [], _ => []
  | p :: b, l => if minI2 l p.2 < p.2 then (p.1, p.2 - minI2 l p.2) :: dropR b (l - minI2 l p.2) else dropR b (l - minI2 l p.2)
theorem drop_fold (b : Bag) : ∀ (l : Int) (k : Bag), (b.foldl dstep (l, k)).2 = k ++ dropR b l := by
  induction b with
  | nil => intro l k; simp [dropR]
  | cons p b ih =>
    intro l k
    rw [List.foldl_cons]
    show (b.foldl dstep (l - minI2 l p.2, if minI2 l p.2 < p.2 then k ++ [(p.1, p.2 - minI2 l p.2)] else k)).2 = _
    rw [ih, dropR]
    split
    · rw [List.append_assoc]; rfl
    · rfl
theorem dropB_eq (b : Bag) (l : Int) : dropB b l = dropR b l := by
  unfold dropB
  rw [drop_fold]; rfl
def takeR : Bag → Int → Bag
  | [], _ => []
  | p :: b, l => if 0 < l then (p.1, minI2 l p.2) :: takeR b (l - minI2 l p.2) else takeR b l
theorem take_fold (b : Bag) : ∀ (l : Int) (k : Bag), (b.foldl tstep (l, k)).2 = k ++ takeR b l := by
  induction b with
  | nil => intro l k; simp [takeR]
  | cons p b ih =>
    intro l k
    rw [List.foldl_cons, takeR]
    by_cases h : 0 < l
    · have e : tstep (l, k) p = (l - minI2 l p.2, k ++ [(p.1, minI2 l p.2)]) := by unfold tstep; rw [if_pos h]
      rw [e, ih, if_pos h, List.append_assoc]; rfl
    · have e : tstep (l, k) p = (l, k) := by unfold tstep; rw [if_neg h]
      rw [e, ih, if_neg h]
theorem takeB_eq (b : Bag) (l : Int) : takeB b l = takeR b l := by
  unfold takeB
  rw [take_fold]; rfl
theorem min_le {i j : Int} : minI2 i j ≤ i ∧ minI2 i j ≤ j ∧ (minI2 i j = i ∨ minI2 i j = j) := by
  unfold minI2
  split <;> refine ⟨by omega, by omega, by omega⟩
theorem dropR_keys (b : Bag) : ∀ l, ((dropR b l).map (·.1)).Sublist (b.map (·.1)) := by
  induction b with
  | nil => intro l; exact List.Sublist.refl _
  | cons p b ih =>
    intro l
    rw [dropR]
    split
    · exact (ih _).cons_cons _
    · exact (ih _).cons _
theorem takeR_keys (b : Bag) : ∀ l, ((takeR b l).map (·.1)).Sublist (b.map (·.1)) := by
  induction b with
  | nil => intro l; exact List.Sublist.refl _
  | cons p b ih =>
    intro l
    rw [takeR]
    split
    · exact (ih _).cons_cons _
    · exact (ih _).cons _
theorem srt_iff {b : Bag} : (b.Pairwise fun p q => p.1 < q.1) ↔ (b.map (·.1)).Pairwise (· < ·) := by
  rw [List.pairwise_map]
theorem dropR_canon {b : Bag} (hb : Canon b) (l : Int) : Canon (dropR b l) := by
  refine ⟨srt_iff.mpr ((srt_iff.mp hb.srt).sublist (dropR_keys b l)), ?_⟩
  have : ∀ (b : Bag) (l : Int), ∀ p ∈ dropR b l, 0 < p.2 := by
    intro b
    induction b with
    | nil => intro l p hp; cases hp
    | cons q b ih =>
      intro l p hp
      rw [dropR] at hp
      split at hp
      · rcases List.mem_cons.mp hp with rfl | hp
        · simp; omega
        · exact ih _ p hp
      · exact ih _ p hp
  exact this b l
theorem takeR_canon {b : Bag} (hb : Canon b) (l : Int) : Canon (takeR b l) := by
  refine ⟨srt_iff.mpr ((srt_iff.mp hb.srt).sublist (takeR_keys b l)), ?_⟩
  have : ∀ (b : Bag), (∀ p ∈ b, 0 < p.2) → ∀ (l : Int), ∀ p ∈ takeR b l, 0 < p.2 := by
    intro b
    induction b with
    | nil => intro _ l p hp; cases hp
    | cons q b ih =>
      intro hb l p hp
      have hq := hb q List.mem_cons_self
      rw [takeR] at hp
      split at hp
      · rcases List.mem_cons.mp hp with rfl | hp
        · have := (min_le (i := l) (j := q.2)).2.2
          simp; omega
        · exact ih (fun r hr => hb r (List.mem_cons_of_mem _ hr)) _ p hp
      · exact ih (fun r hr => hb r (List.mem_cons_of_mem _ hr)) _ p hp
  exact this b hb.pos l
theorem Canon.tail {p : Int × Int} {b : Bag} (h : Canon (p :: b)) : Canon b := ⟨(List.pairwise_cons.mp h.srt).2, fun q hq => h.pos q (List.mem_cons_of_mem _ hq)⟩
theorem Canon.above {p : Int × Int} {b : Bag} (h : Canon (p :: b)) {x : Int} (hx : x < p.1) : levelB b x = 0 := level_below fun r hr => by have := (List.pairwise_cons.mp h.srt).1 r hr; omega
theorem dropR_level {b : Bag} (hb : Canon b) : ∀ {l : Int}, 0 ≤ l → ∀ x, levelB (dropR b l) x = max 0 (levelB b x - l) := by
  induction b with
  | nil => intro l hl x; simp [dropR]; omega
  | cons p b ih =>
    intro l hl x
    have hp := hb.pos p List.mem_cons_self
    have m := min_le (i := l) (j := p.2)
    have nn := level_nonneg (fun q hq => hb.nn q (List.mem_cons_of_mem _ hq)) (b := b) x
    have ih := ih hb.tail (l := l - minI2 l p.2) (by omega) x
    rw [dropR, level_cons]
    by_cases h : minI2 l p.2 < p.2
    · rw [if_pos h, level_cons, ih]
      dsimp only
      by_cases hx : p.1 ≤ x
      · simp only [hx, if_true]; omega
      · have := hb.above (x := x) (by omega)
        simp only [hx, if_false]; omega
    · rw [if_neg h, ih]
      by_cases hx : p.1 ≤ x
      · simp only [hx, if_true]; omega
      · have := hb.above (x := x) (by omega)
        simp only [hx, if_false]; omega
theorem takeR_zero (b : Bag) : takeR b 0 = [] := by
  induction b with
  | nil => rfl
  | cons p b ih => rw [takeR, if_neg (by decide), ih]
theorem takeR_level {b : Bag} (hb : Canon b) : ∀ {l : Int}, 0 ≤ l → ∀ x, levelB (takeR b l) x = min (levelB b x) l := by
  induction b with
  | nil => intro l hl x; simp [takeR]; omega
  | cons p b ih =>
    intro l hl x
    have hp := hb.pos p List.mem_cons_self
    have m := min_le (i := l) (j := p.2)
    have nn := level_nonneg (fun q hq => hb.nn q (List.mem_cons_of_mem _ hq)) (b := b) x
    rw [takeR]
    by_cases h : 0 < l
    · have ih := ih hb.tail (l := l - minI2 l p.2) (by omega) x
      rw [if_pos h, level_cons, level_cons, ih]
      dsimp only
      by_cases hx : p.1 ≤ x
      · simp only [hx, if_true]; omega
      · have := hb.above (x := x) (by omega)
        simp only [hx, if_false]; omega
    · have e : l = 0 := by omega
      subst e
      rw [if_neg h, takeR_zero, level_nil, level_cons]
      split <;> omega
theorem dropB_canon {b : Bag} (hb : Canon b) (l : Int) : Canon (dropB b l) := by rw [dropB_eq]; exact dropR_canon hb l
theorem takeB_canon {b : Bag} (hb : Canon b) (l : Int) : Canon (takeB b l) := by rw [takeB_eq]; exact takeR_canon hb l
theorem dropB_level {b : Bag} (hb : Canon b) {l : Int} (hl : 0 ≤ l) (x : Int) : levelB (dropB b l) x = max 0 (levelB b x - l) := by rw [dropB_eq]; exact dropR_level hb hl x
theorem takeB_level {b : Bag} (hb : Canon b) {l : Int} (hl : 0 ≤ l) (x : Int) : levelB (takeB b l) x = min (levelB b x) l := by rw [takeB_eq]; exact takeR_level hb hl x
/-! ### scale -/
theorem level_map_mul (b : Bag) (c x : Int) : levelB (b.map fun p => (p.1, p.2 * c)) x = levelB b x * c := by
  induction b with
  | nil => simp
  | cons p b ih =>
    rw [List.map_cons, level_cons, level_cons, ih]
    by_cases h : p.1 ≤ x
    · simp only [h, if_true]; rw [Int.add_mul]
    · simp only [h, if_false]; rw [Int.zero_add, Int.zero_add]
theorem scaleB_level (b : Bag) {c : Int} (hc : 0 ≤ c) (x : Int) : levelB (scaleB b c) x = levelB b x * c := by
  unfold scaleB
  by_cases h : 0 < c
  · rw [if_pos h, level_map_mul]
  · have : c = 0 := by omega
    subst this
    simp
theorem scaleB_canon {b : Bag} (hb : Canon b) (c : Int) : Canon (scaleB b c) := by
  unfold scaleB
  split
  · rename_i h
    refine ⟨List.Pairwise.map _ (fun p q e => e) hb.srt, fun p hp => ?_⟩
    obtain ⟨q, hq, rfl⟩ := List.mem_map.mp hp
    exact Int.mul_pos (hb.pos q hq) h
  · exact ⟨List.Pairwise.nil, fun p hp => nomatch hp⟩
theorem canon_nil : Canon [] := ⟨List.Pairwise.nil, fun p hp => nomatch hp⟩
/-! ### subtract -/
theorem subKV_nd {a : Bag} (ha : NdK a) (b : Bag) : NdK (subKV a b) := by
  unfold subKV
  rw [mkKV_canon ha]
  induction b generalizing a with
  | nil => exact ha
  | cons p b ih => rw [List.foldl_cons]; exact ih (put_nd ha)
theorem subKV_level {a : Bag} (ha : NdK a) (b : Bag) (x : Int) : levelB (subKV a b) x = levelB a x - levelB b x := by
  unfold subKV
  rw [mkKV_canon ha]
  induction b generalizing a with
  | nil => simp
  | cons p b ih =>
    rw [List.foldl_cons, ih (put_nd ha), put_level ha, level_cons]
    by_cases h : p.1 ≤ x
    · simp only [h, if_true]; omega
    · simp only [h, if_false]; omega
theorem subB_some {a b c : Bag} (ha : Canon a) (h : subB a b = some c) : Canon c ∧ ∀ x, levelB c x = levelB a x - levelB b x := by
  unfold subB at h
  split at h
  · cases h
  · rename_i hn
    cases h
    refine ⟨fromKV_canon (subKV_nd ha.nd b), fun x => ?_⟩
    rw [fromKV_level (fun p hp => ?_), subKV_level ha.nd]
    by_cases z : p.2 < 0
    · exact absurd (List.any_eq_true.mpr ⟨p, hp, by simpa using z⟩) hn
    · omega
theorem nd_entry {kv : Bag} (h : NdK kv) {p : Int × Int} (hp : p ∈ kv) : p.2 = levelB kv p.1 - levelB kv (p.1 - 1) := by
  induction kv with
  | nil => cases hp
  | cons q kv ih =>
    have hn := List.nodup_cons.mp (show ((q :: kv).map (·.1)).Nodup from h)
    rw [level_cons, level_cons]
    rcases List.mem_cons.mp hp with rfl | hp'
    · have same : ∀ (l : Bag), (∀ r ∈ l, r.1 ≠ p.1) → levelB l p.1 = levelB l (p.1 - 1) := by
        intro l
        induction l with
        | nil => intro _; rfl
        | cons r l ih2 =>
          intro hr
          have h1 := hr r List.mem_cons_self
          rw [level_cons, level_cons, ih2 fun s hs => hr s (List.mem_cons_of_mem _ hs)]
          by_cases e : r.1 ≤ p.1
          · rw [if_pos e, if_pos (by omega)]
          · rw [if_neg e, if_neg (by omega)]
      rw [same kv fun r hr e => hn.1 (List.mem_map.mpr ⟨r, hr, e⟩), if_pos (Int.le_refl _), if_neg (by omega)]
      omega
    · have e := ih hn.2 hp'
      have ne : q.1 ≠ p.1 := fun z => hn.1 (List.mem_map.mpr ⟨p, hp', z.symm⟩)
      by_cases h1 : q.1 ≤ p.1
      · rw [if_pos h1, if_pos (by omega)]; omega
      · rw [if_neg h1, if_neg (by omega)]; omega
theorem level_mono {b : Bag} (h : ∀ p ∈ b, 0 ≤ p.2) {x y : Int} (hxy : x ≤ y) : levelB b x ≤ levelB b y := by
  induction b with
  | nil => simp
  | cons p b ih =>
    have h1 := h p List.mem_cons_self
    have := ih fun q hq => h q (List.mem_cons_of_mem _ hq)
    rw [level_cons, level_cons]
    by_cases a : p.1 ≤ x
    · rw [if_pos a, if_pos (by omega)]; omega
    · rw [if_neg a]; split <;> omega
theorem subB_eq {a b c : Bag} (ha : Canon a) (hc : Canon c) (h : ∀ x, levelB c x = levelB a x - levelB b x) : subB a b = some c := by
  have lk : ∀ x, levelB (subKV a b) x = levelB c x := fun x => by rw [subKV_level ha.nd, h]
  have nn : ∀ p ∈ subKV a b, 0 ≤ p.2 := fun p hp => by
    rw [nd_entry (subKV_nd ha.nd b) hp, lk, lk]
    have := level_mono hc.nn (show p.1 - 1 ≤ p.1 by omega)
    omega
  have hn : ¬ (subKV a b).any (fun p => decide (p.2 < 0)) = true := fun z => by
    obtain ⟨p, hp, e⟩ := List.any_eq_true.mp z
    have := nn p hp
    simp at e; omega
  unfold subB
  rw [if_neg hn]
  congr 1
  exact canon_ext (fromKV_canon (subKV_nd ha.nd b)) hc fun x => by rw [fromKV_level nn, lk]
/-! ### totals -/
theorem total_level {b : Bag} : ∃ x, ∀ y, x ≤ y → levelB b y = totalB b := by
  induction b with
  | nil => exact ⟨0, fun _ _ => rfl⟩
  | cons p b ih =>
    obtain ⟨x, hx⟩ := ih
    refine ⟨max x p.1, fun y hy => ?_⟩
    rw [level_cons, total_cons, hx y (by omega), if_pos (by omega)]
/-- totals go as the levels do -/
theorem total_of2 {a b : Bag} (h : ∀ x, levelB a x = levelB b x) : totalB a = totalB b := by
  obtain ⟨x, hx⟩ := total_level (b := a)
  obtain ⟨y, hy⟩ := total_level (b := b)
  rw [← hx (max x y) (by omega), ← hy (max x y) (by omega), h]
theorem total_add {a b c : Bag} (h : ∀ x, levelB c x = levelB a x + levelB b x) : totalB c = totalB a + totalB b := by
  rw [← total_append]
  exact total_of2 fun x => by rw [level_append, h]
theorem total_nonneg {b : Bag} (h : ∀ p ∈ b, 0 ≤ p.2) : 0 ≤ totalB b := by
  obtain ⟨x, hx⟩ := total_level (b := b)
  rw [← hx x (Int.le_refl _)]
  exact level_nonneg h x
theorem takeB_total {b : Bag} (hb : Canon b) {l : Int} (hl : 0 ≤ l) : totalB (takeB b l) ≤ l := by
  obtain ⟨x, hx⟩ := total_level (b := takeB b l)
  rw [← hx x (Int.le_refl _), takeB_level hb hl]
  omega
end PL

-- M3
set_option linter.all false
set_option maxRecDepth 100000
set_option maxHeartbeats 1000000
namespace PL
/-! ### parts of effects -/
abbrev Parts := Bag × Int × Bag
@[irreducible] def joinP (f s : Parts) : Parts := (addB f.1 s.1, f.2.1 + s.2.1, addB s.2.2 (dropB (addB f.2.2 ((subB s.1 s.2.2).getD [])) s.2.1))
@[irreducible] def repP (p : Parts) (c : Int) : Parts := if c = 0 then ([], 0, []) else (scaleB p.1 c, p.2.1 * c, addB p.2.2 (scaleB (dropB p.1 p.2.1) (c - 1)))
def idP : Parts := ([], 0, [])
/-- parts that make an effect, c consumed -/
structure POk (p : Parts) (c : Bag) : Prop where
  i : Canon p.1
  s : Canon p.2.2
  cc : Canon c
  lev : ∀ x, levelB c x = levelB p.1 x - levelB p.2.2 x
  rem : totalB c ≤ p.2.1
theorem POk.nn {p : Parts} {c : Bag} (h : POk p c) : 0 ≤ p.2.1 := Int.le_trans (total_nonneg h.cc.nn) h.rem
theorem POk.sub {p : Parts} {c : Bag} (h : POk p c) : subB p.1 p.2.2 = some c := subB_eq h.i h.cc h.lev
theorem id_ok : POk idP [] := ⟨canon_nil, canon_nil, canon_nil, fun _ => rfl, Int.le_refl _⟩
theorem ins_ok {x c : Int} : POk (scaleB [(x, 1)] c, 0, scaleB [(x, 1)] c) [] := by
  have h : Canon [(x, (1 : Int))] := ⟨List.pairwise_singleton _ _, fun p hp => by simp at hp; subst hp; show (0 : Int) < 1; decide⟩
  exact ⟨scaleB_canon h c, scaleB_canon h c, canon_nil, fun x => by simp, Int.le_refl _⟩
theorem rem_ok {c : Int} (h : 0 ≤ c) : POk ([], c, []) [] := ⟨canon_nil, canon_nil, canon_nil, fun _ => rfl, h⟩
theorem join_sub {f s : Parts} {c2 : Bag} (h2 : POk s c2) : joinP f s = (addB f.1 s.1, f.2.1 + s.2.1, addB s.2.2 (dropB (addB f.2.2 c2) s.2.1)) := by
  unfold joinP
  rw [h2.sub]; rfl
theorem join_i {f s : Parts} {c1 c2 : Bag} (h1 : POk f c1) (h2 : POk s c2) (x : Int) : levelB (joinP f s).1 x = levelB f.1 x + levelB s.1 x := by unfold joinP; exact addB_level h1.i h2.i.nn x
theorem join_s {f s : Parts} {c1 c2 : Bag} (h1 : POk f c1) (h2 : POk s c2) (x : Int) : levelB (joinP f s).2.2 x = levelB s.2.2 x + max 0 (levelB f.2.2 x + levelB c2 x - s.2.1) := by
  rw [join_sub h2]
  show levelB (addB s.2.2 (dropB (addB f.2.2 c2) s.2.1)) x = _
  have ca := addB_canon (b := c2) h1.s
  rw [addB_level h2.s (dropB_canon ca _).nn, dropB_level ca h2.nn, addB_level h1.s h2.cc.nn]
theorem join_ok {f s : Parts} {c1 c2 : Bag} (h1 : POk f c1) (h2 : POk s c2) : POk (joinP f s) (addB c1 (takeB (addB f.2.2 c2) s.2.1)) := by
  have ca := addB_canon (b := c2) h1.s
  have ct := takeB_canon ca s.2.1
  have lt : ∀ x, levelB (takeB (addB f.2.2 c2) s.2.1) x = min (levelB f.2.2 x + levelB c2 x) s.2.1 := fun x => by rw [takeB_level ca h2.nn, addB_level h1.s h2.cc.nn]
  refine ⟨by unfold joinP; exact addB_canon h1.i, by unfold joinP; exact addB_canon h2.s, addB_canon h1.cc, fun x => ?_, ?_⟩
  · rw [join_s h1 h2, join_i h1 h2, addB_level h1.cc ct.nn, lt, h1.lev, h2.lev]
    omega
  · have e := total_add (a := c1) (b := takeB (addB f.2.2 c2) s.2.1) fun x => addB_level h1.cc ct.nn x
    rw [e]
    have := takeB_total ca h2.nn
    have := h1.rem
    have er : (joinP f s).2.1 = f.2.1 + s.2.1 := by unfold joinP; rfl
    omega
theorem rep_s {p : Parts} {c : Bag} (h : POk p c) {k : Int} (hk : 0 < k) (x : Int) : levelB (repP p k).2.2 x = levelB p.2.2 x + max 0 (levelB p.1 x - p.2.1) * (k - 1) := by
  unfold repP
  rw [if_neg (by omega)]
  dsimp only
  rw [addB_level h.s (scaleB_canon (dropB_canon h.i _) _).nn, scaleB_level _ (by omega), dropB_level h.i h.nn]
theorem rep_i {p : Parts} {k : Int} (hk : 0 ≤ k) (x : Int) : levelB (repP p k).1 x = levelB p.1 x * k := by
  unfold repP
  split
  · rename_i h; subst h; simp
  · exact scaleB_level _ hk x
theorem rep_r {p : Parts} {k : Int} : (repP p k).2.1 = p.2.1 * k := by
  unfold repP
  split
  · rename_i h; subst h; simp
  · rfl
theorem rep_ok {p : Parts} {c : Bag} (h : POk p c) {k : Int} (hk : 0 ≤ k) : POk (repP p k) (if k = 0 then [] else addB c (scaleB (takeB p.1 p.2.1) (k - 1))) := by
  by_cases h0 : k = 0
  · subst h0
    have e0 : repP p 0 = idP := by unfold repP; rfl
    rw [e0, if_pos rfl]
    exact id_ok
  · rw [if_neg h0]
    have ct := takeB_canon h.i p.2.1
    have e : repP p k = (scaleB p.1 k, p.2.1 * k, addB p.2.2 (scaleB (dropB p.1 p.2.1) (k - 1))) := by unfold repP; rw [if_neg h0]
    refine ⟨?_, ?_, addB_canon h.cc, fun x => ?_, ?_⟩
    · rw [e]; exact scaleB_canon h.i k
    · rw [e]; exact addB_canon h.s
    · rw [rep_s h (by omega), rep_i hk, addB_level h.cc (scaleB_canon ct _).nn, scaleB_level _ (by omega), takeB_level h.i h.nn, h.lev]
      have e1 : levelB p.1 x * k = levelB p.1 x + levelB p.1 x * (k - 1) := by rw [Int.mul_sub, Int.mul_one]; omega
      have e2 : levelB p.1 x = min (levelB p.1 x) p.2.1 + max 0 (levelB p.1 x - p.2.1) := by omega
      have e3 : levelB p.1 x * (k - 1) = min (levelB p.1 x) p.2.1 * (k - 1) + max 0 (levelB p.1 x - p.2.1) * (k - 1) := by rw [← Int.add_mul, ← e2]
      omega
    · have cs := scaleB_canon ct (k - 1)
      rw [total_add (a := c) (b := scaleB (takeB p.1 p.2.1) (k - 1)) fun x => addB_level h.cc cs.nn x]
      have t1 : totalB (scaleB (takeB p.1 p.2.1) (k - 1)) ≤ p.2.1 * (k - 1) := by
        obtain ⟨x, hx⟩ := total_level (b := scaleB (takeB p.1 p.2.1) (k - 1))
        rw [← hx x (Int.le_refl _), scaleB_level _ (by omega), takeB_level h.i h.nn]
        exact Int.mul_le_mul_of_nonneg_right (by omega) (by omega)
      rw [rep_r]
      have := h.rem
      have e1 : p.2.1 * k = p.2.1 + p.2.1 * (k - 1) := by rw [Int.mul_sub, Int.mul_one]; omega
      omega
/-! ### programs -/
inductive Prg where
  | nil
  | ins (x c : Int) (r : Prg)
  | rem (c : Int) (r : Prg)
  | rep (c : Int) (p r : Prg)
def Prg.items : Prg → List D
  | .nil => []
  | .ins x c r => .tup [.str (PySem.Str.ofString "insert"), .int x, .int c] :: r.items
  | .rem c r => .tup [.str (PySem.Str.ofString "remove"), .int c] :: r.items
  | .rep c p r => .tup [.str (PySem.Str.ofString "repeat"), .int c, .tup p.items] :: r.items
def Prg.d (p : Prg) : D := .tup p.items
def Prg.dep : Prg → Nat
  | .nil => 0
  | .ins _ _ r => r.dep
  | .rem _ r => r.dep
  | .rep _ p r => max (p.dep + 1) r.dep
def Prg.len : Prg → Nat
  | .nil => 0
  | .ins _ _ r => r.len + 1
  | .rem _ r => r.len + 1
  | .rep _ _ r => r.len + 1
def Prg.parts : Prg → Parts → Parts
  | .nil, a => a
  | .ins x c r, a => r.parts (joinP a (scaleB [(x, 1)] c, 0, scaleB [(x, 1)] c))
  | .rem c r, a => r.parts (joinP a ([], c, []))
  | .rep c p r, a => r.parts (joinP a (repP (p.parts idP) c))
/-- all counts are counts -/
def Prg.nn : Prg → Prop
  | .nil => True
  | .ins _ c r => 0 ≤ c ∧ r.nn
  | .rem c r => 0 ≤ c ∧ r.nn
  | .rep c p r => 0 ≤ c ∧ p.nn ∧ r.nn
theorem parts_ok : ∀ {p : Prg} {a : Parts} {c : Bag}, p.nn → POk a c → ∃ c', POk (p.parts a) c'
  | .nil, a, c, _, h => ⟨c, h⟩
  | .ins x k r, a, c, hn, h => by
    have z := parts_ok (p := r) hn.2 (join_ok h (ins_ok (x := x) (c := k)))
    exact z
  | .rem k r, a, c, hn, h => by
    have z := parts_ok (p := r) hn.2 (join_ok h (rem_ok hn.1))
    exact z
  | .rep k p r, a, c, hn, h => by
    obtain ⟨c1, h1⟩ := parts_ok (p := p) hn.2.1 id_ok
    have z := parts_ok (p := r) hn.2.2 (join_ok h (rep_ok h1 hn.1))
    exact z
/-! ### few numbers -/
def KIn (U : List Int) (b : Bag) : Prop := ∀ p ∈ b, p.1 ∈ U
theorem nodup_len {U : List Int} : ∀ {l : List Int}, l.Nodup → (∀ a ∈ l, a ∈ U) → l.length ≤ U.length := by
  intro l hl h
  induction l generalizing U with
  | nil => simp
  | cons a l ih =>
    have hn := List.nodup_cons.mp hl
    have ha := h a List.mem_cons_self
    have := ih (U := U.erase a) hn.2 fun b hb => by
      have ne : b ≠ a := fun e => hn.1 (e ▸ hb)
      exact (List.mem_erase_of_ne ne).mpr (h b (List.mem_cons_of_mem _ hb))
    rw [List.length_erase_of_mem ha] at this
    have pos : 0 < U.length := List.length_pos_of_mem ha
    simp; omega
theorem KIn.len {U : List Int} {b : Bag} (h : KIn U b) (nd : NdK b) : b.length ≤ U.length := by
  have := nodup_len nd (U := U) fun a ha => by
    obtain ⟨p, hp, rfl⟩ := List.mem_map.mp ha
    exact h p hp
  simpa using this
theorem kin_put {U : List Int} {k v : Int} {kv : Bag} (h : KIn U kv) (hk : k ∈ U) : KIn U (putKV k v kv) := put_all (P := fun p => p.1 ∈ U) h hk
theorem kin_from {U : List Int} {kv : Bag} (h : KIn U kv) : KIn U (fromKV kv) := fun p hp => h p (List.mem_filter.mp ((srt_permB ltP _).mem_iff.mp hp)).1
theorem kin_fold {U : List Int} (f : Bag → (Int × Int) → Int) : ∀ {b kv : Bag}, KIn U kv → KIn U b → KIn U (b.foldl (fun kv p => putKV p.1 (f kv p) kv) kv)
  | [], kv, h, _ => h
  | p :: b, kv, h, hb => kin_fold f (b := b) (kin_put h (hb p List.mem_cons_self)) fun q hq => hb q (List.mem_cons_of_mem _ hq)
theorem kin_add {U : List Int} {a b : Bag} (ca : Canon a) (ha : KIn U a) (hb : KIn U b) : KIn U (addB a b) := by
  unfold addB addKV
  rw [mkKV_canon ca.nd]
  exact kin_from (kin_fold (fun kv p => (getKV p.1 kv).getD 0 + p.2) ha hb)
theorem kin_sub {U : List Int} {a b c : Bag} (ca : Canon a) (ha : KIn U a) (hb : KIn U b) (h : subB a b = some c) : KIn U c := by
  unfold subB at h
  split at h
  · cases h
  · cases h
    unfold subKV
    rw [mkKV_canon ca.nd]
    exact kin_from (kin_fold (fun kv p => (getKV p.1 kv).getD 0 - p.2) ha hb)
theorem kin_sublist {U : List Int} {a b : Bag} (h : (a.map (·.1)).Sublist (b.map (·.1))) (hb : KIn U b) : KIn U a := fun p hp => by
  have := h.subset (List.mem_map.mpr ⟨p, hp, rfl⟩)
  obtain ⟨q, hq, e⟩ := List.mem_map.mp this
  rw [← e]
  exact hb q hq
theorem kin_drop {U : List Int} {b : Bag} {l : Int} (hb : KIn U b) : KIn U (dropB b l) := by rw [dropB_eq]; exact kin_sublist (dropR_keys b l) hb
theorem kin_scale {U : List Int} {b : Bag} {l : Int} (hb : KIn U b) : KIn U (scaleB b l) := by
  unfold scaleB
  split
  · intro p hp
    obtain ⟨q, hq, rfl⟩ := List.mem_map.mp hp
    exact hb q hq
  · intro p hp; cases hp
end PL

-- Q5
set_option linter.all false
set_option maxRecDepth 100000
set_option maxHeartbeats 2000000
namespace PL
open PySem (Str)
structure BagG (G : Prog) : Prop where
  is_integer : G.fns.lookup (K1 "is_integer") = some BG.f_is_integer
  is_count : G.fns.lookup (K1 "is_count") = some BG.f_is_count
  is_bag : G.fns.lookup (K1 "is_bag") = some BG.f_is_bag
  check_bag : G.fns.lookup (K1 "check_bag") = some BG.f_check_bag
  check_count : G.fns.lookup (K1 "check_count") = some BG.f_check_count
  from_counts : G.fns.lookup (K1 "from_counts") = some BG.f_from_counts
  add : G.fns.lookup (K1 "add") = some BG.f_add
  subtract : G.fns.lookup (K1 "subtract") = some BG.f_subtract
  total : G.fns.lookup (K1 "total") = some BG.f_total
  scale : G.fns.lookup (K1 "scale") = some BG.f_scale
  drop : G.fns.lookup (K1 "drop") = some BG.f_drop
structure PrgG (G : Prog) : Prop where
  is_step : G.fns.lookup (K1 "is_step") = some BG.f_is_step
  find_invalid : G.fns.lookup (K1 "find_invalid") = some BG.f_find_invalid
  check_program : G.fns.lookup (K1 "check_program") = some BG.f_check_program
  join_parts : G.fns.lookup (K1 "join_parts") = some BG.f_join_parts
  repeat_parts : G.fns.lookup (K1 "repeat_parts") = some BG.f_repeat_parts
  step_parts : G.fns.lookup (K1 "step_parts") = some BG.f_step_parts
  program_parts : G.fns.lookup (K1 "program_parts") = some BG.f_program_parts
  depth : G.con.lookup ("MAX_DEPTH" : Str) = some (D.int 8)
  ident : G.con.lookup ("IDENTITY" : Str) = some (D.tup [.tup [], .int 0, .tup []])
@[simp] theorem qcs_nil {G : Prog} {cf : CF} {d : D} {dfl : M Fl} : evCs G cf d [] [] [] dfl = dfl := by first | rfl | simp only [evCs]
@[simp] theorem qcs_cons {G : Prog} {cf : CF} {d : D} {p : List Nat} {pats : List (List Nat)} {g : Option PB} {gs : List (Option PB)} {b : List PS} {bs : List (List PS)} {dfl : M Fl} : evCs G cf d (p :: pats) (g :: gs) (b :: bs) dfl = (match caseOf d p.length with
    | some (some ds) => M.bind (bindAll p ds) fun _ => (match g with
        | none => evSs G cf b
        | some c => M.bind (evT G cf c) fun r => if r then evSs G cf b else evCs G cf d pats gs bs dfl)
    | some none => evCs G cf d pats gs bs dfl
    | none => M.bad) := by first | rfl | (simp only [evCs])
def partsD (p : Parts) : D := .tup [bagD p.1, .int p.2.1, bagD p.2.2]
@[simp] theorem ow_parts (p : Parts) : (partsD p).own = false := rfl
@[simp] theorem fz_parts (p : Parts) : (partsD p).frz = partsD p := rfl
theorem up {n k : Nat} (h : k ≤ n) : ∃ m, n = m + k := ⟨n - k, by omega⟩
variable {G : Prog}
section
variable (B : BagG G) {n : Nat}
include B
theorem add' (hn : 2 ≤ n) {a b : Bag} (hl : a.length + b.length < LINE) : evF G n (K1 "add") [bagD a, bagD b] = .ret (bagD (addB a b)) [none, none] := by
  obtain ⟨m, rfl⟩ := up hn
  exact ev_add B.from_counts B.add hl
theorem sub' (hn : 2 ≤ n) {a b : Bag} (hl : a.length + b.length < LINE) : evF G n (K1 "subtract") [bagD a, bagD b] = .ret (optB (subB a b)) [none, none] := by
  obtain ⟨m, rfl⟩ := up hn
  exact ev_subtract B.from_counts B.subtract hl
theorem drop' (hn : 1 ≤ n) {b : Bag} {c : Int} (hl : b.length < LINE) : evF G n (K1 "drop") [bagD b, .int c] = .ret (bagD (dropB b c)) [none, none] := by
  obtain ⟨m, rfl⟩ := up hn
  exact ev_drop B.drop hl
theorem scale' (hn : 1 ≤ n) {b : Bag} {c : Int} (hm : ∀ p ∈ b, mulOk p.2 c = true) (hl : b.length ≤ LINE) : evF G n (K1 "scale") [bagD b, .int c] = .ret (bagD (scaleB b c)) [none, none] := by
  obtain ⟨m, rfl⟩ := up hn
  exact ev_scale B.scale hm hl
theorem total' (hn : 1 ≤ n) {b : Bag} (hl : b.length ≤ LINE) : evF G n (K1 "total") [bagD b] = .ret (.int (totalB b)) [none] := by
  obtain ⟨m, rfl⟩ := up hn
  exact ev_total B.total hl
theorem cbag' (hn : 3 ≤ n) {b : Bag} (hb : Canon b) (hl : b.length < LINE) : evF G n (K1 "check_bag") [bagD b] = .ret .non [none] := by
  obtain ⟨m, rfl⟩ := up hn
  exact ev_check_bag B.is_integer B.is_bag B.check_bag hb hl
theorem ccount' (hn : 3 ≤ n) {i : Int} (hi : 0 ≤ i) : evF G n (K1 "check_count") [.int i] = .ret .non [none] := by
  obtain ⟨m, rfl⟩ := up hn
  exact ev_check_count B.is_integer B.is_count B.check_count hi
theorem isint' (hn : 1 ≤ n) (i : Int) : evF G n (K1 "is_integer") [.int i] = .ret (.bl true) [none] := by
  obtain ⟨m, rfl⟩ := up hn
  exact ev_is_integer B.is_integer i
theorem iscnt' (hn : 2 ≤ n) (i : Int) : evF G n (K1 "is_count") [.int i] = .ret (.bl (decide (0 ≤ i))) [none] := by
  obtain ⟨m, rfl⟩ := up hn
  exact ev_is_count B.is_integer B.is_count i
variable (P : PrgG G)
include P
/-- lengths of what is joined -/
structure JLen (f s : Parts) (c : Bag) : Prop where
  a : f.1.length + s.1.length < LINE
  b : s.1.length + s.2.2.length < LINE
  cc : f.2.2.length + c.length < LINE
  d : (addB f.2.2 c).length < LINE
  e : s.2.2.length + (dropB (addB f.2.2 c) s.2.1).length < LINE
theorem ev_join (hn : 3 ≤ n) {f s : Parts} {c : Bag} (h2 : POk s c) (L : JLen f s c) : evF G n (K1 "join_parts") [partsD f, partsD s] = .ret (partsD (joinP f s)) [none, none] := by
  obtain ⟨m, rfl⟩ := up (show 1 ≤ n by omega)
  rw [evF_succ P.join_parts rfl, join_sub h2]
  have e1 := sub' B (n := m) (by omega) L.b
  rw [h2.sub] at e1
  have e2 := add' B (n := m) (by omega) L.cc
  have e3 := drop' B (n := m) (by omega) (c := s.2.1) L.d
  have e4 := add' B (n := m) (by omega) L.a
  have e5 := add' B (n := m) (by omega) L.e
  simp [runF, BG.f_join_parts, partsD, opd, retV, asgT, asgTs, callX, B.add, B.subtract, B.drop, callO, ownSlots, nodupN, e1, e2, e3, e4, e5, optB, backTo, fins, LINE]
def small (i : Int) : Prop := i.natAbs < 2 ^ 300000
omit B P in
theorem mul_small {i j : Int} (hi : small i) (hj : small j) : mulOk i j = true := by
  have l : ∀ {i : Int}, small i → i.natAbs.log2 ≤ 300000 := fun {i} h => by
    by_cases z : i.natAbs = 0
    · rw [z]; decide
    · have := (Nat.log2_lt z).mpr h
      omega
  have h1 := l hi
  have h2 := l hj
  unfold mulOk
  have : i.natAbs.log2 + j.natAbs.log2 < 1000000 := by omega
  simp [this]
theorem ev_rep (hn : 3 ≤ n) {p : Parts} {k : Int} (hi : ∀ q ∈ p.1, mulOk q.2 k = true) (hd : ∀ q ∈ dropB p.1 p.2.1, mulOk q.2 (k - 1) = true) (hr : mulOk p.2.1 k = true) (l1 : p.1.length < LINE) (l2 : (dropB p.1 p.2.1).length < LINE)
    (l3 : p.2.2.length + (scaleB (dropB p.1 p.2.1) (k - 1)).length < LINE) : evF G n (K1 "repeat_parts") [partsD p, .int k] = .ret (partsD (repP p k)) [none, none] := by
  obtain ⟨m, rfl⟩ := up (show 1 ≤ n by omega)
  rw [evF_succ P.repeat_parts rfl]
  by_cases h0 : k = 0
  · subst h0
    simp [runF, BG.f_repeat_parts, partsD, repP, bagD, opd, retV, test, P.ident, fins]
  · have e1 := drop' B (n := m) (by omega) (c := p.2.1) l1
    have e2 := scale' B (n := m) (by omega) hd (by omega)
    have e3 := scale' B (n := m) (by omega) hi (by omega)
    have e4 := add' B (n := m) (by omega) l3
    have er : repP p k = (scaleB p.1 k, p.2.1 * k, addB p.2.2 (scaleB (dropB p.1 p.2.1) (k - 1))) := by unfold repP; rw [if_neg h0]
    rw [er]
    simp [runF, BG.f_repeat_parts, partsD, opd, retV, test, h0, asgT, asgTs, callX, B.add, B.scale, B.drop, callO, ownSlots, nodupN, e1, e2, e3, e4, backTo, bin_mul hr, fins, LINE]
end
end PL

-- Q6
set_option linter.all false
set_option maxRecDepth 100000
set_option maxHeartbeats 2000000
namespace PL
open PySem (Str)
theorem small_one : small 1 := by unfold small; exact Nat.one_lt_two_pow (by decide)
theorem small_pred {c : Int} (h0 : 0 ≤ c) (h : small c) : small (c - 1) := by
  unfold small at *
  by_cases z : c = 0
  · subst z; exact Nat.one_lt_two_pow (by decide)
  · omega
theorem drop_small {b : Bag} (hb : Canon b) {l : Int} (hl : 0 ≤ l) (h : ∀ q ∈ b, small q.2) : ∀ q ∈ dropB b l, small q.2 := by
  rw [dropB_eq]
  have : ∀ (b : Bag) (l : Int), 0 ≤ l → (∀ p ∈ b, 0 < p.2) → (∀ q ∈ b, small q.2) → ∀ q ∈ dropR b l, small q.2 := by
    intro b
    induction b with
    | nil => intro l _ _ _ q hq; cases hq
    | cons p b ih =>
      intro l hl hp hs q hq
      have p0 := hp p List.mem_cons_self
      have s0 := hs p List.mem_cons_self
      have m := min_le (i := l) (j := p.2)
      rw [dropR] at hq
      have ih := ih (l - minI2 l p.2) (by omega) (fun r hr => hp r (List.mem_cons_of_mem _ hr)) fun r hr => hs r (List.mem_cons_of_mem _ hr)
      split at hq
      · rcases List.mem_cons.mp hq with rfl | hq
        · unfold small at *
          dsimp only
          omega
        · exact ih q hq
      · exact ih q hq
  exact this b l hl hb.pos h
def Prg.kin (U : List Int) : Prg → Prop
  | .nil => True
  | .ins x _ r => x ∈ U ∧ r.kin U
  | .rem _ r => r.kin U
  | .rep _ p r => p.kin U ∧ r.kin U
def Prg.fit : Prg → Prop
  | .nil => True
  | .ins _ _ r => r.fit
  | .rem _ r => r.fit
  | .rep c p r => small c ∧ (∀ q ∈ (p.parts idP).1, small q.2) ∧ small (p.parts idP).2.1 ∧ p.fit ∧ r.fit
structure PIn (U : List Int) (a : Parts) (c : Bag) : Prop where
  ok : POk a c
  i : KIn U a.1
  s : KIn U a.2.2
  cc : KIn U c
theorem kin_nil {U : List Int} : KIn U [] := fun p hp => nomatch hp
theorem kin_take {U : List Int} {b : Bag} {l : Int} (hb : KIn U b) : KIn U (takeB b l) := by rw [takeB_eq]; exact kin_sublist (takeR_keys b l) hb
theorem pin_id {U : List Int} : PIn U idP [] := ⟨id_ok, kin_nil, kin_nil, kin_nil⟩
theorem pin_ins {U : List Int} {x c : Int} (h : x ∈ U) : PIn U (scaleB [(x, 1)] c, 0, scaleB [(x, 1)] c) [] := by
  have k : KIn U [(x, (1 : Int))] := fun p hp => by simp at hp; subst hp; exact h
  exact ⟨ins_ok, kin_scale k, kin_scale k, kin_nil⟩
theorem pin_rem {U : List Int} {c : Int} (h : 0 ≤ c) : PIn U ([], c, []) [] := ⟨rem_ok h, kin_nil, kin_nil, kin_nil⟩
theorem pin_join {U : List Int} {f s : Parts} {c1 c2 : Bag} (h1 : PIn U f c1) (h2 : PIn U s c2) : PIn U (joinP f s) (addB c1 (takeB (addB f.2.2 c2) s.2.1)) := by
  have ka := kin_add h1.ok.s h1.s h2.cc
  refine ⟨join_ok h1.ok h2.ok, ?_, ?_, kin_add h1.ok.cc h1.cc (kin_take ka)⟩
  · unfold joinP
    exact kin_add h1.ok.i h1.i h2.i
  · rw [join_sub h2.ok]
    exact kin_add h2.ok.s h2.s (kin_drop ka)
theorem pin_rep {U : List Int} {p : Parts} {c : Bag} (h : PIn U p c) {k : Int} (hk : 0 ≤ k) : PIn U (repP p k) (if k = 0 then [] else addB c (scaleB (takeB p.1 p.2.1) (k - 1))) := by
  refine ⟨rep_ok h.ok hk, ?_, ?_, ?_⟩
  · unfold repP
    split
    · exact kin_nil
    · exact kin_scale h.i
  · unfold repP
    split
    · exact kin_nil
    · exact kin_add h.ok.s h.s (kin_scale (kin_drop h.i))
  · split
    · exact kin_nil
    · exact kin_add h.ok.cc h.cc (kin_scale (kin_take h.i))
theorem pin_parts {U : List Int} : ∀ {p : Prg} {a : Parts} {c : Bag}, p.nn → p.kin U → PIn U a c → ∃ c', PIn U (p.parts a) c'
  | .nil, a, c, _, _, h => ⟨c, h⟩
  | .ins x k r, a, c, hn, hk, h => by
    have z := pin_parts (p := r) hn.2 hk.2 (pin_join h (pin_ins (c := k) hk.1))
    exact z
  | .rem k r, a, c, hn, hk, h => by
    have z := pin_parts (p := r) hn.2 hk (pin_join h (pin_rem hn.1))
    exact z
  | .rep k p r, a, c, hn, hk, h => by
    obtain ⟨c1, h1⟩ := pin_parts (p := p) hn.2.1 hk.1 pin_id
    have z := pin_parts (p := r) hn.2.2 hk.2 (pin_join h (pin_rep h1 hn.1))
    exact z
theorem jlen {U : List Int} (hU : 2 * U.length < LINE) {f s : Parts} {c1 c2 : Bag} (h1 : PIn U f c1) (h2 : PIn U s c2) : JLen f s c2 := by
  have l : ∀ {b : Bag}, Canon b → KIn U b → b.length ≤ U.length := fun cb kb => kb.len cb.nd
  have ka := kin_add h1.ok.s h1.s h2.cc
  have ca := addB_canon (b := c2) h1.ok.s
  have l1 := l h1.ok.i h1.i
  have l2 := l h1.ok.s h1.s
  have l3 := l h2.ok.i h2.i
  have l4 := l h2.ok.s h2.s
  have l5 := l h2.ok.cc h2.cc
  have l6 := l ca ka
  have l7 := l (dropB_canon ca s.2.1) (kin_drop ka)
  exact ⟨by omega, by omega, by omega, by omega, by omega⟩
@[simp] theorem ow_prg (p : Prg) : p.d.own = false := rfl
variable {G : Prog} (B : BagG G) (P : PrgG G)
include B P
theorem step_ins {n : Nat} (hn : 2 ≤ n) {x c : Int} (hc : mulOk 1 c = true) : evF G n (K1 "step_parts") [.tup [.str (Str.ofString "insert"), .int x, .int c]] = .ret (partsD (scaleB [(x, 1)] c, 0, scaleB [(x, 1)] c)) [none] := by
  obtain ⟨m, rfl⟩ := up (show 1 ≤ n by omega)
  rw [evF_succ P.step_parts rfl]
  have e := scale' B (n := m) (by omega) (b := [(x, 1)]) (c := c) (fun p hp => by simp at hp; subst hp; exact hc) (by simp [LINE])
  have eb : bagD [(x, 1)] = .tup [.tup [.int x, .int 1]] := rfl
  rw [eb] at e
  simp [runF, BG.f_step_parts, opd, retV, test, asgT, caseOf, bindAll, callX, B.scale, callO, ownSlots, nodupN, e, backTo, fins, partsD, LINE]
theorem step_rem {n : Nat} (hn : 1 ≤ n) {c : Int} : evF G n (K1 "step_parts") [.tup [.str (Str.ofString "remove"), .int c]] = .ret (partsD ([], c, [])) [none] := by
  obtain ⟨m, rfl⟩ := up hn
  rw [evF_succ P.step_parts rfl]
  simp [runF, BG.f_step_parts, opd, retV, test, asgT, caseOf, bindAll, fins, partsD, bagD, LINE]
theorem step_rep {n : Nat} (hn : 4 ≤ n) {p : Prg} {c : Int} (h1 : evF G (n - 1) (K1 "program_parts") [p.d] = .ret (partsD (p.parts idP)) [none]) (h2 : evF G (n - 1) (K1 "repeat_parts") [partsD (p.parts idP), .int c] = .ret (partsD (repP (p.parts idP) c)) [none, none]) :
    evF G n (K1 "step_parts") [.tup [.str (Str.ofString "repeat"), .int c, .tup p.items]] = .ret (partsD (repP (p.parts idP) c)) [none] := by
  obtain ⟨m, rfl⟩ := up (show 1 ≤ n by omega)
  rw [evF_succ P.step_parts rfl]
  have h1' : evF G m (K1 "program_parts") [.tup p.items] = .ret (partsD (p.parts idP)) [none] := h1
  have h2' : evF G m (K1 "repeat_parts") [partsD (p.parts idP), .int c] = .ret (partsD (repP (p.parts idP) c)) [none, none] := h2
  simp [runF, BG.f_step_parts, opd, retV, test, asgT, caseOf, bindAll, callX, P.program_parts, P.repeat_parts, callO, ownSlots, nodupN, h1', h2', backTo, fins, LINE]
/-- a step joined -/
theorem turn_parts {n : Nat} (hn : 3 ≤ n) {pd d : D} (hpd : pd.own = false) (hd : d.own = false) {a s : Parts} {c : Bag} {x : Option D} (h1 : evF G n (K1 "step_parts") [d] = .ret (partsD s) [none]) (h2 : POk s c) (L : JLen a s c) :
    (M.bind (asgT (.nm 2) d) fun _ => evSs G (evF G n) BG.b_program_parts_0) [some pd, some (partsD a), x] = .ok .nx [some pd, some (partsD (joinP a s)), some d] := by
  have e := ev_join B P hn h2 L (f := a)
  simp [BG.b_program_parts_0, asgT, opd, callX, P.join_parts, P.step_parts, callO, ownSlots, nodupN, h1, e, backTo, hd]
theorem loop_parts {U : List Int} (hU : 2 * U.length < LINE) : ∀ (p : Prg) (n : Nat) (a : Parts) (c : Bag) (pd : D) (x : Option D), pd.own = false → 2 * p.dep + 3 ≤ n → p.nn → p.kin U → p.fit → (∀ y k r, p = .ins y k r → True) → PIn U a c →
    ∃ y, forL (fun d => M.bind (asgT (.nm 2) d) fun _ => evSs G (evF G n) BG.b_program_parts_0) [] p.items [some pd, some (partsD a), x] = .ok .nx [some pd, some (partsD (p.parts a)), y]
  | .nil, n, a, c, pd, x, hpd, hn, h1, h2, h3, _, h => ⟨x, rfl⟩
  | .ins y k r, n, a, c, pd, x, hpd, hn, h1, h2, h3, _, h => by
    have pi := pin_ins (U := U) (c := k) h2.1
    have t := turn_parts B P (by simp [Prg.dep] at hn; omega) hpd (d := .tup [.str (Str.ofString "insert"), .int y, .int k]) rfl (x := x) (step_ins B P (n := n) (by omega) (x := y) (c := k) (by unfold mulOk small64; simp)) pi.ok (jlen hU h pi)
    obtain ⟨z, hz⟩ := loop_parts hU r n _ _ pd (some (.tup [.str (Str.ofString "insert"), .int y, .int k])) hpd hn h1.2 h2.2 h3 (fun _ _ _ _ => trivial) (pin_join h pi)
    refine ⟨z, ?_⟩
    rw [Prg.items, forL]
    show (R.bind ((M.bind (asgT (.nm 2) _) fun _ => evSs G (evF G n) BG.b_program_parts_0) [some pd, some (partsD a), x]) _) = _
    rw [t]
    exact hz
  | .rem k r, n, a, c, pd, x, hpd, hn, h1, h2, h3, _, h => by
    have pi := pin_rem (U := U) h1.1
    have t := turn_parts B P (by simp [Prg.dep] at hn; omega) hpd (d := .tup [.str (Str.ofString "remove"), .int k]) rfl (x := x) (step_rem B P (n := n) (by omega) (c := k)) pi.ok (jlen hU h pi)
    obtain ⟨z, hz⟩ := loop_parts hU r n _ _ pd (some (.tup [.str (Str.ofString "remove"), .int k])) hpd hn h1.2 h2 h3 (fun _ _ _ _ => trivial) (pin_join h pi)
    refine ⟨z, ?_⟩
    rw [Prg.items, forL]
    show (R.bind ((M.bind (asgT (.nm 2) _) fun _ => evSs G (evF G n) BG.b_program_parts_0) [some pd, some (partsD a), x]) _) = _
    rw [t]
    exact hz
  | .rep k p r, n, a, c, pd, x, hpd, hn, h1, h2, h3, _, h => by
    have hd : 2 * p.dep + 5 ≤ n ∧ 2 * r.dep + 3 ≤ n := by simp [Prg.dep] at hn; omega
    obtain ⟨f1, f2, f3, f4, f5⟩ := h3
    obtain ⟨c1, q1⟩ := pin_parts (U := U) h1.2.1 h2.1 pin_id
    -- the inner program
    have e1 : evF G (n - 1) (K1 "program_parts") [p.d] = .ret (partsD (p.parts idP)) [none] := by
      obtain ⟨m, e⟩ := up (show 2 ≤ n by omega)
      obtain ⟨z, hz⟩ := loop_parts hU p m idP [] p.d none rfl (by omega) h1.2.1 h2.1 f4 (fun _ _ _ _ => trivial) pin_id
      have e' : n - 1 = m + 1 := by omega
      rw [e', evF_succ P.program_parts rfl]
      have lp : evS G (evF G m) BG.l_program_parts_0 [some p.d, some (.tup [.tup [], .int 0, .tup []]), none] = .ok .nx [some p.d, some (partsD (p.parts idP)), z] := by
        unfold BG.l_program_parts_0
        rw [ev_forS (d := p.d) rfl rfl rfl]
        exact hz
      simp [runF, BG.f_program_parts, opd, retV, P.ident, asgT, lp, fins]
    have e2 : evF G (n - 1) (K1 "repeat_parts") [partsD (p.parts idP), .int k] = .ret (partsD (repP (p.parts idP) k)) [none, none] := by
      have sk := small_pred h1.1 f1
      have li := q1.i.len q1.ok.i.nd
      have ld := (kin_drop (l := (p.parts idP).2.1) q1.i).len (dropB_canon q1.ok.i _).nd
      have ls := q1.s.len q1.ok.s.nd
      have lsc := (kin_scale (l := k - 1) (kin_drop (l := (p.parts idP).2.1) q1.i)).len (scaleB_canon (dropB_canon q1.ok.i _) _).nd
      exact ev_rep B P (by omega) (fun q hq => mul_small (f2 q hq) f1) (fun q hq => mul_small (drop_small q1.ok.i q1.ok.nn f2 q hq) sk) (mul_small f3 f1) (by omega) (by omega) (by omega)
    have pi := pin_rep q1 h1.1 (k := k)
    have t := turn_parts B P (by omega) hpd (d := .tup [.str (Str.ofString "repeat"), .int k, .tup p.items]) rfl (x := x) (step_rep B P (n := n) (by omega) e1 e2) pi.ok (jlen hU h pi)
    obtain ⟨z, hz⟩ := loop_parts hU r n _ _ pd (some (.tup [.str (Str.ofString "repeat"), .int k, .tup p.items])) hpd hd.2 h1.2.2 h2.2 f5 (fun _ _ _ _ => trivial) (pin_join h pi)
    refine ⟨z, ?_⟩
    rw [Prg.items, forL]
    show (R.bind ((M.bind (asgT (.nm 2) _) fun _ => evSs G (evF G n) BG.b_program_parts_0) [some pd, some (partsD a), x]) _) = _
    rw [t]
    exact hz
theorem ev_program_parts {U : List Int} (hU : 2 * U.length < LINE) {p : Prg} {n : Nat} (hn : 2 * p.dep + 4 ≤ n) (h1 : p.nn) (h2 : p.kin U) (h3 : p.fit) : evF G n (K1 "program_parts") [p.d] = .ret (partsD (p.parts idP)) [none] := by
  obtain ⟨m, rfl⟩ := up (show 1 ≤ n by omega)
  obtain ⟨z, hz⟩ := loop_parts B P hU p m idP [] p.d none rfl (by omega) h1 h2 h3 (fun _ _ _ _ => trivial) pin_id
  rw [evF_succ P.program_parts rfl]
  have lp : evS G (evF G m) BG.l_program_parts_0 [some p.d, some (.tup [.tup [], .int 0, .tup []]), none] = .ok .nx [some p.d, some (partsD (p.parts idP)), z] := by
    unfold BG.l_program_parts_0
    rw [ev_forS (d := p.d) rfl rfl rfl]
    exact hz
  simp [runF, BG.f_program_parts, opd, retV, P.ident, asgT, lp, fins]
end PL

-- Q7
set_option linter.all false
set_option maxRecDepth 100000
set_option maxHeartbeats 2000000
namespace PL
open PySem (Str)
@[simp] theorem str_beq {a b : String} : (Str.ofString a == Str.ofString b) = (a == b) := by
  by_cases h : a = b
  · subst h; simp
  · have h1 : (a == b) = false := by simpa using h
    rw [h1]
    simpa using h
variable {G : Prog} (B : BagG G) (P : PrgG G)
include B P
theorem is_step_ins {n : Nat} (hn : 3 ≤ n) {x c t : Int} (hc : 0 ≤ c) : evF G n (K1 "is_step") [.tup [.str (Str.ofString "insert"), .int x, .int c], .int t] = .ret (.bl true) [none, none] := by
  obtain ⟨m, rfl⟩ := up (show 1 ≤ n by omega)
  rw [evF_succ P.is_step rfl]
  simp [runF, BG.f_is_step, opd, retV, test, asgT, caseOf, bindAll, callX, B.is_integer, B.is_count, callO, ownSlots, nodupN, isint' B (n := m) (by omega), iscnt' B (n := m) (by omega), hc, backTo, fins, isiD, isinst, tyIs, tyNames]
theorem is_step_rem {n : Nat} (hn : 3 ≤ n) {c t : Int} (hc : 0 ≤ c) : evF G n (K1 "is_step") [.tup [.str (Str.ofString "remove"), .int c], .int t] = .ret (.bl true) [none, none] := by
  obtain ⟨m, rfl⟩ := up (show 1 ≤ n by omega)
  rw [evF_succ P.is_step rfl]
  simp [runF, BG.f_is_step, opd, retV, test, asgT, caseOf, bindAll, callX, B.is_integer, B.is_count, callO, ownSlots, nodupN, isint' B (n := m) (by omega), iscnt' B (n := m) (by omega), hc, backTo, fins, isiD, isinst, tyIs, tyNames]
theorem is_step_rep {n : Nat} (hn : 3 ≤ n) {c t : Int} {ds : List D} (hc : 0 ≤ c) (ht : t < 8) : evF G n (K1 "is_step") [.tup [.str (Str.ofString "repeat"), .int c, .tup ds], .int t] = .ret (.bl true) [none, none] := by
  obtain ⟨m, rfl⟩ := up (show 1 ≤ n by omega)
  rw [evF_succ P.is_step rfl]
  simp [runF, BG.f_is_step, opd, retV, test, asgT, caseOf, bindAll, callX, B.is_integer, B.is_count, callO, ownSlots, nodupN, isint' B (n := m) (by omega), iscnt' B (n := m) (by omega), hc, backTo, fins, isiD, isinst, tyIs, tyNames, P.depth, ht]
def enumD (p : D × Nat) : D := .tup [.int p.2, p.1]
theorem loop_find : ∀ (p : Prg) (n i : Nat) (t : Int) (pd : D) (x y z : Option D), pd.own = false → p.dep + 3 ≤ n → (p.dep : Int) + t ≤ 8 → p.nn →
    ∃ x' y' z', forL (fun d => M.bind (asgT (.tup [.nm 2, .nm 3]) d) fun _ => evSs G (evF G n) BG.b_find_invalid_0) [] ((p.items.zipIdx i).map enumD) [some pd, some (.int t), x, y, z] = .ok .nx [some pd, some (.int t), x', y', z']
  | .nil, n, i, t, pd, x, y, z, hpd, hn, ht, h1 => ⟨x, y, z, rfl⟩
  | .ins a k r, n, i, t, pd, x, y, z, hpd, hn, ht, h1 => by
    have e := is_step_ins B P (n := n) (by omega) (x := a) (c := k) (t := t) h1.1
    obtain ⟨x', y', z', hz⟩ := loop_find r n (i + 1) t pd (some (.int i)) (some (.tup [.str (Str.ofString "insert"), .int a, .int k])) (some .non) hpd hn ht h1.2
    refine ⟨x', y', z', ?_⟩
    rw [Prg.items, List.zipIdx_cons, List.map_cons, forL]
    have t1 : (M.bind (asgT (.tup [.nm 2, .nm 3]) (enumD (.tup [.str (Str.ofString "insert"), .int a, .int k], i))) fun _ => evSs G (evF G n) BG.b_find_invalid_0) [some pd, some (.int t), x, y, z] = .ok .nx [some pd, some (.int t), some (.int i), some (.tup [.str (Str.ofString "insert"), .int a, .int k]), some .non] := by
      simp [BG.b_find_invalid_0, enumD, asgT, asgTs, opd, test, callX, P.is_step, callO, ownSlots, nodupN, e, backTo]
    show (R.bind ((M.bind (asgT (.tup [.nm 2, .nm 3]) _) fun _ => evSs G (evF G n) BG.b_find_invalid_0) [some pd, some (.int t), x, y, z]) _) = _
    rw [t1]
    exact hz
  | .rem k r, n, i, t, pd, x, y, z, hpd, hn, ht, h1 => by
    have e := is_step_rem B P (n := n) (by omega) (c := k) (t := t) h1.1
    obtain ⟨x', y', z', hz⟩ := loop_find r n (i + 1) t pd (some (.int i)) (some (.tup [.str (Str.ofString "remove"), .int k])) (some .non) hpd hn ht h1.2
    refine ⟨x', y', z', ?_⟩
    rw [Prg.items, List.zipIdx_cons, List.map_cons, forL]
    have t1 : (M.bind (asgT (.tup [.nm 2, .nm 3]) (enumD (.tup [.str (Str.ofString "remove"), .int k], i))) fun _ => evSs G (evF G n) BG.b_find_invalid_0) [some pd, some (.int t), x, y, z] = .ok .nx [some pd, some (.int t), some (.int i), some (.tup [.str (Str.ofString "remove"), .int k]), some .non] := by
      simp [BG.b_find_invalid_0, enumD, asgT, asgTs, opd, test, callX, P.is_step, callO, ownSlots, nodupN, e, backTo]
    show (R.bind ((M.bind (asgT (.tup [.nm 2, .nm 3]) _) fun _ => evSs G (evF G n) BG.b_find_invalid_0) [some pd, some (.int t), x, y, z]) _) = _
    rw [t1]
    exact hz
  | .rep k p r, n, i, t, pd, x, y, z, hpd, hn, ht, h1 => by
    have hd : p.dep + 1 + 3 ≤ n ∧ r.dep + 3 ≤ n ∧ (p.dep : Int) + (t + 1) ≤ 8 ∧ (r.dep : Int) + t ≤ 8 := by simp [Prg.dep] at hn ht; omega
    have e := is_step_rep B P (n := n) (by omega) (c := k) (t := t) (ds := p.items) h1.1 (by omega)
    have e1 : evF G n (K1 "find_invalid") [.tup p.items, .int (t + 1)] = .ret .non [none, none] := by
      obtain ⟨m, rfl⟩ := up (show 1 ≤ n by omega)
      obtain ⟨x', y', z', hz⟩ := loop_find p m 0 (t + 1) (.tup p.items) none none none rfl (by omega) hd.2.2.1 h1.2.1
      rw [evF_succ P.find_invalid rfl]
      have lp : evS G (evF G m) BG.l_find_invalid_0 [some (.tup p.items), some (.int (t + 1)), none, none, none] = .ok .nx [some (.tup p.items), some (.int (t + 1)), x', y', z'] := by
        unfold BG.l_find_invalid_0
        have w : watch [Opd.slot 0] [some (.tup p.items), some (.int (t + 1)), none, none, none] = [] := by simp [watch]
        rw [ev_for (os := [.slot 0]) (ds := [.tup p.items]) (xs := (p.items.zipIdx 0).map enumD) (e1 := [some (.tup p.items), some (.int (t + 1)), none, none, none]) (by simp) (by simp) rfl (by rw [w]; rfl), w]
        exact hz
      simp [runF, BG.f_find_invalid, opd, retV, lp, fins]
    obtain ⟨x', y', z', hz⟩ := loop_find r n (i + 1) t pd (some (.int i)) (some (.tup [.str (Str.ofString "repeat"), .int k, .tup p.items])) (some .non) hpd hd.2.1 hd.2.2.2 h1.2.2
    refine ⟨x', y', z', ?_⟩
    rw [Prg.items, List.zipIdx_cons, List.map_cons, forL]
    have t1 : (M.bind (asgT (.tup [.nm 2, .nm 3]) (enumD (.tup [.str (Str.ofString "repeat"), .int k, .tup p.items], i))) fun _ => evSs G (evF G n) BG.b_find_invalid_0) [some pd, some (.int t), x, y, z] = .ok .nx [some pd, some (.int t), some (.int i), some (.tup [.str (Str.ofString "repeat"), .int k, .tup p.items]), some .non] := by
      simp [BG.b_find_invalid_0, enumD, asgT, asgTs, opd, test, callX, P.is_step, P.find_invalid, callO, ownSlots, nodupN, e, e1, backTo]
    show (R.bind ((M.bind (asgT (.tup [.nm 2, .nm 3]) _) fun _ => evSs G (evF G n) BG.b_find_invalid_0) [some pd, some (.int t), x, y, z]) _) = _
    rw [t1]
    exact hz
theorem ev_find {p : Prg} {n : Nat} {t : Int} (hn : p.dep + 4 ≤ n) (ht : (p.dep : Int) + t ≤ 8) (h1 : p.nn) : evF G n (K1 "find_invalid") [p.d, .int t] = .ret .non [none, none] := by
  obtain ⟨m, rfl⟩ := up (show 1 ≤ n by omega)
  obtain ⟨x', y', z', hz⟩ := loop_find B P p m 0 t p.d none none none rfl (by omega) ht h1
  rw [evF_succ P.find_invalid rfl]
  have lp : evS G (evF G m) BG.l_find_invalid_0 [some p.d, some (.int t), none, none, none] = .ok .nx [some p.d, some (.int t), x', y', z'] := by
    unfold BG.l_find_invalid_0
    have w : watch [Opd.slot 0] [some p.d, some (.int t), none, none, none] = [] := by simp [watch]
    rw [ev_for (os := [.slot 0]) (ds := [p.d]) (xs := (p.items.zipIdx 0).map enumD) (e1 := [some p.d, some (.int t), none, none, none]) (by simp) (by simp) rfl (by rw [w]; rfl), w]
    exact hz
  simp [runF, BG.f_find_invalid, opd, retV, lp, fins]
theorem ev_check_program {p : Prg} {n : Nat} (hn : p.dep + 5 ≤ n) (ht : p.dep ≤ 7) (h1 : p.nn) : evF G n (K1 "check_program") [p.d] = .ret .non [none] := by
  obtain ⟨m, rfl⟩ := up (show 1 ≤ n by omega)
  rw [evF_succ P.check_program rfl]
  have e := ev_find B P (p := p) (n := m) (t := 1) (by omega) (by omega) h1
  have ty : isiD G p.d ["tuple"] = some true := by simp [isiD, isinst, tyIs, tyNames, Prg.d]
  simp [runF, BG.f_check_program, opd, retV, test, asgT, ty, callX, P.find_invalid, callO, ownSlots, nodupN, e, backTo, fins]
end PL

-- Q8
set_option linter.all false
set_option maxRecDepth 100000
set_option maxHeartbeats 2000000
namespace PL
open PySem (Str)
abbrev K2 (c m : Str) : FnKey := (c, some m)
structure EffG (G : Prog) : Prop where
  find_fault : G.fns.lookup (K1 "find_fault") = some BG.f_find_fault
  init : G.fns.lookup (K2 "Effect" "__init__") = some BG.f_Effectu_initu
  cls : G.cls.lookup ("Effect" : Str) = some { mro := ["Effect"], frz := true, exf := none, flds := ["own_parts"] }
  m_init : G.meth.lookup (("Effect" : Str), ("__init__" : Str)) = some (.inst, K2 "Effect" "__init__")
  m_ins : G.meth.lookup (("Effect" : Str), ("inserted" : Str)) = some (.prop, K2 "Effect" "inserted")
  m_rem : G.meth.lookup (("Effect" : Str), ("removals" : Str)) = some (.prop, K2 "Effect" "removals")
  m_sur : G.meth.lookup (("Effect" : Str), ("survivors" : Str)) = some (.prop, K2 "Effect" "survivors")
  m_con : G.meth.lookup (("Effect" : Str), ("consumed" : Str)) = some (.prop, K2 "Effect" "consumed")
  m_need : G.meth.lookup (("Effect" : Str), ("needed" : Str)) = some (.prop, K2 "Effect" "needed")
  f_ins : G.fns.lookup (K2 "Effect" "inserted") = some BG.f_Effect_inserted
  f_rem : G.fns.lookup (K2 "Effect" "removals") = some BG.f_Effect_removals
  f_sur : G.fns.lookup (K2 "Effect" "survivors") = some BG.f_Effect_survivors
  f_con : G.fns.lookup (K2 "Effect" "consumed") = some BG.f_Effect_consumed
  f_need : G.fns.lookup (K2 "Effect" "needed") = some BG.f_Effect_needed
structure EffOf (G : Prog) : Prop where
  m_of : G.meth.lookup (("Effect" : Str), ("of" : Str)) = some (.clsm, K2 "Effect" "of")
  f_of : G.fns.lookup (K2 "Effect" "of") = some BG.f_Effect_of
/-- an effect as a value -/
def effD (p : Parts) : D := .ins false "Effect" [("own_parts" : Str)] [partsD p]
@[simp] theorem ow_eff (p : Parts) : (effD p).own = false := rfl
@[simp] theorem fz_eff (p : Parts) : (effD p).frz = effD p := rfl
variable {G : Prog} (B : BagG G) (E : EffG G)
include E in
theorem fld_ok : G.fld "Effect" "own_parts" = true := by
  unfold Prog.fld
  rw [E.cls]
  rfl
include B E
theorem ev_fault {n : Nat} (hn : 3 ≤ n) {p : Parts} {c : Bag} (h : POk p c) (l1 : p.1.length + p.2.2.length < LINE) (l2 : c.length ≤ LINE) : evF G n (K1 "find_fault") [bagD p.1, .int p.2.1, bagD p.2.2] = .ret .non [none, none, none] := by
  obtain ⟨m, rfl⟩ := up (show 1 ≤ n by omega)
  rw [evF_succ E.find_fault rfl]
  have e1 := sub' B (n := m) (by omega) l1
  rw [h.sub] at e1
  have e2 := total' B (n := m) (by omega) l2
  have e3 : ¬ p.2.1 < totalB c := by have := h.rem; omega
  have nn : bagD c ≠ D.non := by intro z; cases z
  simp [runF, BG.f_find_fault, opd, retV, test, asgT, callX, B.subtract, B.total, callO, ownSlots, nodupN, e1, e2, e3, optB, backTo, fins, nn]
theorem ev_init {n : Nat} (hn : 4 ≤ n) {p : Parts} {c : Bag} (h : POk p c) (l1 : p.1.length + p.2.2.length < LINE) (l2 : c.length ≤ LINE) :
    evF G n (K2 "Effect" "__init__") [.ins true "Effect" [] [], bagD p.1, .int p.2.1, bagD p.2.2] = .ret .non [some (.ins true "Effect" [("own_parts" : Str)] [partsD p]), none, none, none] := by
  obtain ⟨m, rfl⟩ := up (show 1 ≤ n by omega)
  rw [evF_succ E.init rfl]
  have e1 := cbag' B (n := m) (by omega) h.i (by omega)
  have e2 := cbag' B (n := m) (by omega) h.s (by omega)
  have e3 := ccount' B (n := m) (by omega) h.nn
  have e4 := ev_fault B E (n := m) (by omega) h l1 l2
  simp [runF, BG.f_Effectu_initu, opd, retV, test, asgT, callX, B.check_bag, B.check_count, E.find_fault, callO, ownSlots, nodupN, e1, e2, e3, e4, backTo, fins, setAttrD, fld_ok E, putAttr, putBack, partsD, LINE]
theorem makeK_eff : makeK G "Effect" = some ({ mro := ["Effect"], frz := true, exf := none, flds := ["own_parts"] }, K2 "Effect" "__init__", BG.f_Effectu_initu) := by
  unfold makeK
  rw [E.cls, E.m_init]
  dsimp only
  rw [E.init]
theorem ev_of {n : Nat} (P : PrgG G) (O : EffOf G) {U : List Int} (hU : 3 * U.length < LINE) {p : Prg} (hn : 2 * p.dep + 6 ≤ n) (hd : p.dep ≤ 7) (h1 : p.nn) (h2 : p.kin U) (h3 : p.fit) :
    evF G n (K2 "Effect" "of") [.glb "Effect", p.d] = .ret (effD (p.parts idP)) [none, none] := by
  obtain ⟨m, rfl⟩ := up (show 1 ≤ n by omega)
  rw [evF_succ O.f_of rfl]
  have e1 := ev_check_program B P (p := p) (n := m) (by omega) hd h1
  have e2 := ev_program_parts B P (p := p) (n := m) (U := U) (by omega) (by omega) h1 h2 h3
  obtain ⟨c, q⟩ := pin_parts (U := U) h1 h2 pin_id
  have li := q.i.len q.ok.i.nd
  have ls := q.s.len q.ok.s.nd
  have lc := q.cc.len q.ok.cc.nd
  have e3 := ev_init B E (n := m) (by omega) q.ok (by omega) (by omega)
  have ew : (D.glb (Str.ofString "Effect")).own = false := rfl
  simp [runF, BG.f_Effect_of, opd, retV, test, asgT, asgTs, callX, P.check_program, P.program_parts, callO, ownSlots, nodupN, e1, e2, backTo, partsD, makeK_eff B E, makeX, e3, fins, effD, ew]
/-! ### what is read of an effect -/
theorem ev_ins {n : Nat} (hn : 1 ≤ n) {p : Parts} : evF G n (K2 "Effect" "inserted") [effD p] = .ret (bagD p.1) [none] := by
  obtain ⟨m, rfl⟩ := up hn
  rw [evF_succ E.f_ins rfl]
  simp [runF, BG.f_Effect_inserted, opd, retV, getAttr, effD, fld_ok E, partsD, fins, List.lookup_cons]
theorem ev_rem {n : Nat} (hn : 1 ≤ n) {p : Parts} : evF G n (K2 "Effect" "removals") [effD p] = .ret (.int p.2.1) [none] := by
  obtain ⟨m, rfl⟩ := up hn
  rw [evF_succ E.f_rem rfl]
  simp [runF, BG.f_Effect_removals, opd, retV, getAttr, effD, fld_ok E, partsD, fins, List.lookup_cons]
theorem ev_sur {n : Nat} (hn : 1 ≤ n) {p : Parts} : evF G n (K2 "Effect" "survivors") [effD p] = .ret (bagD p.2.2) [none] := by
  obtain ⟨m, rfl⟩ := up hn
  rw [evF_succ E.f_sur rfl]
  simp [runF, BG.f_Effect_survivors, opd, retV, getAttr, effD, fld_ok E, partsD, fins, List.lookup_cons]
theorem ev_con {n : Nat} (hn : 3 ≤ n) {p : Parts} {c : Bag} (h : POk p c) (l1 : p.1.length + p.2.2.length < LINE) : evF G n (K2 "Effect" "consumed") [effD p] = .ret (bagD c) [none] := by
  obtain ⟨m, rfl⟩ := up (show 1 ≤ n by omega)
  rw [evF_succ E.f_con rfl]
  have e1 := sub' B (n := m) (by omega) l1
  rw [h.sub] at e1
  simp [runF, BG.f_Effect_consumed, opd, retV, getAttr, effD, fld_ok E, partsD, fins, List.lookup_cons, callX, B.subtract, callO, ownSlots, nodupN, e1, optB, backTo]
theorem ev_need {n : Nat} (hn : 2 ≤ n) {p : Parts} (l1 : p.1.length ≤ LINE) (l2 : p.2.2.length ≤ LINE) : evF G n (K2 "Effect" "needed") [effD p] = .ret (.int (p.2.1 - totalB p.1 + totalB p.2.2)) [none] := by
  obtain ⟨m, rfl⟩ := up (show 1 ≤ n by omega)
  rw [evF_succ E.f_need rfl]
  have e1 := total' B (n := m) (by omega) l1
  have e2 := total' B (n := m) (by omega) l2
  simp [runF, BG.f_Effect_needed, opd, retV, getAttr, effD, fld_ok E, partsD, fins, List.lookup_cons, callX, B.total, callO, ownSlots, nodupN, e1, e2, backTo]
/-- the properties, read -/
theorem at_ins {n : Nat} (hn : 1 ≤ n) {p : Parts} {i : Nat} {e : Env} (h : e[i]? = some (some (effD p))) : getAttr G (evF G n) (.slot i) "inserted" e = .ok (bagD p.1) e := by
  have z := ev_ins B E hn (p := p)
  have h' : e[i]? = some (some (.ins false "Effect" [("own_parts" : Str)] [partsD p])) := h
  unfold effD at z
  simp [getAttr, h', List.lookup_cons, E.m_ins, callX, E.f_ins, callO, ownSlots, nodupN, z, backTo]
theorem at_rem {n : Nat} (hn : 1 ≤ n) {p : Parts} {i : Nat} {e : Env} (h : e[i]? = some (some (effD p))) : getAttr G (evF G n) (.slot i) "removals" e = .ok (.int p.2.1) e := by
  have z := ev_rem B E hn (p := p)
  have h' : e[i]? = some (some (.ins false "Effect" [("own_parts" : Str)] [partsD p])) := h
  unfold effD at z
  simp [getAttr, h', List.lookup_cons, E.m_rem, callX, E.f_rem, callO, ownSlots, nodupN, z, backTo]
theorem at_sur {n : Nat} (hn : 1 ≤ n) {p : Parts} {i : Nat} {e : Env} (h : e[i]? = some (some (effD p))) : getAttr G (evF G n) (.slot i) "survivors" e = .ok (bagD p.2.2) e := by
  have z := ev_sur B E hn (p := p)
  have h' : e[i]? = some (some (.ins false "Effect" [("own_parts" : Str)] [partsD p])) := h
  unfold effD at z
  simp [getAttr, h', List.lookup_cons, E.m_sur, callX, E.f_sur, callO, ownSlots, nodupN, z, backTo]
theorem at_con {n : Nat} (hn : 3 ≤ n) {p : Parts} {c : Bag} (hp : POk p c) (l1 : p.1.length + p.2.2.length < LINE) {i : Nat} {e : Env} (h : e[i]? = some (some (effD p))) : getAttr G (evF G n) (.slot i) "consumed" e = .ok (bagD c) e := by
  have z := ev_con B E hn hp l1
  have h' : e[i]? = some (some (.ins false "Effect" [("own_parts" : Str)] [partsD p])) := h
  unfold effD at z
  simp [getAttr, h', List.lookup_cons, E.m_con, callX, E.f_con, callO, ownSlots, nodupN, z, backTo]
theorem at_need {n : Nat} (hn : 2 ≤ n) {p : Parts} (l1 : p.1.length ≤ LINE) (l2 : p.2.2.length ≤ LINE) {i : Nat} {e : Env} (h : e[i]? = some (some (effD p))) : getAttr G (evF G n) (.slot i) "needed" e = .ok (.int (p.2.1 - totalB p.1 + totalB p.2.2)) e := by
  have z := ev_need B E hn (p := p) l1 l2
  have h' : e[i]? = some (some (.ins false "Effect" [("own_parts" : Str)] [partsD p])) := h
  unfold effD at z
  simp [getAttr, h', List.lookup_cons, E.m_need, callX, E.f_need, callO, ownSlots, nodupN, z, backTo]
end PL

-- Q9
set_option linter.all false
set_option maxRecDepth 100000
set_option maxHeartbeats 2000000
namespace PL
open PySem (Str)
/-! ### the law's own draws -/
structure DrawG (G : Prog) : Prop where
  pool : G.fns.lookup (K1 "_law_pool") = some BG.f__law_pool
  draw : G.fns.lookup (K1 "_law_draw") = some BG.f__law_draw
def poolD (a b : Int) : D := .lst true [.int a, .int b]
@[simp] theorem ow_pool (a b : Int) : (poolD a b).own = true := rfl
structure PoolOk (a b : Int) : Prop where
  pa : 0 ≤ a
  pb : 0 ≤ b
  bb : b < 2147483647
@[simp] theorem pool0 (a b : Int) : subscr (poolD a b) (.int 0) = some (.int a) := sub_l0 true _ _
@[simp] theorem pool1 (a b : Int) : subscr (poolD a b) (.int 1) = some (.int b) := sub_l1 true _ _ _
@[simp] theorem set0 (a b x : Int) : setAt (poolD a b) (.int 0) (.int x) = some (poolD x b) := by
  have : place 2 0 = some 0 := by decide
  simp [poolD, setAt, this]
@[simp] theorem set1 (a b x : Int) : setAt (poolD a b) (.int 1) (.int x) = some (poolD a x) := by
  have : place 2 1 = some 1 := by decide
  simp [poolD, setAt, this]
theorem mul_sm {i j : Int} (h : small64 j = true) : mulOk i j = true := by unfold mulOk; rw [h]; simp
theorem mul_sm1 {i j : Int} (h : small64 i = true) : mulOk i j = true := by unfold mulOk; rw [h]; simp
theorem s64 {i : Int} (h : -(2 ^ 64) < i) (h2 : i < 2 ^ 64) : small64 i = true := by unfold small64; exact decide_eq_true ⟨h, h2⟩
theorem div_ok {j : Int} (h : 0 < j) (h2 : j.natAbs < 2 ^ 9000) : divOk j = true := by
  unfold divOk
  have : j.natAbs.log2 < 9000 := (Nat.log2_lt (by omega)).mpr h2
  exact decide_eq_true ⟨h, this⟩
def poolTail : List PS := [.asg (.nm 3) (.blt .abs [(.var 2)]),
      .asg (.nm 4) (.bin .Mod (.bin .Mult (.bin .Add (.bin .Add (.bin .Add (.bin .Mod (.var 3) (.lit (.int 2147483629))) (.bin .Mult (.bin .Mult (.lit (.int 7919)) (.var 1)) (.var 1))) (.bin .Mult (.lit (.int 31)) (.var 1))) (.lit (.int 17))) (.lit (.int 48271))) (.lit (.int 2147483647))),
      .ret (.lst [(.bin .Mult (.var 3) (.blt .int [(.cmp .GtE (.var 3) (.bin .Pow (.lit (.int 10)) (.lit (.int 18))))])), (.bin .Mod (.bin .Mult (.var 4) (.var 4)) (.lit (.int 2147483629)))])]
def poolS1 : PS := .asg (.nm 2) (.bin .Add (.bin .Mult (.lit (.int 11)) (.blt .sum [(.sl (.var 0) none (some (.lit (.int 63))))])) (.var 1))
def poolS2 : PS := .ite (.val (.cmp .Lt (.var 1) (.blt .len [(.var 0)]))) [.asg (.nm 2) (.sub (.var 0) (.var 1))] []
theorem pool_body : BG.f__law_pool.body = poolS1 :: poolS2 :: poolTail := rfl
variable {G : Prog} (R : DrawG G)
include R
theorem ev_draw {n : Nat} (hn : 1 ≤ n) {a b m : Int} (h : PoolOk a b) (hm : 0 < m) (hm2 : m.natAbs < 2 ^ 9000) :
    ∃ r a' b', evF G n (K1 "_law_draw") [poolD a b, .int m] = .ret (.int r) [some (poolD a' b'), none] ∧ 0 ≤ r ∧ r < m ∧ PoolOk a' b' := by
  obtain ⟨k, rfl⟩ := up hn
  rw [evF_succ R.draw rfl]
  by_cases ha : 0 < a
  · refine ⟨a % m, a / m, b, ?_, Int.emod_nonneg _ (by omega), Int.emod_lt_of_pos _ hm, ⟨Int.ediv_nonneg h.pa (by omega), h.pb, h.bb⟩⟩
    simp [runF, BG.f__law_draw, opd, retV, test, ha, asgT, bin_mod hm, bin_fdiv (div_ok hm hm2), putBack, fins]
  · have hb := h.pb
    have hbb := h.bb
    have m1 : mulOk b 48271 = true := mul_sm (by decide)
    have b1 : 0 ≤ (b * 48271 + 11) % 2147483647 := Int.emod_nonneg _ (by decide)
    have b2 : (b * 48271 + 11) % 2147483647 < 2147483647 := Int.emod_lt_of_pos _ (by decide)
    generalize hc : (b * 48271 + 11) % 2147483647 = c at b1 b2
    have m2 : mulOk c c = true := mul_sm (s64 (by omega) (by omega))
    have p1 : (0 : Int) < 2147483647 := by decide
    have p2 : (0 : Int) < 2147483629 := by decide
    have d16 : divOk 16 = true := by decide
    refine ⟨c * c % 2147483629 / 16 % m, a, c, ?_, Int.emod_nonneg _ (by omega), Int.emod_lt_of_pos _ hm, ⟨h.pa, b1, b2⟩⟩
    simp [runF, BG.f__law_draw, opd, retV, test, ha, asgT, bin_mul m1, bin_mul m2, bin_mod p1, bin_mod p2, bin_mod hm, bin_fdiv d16, putBack, fins, hc]
theorem ev_pool {n : Nat} (hn : 1 ≤ n) {ns : List Int} {k : Int} (hk : 0 ≤ k) (hk2 : k < 1000) :
    ∃ a b, evF G n (K1 "_law_pool") [.scr ns, .int k] = .ret (poolD a b) [none, none] ∧ PoolOk a b := by
  obtain ⟨m, rfl⟩ := up hn
  rw [evF_succ R.pool rfl]
  have sl : slice (.scr ns) none (some 63) = some (.lst true (((ns.take (bnd ns.length ns.length (some 63))).drop (bnd ns.length 0 none)).map D.int)) := rfl
  have e1 : ∀ l : List Int, intL (l.map D.int) = some l := fun l => by have := intsOf_map l id; simpa using this
  have fin : ∀ (cell : Int), ∃ a b e, PoolOk a b ∧ evSs G (evF G m) poolTail [some (.scr ns), some (.int k), some (.int cell), none, none] = .ok (.rt (poolD a b)) (some (.scr ns) :: some (.int k) :: e) := fun cell => by
    have g0 : 0 ≤ (if cell < 0 then -cell else cell) := by split <;> omega
    generalize hg : (if cell < 0 then -cell else cell) = g at g0
    have b1 : 0 ≤ ((g % 2147483629 + 7919 * k * k + 31 * k + 17) * 48271) % 2147483647 := Int.emod_nonneg _ (by decide)
    have b2 : ((g % 2147483629 + 7919 * k * k + 31 * k + 17) * 48271) % 2147483647 < 2147483647 := Int.emod_lt_of_pos _ (by decide)
    generalize hc : ((g % 2147483629 + 7919 * k * k + 31 * k + 17) * 48271) % 2147483647 = c at b1 b2
    have m0 : mulOk 7919 k = true := mul_sm1 (by decide)
    have m1 : mulOk (7919 * k) k = true := mul_sm (s64 (by omega) (by omega))
    have m2 : mulOk 31 k = true := mul_sm1 (by decide)
    have m3 : ∀ i, mulOk i 48271 = true := fun i => mul_sm (by decide)
    have m4 : mulOk c c = true := mul_sm (s64 (by omega) (by omega))
    have p1 : (0 : Int) < 2147483647 := by decide
    have p2 : (0 : Int) < 2147483629 := by decide
    have pw : binop .Pow (.int 10) (.int 18) = some (.int 1000000000000000000) := by decide
    have mb : ∀ q : Bool, mulOk g (if q = true then 1 else 0) = true := fun q => mul_sm (by cases q <;> decide)
    have mb2 := mb (decide (1000000000000000000 ≤ g))
    simp only [decide_eq_true_eq] at mb2
    refine ⟨g * (if 1000000000000000000 ≤ g then 1 else 0), c * c % 2147483629, [some (.int cell), some (.int g), some (.int c)], ⟨?_, Int.emod_nonneg _ (by decide), ?_⟩, ?_⟩
    · clear hg hc mb2 mb m4 m3
      split <;> omega
    · have := Int.emod_lt_of_pos (c * c) p2; omega
    · simp [poolTail, opd, retV, asgT, bltin, blt1, hg, bin_mul m0, bin_mul m1, bin_mul m2, bin_mul (m3 _), bin_mul m4, bin_mod p1, bin_mod p2, hc, pw, intD, bin_mul mb2, poolD, LINE]
  have m11 : ∀ i, mulOk 11 i = true := fun i => mul_sm1 (by decide)
  have st1 : evS G (evF G m) poolS1 [some (.scr ns), some (.int k), none, none, none] = .ok .nx [some (.scr ns), some (.int k), some (.int (11 * sumI ((ns.take (bnd ns.length ns.length (some 63))).drop (bnd ns.length 0 none)) + k)), none, none] := by
    simp only [poolS1]
    simp [opd, asgT, sl, intOf, bltin, blt1, intsOf, listOf, e1, bin_mul (m11 _)]
    have := e1 ((ns.take (bnd ns.length ns.length (some 63))).drop (bnd ns.length 0 none))
    simp only [List.map_drop, List.map_take] at this
    simp [this, bin_mul (m11 _)]
  have fi : ∀ (x y : D) (e : Env) (hx : x.own = false) (hy : y.own = false), fins BG.f__law_pool.asg 0 [x, y] (some x :: some y :: e) = [none, none] := fun x y e hx hy => by simp [fins, hx, hy]
  by_cases hl : k < ns.length
  · have pl : place ns.length k = some k.toNat := by unfold place; rw [if_pos hk, if_pos hl]
    have hk3 : k.toNat < ns.length := by omega
    have sb : subscr (.scr ns) (.int k) = some (.int ns[k.toNat]) := by
      simp only [subscr, pl, Option.bind_some]
      rw [List.getElem?_eq_getElem hk3]; rfl
    obtain ⟨a, b, e, h1, h2⟩ := fin ns[k.toNat]
    refine ⟨a, b, ?_, h1⟩
    have st2 : evS G (evF G m) poolS2 [some (.scr ns), some (.int k), some (.int (11 * sumI ((ns.take (bnd ns.length ns.length (some 63))).drop (bnd ns.length 0 none)) + k)), none, none] = .ok .nx [some (.scr ns), some (.int k), some (.int ns[k.toNat]), none, none] := by
      simp [poolS2, opd, test, asgT, bltin, blt1, lenD, hl, sb]
    unfold runF
    rw [pool_body]
    show (match evSs G (evF G m) (poolS1 :: poolS2 :: poolTail) [some (.scr ns), some (.int k), none, none, none] with
      | .ok (.rt d) e => CR.ret d (fins BG.f__law_pool.asg 0 [.scr ns, .int k] e)
      | .ok .nx e => CR.ret .non (fins BG.f__law_pool.asg 0 [.scr ns, .int k] e)
      | .exc x e => CR.exc x (fins BG.f__law_pool.asg 0 [.scr ns, .int k] e)
      | _ => .bad) = _
    rw [ss_nx st1, ss_nx st2, h2]
    dsimp only
    rw [fi _ _ _ rfl rfl]
  · obtain ⟨a, b, e, h1, h2⟩ := fin (11 * sumI ((ns.take (bnd ns.length ns.length (some 63))).drop (bnd ns.length 0 none)) + k)
    refine ⟨a, b, ?_, h1⟩
    have st2 : evS G (evF G m) poolS2 [some (.scr ns), some (.int k), some (.int (11 * sumI ((ns.take (bnd ns.length ns.length (some 63))).drop (bnd ns.length 0 none)) + k)), none, none] = .ok .nx [some (.scr ns), some (.int k), some (.int (11 * sumI ((ns.take (bnd ns.length ns.length (some 63))).drop (bnd ns.length 0 none)) + k)), none, none] := by
      simp [poolS2, opd, test, bltin, blt1, lenD, hl]
    unfold runF
    rw [pool_body]
    show (match evSs G (evF G m) (poolS1 :: poolS2 :: poolTail) [some (.scr ns), some (.int k), none, none, none] with
      | .ok (.rt d) e => CR.ret d (fins BG.f__law_pool.asg 0 [.scr ns, .int k] e)
      | .ok .nx e => CR.ret .non (fins BG.f__law_pool.asg 0 [.scr ns, .int k] e)
      | .exc x e => CR.exc x (fins BG.f__law_pool.asg 0 [.scr ns, .int k] e)
      | _ => .bad) = _
    rw [ss_nx st1, ss_nx st2, h2]
    dsimp only
    rw [fi _ _ _ rfl rfl]
end PL

-- M4
set_option linter.all false
set_option maxRecDepth 100000
set_option maxHeartbeats 1000000
namespace PL
open PySem (Str)
theorem level_le_total {b : Bag} (h : ∀ p ∈ b, 0 ≤ p.2) (x : Int) : levelB b x ≤ totalB b := by
  obtain ⟨y, hy⟩ := total_level (b := b)
  rw [← hy (max x y) (by omega)]
  exact level_mono h (by omega)
theorem join_id {s : Parts} {c : Bag} (h : POk s c) : joinP idP s = s := by
  obtain ⟨i, r, s⟩ := s
  rw [join_sub h]
  refine Prod.ext ?_ (Prod.ext ?_ ?_)
  · exact canon_ext (addB_canon canon_nil) h.i fun x => by
      have := addB_level canon_nil h.i.nn x
      simp only [level_nil] at this
      show levelB (addB [] i) x = levelB i x
      rw [this]; omega
  · show 0 + r = r
    omega
  · have ca := addB_canon (b := c) canon_nil
    have lc : ∀ x, levelB (addB [] c) x = levelB c x := fun x => by rw [addB_level canon_nil h.cc.nn]; simp
    refine canon_ext (addB_canon h.s) h.s fun x => ?_
    show levelB (addB s (dropB (addB [] c) r)) x = levelB s x
    rw [addB_level h.s (dropB_canon ca _).nn, dropB_level ca h.nn, lc]
    have h1 := level_le_total h.cc.nn x
    have h2 : totalB c ≤ r := h.rem
    have h3 : max 0 (levelB c x - r) = 0 := by omega
    have h4 : max 0 (levelB c x - (i, r, s).snd.fst) = 0 := h3
    rw [h4]
    show levelB s x + 0 = levelB s x
    omega
theorem lvl_one {y c x : Int} (hc : 0 ≤ c) : levelB (scaleB [(y, 1)] c) x = if y ≤ x then c else 0 := by
  rw [scaleB_level _ hc, level_cons, level_nil]
  split <;> simp
/-- a step that inserts -/
def insP (y c : Int) : Parts := (scaleB [(y, 1)] c, 0, scaleB [(y, 1)] c)
def remP (c : Int) : Parts := ([], c, [])
theorem ji_i {f : Parts} {c1 : Bag} (h : POk f c1) {y c : Int} (hc : 0 ≤ c) (x : Int) : levelB (joinP f (insP y c)).1 x = levelB f.1 x + if y ≤ x then c else 0 := by
  have z := join_i h (ins_ok (x := y) (c := c)) x
  have e : levelB (joinP f (insP y c)).1 x = levelB f.1 x + levelB (scaleB [(y, 1)] c) x := z
  rw [e, lvl_one hc]
theorem ji_s {f : Parts} {c1 : Bag} (h : POk f c1) {y c : Int} (hc : 0 ≤ c) (x : Int) : levelB (joinP f (insP y c)).2.2 x = levelB f.2.2 x + if y ≤ x then c else 0 := by
  have z := join_s h (ins_ok (x := y) (c := c)) x
  have e : levelB (joinP f (insP y c)).2.2 x = levelB (scaleB [(y, 1)] c) x + max 0 (levelB f.2.2 x + levelB [] x - 0) := z
  rw [e, lvl_one hc, level_nil]
  have := level_nonneg h.s.nn x
  have h2 : max 0 (levelB f.2.2 x + 0 - 0) = levelB f.2.2 x := by omega
  rw [h2]; omega
theorem ji_r {f : Parts} {y c : Int} : (joinP f (insP y c)).2.1 = f.2.1 := by unfold joinP insP; exact Int.add_zero _
theorem jr_i {f : Parts} {c1 : Bag} (h : POk f c1) {c : Int} (hc : 0 ≤ c) (x : Int) : levelB (joinP f (remP c)).1 x = levelB f.1 x := by
  have z := join_i h (rem_ok hc) x
  have e : levelB (joinP f (remP c)).1 x = levelB f.1 x + levelB [] x := z
  rw [e, level_nil]; omega
theorem jr_s {f : Parts} {c1 : Bag} (h : POk f c1) {c : Int} (hc : 0 ≤ c) (x : Int) : levelB (joinP f (remP c)).2.2 x = max 0 (levelB f.2.2 x - c) := by
  have z := join_s h (rem_ok hc) x
  have e : levelB (joinP f (remP c)).2.2 x = levelB [] x + max 0 (levelB f.2.2 x + levelB [] x - c) := z
  rw [e, level_nil]; omega
theorem jr_r {f : Parts} {c : Int} : (joinP f (remP c)).2.1 = f.2.1 + c := by unfold joinP remP; rfl
/-! ### bags of one, two numbers -/
theorem canon1 {x a : Int} (ha : 0 < a) : Canon [(x, a)] := ⟨List.pairwise_singleton _ _, fun p hp => by simp at hp; subst hp; exact ha⟩
theorem canon2 {x y a b : Int} (h : x < y) (ha : 0 < a) (hb : 0 < b) : Canon [(x, a), (y, b)] := by
  refine ⟨List.pairwise_cons.mpr ⟨fun q hq => ?_, List.pairwise_singleton _ _⟩, fun p hp => ?_⟩
  · simp at hq; subst hq; exact h
  · simp at hp; rcases hp with rfl | rfl
    · exact ha
    · exact hb
theorem lvl1 (x a z : Int) : levelB [(x, a)] z = if x ≤ z then a else 0 := by rw [level_cons, level_nil]; omega
theorem lvl2 (x a y b z : Int) : levelB [(x, a), (y, b)] z = (if x ≤ z then a else 0) + if y ≤ z then b else 0 := by rw [level_cons, lvl1]
/-! ### equal data compared -/
mutual
theorem eqv_refl : ∀ d : D, d.plain = true → D.eqv d d = true
  | .non, _ => rfl
  | .bl b, _ => by simp [D.eqv]
  | .int i, _ => by simp [D.eqv]
  | .str s, _ => by simp [D.eqv]
  | .tup ds, h => by rw [D.eqv]; exact eqvL_refl ds (by rw [D.plain] at h; exact h)
  | .lst o ds, h => by rw [D.eqv]; exact eqvL_refl ds (by rw [D.plain] at h; exact h)
  | .dct _ _ _, h => by simp [D.plain] at h
  | .set _, h => by simp [D.plain] at h
  | .ins _ _ _ _, h => by simp [D.plain] at h
  | .exo _ _ _, h => by simp [D.plain] at h
  | .glb _, h => by simp [D.plain] at h
  | .scr _, h => by simp [D.plain] at h
theorem eqvL_refl : ∀ ds : List D, D.plainL ds = true → D.eqvL ds ds = true
  | [], _ => rfl
  | d :: ds, h => by
    rw [D.plainL, Bool.and_eq_true] at h
    rw [D.eqvL, eqv_refl d h.1, eqvL_refl ds h.2]; rfl
end
/-- the same items in two lists -/
theorem ne_same {o o' : Bool} {ds : List D} (hp : D.plainL ds = true) (hd : D.depthL ds ≤ 50) : cmpop .NotEq (.lst o ds) (.lst o' ds) = some false := by
  have p1 : D.plain (.lst o ds) = true := by rw [D.plain]; exact hp
  have p2 : D.plain (.lst o' ds) = true := by rw [D.plain]; exact hp
  have d1 : D.depth (.lst o ds) ≤ 60 := by rw [D.depth]; omega
  have d2 : D.depth (.lst o' ds) ≤ 60 := by rw [D.depth]; omega
  have e : D.eqv (.lst o ds) (.lst o' ds) = true := by rw [D.eqv]; exact eqvL_refl ds hp
  simp [cmpop, pyEq, p1, p2, d1, d2, e]
end PL

-- Q10
set_option linter.all false
set_option maxRecDepth 100000
set_option maxHeartbeats 2000000
namespace PL
open PySem (Str)
/-! ### effects on heaps -/
structure EffH (G : Prog) : Prop where
  m_pool : G.meth.lookup (("Effect" : Str), ("pool" : Str)) = some (.inst, K2 "Effect" "pool")
  m_apply : G.meth.lookup (("Effect" : Str), ("apply" : Str)) = some (.inst, K2 "Effect" "apply")
  m_removed : G.meth.lookup (("Effect" : Str), ("removed" : Str)) = some (.inst, K2 "Effect" "removed")
  f_pool : G.fns.lookup (K2 "Effect" "pool") = some BG.f_Effect_pool
  f_apply : G.fns.lookup (K2 "Effect" "apply") = some BG.f_Effect_apply
structure AtG (G : Prog) : Prop where
  check_number : G.fns.lookup (K1 "check_number") = some BG.f_check_number
  level : G.fns.lookup (K1 "level") = some BG.f_level
  at_most : G.fns.lookup (K1 "at_most") = some BG.f_at_most
variable {G : Prog} (B : BagG G) (E : EffG G) (H : EffH G) (A : AtG G)
include B A in
theorem ev_at_most {n : Nat} (hn : 4 ≤ n) {b : Bag} {x : Int} (hb : Canon b) (hl : b.length < LINE) : evF G n (K1 "at_most") [bagD b, .int x] = .ret (.int (levelB b x)) [none, none] := by
  obtain ⟨m, rfl⟩ := up (show 1 ≤ n by omega)
  rw [evF_succ A.at_most rfl]
  have e1 := cbag' B (n := m) (by omega) hb hl
  obtain ⟨q, rfl⟩ := up (show 2 ≤ m by omega)
  have e2 : evF G (q + 2) (K1 "check_number") [.int x] = .ret .non [none] := by
    rw [evF_succ A.check_number rfl]
    have := isint' B (n := q + 1) (by omega) x
    simp [runF, BG.f_check_number, opd, retV, test, callX, B.is_integer, callO, ownSlots, nodupN, this, backTo, fins]
  have e3 := ev_level A.level (n := q + 1) (b := b) (x := x) (by omega)
  simp [runF, BG.f_at_most, opd, retV, callX, B.check_bag, A.check_number, A.level, callO, ownSlots, nodupN, e1, e2, e3, backTo, fins]
include B E H
theorem ev_pool_eff {n : Nat} (hn : 5 ≤ n) {p : Parts} {c h : Bag} (hp : POk p c) (l1 : p.1.length + p.2.2.length < LINE) (hh : Canon h) (l2 : h.length + c.length < LINE) (hs : p.2.1 - totalB p.1 + totalB p.2.2 ≤ totalB h) :
    evF G n (K2 "Effect" "pool") [effD p, bagD h] = .ret (bagD (addB h c)) [none, none] := by
  obtain ⟨m, rfl⟩ := up (show 1 ≤ n by omega)
  rw [evF_succ H.f_pool rfl]
  have e1 := cbag' B (n := m) (by omega) hh (by omega)
  have e2 := total' B (n := m) (b := h) (by omega) (by omega)
  have e3 := at_need B E (n := m) (by omega) (p := p) (by omega) (by omega) (i := 0) (e := [some (effD p), some (bagD h)]) rfl
  have e4 := at_con B E (n := m) (by omega) hp l1 (i := 0) (e := [some (effD p), some (bagD h)]) rfl
  have e5 := add' B (n := m) (a := h) (b := c) (by omega) l2
  have lt : ¬ totalB h < p.2.1 - totalB p.1 + totalB p.2.2 := by omega
  simp [runF, BG.f_Effect_pool, opd, retV, test, callX, B.check_bag, B.total, B.add, callO, ownSlots, nodupN, e1, e2, e3, e4, e5, lt, backTo, fins]
theorem mk_pool {p : Parts} : methK G (effD p) "pool" = some (true, K2 "Effect" "pool", ("Effect" : Str)) := by
  simp [methK, effD, H.m_pool, H.f_pool]
theorem ev_apply {n : Nat} (hn : 6 ≤ n) {p : Parts} {c h : Bag} (hp : POk p c) (l1 : p.1.length + p.2.2.length < LINE) (hh : Canon h) (l2 : h.length + c.length < LINE) (l3 : (addB h c).length < LINE) (l4 : p.2.2.length + (dropB (addB h c) p.2.1).length < LINE) (hs : p.2.1 - totalB p.1 + totalB p.2.2 ≤ totalB h) :
    evF G n (K2 "Effect" "apply") [effD p, bagD h] = .ret (bagD (addB p.2.2 (dropB (addB h c) p.2.1))) [none, none] := by
  obtain ⟨m, rfl⟩ := up (show 1 ≤ n by omega)
  rw [evF_succ H.f_apply rfl]
  have e1 := ev_pool_eff B E H (n := m) (by omega) hp l1 hh l2 hs
  have e2 := at_sur B E (n := m) (by omega) (p := p) (i := 0) (e := [some (effD p), some (bagD h)]) rfl
  have e3 := at_rem B E (n := m) (by omega) (p := p) (i := 0) (e := [some (effD p), some (bagD h)]) rfl
  have e4 := drop' B (n := m) (b := addB h c) (c := p.2.1) (by omega) l3
  have e5 := add' B (n := m) (a := p.2.2) (b := dropB (addB h c) p.2.1) (by omega) l4
  have k := mk_pool B E H (p := p)
  have ek : isVar (PE.meth (.var 0) "pool" [.var 1]) = none := rfl
  simp [runF, BG.f_Effect_apply, opd, retV, test, callX, B.drop, B.add, H.f_pool, callO, ownSlots, nodupN, e1, e2, e3, e4, e5, k, backTo, fins]
/-- the levels of a result -/
theorem apply_level {p : Parts} {c h : Bag} (hp : POk p c) (hh : Canon h) (x : Int) : levelB (addB p.2.2 (dropB (addB h c) p.2.1)) x = max (levelB p.2.2 x) (levelB h x + (levelB p.1 x - p.2.1)) := by
  have ca := addB_canon (b := c) hh
  rw [addB_level hp.s (dropB_canon ca _).nn, dropB_level ca hp.nn, addB_level hh hp.cc.nn, hp.lev]
  omega
end PL

-- M5
set_option linter.all false
set_option maxRecDepth 100000
set_option maxHeartbeats 1000000
namespace PL
open PySem (Str)
/-! ### programs joined -/
def Prg.app : Prg → Prg → Prg
  | .nil, q => q
  | .ins x c r, q => .ins x c (r.app q)
  | .rem c r, q => .rem c (r.app q)
  | .rep c p r, q => .rep c p (r.app q)
theorem app_items : ∀ (p q : Prg), (p.app q).items = p.items ++ q.items
  | .nil, q => rfl
  | .ins x c r, q => by rw [Prg.app, Prg.items, Prg.items, app_items r q]; rfl
  | .rem c r, q => by rw [Prg.app, Prg.items, Prg.items, app_items r q]; rfl
  | .rep c p r, q => by rw [Prg.app, Prg.items, Prg.items, app_items r q]; rfl
theorem app_nn : ∀ {p q : Prg}, p.nn → q.nn → (p.app q).nn
  | .nil, q, _, h => h
  | .ins x c r, q, h1, h => ⟨h1.1, app_nn (p := r) h1.2 h⟩
  | .rem c r, q, h1, h => ⟨h1.1, app_nn (p := r) h1.2 h⟩
  | .rep c p r, q, h1, h => ⟨h1.1, h1.2.1, app_nn (p := r) h1.2.2 h⟩
theorem app_kin {U : List Int} : ∀ {p q : Prg}, p.kin U → q.kin U → (p.app q).kin U
  | .nil, q, _, h => h
  | .ins x c r, q, h1, h => ⟨h1.1, app_kin (p := r) h1.2 h⟩
  | .rem c r, q, h1, h => app_kin (p := r) h1 h
  | .rep c p r, q, h1, h => ⟨h1.1, app_kin (p := r) h1.2 h⟩
theorem app_fit : ∀ {p q : Prg}, p.fit → q.fit → (p.app q).fit
  | .nil, q, _, h => h
  | .ins x c r, q, h1, h => app_fit (p := r) h1 h
  | .rem c r, q, h1, h => app_fit (p := r) h1 h
  | .rep c p r, q, h1, h => ⟨h1.1, h1.2.1, h1.2.2.1, h1.2.2.2.1, app_fit (p := r) h1.2.2.2.2 h⟩
theorem app_dep : ∀ (p q : Prg), (p.app q).dep = max p.dep q.dep
  | .nil, q => (Nat.zero_max _).symm
  | .ins x c r, q => by rw [Prg.app, Prg.dep, Prg.dep, app_dep r q]
  | .rem c r, q => by rw [Prg.app, Prg.dep, Prg.dep, app_dep r q]
  | .rep c p r, q => by rw [Prg.app, Prg.dep, Prg.dep, app_dep r q, Nat.max_assoc]
theorem app_parts : ∀ (p q : Prg) (a : Parts), (p.app q).parts a = q.parts (p.parts a)
  | .nil, q, a => rfl
  | .ins x c r, q, a => by rw [Prg.app, Prg.parts, Prg.parts, app_parts r q]
  | .rem c r, q, a => by rw [Prg.app, Prg.parts, Prg.parts, app_parts r q]
  | .rep c p r, q, a => by rw [Prg.app, Prg.parts, Prg.parts, app_parts r q]
/-- how many elementary steps -/
def Prg.mass : Prg → Int
  | .nil => 0
  | .ins _ c r => c + r.mass
  | .rem c r => c + r.mass
  | .rep c p r => c * p.mass + r.mass
theorem app_mass : ∀ (p q : Prg), (p.app q).mass = p.mass + q.mass
  | .nil, q => (Int.zero_add _).symm
  | .ins x c r, q => by rw [Prg.app, Prg.mass, Prg.mass, app_mass r q, Int.add_assoc]
  | .rem c r, q => by rw [Prg.app, Prg.mass, Prg.mass, app_mass r q, Int.add_assoc]
  | .rep c p r, q => by rw [Prg.app, Prg.mass, Prg.mass, app_mass r q, Int.add_assoc]
theorem mass_nn : ∀ {p : Prg}, p.nn → 0 ≤ p.mass
  | .nil, _ => Int.le_refl _
  | .ins x c r, h => by have := mass_nn (p := r) h.2; have := h.1; rw [Prg.mass]; omega
  | .rem c r, h => by have := mass_nn (p := r) h.2; have := h.1; rw [Prg.mass]; omega
  | .rep c p r, h => by
    have := mass_nn (p := r) h.2.2
    have := Int.mul_nonneg h.1 (mass_nn (p := p) h.2.1)
    rw [Prg.mass]; omega
/-- what is inserted and removed is at most the mass -/
theorem mass_parts : ∀ {p : Prg} {a : Parts} {c : Bag}, p.nn → POk a c → (∀ x, levelB (p.parts a).1 x ≤ levelB a.1 x + p.mass) ∧ (p.parts a).2.1 ≤ a.2.1 + p.mass
  | .nil, a, c, _, h => ⟨fun x => by rw [Prg.parts, Prg.mass]; omega, by rw [Prg.parts, Prg.mass]; omega⟩
  | .ins y k r, a, c, hn, h => by
    have z := mass_parts (p := r) hn.2 (join_ok h (ins_ok (x := y) (c := k)))
    have h0 := hn.1
    refine ⟨fun x => ?_, ?_⟩
    · have z1 := z.1 x
      rw [join_i h (ins_ok (x := y) (c := k))] at z1
      have l := lvl_one (y := y) (x := x) h0
      rw [Prg.parts, Prg.mass]
      dsimp only at z1
      rw [l] at z1
      have : (if y ≤ x then k else 0) ≤ k := by split <;> omega
      omega
    · have z2 := z.2
      rw [join_sub (ins_ok (x := y) (c := k))] at z2
      rw [Prg.parts, Prg.mass, join_sub (ins_ok (x := y) (c := k))]
      dsimp only at z2 ⊢
      omega
  | .rem k r, a, c, hn, h => by
    have z := mass_parts (p := r) hn.2 (join_ok h (rem_ok hn.1))
    have h0 := hn.1
    refine ⟨fun x => ?_, ?_⟩
    · have z1 := z.1 x
      rw [join_i h (rem_ok hn.1)] at z1
      rw [Prg.parts, Prg.mass]
      simp only [level_nil] at z1
      omega
    · have z2 := z.2
      rw [join_sub (rem_ok hn.1)] at z2
      rw [Prg.parts, Prg.mass, join_sub (rem_ok hn.1)]
      dsimp only at z2 ⊢
      omega
  | .rep k p r, a, c, hn, h => by
    obtain ⟨c2, hc⟩ := parts_ok hn.2.1 id_ok
    have zp := mass_parts (p := p) hn.2.1 id_ok
    have ro := rep_ok hc hn.1
    have z := mass_parts (p := r) hn.2.2 (join_ok h ro)
    refine ⟨fun x => ?_, ?_⟩
    · have z1 := z.1 x
      rw [join_i h ro, rep_i hn.1] at z1
      have y1 := zp.1 x
      have e0 : levelB idP.1 x = 0 := rfl
      rw [e0, Int.zero_add] at y1
      have := Int.mul_le_mul_of_nonneg_right y1 hn.1
      rw [Int.mul_comm p.mass k] at this
      rw [Prg.parts, Prg.mass]
      omega
    · have z2 := z.2
      rw [join_sub ro] at z2
      have y2 := zp.2
      have e0 : idP.2.1 = 0 := rfl
      rw [e0, Int.zero_add] at y2
      have := Int.mul_le_mul_of_nonneg_right y2 hn.1
      rw [Int.mul_comm p.mass k] at this
      have er := rep_r (p := p.parts idP) (k := k)
      rw [Prg.parts, Prg.mass, join_sub ro]
      rw [er] at z2
      rw [er]
      dsimp only at z2 ⊢
      omega
theorem entry_le {b : Bag} (hb : Canon b) {q : Int × Int} (hq : q ∈ b) : q.2 ≤ levelB b q.1 := by
  rw [nd_entry hb.nd hq]
  have := level_nonneg hb.nn (q.1 - 1)
  omega
/-! ### the sums of a program's steps -/
def Prg.sm (x : Int) : Prg → Int × Int → Int × Int
  | .nil, a => a
  | .ins y c r, a => r.sm x (a.1 + (if y ≤ x then c else 0), max (a.2 + (if y ≤ x then c else 0)) (if y ≤ x then c else 0))
  | .rem c r, a => r.sm x (a.1 + -c, max (a.2 + -c) 0)
  | .rep c p r, a => r.sm x (if c = 0 then (a.1 + 0, max (a.2 + 0) 0) else (a.1 + (p.sm x (0, 0)).1 * c, max (a.2 + (p.sm x (0, 0)).1 * c) ((p.sm x (0, 0)).2 + (c - 1) * max 0 (p.sm x (0, 0)).1)))
def sumP (x : Int) (a : Parts) : Int × Int := (levelB a.1 x - a.2.1, levelB a.2.2 x)
theorem sm_parts (x : Int) : ∀ {p : Prg} {a : Parts} {c : Bag}, p.nn → POk a c → p.sm x (sumP x a) = sumP x (p.parts a)
  | .nil, a, c, _, h => rfl
  | .ins y k r, a, c, hn, h => by
    rw [Prg.parts, ← sm_parts x (p := r) hn.2 (join_ok h (ins_ok (x := y) (c := k))), Prg.sm]
    congr 1
    have e1 := ji_i h (y := y) hn.1 x
    have e2 := ji_s h (y := y) hn.1 x
    have e3 := ji_r (f := a) (y := y) (c := k)
    unfold insP at e1 e2 e3
    unfold sumP
    rw [e1, e2, e3]
    have := level_nonneg h.s.nn x
    refine Prod.ext ?_ ?_ <;> dsimp only <;> omega
  | .rem k r, a, c, hn, h => by
    rw [Prg.parts, ← sm_parts x (p := r) hn.2 (join_ok h (rem_ok hn.1)), Prg.sm]
    congr 1
    have e1 := jr_i h hn.1 x
    have e2 := jr_s h hn.1 x
    have e3 := jr_r (f := a) (c := k)
    unfold remP at e1 e2 e3
    unfold sumP
    rw [e1, e2, e3]
    refine Prod.ext ?_ ?_ <;> dsimp only <;> omega
  | .rep k p r, a, c, hn, h => by
    obtain ⟨c2, hc⟩ := parts_ok hn.2.1 id_ok
    have zp := sm_parts x (p := p) hn.2.1 id_ok
    have e0 : sumP x idP = (0, 0) := rfl
    rw [e0] at zp
    obtain ⟨cr, ro⟩ : ∃ cr, POk (repP (p.parts idP) k) cr := ⟨_, rep_ok hc hn.1⟩
    rw [Prg.parts, ← sm_parts x (p := r) hn.2.2 (join_ok h ro), Prg.sm, zp]
    congr 1
    unfold sumP
    have er := rep_r (p := p.parts idP) (k := k)
    have e3 : (joinP a (repP (p.parts idP) k)).2.1 = a.2.1 + (p.parts idP).2.1 * k := by rw [join_sub ro]; show _ + _ = _; rw [er]
    rw [join_i h ro, join_s h ro, rep_i hn.1, e3, er]
    have lv := ro.lev x
    have hs0 := level_nonneg h.s.nn x
    by_cases hk : k = 0
    · subst hk
      have e0 : repP (p.parts idP) 0 = idP := by unfold repP; rfl
      rw [if_pos rfl]
      rw [e0] at lv ⊢
      have e1 : levelB idP.2.2 x = 0 := rfl
      have e2 : levelB idP.1 x = 0 := rfl
      rw [e1, e2] at lv
      rw [e1]
      simp only [Int.mul_zero, lv]
      refine Prod.ext ?_ ?_ <;> dsimp only <;> omega
    · have h0 := hn.1
      rw [if_neg hk, lv, rep_i hn.1, rep_s hc (by omega)]
      dsimp only
      have d1 : (levelB (p.parts idP).1 x - (p.parts idP).2.1) * k = levelB (p.parts idP).1 x * k - (p.parts idP).2.1 * k := Int.sub_mul _ _ _
      have d2 : max 0 (levelB (p.parts idP).1 x - (p.parts idP).2.1) * (k - 1) = (k - 1) * max 0 (levelB (p.parts idP).1 x - (p.parts idP).2.1) := Int.mul_comm _ _
      rw [d1, d2]
      refine Prod.ext ?_ ?_ <;> dsimp only <;> omega
theorem sm_app (x : Int) : ∀ (p q : Prg) (a : Int × Int), (p.app q).sm x a = q.sm x (p.sm x a)
  | .nil, q, a => rfl
  | .ins y c r, q, a => by rw [Prg.app, Prg.sm, Prg.sm, sm_app x r q]
  | .rem c r, q, a => by rw [Prg.app, Prg.sm, Prg.sm, sm_app x r q]
  | .rep c p r, q, a => by rw [Prg.app, Prg.sm, Prg.sm, sm_app x r q]
end PL

-- Q11
set_option linter.all false
set_option maxRecDepth 100000
set_option maxHeartbeats 2000000
namespace PL
open PySem (Str)
/-! ### the law's great programs -/
def U4 : List Int := [-4, -3, -2, -1, 0, 1, 2, 3, 4]
theorem mem_U4 {x : Int} (h : -4 ≤ x) (h2 : x ≤ 4) : x ∈ U4 := by
  have : x = -4 ∨ x = -3 ∨ x = -2 ∨ x = -1 ∨ x = 0 ∨ x = 1 ∨ x = 2 ∨ x = 3 ∨ x = 4 := by omega
  rcases this with h | h | h | h | h | h | h | h | h <;> subst h <;> decide
structure GPk (d : Nat) (L : Int) (p : Prg) : Prop where
  nn : p.nn
  kin : p.kin U4
  dep : p.dep ≤ d
  fit : p.fit
  mass : p.mass ≤ L
theorem GPk.app {d : Nat} {L M : Int} {p q : Prg} (h : GPk d L p) (k : GPk d M q) : GPk d (L + M) (p.app q) :=
  ⟨app_nn h.nn k.nn, app_kin h.kin k.kin, by rw [app_dep]; have := h.dep; have := k.dep; omega, app_fit h.fit k.fit, by rw [app_mass]; have := h.mass; have := k.mass; omega⟩
def E24 : Int := 1000000000000000000000000
/-- the mass of one step, of a program, at a depth -/
def gS : Nat → Int
  | 0 => E24
  | d + 1 => E24 * (3 * gS d)
theorem gS_pos : ∀ d, E24 ≤ gS d
  | 0 => Int.le_refl _
  | d + 1 => by have := gS_pos d; unfold gS; unfold E24 at *; omega
def BIG : Int := 10 ^ 110
theorem gS_le : ∀ {d : Nat}, d ≤ 3 → 3 * gS d < BIG := by
  intro d hd
  have : d = 0 ∨ d = 1 ∨ d = 2 ∨ d = 3 := by omega
  rcases this with rfl | rfl | rfl | rfl <;> decide
theorem BIG_le : BIG ≤ ((2 ^ 250 * 2 ^ 250 : Nat) : Int) := by decide +kernel
theorem small_of {a : Int} (h1 : 0 ≤ a) (h2 : a < BIG) : small a := by
  unfold small
  have e : (2 : Nat) ^ 500 = 2 ^ 250 * 2 ^ 250 := by rw [← Nat.pow_add]
  have : (2 : Nat) ^ 500 ≤ 2 ^ 300000 := Nat.pow_le_pow_right (by decide) (by decide)
  have h3 : a.natAbs < 2 ^ 250 * 2 ^ 250 := by
    have h4 : (a.natAbs : Int) < ((2 ^ 250 * 2 ^ 250 : Nat) : Int) := by rw [Int.natAbs_of_nonneg h1]; exact Int.lt_of_lt_of_le h2 BIG_le
    exact Int.ofNat_lt.mp h4
  rw [e] at this
  exact Nat.lt_of_lt_of_le h3 this
theorem gp_nil {d : Nat} : GPk d 0 .nil := ⟨trivial, trivial, Nat.zero_le _, trivial, Int.le_refl _⟩
theorem gp_ins {d : Nat} {x c : Int} (h : -4 ≤ x) (h2 : x ≤ 4) (h3 : 0 ≤ c) (h4 : c ≤ E24) : GPk d (gS d) (.ins x c .nil) :=
  ⟨⟨h3, trivial⟩, ⟨mem_U4 h h2, trivial⟩, Nat.zero_le _, trivial, by have := gS_pos d; rw [Prg.mass, Prg.mass]; omega⟩
theorem gp_rem {d : Nat} {c : Int} (h3 : 0 ≤ c) (h4 : c ≤ E24) : GPk d (gS d) (.rem c .nil) :=
  ⟨⟨h3, trivial⟩, trivial, Nat.zero_le _, trivial, by have := gS_pos d; rw [Prg.mass, Prg.mass]; omega⟩
theorem parts_small {p : Prg} (h : p.nn) {L : Int} (hm : p.mass ≤ L) (hL : L < BIG) : (∀ q ∈ (p.parts idP).1, small q.2) ∧ small (p.parts idP).2.1 := by
  obtain ⟨c, ok⟩ := parts_ok h id_ok
  have z := mass_parts h id_ok
  have e0 : ∀ x, levelB idP.1 x = 0 := fun x => rfl
  have e1 : idP.2.1 = 0 := rfl
  refine ⟨fun q hq => small_of (ok.i.nn q hq) ?_, small_of ok.nn ?_⟩
  · have a1 := entry_le ok.i hq
    have a2 := z.1 q.1
    rw [e0] at a2
    omega
  · have a2 := z.2
    rw [e1] at a2
    omega
theorem gp_rep {d : Nat} (hd : d ≤ 3) {c : Int} {p : Prg} (h : GPk d (3 * gS d) p) (h3 : 0 ≤ c) (h4 : c ≤ E24) : GPk (d + 1) (gS (d + 1)) (.rep c p .nil) := by
  obtain ⟨s1, s2⟩ := parts_small h.nn h.mass (gS_le hd)
  have eb : E24 < BIG := by decide
  have s3 : small c := small_of h3 (by omega)
  refine ⟨⟨h3, h.nn, trivial⟩, ⟨h.kin, trivial⟩, ?_, ⟨s3, s1, s2, h.fit, trivial⟩, ?_⟩
  · have := h.dep
    rw [Prg.dep, Prg.dep]; omega
  · rw [Prg.mass, Prg.mass, gS]
    have a := Int.mul_le_mul h4 h.mass (mass_nn h.nn) (by decide)
    omega
theorem app_lst {ds : List D} {d : D} (h : ds.length < LINE) : bmeth (.lst true ds) "append" [d] = some (.lst true (ds ++ [d.frz]), .non) := by
  simp [bmeth, h]
theorem sub_two {o : Bool} {r s t : Int} (h : 0 ≤ t) (h2 : t < 2) : subscr (.lst o [.int r, .int s]) (.int t) = some (.int (if t = 0 then r else s)) := by
  have : t = 0 ∨ t = 1 := by omega
  rcases this with rfl | rfl
  · rw [sub_l0]; rfl
  · rw [sub_l1]; rfl
theorem pw24 : binop .Pow (.int 10) (.int 24) = some (.int 1000000000000000000000000) := by decide
/-! ### drawn -/
def gpBody : List PS := BG.b__law_great_program_0
theorem rng0 {j : Int} (h : 0 ≤ j) (h2 : j < 1000) : items .rng [.int j] = some ((List.range (j - 0).toNat).map fun (k : Nat) => D.int (0 + (k : Int))) := by
  show rangeD 0 j = _
  unfold rangeD
  rw [if_pos ⟨by decide, by decide, by omega, by omega⟩]
variable {G : Prog} (R : DrawG G) (hgp : G.fns.lookup (K1 "_law_great_program") = some BG.f__law_great_program)
include R hgp
/-- one turn, given what a nested one draws -/
theorem gp_turn {n : Nat} (hn : 1 ≤ n) {d : Nat} (hd : d ≤ 3) {a b : Int} (q : PoolOk a b) {p : Prg} {k : Nat} {x y z : Option D} (hl : p.items.length < 1000) {L : Int} (hp : GPk d L p)
    (inner : ∀ d', d = d' + 1 → ∀ a b, PoolOk a b → ∃ p a' b', evF G n (K1 "_law_great_program") [poolD a b, .int d'] = .ret p.d [some (poolD a' b'), none] ∧ PoolOk a' b' ∧ GPk d' (3 * gS d') p) :
    ∃ p' a' b' x' y' z', (M.bind (asgT (.nm 3) (.int (0 + (k : Int)))) fun _ => evSs G (evF G n) BG.b__law_great_program_0) [some (poolD a b), some (.int d), some (.lst true p.items), x, y, z] = .ok .nx [some (poolD a' b'), some (.int d), some (.lst true p'.items), x', y', z'] ∧ PoolOk a' b' ∧ GPk d (L + gS d) p' ∧ p'.items.length = p.items.length + 1 := by
  obtain ⟨r1, a1, b1, p1, l1, u1, q1⟩ := ev_draw R (n := n) hn q (m := 5) (by decide) (by decide)
  obtain ⟨r2, a2, b2, p2, l2, u2, q2⟩ := ev_draw R (n := n) hn q1 (m := 4) (by decide) (by decide)
  obtain ⟨r3, a3, b3, p3, l3, u3, q3⟩ := ev_draw R (n := n) hn q2 (m := 1000000000000000000000000) (by decide) (by decide)
  obtain ⟨r4, a4, b4, p4, l4, u4, q4⟩ := ev_draw R (n := n) hn q3 (m := 2) (by decide) (by decide)
  obtain ⟨r5, a5, b5, p5, l5, u5, q5⟩ := ev_draw R (n := n) hn q4 (m := 9) (by decide) (by decide)
  have st := sub_two (o := true) (r := r2) (s := r3) l4 u4
  generalize hc : (if r4 = 0 then r2 else r3) = c at st
  have c0 : 0 ≤ c := by rw [← hc]; split <;> omega
  have c1 : c ≤ E24 := by rw [← hc]; unfold E24; split <;> omega
  have L2 : 2 ≤ LINE := by decide
  have L3 : 3 ≤ LINE := by decide
  have ap := fun v => app_lst (ds := p.items) (d := v) (by unfold LINE; omega)
  by_cases h1 : r1 < 2
  · have hs : -4 ≤ r5 - 4 := by omega
    have ht : r5 - 4 ≤ 4 := by omega
    refine ⟨p.app (.ins (r5 - 4) c .nil), a5, b5, some (.int (0 + (k : Int))), some (.int r1), some (.int c), ?_, q5, hp.app (gp_ins hs ht c0 c1), ?_⟩
    · rw [app_items]
      simp [BG.b__law_great_program_0, opd, test, asgT, callX, R.draw, callO, ownSlots, nodupN, p1, p2, p3, p4, p5, backTo, pw24, L2, L3, st, h1, bmOk, callBM, ap, putBack, Prg.items]
    · rw [app_items, List.length_append]; rfl
  · by_cases h2 : r1 < 3
    · refine ⟨p.app (.rem c .nil), a4, b4, some (.int (0 + (k : Int))), some (.int r1), some (.int c), ?_, q4, hp.app (gp_rem c0 c1), ?_⟩
      · rw [app_items]
        simp [BG.b__law_great_program_0, opd, test, asgT, callX, R.draw, callO, ownSlots, nodupN, p1, p2, p3, p4, p5, backTo, pw24, L2, L3, st, h1, h2, bmOk, callBM, ap, putBack, Prg.items]
      · rw [app_items, List.length_append]; rfl
    · match d, hd, hp, inner with
      | 0, hd, hp, inner =>
        refine ⟨p.app (.rem c .nil), a4, b4, some (.int (0 + (k : Int))), some (.int r1), some (.int c), ?_, q4, hp.app (gp_rem c0 c1), ?_⟩
        · rw [app_items]
          simp [BG.b__law_great_program_0, opd, test, asgT, callX, R.draw, callO, ownSlots, nodupN, p1, p2, p3, p4, p5, backTo, pw24, L2, L3, st, h1, h2, bmOk, callBM, ap, putBack, Prg.items]
        · rw [app_items, List.length_append]; rfl
      | d' + 1, hd, hp, inner =>
        obtain ⟨pi, a6, b6, p6, q6, g6⟩ := inner d' rfl a4 b4 q4
        have ne : ¬ ((d' : Int) + 1 = 0) := by omega
        have eq : (d' : Int) + 1 - 1 = d' := by omega
        unfold Prg.d at p6
        refine ⟨p.app (.rep c pi .nil), a6, b6, some (.int (0 + (k : Int))), some (.int r1), some (.int c), ?_, q6, hp.app (gp_rep (by omega) g6 c0 c1), ?_⟩
        · rw [app_items]
          simp [BG.b__law_great_program_0, opd, test, asgT, callX, R.draw, hgp, callO, ownSlots, nodupN, p1, p2, p3, p4, p6, backTo, pw24, L2, L3, st, h1, h2, ne, eq, bmOk, callBM, ap, putBack, Prg.items]
        · rw [app_items, List.length_append]; rfl
end PL

-- Q12
set_option linter.all false
set_option maxRecDepth 100000
set_option maxHeartbeats 2000000
namespace PL
open PySem (Str)
variable {G : Prog} (R : DrawG G) (hgp : G.fns.lookup (K1 "_law_great_program") = some BG.f__law_great_program)
include R hgp
theorem ev_gp : ∀ (d : Nat), d ≤ 3 → ∀ n, d + 2 ≤ n → ∀ a b, PoolOk a b → ∃ p a' b', evF G n (K1 "_law_great_program") [poolD a b, .int d] = .ret p.d [some (poolD a' b'), none] ∧ PoolOk a' b' ∧ GPk d (3 * gS d) p := by
  intro d
  induction d with
  | zero =>
    intro hd n hn a b q
    exact go 0 hd n hn a b q (fun d' e => by omega)
  | succ d ih =>
    intro hd n hn a b q
    refine go (d + 1) hd n hn a b q fun d' e a b q => ?_
    have : d' = d := by omega
    subst this
    exact ih (by omega) (n - 1) (by omega) a b q
where
  go (d : Nat) (hd : d ≤ 3) (n : Nat) (hn : d + 2 ≤ n) (a b : Int) (q : PoolOk a b)
    (inner : ∀ d', d = d' + 1 → ∀ a b, PoolOk a b → ∃ p a' b', evF G (n - 1) (K1 "_law_great_program") [poolD a b, .int d'] = .ret p.d [some (poolD a' b'), none] ∧ PoolOk a' b' ∧ GPk d' (3 * gS d') p) :
      ∃ p a' b', evF G n (K1 "_law_great_program") [poolD a b, .int d] = .ret p.d [some (poolD a' b'), none] ∧ PoolOk a' b' ∧ GPk d (3 * gS d) p := by
    obtain ⟨m, rfl⟩ := up (show 1 ≤ n by omega)
    rw [show m + 1 - 1 = m from rfl] at inner
    rw [evF_succ hgp rfl]
    obtain ⟨r0, a0, b0, p0, l0, u0, q0⟩ := ev_draw R (n := m) (by omega) q (m := 3) (by decide) (by decide)
    have loop := forL_map (inj := fun (k : Nat) => D.int (0 + (k : Int))) (l := List.range (1 + r0 - 0).toNat) (w := []) (turn := fun d => M.bind (asgT (.nm 3) d) fun _ => evSs G (evF G m) BG.b__law_great_program_0)
      (e := [some (poolD a0 b0), some (.int d), some (.lst true []), none, none, none]) (fun done e => ∃ p a b x y z, e = [some (poolD a b), some (.int d), some (.lst true p.items), x, y, z] ∧ PoolOk a b ∧ GPk d (done.length * gS d) p ∧ p.items.length = done.length)
      ⟨.nil, a0, b0, none, none, none, rfl, q0, by simpa using gp_nil, rfl⟩ (by
        rintro done k rest e hl ⟨p, a, b, x, y, z, rfl, qq, gg, ll⟩
        have hk : done.length < 3 := by
          have := congrArg List.length hl
          simp at this
          omega
        obtain ⟨p', a', b', x', y', z', t1, t2, t3, t4⟩ := gp_turn R hgp (n := m) (by omega) hd qq (p := p) (k := k) (x := x) (y := y) (z := z) (by omega) gg inner
        refine ⟨_, .inl t1, ⟨p', a', b', x', y', z', rfl, t2, ?_, ?_⟩, rfl⟩
        · have e : (done.length : Int) * gS d + gS d = ((done ++ [k]).length : Int) * gS d := by
            rw [List.length_append]
            show _ = ((done.length + 1 : Nat) : Int) * gS d
            rw [Int.natCast_add, Int.add_mul]; omega
          rw [← e]; exact t3
        · rw [t4, ll, List.length_append]; rfl)
    obtain ⟨e', l1, p, a', b', x, y, z, rfl, qq, gg, ll⟩ := loop
    have lenr : ((List.range (1 + r0 - 0).toNat).length : Int) * gS d ≤ 3 * gS d := by
      have g0 := gS_pos d
      have e24 : (0 : Int) ≤ E24 := by decide
      exact Int.mul_le_mul_of_nonneg_right (by rw [List.length_range]; omega) (by omega)
    refine ⟨p, a', b', ?_, qq, ⟨gg.nn, gg.kin, gg.dep, gg.fit, Int.le_trans gg.mass lenr⟩⟩
    have lp : evS G (evF G m) BG.l__law_great_program_0 [some (poolD a b), some (.int d), some (.lst true []), none, none, none] = .ok .nx [some (poolD a' b'), some (.int d), some (.lst true p.items), x, y, z] := by
      unfold BG.l__law_great_program_0
      rw [ev_for (os := [.val (.int (1 + r0))]) (ds := [.int (1 + r0)]) (xs := (List.range (1 + r0 - 0).toNat).map fun (k : Nat) => D.int (0 + (k : Int))) (e1 := [some (poolD a0 b0), some (.int d), some (.lst true []), none, none, none]) ?_ (by simp) (rng0 (by omega) (by omega)) (by simp [watch, noAsg])]
      · have w : watch [Opd.val (.int (1 + r0))] [some (poolD a0 b0), some (.int d), some (.lst true []), none, none, none] = [] := by simp [watch]
        rw [w, l1]
      · simp [opd, callX, R.draw, callO, ownSlots, nodupN, p0, backTo]
    have tp : bltin .tuple [.lst true p.items] = some (.tup p.items) := rfl
    have first : evS G (evF G m) (.asg (.nm 2) (.lst [])) [some (poolD a b), some (.int d), none, none, none, none] = .ok .nx [some (poolD a b), some (.int d), some (.lst true []), none, none, none] := by
      simp [opd, asgT, LINE]
    simp only [runF, BG.f__law_great_program]
    show (match evSs G (evF G m) [.asg (.nm 2) (.lst []), BG.l__law_great_program_0, .ret (.blt .tuple [(.var 2)])] [some (poolD a b), some (.int d), none, none, none, none] with
      | .ok (.rt r) e => CR.ret r (fins [2, 3, 4, 5] 0 [poolD a b, .int d] e)
      | .ok .nx e => .ret .non (fins [2, 3, 4, 5] 0 [poolD a b, .int d] e)
      | .exc x e => .exc x (fins [2, 3, 4, 5] 0 [poolD a b, .int d] e)
      | _ => .bad) = _
    rw [ss_nx first, ss_nx lp]
    simp [opd, retV, Prg.d, fins, tp]
end PL

-- Q13
set_option linter.all false
set_option maxRecDepth 100000
set_option maxHeartbeats 4000000
namespace PL
open PySem (Str)
/-! ### the law's great effects -/
theorem sub_l2 (o : Bool) (a b c : D) (l : List D) : subscr (.lst o (a :: b :: c :: l)) (.int 2) = some c := by
  have : place (l.length + 1 + 1 + 1) 2 = some 2 := by unfold place; rw [if_pos (by decide), if_pos (by omega)]; rfl
  simp [subscr, this]
theorem sub_three {o : Bool} {q r s t : Int} (h : 0 ≤ t) (h2 : t < 3) : subscr (.lst o [.int q, .int r, .int s]) (.int t) = some (.int (if t = 0 then q else if t = 1 then r else s)) := by
  have : t = 0 ∨ t = 1 ∨ t = 2 := by omega
  rcases this with rfl | rfl | rfl
  · rw [sub_l0]; rfl
  · rw [sub_l1]; rfl
  · rw [sub_l2]; rfl
def E30 : Int := 1000000000000000000000000000000
theorem e30_nat {i : Int} (h : 0 ≤ i) (h2 : i ≤ E30) : i.natAbs < 2 ^ 9000 := by
  have a : (2 : Nat) ^ 100 ≤ 2 ^ 9000 := Nat.pow_le_pow_right (by decide) (by decide)
  have b : i.natAbs < 2 ^ 100 := by
    have : E30 < ((2 ^ 100 : Nat) : Int) := by decide
    omega
  exact Nat.lt_of_lt_of_le b a
theorem pw30' : binop .Pow (.int 10) (.int 30) = some (.int 1000000000000000000000000000000) := by decide
/-- entries: a number, how many, how many survive -/
abbrev Tri := List (Int × Int × Int)
def Tri.i (T : Tri) : Bag := T.map fun q => (q.1, q.2.1)
def Tri.s (T : Tri) : Bag := T.map fun q => (q.1, q.2.2)
def Tri.c (T : Tri) : Bag := T.map fun q => (q.1, q.2.1 - q.2.2)
def filtP (b : Bag) : Bag := b.filter fun p => decide (0 < p.2)
structure TOk (T : Tri) : Prop where
  srt : T.Pairwise fun p q => p.1 < q.1
  bnd : ∀ q ∈ T, 0 ≤ q.2.2 ∧ q.2.2 ≤ q.2.1 ∧ q.2.1 ≤ E30
theorem filt_canon {b : Bag} (h : b.Pairwise fun p q => p.1 < q.1) : Canon (filtP b) := ⟨h.sublist List.filter_sublist, fun p hp => by simpa using (List.mem_filter.mp hp).2⟩
theorem filt_level {b : Bag} (h : ∀ p ∈ b, 0 ≤ p.2) (x : Int) : levelB (filtP b) x = levelB b x := level_filter_pos h x
theorem filt_total {b : Bag} (h : ∀ p ∈ b, 0 ≤ p.2) : totalB (filtP b) = totalB b := total_of2 fun x => filt_level h x
theorem tri_level (T : Tri) (x : Int) : levelB T.c x = levelB T.i x - levelB T.s x := by
  induction T with
  | nil => rfl
  | cons q T ih =>
    show levelB ((q.1, q.2.1 - q.2.2) :: Tri.c T) x = levelB ((q.1, q.2.1) :: Tri.i T) x - levelB ((q.1, q.2.2) :: Tri.s T) x
    rw [level_cons, level_cons, level_cons, ih]
    dsimp only
    split <;> omega
theorem tri_map {T : Tri} (h : T.Pairwise fun p q => p.1 < q.1) (f : Int × Int × Int → Int) : (T.map fun q => (q.1, f q)).Pairwise fun p q => p.1 < q.1 := List.Pairwise.map _ (fun p q e => e) h
theorem tri_nn {T : Tri} (h : TOk T) : (∀ p ∈ T.i, 0 ≤ p.2) ∧ (∀ p ∈ T.s, 0 ≤ p.2) ∧ (∀ p ∈ T.c, 0 ≤ p.2) := by
  refine ⟨fun p hp => ?_, fun p hp => ?_, fun p hp => ?_⟩ <;>
    · obtain ⟨q, hq, rfl⟩ := List.mem_map.mp hp
      have := h.bnd q hq
      dsimp only
      omega
theorem tri_pin {T : Tri} (h : TOk T) (hk : ∀ q ∈ T, q.1 ∈ U4) {more : Int} (hm : 0 ≤ more) : PIn U4 (filtP T.i, totalB T.c + more, filtP T.s) (filtP T.c) := by
  obtain ⟨n1, n2, n3⟩ := tri_nn h
  have kin : ∀ (f : Int × Int × Int → Int), KIn U4 (filtP (T.map fun q => (q.1, f q))) := fun f p hp => by
    obtain ⟨q, hq, rfl⟩ := List.mem_map.mp (List.mem_filter.mp hp).1
    exact hk q hq
  refine ⟨⟨filt_canon (tri_map h.srt _), filt_canon (tri_map h.srt _), filt_canon (tri_map h.srt _), fun x => ?_, ?_⟩, kin _, kin _, kin _⟩
  · show levelB (filtP T.c) x = levelB (filtP T.i) x - levelB (filtP T.s) x
    rw [filt_level n1, filt_level n2, filt_level n3, tri_level]
  · show totalB (filtP T.c) ≤ totalB T.c + more
    rw [filt_total n3]; omega
theorem tri_app (T : Tri) (q : Int × Int × Int) : Tri.i (T ++ [q]) = Tri.i T ++ [(q.1, q.2.1)] ∧ Tri.s (T ++ [q]) = Tri.s T ++ [(q.1, q.2.2)] ∧ totalB (Tri.c (T ++ [q])) = totalB (Tri.c T) + (q.2.1 - q.2.2) := by
  refine ⟨by unfold Tri.i; rw [List.map_append]; rfl, by unfold Tri.s; rw [List.map_append]; rfl, ?_⟩
  unfold Tri.c
  rw [List.map_append, total_append]
  show _ + (q.2.1 - q.2.2 + totalB []) = _
  rw [total_nil]; omega
variable {G : Prog} (R : DrawG G)
include R
theorem ge_turn {n : Nat} (hn : 1 ≤ n) {a b : Int} (q : PoolOk a b) {T : Tri} (hl : T.length < 1000) (h : TOk T) {x : Int} (hx : ∀ q ∈ T, q.1 < x) {e1 e4 e6 e7 e8 : Option D} :
    ∃ T' a' b' e6' e7', (M.bind (asgT (.nm 1) (.int x)) fun _ => evSs G (evF G n) BG.b__law_great_effect_0) [some (poolD a b), e1, some (prsD T.i), some (prsD T.s), e4, some (.int (totalB T.c)), e6, e7, e8] =
        .ok .nx [some (poolD a' b'), some (.int x), some (prsD (Tri.i T')), some (prsD (Tri.s T')), e4, some (.int (totalB (Tri.c T'))), e6', e7', e8] ∧ PoolOk a' b' ∧ TOk T' ∧ T'.map (·.1) = T.map (·.1) ++ [x] := by
  obtain ⟨r1, a1, b1, p1, l1, u1, q1⟩ := ev_draw R (n := n) hn q (m := 4) (by decide) (by decide)
  obtain ⟨r2, a2, b2, p2, l2, u2, q2⟩ := ev_draw R (n := n) hn q1 (m := 1000000000000000000000000000000) (by decide) (by decide)
  obtain ⟨r3, a3, b3, p3, l3, u3, q3⟩ := ev_draw R (n := n) hn q2 (m := 3) (by decide) (by decide)
  have s1 := sub_three (o := true) (q := 0) (r := r1) (s := r2) l3 u3
  generalize hm : (if r3 = 0 then 0 else if r3 = 1 then r1 else r2) = many at s1
  have m0 : 0 ≤ many := by rw [← hm]; split <;> (try split) <;> omega
  have m1 : many < E30 := by rw [← hm]; unfold E30; split <;> (try split) <;> omega
  obtain ⟨r4, a4, b4, p4, l4, u4, q4⟩ := ev_draw R (n := n) hn q3 (m := many + 1) (by omega) (e30_nat (by omega) (by omega))
  obtain ⟨r5, a5, b5, p5, l5, u5, q5⟩ := ev_draw R (n := n) hn q4 (m := 3) (by decide) (by decide)
  have s2 := sub_three (o := true) (q := 0) (r := many) (s := r4) l5 u5
  generalize hs : (if r5 = 0 then 0 else if r5 = 1 then many else r4) = sm at s2
  have t0 : 0 ≤ sm ∧ sm ≤ many := by rw [← hs]; split <;> (try split) <;> omega
  obtain ⟨x1, x2, x3⟩ := tri_app T (x, many, sm)
  have li : (Tri.i T).length < LINE := by unfold Tri.i LINE; rw [List.length_map]; omega
  have ls : (Tri.s T).length < LINE := by unfold Tri.s LINE; rw [List.length_map]; omega
  have c1 := app_prs (Tri.i T) x many li
  have c2 := app_prs (Tri.s T) x sm ls
  have L2 : 2 ≤ LINE := by decide
  have L3 : 3 ≤ LINE := by decide
  refine ⟨T ++ [(x, many, sm)], a5, b5, some (.int many), some (.int sm), ?_, q5, ⟨?_, ?_⟩, by rw [List.map_append]; rfl⟩
  · rw [x1, x2, x3]
    have e : totalB (Tri.c T) + (many - sm) = totalB (Tri.c T) + many - sm := by omega
    dsimp only
    rw [e]
    simp [BG.b__law_great_effect_0, opd, test, asgT, callX, R.draw, callO, ownSlots, nodupN, p1, p2, p3, p4, p5, backTo, pw30', L2, L3, s1, s2, callBM, c1, c2, putBack]
  · refine List.pairwise_append.mpr ⟨h.srt, List.pairwise_singleton _ _, fun p hp r hr => ?_⟩
    simp at hr
    rw [hr]
    exact hx p hp
  · intro p hp
    rcases List.mem_append.mp hp with hp | hp
    · exact h.bnd p hp
    · simp at hp
      rw [hp]
      dsimp only
      omega
end PL

-- Q14
set_option linter.all false
set_option maxRecDepth 100000
set_option maxHeartbeats 4000000
namespace PL
open PySem (Str)
theorem comp_pos {G : Prog} {cf : CF} (b : Bag) (hl : b.length ≤ LINE) {e0 e1 e2 e3 e4 e5 e6 e7 e8 : Option D} (i : Nat) (hi : [e0, e1, e2, e3, e4, e5, e6, e7, e8][i]? = some (some (prsD b))) (hi8 : i < 8) :
    evE G cf (.blt .tuple [(.comp (.var 8) (.nm 8) [8] .seq [(.var i)] [(.val (.cmp .Gt (.sub (.var 8) (.lit (.int 1))) (.lit (.int 0))))])]) [e0, e1, e2, e3, e4, e5, e6, e7, e8] = .ok (bagD (filtP b)) [e0, e1, e2, e3, e4, e5, e6, e7, none] := by
  have hi' : [e0, e1, e2, e3, e4, e5, e6, e7, none][i]? = some (some (prsD b)) := by
    have : i = 0 ∨ i = 1 ∨ i = 2 ∨ i = 3 ∨ i = 4 ∨ i = 5 ∨ i = 6 ∨ i = 7 := by omega
    rcases this with rfl | rfl | rfl | rfl | rfl | rfl | rfl | rfl <;> exact hi
  have e9 : wipeSlots [8] [e0, e1, e2, e3, e4, e5, e6, e7, e8] = [e0, e1, e2, e3, e4, e5, e6, e7, none] := rfl
  have st : still [(i, prsD b)] [e0, e1, e2, e3, e4, e5, e6, e7, none] = true := by
    simp [still, hi']
  have w : watch [Opd.slot i] [e0, e1, e2, e3, e4, e5, e6, e7, e8] = [(i, prsD b)] := by
    simp [watch, hi]
  have cc : evE G cf (.comp (.var 8) (.nm 8) [8] .seq [(.var i)] [(.val (.cmp .Gt (.sub (.var 8) (.lit (.int 1))) (.lit (.int 0))))]) [e0, e1, e2, e3, e4, e5, e6, e7, e8] = .ok (.lst true ((filtP b).map pairD)) [e0, e1, e2, e3, e4, e5, e6, e7, none] := by
    rw [qe_comp]
    have o1 : evOs G cf [.var i] [e0, e1, e2, e3, e4, e5, e6, e7, e8] = .ok [.slot i] [e0, e1, e2, e3, e4, e5, e6, e7, e8] := by simp [hi]
    have o2 : getAll [.slot i] [e0, e1, e2, e3, e4, e5, e6, e7, e8] = .ok [prsD b] [e0, e1, e2, e3, e4, e5, e6, e7, e8] := by simp [hi]
    have o3 : items .seq [prsD b] = some (b.map pairD) := rfl
    simp only [M.bind, o1, R.bind, o2, o3, M.opt]
    rw [w, e9, if_pos st]
    rw [compL_map (g := fun p => if decide (0 < p.2) then some (pairD p) else none) (by
      intro p hp
      simp [turnC, pairD, asgT, condsL, wipeSlots, test, opd]
      by_cases q : 0 < p.2 <;> simp [q]) st (by simpa using hl)]
    rw [fm_if]
    rfl
  have tp : bltin .tuple [.lst true ((filtP b).map pairD)] = some (bagD (filtP b)) := rfl
  simp [opd, cc, tp]
variable {G : Prog} (B : BagG G) (E : EffG G) (R : DrawG G) (hge : G.fns.lookup (K1 "_law_great_effect") = some BG.f__law_great_effect)
include B E in
/-- Effect(..) of three values -/
theorem ev_mk {n : Nat} (hn : 4 ≤ n) {p : Parts} {c : Bag} (h : POk p c) (l1 : p.1.length + p.2.2.length < LINE) (l2 : c.length ≤ LINE) {os : List Opd} {e : Env} (hos : getAll os e = .ok [bagD p.1, .int p.2.1, bagD p.2.2] e) (hl : os.length = 3) (hw : nodupN (ownSlots os e) = true) (hb : backTo os [none, none, none] e = e) :
    makeX (evF G n) "Effect" { mro := ["Effect"], frz := true, exf := none, flds := ["own_parts"] } (K2 "Effect" "__init__") BG.f_Effectu_initu os e = .ok (effD p) e := by
  have e3 := ev_init B E (n := n) hn h l1 l2
  unfold makeX
  simp [hl, hos, hw, e3, hb, effD]
structure GEff (p : Parts) (c : Bag) : Prop where
  pin : PIn U4 p c
  ib : ∀ q ∈ p.1, q.2 ≤ E30
  rb : p.2.1 ≤ 8 * E30
include B E R hge
theorem ev_ge {n : Nat} (hn : 5 ≤ n) {a b : Int} (q : PoolOk a b) : ∃ p c a' b', evF G n (K1 "_law_great_effect") [poolD a b] = .ret (effD p) [some (poolD a' b')] ∧ PoolOk a' b' ∧ GEff p c := by
  obtain ⟨m, rfl⟩ := up (show 1 ≤ n by omega)
  rw [evF_succ hge rfl]
  have loop := forL_map (inj := fun (k : Nat) => D.int (-3 + (k : Int))) (l := List.range 7) (w := []) (turn := fun d => M.bind (asgT (.nm 1) d) fun _ => evSs G (evF G m) BG.b__law_great_effect_0)
    (e := [some (poolD a b), none, some (prsD (Tri.i [])), some (prsD (Tri.s [])), none, some (.int (totalB (Tri.c []))), none, none, none])
    (fun done e => ∃ T a b e1 e6 e7, e = [some (poolD a b), e1, some (prsD (Tri.i T)), some (prsD (Tri.s T)), none, some (.int (totalB (Tri.c T))), e6, e7, none] ∧ PoolOk a b ∧ TOk T ∧ T.map (·.1) = done.map fun (k : Nat) => -3 + (k : Int))
    ⟨[], a, b, none, none, none, rfl, q, ⟨List.Pairwise.nil, fun q hq => nomatch hq⟩, rfl⟩ (by
      rintro done k rest e hd ⟨T, a, b, e1, e6, e7, rfl, qq, ok, km⟩
      have hlen : T.length = done.length := by have := congrArg List.length km; simpa using this
      have hdl : done.length < 7 := by have := congrArg List.length hd; simp at this; omega
      have sorted : ∀ j ∈ done, j < k := by
        have : (List.range 7).Pairwise (· < ·) := List.pairwise_lt_range
        rw [hd] at this
        exact fun j hj => (List.pairwise_append.mp this).2.2 j hj k List.mem_cons_self
      have hx : ∀ q ∈ T, q.1 < -3 + (k : Int) := fun q hq => by
        have : q.1 ∈ T.map (·.1) := List.mem_map.mpr ⟨q, hq, rfl⟩
        rw [km] at this
        obtain ⟨j, hj, e⟩ := List.mem_map.mp this
        have := sorted j hj
        omega
      obtain ⟨T', a', b', e6', e7', t1, t2, t3, t4⟩ := ge_turn R (n := m) (by omega) qq (T := T) (by omega) ok hx (e1 := e1) (e4 := none) (e6 := e6) (e7 := e7) (e8 := none)
      exact ⟨_, .inl t1, ⟨T', a', b', _, e6', e7', rfl, t2, t3, by rw [t4, km, List.map_append]; rfl⟩, rfl⟩)
  obtain ⟨e', l1, T, a1, b1, e1, e6, e7, rfl, q1, ok, km⟩ := loop
  obtain ⟨r2, a2, b2, p2, l2, u2, q2⟩ := ev_draw R (n := m) (by omega) q1 (m := 4) (by decide) (by decide)
  obtain ⟨r3, a3, b3, p3, l3, u3, q3⟩ := ev_draw R (n := m) (by omega) q2 (m := 1000000000000000000000000000000) (by decide) (by decide)
  obtain ⟨r4, a4, b4, p4, l4, u4, q4⟩ := ev_draw R (n := m) (by omega) q3 (m := 3) (by decide) (by decide)
  have s1 := sub_three (o := true) (q := 0) (r := r2) (s := r3) l4 u4
  generalize hm : (if r4 = 0 then 0 else if r4 = 1 then r2 else r3) = more at s1
  have m0 : 0 ≤ more := by rw [← hm]; split <;> (try split) <;> omega
  have m1 : more < E30 := by rw [← hm]; unfold E30; split <;> (try split) <;> omega
  have hk : ∀ q ∈ T, q.1 ∈ U4 := fun q hq => by
    have : q.1 ∈ T.map (·.1) := List.mem_map.mpr ⟨q, hq, rfl⟩
    rw [km] at this
    obtain ⟨j, hj, e⟩ := List.mem_map.mp this
    have := List.mem_range.mp hj
    exact mem_U4 (by omega) (by omega)
  have hlen : T.length = 7 := by have := congrArg List.length km; simpa using this
  have pin := tri_pin ok hk m0
  have lli : (Tri.i T).length = 7 := by unfold Tri.i; rw [List.length_map, hlen]
  have lls : (Tri.s T).length = 7 := by unfold Tri.s; rw [List.length_map, hlen]
  have li := pin.i.len pin.ok.i.nd
  have ls := pin.s.len pin.ok.s.nd
  have lc := pin.cc.len pin.ok.cc.nd
  have u4 : U4.length = 9 := rfl
  have tb : totalB (Tri.c T) ≤ 7 * E30 := by
    have gen : ∀ S : Tri, (∀ q ∈ S, 0 ≤ q.2.2 ∧ q.2.2 ≤ q.2.1 ∧ q.2.1 ≤ E30) → totalB (Tri.c S) ≤ S.length * E30 := by
      intro S
      induction S with
      | nil => intro _; simp [Tri.c]
      | cons q S ih =>
        intro h
        have h1 := ih fun r hr => h r (List.mem_cons_of_mem _ hr)
        have h2 := h q List.mem_cons_self
        show q.2.1 - q.2.2 + totalB (Tri.c S) ≤ ((S.length + 1 : Nat) : Int) * E30
        rw [Int.natCast_add, Int.add_mul]
        omega
    have := gen T ok.bnd
    rw [hlen] at this
    exact this
  refine ⟨_, _, a4, b4, ?_, q4, ⟨pin, fun q hq => ?_, ?_⟩⟩
  rotate_left
  · obtain ⟨r, hr, rfl⟩ := List.mem_map.mp (List.mem_filter.mp hq).1
    exact (ok.bnd r hr).2.2
  · show totalB (Tri.c T) + more ≤ 8 * E30
    omega
  have f0 : evS G (evF G m) (.par [2, 3, 5] [(.lst []), (.lst []), (.lit (.int 0))]) [some (poolD a b), none, none, none, none, none, none, none, none] = .ok .nx [some (poolD a b), none, some (prsD []), some (prsD []), none, some (.int 0), none, none, none] := by
    have z : 0 ≤ LINE := by decide
    simp [bindAll, opd, z, prsD]
  have f1 : evS G (evF G m) BG.l__law_great_effect_0 [some (poolD a b), none, some (prsD []), some (prsD []), none, some (.int 0), none, none, none] = .ok .nx [some (poolD a1 b1), e1, some (prsD (Tri.i T)), some (prsD (Tri.s T)), none, some (.int (totalB (Tri.c T))), e6, e7, none] := by
    unfold BG.l__law_great_effect_0
    have rg : items .rng [.int (-3), .int 4] = some ((List.range 7).map fun (k : Nat) => D.int (-3 + (k : Int))) := by
      show rangeD (-3) 4 = _
      unfold rangeD
      rw [if_pos ⟨by decide, by decide, by decide, by decide⟩]
      rfl
    rw [ev_for (os := [.val (.int (-3)), .val (.int 4)]) (ds := [.int (-3), .int 4]) (xs := (List.range 7).map fun (k : Nat) => D.int (-3 + (k : Int))) (e1 := [some (poolD a b), none, some (prsD []), some (prsD []), none, some (.int 0), none, none, none]) (by simp [opd]) (by simp) rg (by simp [watch, noAsg])]
    have w : watch [Opd.val (.int (-3)), Opd.val (.int 4)] [some (poolD a b), none, some (prsD []), some (prsD []), none, some (.int 0), none, none, none] = [] := by simp [watch]
    rw [w]
    exact l1
  have f2 : evS G (evF G m) (.asg (.nm 2) (.blt .tuple [(.comp (.var 8) (.nm 8) [8] .seq [(.var 2)] [(.val (.cmp .Gt (.sub (.var 8) (.lit (.int 1))) (.lit (.int 0))))])])) [some (poolD a1 b1), e1, some (prsD (Tri.i T)), some (prsD (Tri.s T)), none, some (.int (totalB (Tri.c T))), e6, e7, none] = .ok .nx [some (poolD a1 b1), e1, some (bagD (filtP (Tri.i T))), some (prsD (Tri.s T)), none, some (.int (totalB (Tri.c T))), e6, e7, none] := by
    have z := comp_pos (G := G) (cf := evF G m) (Tri.i T) (by rw [lli]; decide) (e0 := some (poolD a1 b1)) (e1 := e1) (e2 := some (prsD (Tri.i T))) (e3 := some (prsD (Tri.s T))) (e4 := none) (e5 := some (.int (totalB (Tri.c T)))) (e6 := e6) (e7 := e7) (e8 := none) 2 rfl (by decide)
    rw [qevS57]
    simp only [M.bind, z, PL.R.bind]
    simp [asgT]
  have f3 : evS G (evF G m) (.asg (.nm 3) (.blt .tuple [(.comp (.var 8) (.nm 8) [8] .seq [(.var 3)] [(.val (.cmp .Gt (.sub (.var 8) (.lit (.int 1))) (.lit (.int 0))))])])) [some (poolD a1 b1), e1, some (bagD (filtP (Tri.i T))), some (prsD (Tri.s T)), none, some (.int (totalB (Tri.c T))), e6, e7, none] = .ok .nx [some (poolD a1 b1), e1, some (bagD (filtP (Tri.i T))), some (bagD (filtP (Tri.s T))), none, some (.int (totalB (Tri.c T))), e6, e7, none] := by
    have z := comp_pos (G := G) (cf := evF G m) (Tri.s T) (by rw [lls]; decide) (e0 := some (poolD a1 b1)) (e1 := e1) (e2 := some (bagD (filtP (Tri.i T)))) (e3 := some (prsD (Tri.s T))) (e4 := none) (e5 := some (.int (totalB (Tri.c T)))) (e6 := e6) (e7 := e7) (e8 := none) 3 rfl (by decide)
    rw [qevS57]
    simp only [M.bind, z, PL.R.bind]
    simp [asgT]
  have L3 : 3 ≤ LINE := by decide
  have f4 : evS G (evF G m) (.asg (.nm 4) (.sub (.lst [(.lit (.int 0)), (.call "_law_draw" [(.var 0), (.lit (.int 4))]), (.call "_law_draw" [(.var 0), (.bin .Pow (.lit (.int 10)) (.lit (.int 30)))])]) (.call "_law_draw" [(.var 0), (.lit (.int 3))]))) [some (poolD a1 b1), e1, some (bagD (filtP (Tri.i T))), some (bagD (filtP (Tri.s T))), none, some (.int (totalB (Tri.c T))), e6, e7, none] = .ok .nx [some (poolD a4 b4), e1, some (bagD (filtP (Tri.i T))), some (bagD (filtP (Tri.s T))), some (.int more), some (.int (totalB (Tri.c T))), e6, e7, none] := by
    simp [opd, asgT, callX, R.draw, callO, ownSlots, nodupN, p2, p3, p4, backTo, pw30', L3, s1]
  have f5 := ev_mk B E (n := m) (by omega) pin.ok (by unfold LINE; omega) (by unfold LINE; omega) (os := [.slot 2, .val (.int (totalB (Tri.c T) + more)), .slot 3]) (e := [some (poolD a4 b4), e1, some (bagD (filtP (Tri.i T))), some (bagD (filtP (Tri.s T))), some (.int more), some (.int (totalB (Tri.c T))), e6, e7, none]) (by simp) rfl (by simp [ownSlots, nodupN]) (by simp [backTo])
  simp only [runF, BG.f__law_great_effect]
  show (match evSs G (evF G m) [.par [2, 3, 5] [(.lst []), (.lst []), (.lit (.int 0))], BG.l__law_great_effect_0, _, _, _, .ret (.mk "Effect" [(.var 2), (.bin .Add (.var 5) (.var 4)), (.var 3)])] [some (poolD a b), none, none, none, none, none, none, none, none] with
      | .ok (.rt r) e => CR.ret r (fins [1, 2, 3, 4, 5, 6, 7] 0 [poolD a b] e)
      | .ok .nx e => .ret .non (fins [1, 2, 3, 4, 5, 6, 7] 0 [poolD a b] e)
      | .exc x e => .exc x (fins [1, 2, 3, 4, 5, 6, 7] 0 [poolD a b] e)
      | _ => .bad) = _
  rw [ss_nx f0, ss_nx f1, ss_nx f2, ss_nx f3, ss_nx f4]
  simp [opd, retV, makeK_eff B E, f5, fins]
end PL

-- Q15
set_option linter.all false
set_option maxRecDepth 100000
set_option maxHeartbeats 4000000
namespace PL
open PySem (Str)
/-! ### unions, differences, removed numbers -/
structure UniG (G : Prog) : Prop where
  no_union : G.fns.lookup (K1 "union") = none
  union : G.stars.lookup (K1 "union") = some BG.f_union
structure DifG (G : Prog) : Prop where
  difference : G.fns.lookup (K1 "difference") = some BG.f_difference
structure RemG (G : Prog) : Prop where
  take : G.fns.lookup (K1 "take") = some BG.f_take
  f_removed : G.fns.lookup (K2 "Effect" "removed") = some BG.f_Effect_removed
structure SizG (G : Prog) : Prop where
  size_of : G.fns.lookup (K1 "size_of") = some BG.f_size_of
variable {G : Prog} (B : BagG G) (E : EffG G) (H : EffH G) (U : UniG G) (D0 : DifG G) (Rm : RemG G) (Sz : SizG G)
def uniB (a b : Bag) : Bag := addB (addB [] a) b
theorem uni_canon {a b : Bag} : Canon (uniB a b) := addB_canon (addB_canon canon_nil)
theorem uni_level {a b : Bag} (ha : Canon a) (hb : Canon b) (x : Int) : levelB (uniB a b) x = levelB a x + levelB b x := by
  unfold uniB
  rw [addB_level (addB_canon canon_nil) hb.nn, addB_level canon_nil ha.nn, level_nil]; omega
include B U in
theorem ev_union {n : Nat} (hn : 4 ≤ n) {a b : Bag} (ha : Canon a) (hb : Canon b) (l1 : a.length < 1000) (l2 : b.length < 1000) (l3 : (addB [] a).length < 1000) :
    evF G n (K1 "union") [.tup [bagD a, bagD b]] = .ret (bagD (uniB a b)) [none] := by
  obtain ⟨m, rfl⟩ := up (show 1 ≤ n by omega)
  rw [evF_star U.no_union U.union rfl]
  have a1 := cbag' B (n := m) (by omega) ha (by unfold LINE; omega)
  have a2 := cbag' B (n := m) (by omega) hb (by unfold LINE; omega)
  have a3 := add' B (n := m) (a := []) (b := a) (by omega) (by simp [LINE]; omega)
  have a4 := add' B (n := m) (a := addB [] a) (b := b) (by omega) (by simp [LINE]; omega)
  have sq : seqOf (D.tup [bagD a, bagD b]) = some [bagD a, bagD b] := rfl
  have en : bagD [] = D.tup [] := rfl
  rw [en] at a3
  have lp : evS G (evF G m) BG.l_union_0 [some (.tup [bagD a, bagD b]), some (.tup []), none] = .ok .nx [some (.tup [bagD a, bagD b]), some (bagD (uniB a b)), some (bagD b)] := by
    unfold BG.l_union_0
    rw [ev_forS (d := .tup [bagD a, bagD b]) rfl rfl sq]
    simp [forL, BG.b_union_0, asgT, opd, callX, B.check_bag, B.add, callO, ownSlots, nodupN, a1, a2, a3, a4, backTo, still, uniB]
  simp [runF, BG.f_union, opd, retV, asgT, lp, fins]
include B D0 in
theorem ev_difference {n : Nat} (hn : 4 ≤ n) {a b : Bag} (ha : Canon a) (hb : Canon b) (l : a.length + b.length < LINE) : evF G n (K1 "difference") [bagD a, bagD b] = .ret (optB (subB a b)) [none, none] := by
  obtain ⟨m, rfl⟩ := up (show 1 ≤ n by omega)
  rw [evF_succ D0.difference rfl]
  have a1 := cbag' B (n := m) (by omega) ha (by omega)
  have a2 := cbag' B (n := m) (by omega) hb (by omega)
  have a3 := sub' B (n := m) (a := a) (b := b) (by omega) l
  simp [runF, BG.f_difference, opd, retV, callX, B.check_bag, B.subtract, callO, ownSlots, nodupN, a1, a2, a3, backTo, fins]
include B Sz in
theorem ev_size {n : Nat} (hn : 4 ≤ n) {a : Bag} (ha : Canon a) (l : a.length < LINE) : evF G n (K1 "size_of") [bagD a] = .ret (.int (totalB a)) [none] := by
  obtain ⟨m, rfl⟩ := up (show 1 ≤ n by omega)
  rw [evF_succ Sz.size_of rfl]
  have a1 := cbag' B (n := m) (by omega) ha (by omega)
  have a3 := total' B (n := m) (b := a) (by omega) (by omega)
  simp [runF, BG.f_size_of, opd, retV, callX, B.check_bag, B.total, callO, ownSlots, nodupN, a1, a3, backTo, fins]
include B E H Rm in
theorem ev_removed {n : Nat} (hn : 6 ≤ n) {p : Parts} {c h : Bag} (hp : POk p c) (l1 : p.1.length + p.2.2.length < LINE) (hh : Canon h) (l2 : h.length + c.length < LINE) (l3 : (addB h c).length < LINE) (hs : p.2.1 - totalB p.1 + totalB p.2.2 ≤ totalB h) :
    evF G n (K2 "Effect" "removed") [effD p, bagD h] = .ret (bagD (takeB (addB h c) p.2.1)) [none, none] := by
  obtain ⟨m, rfl⟩ := up (show 1 ≤ n by omega)
  rw [evF_succ Rm.f_removed rfl]
  have e1 := ev_pool_eff B E H (n := m) (by omega) hp l1 hh l2 hs
  have e3 := at_rem B E (n := m) (by omega) (p := p) (i := 0) (e := [some (effD p), some (bagD h)]) rfl
  obtain ⟨q, rfl⟩ := up (show 1 ≤ m by omega)
  have e4 := ev_take (n := q) Rm.take (b := addB h c) (c := p.2.1) l3
  have k := mk_pool B E H (p := p)
  simp [runF, BG.f_Effect_removed, opd, retV, test, callX, Rm.take, H.f_pool, callO, ownSlots, nodupN, e1, e3, e4, k, backTo, fins]
/-! ### levels and keys -/
theorem level_tot {t : Bag} (h : Canon t) {x : Int} : levelB t x = totalB t ↔ ∀ p ∈ t, p.1 ≤ x := by
  constructor
  · induction t with
    | nil => intro _ p hp; cases hp
    | cons q t ih =>
      intro e p hp
      rw [level_cons, total_cons] at e
      have h1 := level_le_total h.tail.nn x
      have h2 := h.pos q List.mem_cons_self
      by_cases hq : q.1 ≤ x
      · rw [if_pos hq] at e
        rcases List.mem_cons.mp hp with rfl | hp
        · exact hq
        · exact ih h.tail (by omega) p hp
      · rw [if_neg hq] at e
        omega
  · intro hx
    exact level_total hx
/-- equal tuples compared -/
theorem ne_same_t {ds : List D} (hp : D.plainL ds = true) (hd : D.depthL ds ≤ 50) : cmpop .NotEq (.tup ds) (.tup ds) = some false := by
  have p1 : D.plain (.tup ds) = true := by rw [D.plain]; exact hp
  have d1 : D.depth (.tup ds) ≤ 60 := by rw [D.depth]; omega
  have e : D.eqv (.tup ds) (.tup ds) = true := by rw [D.eqv]; exact eqvL_refl ds hp
  simp [cmpop, pyEq, p1, d1, e]
theorem plain_bag : ∀ b : Bag, D.plainL (b.map pairD) = true
  | [] => rfl
  | p :: b => by rw [List.map_cons, D.plainL, plain_bag b]; rfl
theorem depth_bag : ∀ b : Bag, D.depthL (b.map pairD) ≤ 5
  | [] => Nat.zero_le _
  | p :: b => by
    rw [List.map_cons, D.depthL]
    have := depth_bag b
    have e : D.depth (pairD p) ≤ 5 := by simp [pairD, D.depth, D.depthL]
    exact Nat.max_le.mpr ⟨e, this⟩
theorem ne_bag (b : Bag) : cmpop .NotEq (bagD b) (bagD b) = some false := ne_same_t (plain_bag b) (by have := depth_bag b; omega)
/-- the greatest of a number and the keys -/
def maxK (x : Int) (t : Bag) : Int := t.foldl (fun m p => max m p.1) x
theorem maxK_le {x y : Int} {t : Bag} : maxK x t ≤ y ↔ x ≤ y ∧ ∀ p ∈ t, p.1 ≤ y := by
  unfold maxK
  induction t generalizing x with
  | nil => simp
  | cons q t ih =>
    rw [List.foldl_cons, ih]
    simp only [List.mem_cons, forall_eq_or_imp, Int.max_le, and_assoc]
end PL

-- Q16
set_option linter.all false
set_option maxRecDepth 100000
set_option maxHeartbeats 4000000
namespace PL
open PySem (Str)
/-- tuple([entry for entry in list if entry[1] > 0]) -/
theorem comp_posG {G : Prog} {cf : CF} (b : Bag) (hl : b.length ≤ LINE) {e : Env} {i v : Nat} (hi : e[i]? = some (some (prsD b))) (hv : v < e.length) (hne : i ≠ v) :
    evE G cf (.blt .tuple [(.comp (.var v) (.nm v) [v] .seq [(.var i)] [(.val (.cmp .Gt (.sub (.var v) (.lit (.int 1))) (.lit (.int 0))))])]) e = .ok (bagD (filtP b)) (e.set v none) := by
  have hne' : v ≠ i := fun z => hne z.symm
  have hi' : (e.set v none)[i]? = some (some (prsD b)) := by rw [List.getElem?_set_ne hne']; exact hi
  have e9 : wipeSlots [v] e = e.set v none := rfl
  have st : still [(i, prsD b)] (e.set v none) = true := by
    simp only [still, hi', List.all_cons, List.all_nil]
    simp
  have w : watch [Opd.slot i] e = [(i, prsD b)] := by
    simp [watch, hi]
  have cc : evE G cf (.comp (.var v) (.nm v) [v] .seq [(.var i)] [(.val (.cmp .Gt (.sub (.var v) (.lit (.int 1))) (.lit (.int 0))))]) e = .ok (.lst true ((filtP b).map pairD)) (e.set v none) := by
    rw [qe_comp]
    have o1 : evOs G cf [.var i] e = .ok [.slot i] e := by simp [hi]
    have o2 : getAll [.slot i] e = .ok [prsD b] e := by simp [hi]
    have o3 : items .seq [prsD b] = some (b.map pairD) := rfl
    simp only [M.bind, o1, R.bind, o2, o3, M.opt]
    rw [w, e9, if_pos st]
    rw [compL_map (g := fun p => if decide (0 < p.2) then some (pairD p) else none) (by
      intro p hp
      simp [turnC, pairD, asgT, condsL, wipeSlots, test, opd, hv, setS, List.getElem?_set]
      by_cases q : 0 < p.2 <;> simp [q, hv]) st (by simpa using hl)]
    rw [fm_if]
    rfl
  have tp : bltin .tuple [.lst true ((filtP b).map pairD)] = some (bagD (filtP b)) := rfl
  simp [opd, cc, tp]
theorem maxI_keys (t : Bag) : ∀ x : Int, maxI x (t.map (·.1)) = maxK x t := by
  unfold maxI maxK
  induction t with
  | nil => intro x; rfl
  | cons q t ih =>
    intro x
    rw [List.map_cons, List.foldl_cons, List.foldl_cons]
    have e : (if q.1 > x then q.1 else x) = max x q.1 := by
      rcases Int.le_total x q.1 with h | h
      · rw [Int.max_eq_right h]; split <;> omega
      · rw [Int.max_eq_left h]; split <;> omega
    rw [e, ih]
/-- max([number] + [entry[0] for entry in bag]) -/
theorem comp_keys {G : Prog} {cf : CF} (t : Bag) (hl : t.length + 1 ≤ LINE) {e : Env} {i v j : Nat} {x : Int} (hi : e[i]? = some (some (bagD t))) (hv : v < e.length) (hj : e[j]? = some (some (.int x))) :
    evE G cf (.blt .max [(.bin .Add (.lst [(.var j)]) (.comp (.sub (.var v) (.lit (.int 0))) (.nm v) [v] .seq [(.var i)] []))]) e = .ok (.int (maxK x t)) (e.set v none) := by
  have w : watch [Opd.slot i] e = [] := by simp [watch, hi]
  have e9 : wipeSlots [v] e = e.set v none := rfl
  have cc : evE G cf (.comp (.sub (.var v) (.lit (.int 0))) (.nm v) [v] .seq [(.var i)] []) e = .ok (.lst true (t.map fun p => D.int p.1)) (e.set v none) := by
    rw [qe_comp]
    have o1 : evOs G cf [.var i] e = .ok [.slot i] e := by simp [hi]
    have o2 : getAll [.slot i] e = .ok [bagD t] e := by simp [hi]
    have o3 : items .seq [bagD t] = some (t.map pairD) := rfl
    simp only [M.bind, o1, R.bind, o2, o3, M.opt]
    rw [w, e9, if_pos (show still [] (e.set v none) = true from rfl)]
    rw [compL_map (g := fun p => some (D.int p.1)) (by
      intro p hp
      simp [turnC, pairD, asgT, condsL, wipeSlots, test, opd, hv, setS, List.getElem?_set]) rfl (by simp; omega)]
    rw [fm_some]
    rfl
  have one : 1 ≤ LINE := by decide
  have ad : binop .Add (.lst true [.int x]) (.lst true (t.map fun p => D.int p.1)) = some (.lst true ((x :: t.map (·.1)).map D.int)) := by
    have : 1 + t.length ≤ LINE := by omega
    simp [binop, this]
  have mx : bltin .max [.lst true ((x :: t.map (·.1)).map D.int)] = some (.int (maxK x t)) := by
    have := intsOf_map (x :: t.map (·.1)) id
    rw [List.map_id] at this
    have e : intsOf (.lst true ((x :: t.map (·.1)).map D.int)) = some (x :: t.map (·.1)) := this
    have : bltin .max [.lst true ((x :: t.map (·.1)).map D.int)] = minmax true [.lst true ((x :: t.map (·.1)).map D.int)] := rfl
    rw [this, minmax]
    · rw [e]
      dsimp only
      rw [if_pos rfl, maxI_keys]
    all_goals (intros; nofun)
  have vl : isVar (PE.lst [.var j]) = none := rfl
  have mx' := mx
  simp at mx'
  simp [opd, hj, one, cc, ad]
  rw [mx']
end PL

-- P_k38
set_option linter.all false
set_option maxRecDepth 100000
set_option maxHeartbeats 4000000
namespace PL
theorem take_total {p : Parts} {c h : Bag} (hp : POk p c) (hh : Canon h) (hs : p.2.1 - totalB p.1 + totalB p.2.2 ≤ totalB h) : totalB (takeB (addB h c) p.2.1) = p.2.1 := by
  have ca := addB_canon (b := c) hh
  have tc : totalB c = totalB p.1 - totalB p.2.2 := by
    have := total_add (a := c) (b := p.2.2) (c := p.1) fun x => by have := hp.lev x; omega
    omega
  have ta : totalB (addB h c) = totalB h + totalB c := total_add fun x => addB_level hh hp.cc.nn x
  obtain ⟨y, hy⟩ := total_level (b := takeB (addB h c) p.2.1)
  obtain ⟨z, hz⟩ := total_level (b := addB h c)
  have a1 := hy (max y z) (by omega)
  have a2 := hz (max y z) (by omega)
  rw [takeB_level ca hp.nn, a2] at a1
  omega
theorem lost_uni {p : Parts} {c h : Bag} (hp : POk p c) (hh : Canon h) : uniB (takeB (addB h c) p.2.1) (addB p.2.2 (dropB (addB h c) p.2.1)) = uniB h p.1 := by
  have ca := addB_canon (b := c) hh
  refine canon_ext uni_canon uni_canon fun x => ?_
  rw [uni_level (takeB_canon ca _) (addB_canon hp.s), uni_level hh hp.i, addB_level hp.s (dropB_canon ca _).nn, dropB_level ca hp.nn, takeB_level ca hp.nn, addB_level hh hp.cc.nn, hp.lev]
  omega
theorem lost_sub {p : Parts} {c h : Bag} (hp : POk p c) (hh : Canon h) : subB (addB p.2.2 (dropB (addB h c) p.2.1)) p.2.2 = some (dropB (addB h c) p.2.1) := by
  have ca := addB_canon (b := c) hh
  refine subB_eq (addB_canon hp.s) (dropB_canon ca _) fun x => ?_
  rw [addB_level hp.s (dropB_canon ca _).nn]; omega
theorem lost_ord {p : Parts} {c h : Bag} (hp : POk p c) (hh : Canon h) (hs : p.2.1 - totalB p.1 + totalB p.2.2 ≤ totalB h) {q z : Int × Int} {d' : Bag} (hd : dropB (addB h c) p.2.1 = q :: d') (hz : z ∈ takeB (addB h c) p.2.1) : z.1 ≤ q.1 := by
  have ca := addB_canon (b := c) hh
  have cd := dropB_canon ca p.2.1
  have l1 := dropB_level ca hp.nn q.1
  have l2 := takeB_level ca hp.nn q.1
  rw [hd] at l1 cd
  have e1 := entry_le cd (q := q) List.mem_cons_self
  have e2 := cd.pos q List.mem_cons_self
  refine (level_tot (takeB_canon ca p.2.1)).mp ?_ z hz
  rw [take_total hp hh hs, l2]
  omega
theorem last_bag (b : Bag) (p : Int × Int) : subscr (bagD (b ++ [p])) (.int (-1)) = some (pairD p) := by
  have h := last_prs b p.1 p.2
  unfold prsD at h
  unfold bagD
  simpa [subscr, pairD] using h
theorem neq_nil : cmpop .NotEq (.tup []) (.tup []) = some false := ne_same_t rfl (by decide)
theorem neq_cons (q : Int × Int) (b : Bag) : cmpop .NotEq (bagD (q :: b)) (.tup []) = some true := by
  have p1 : D.plain (bagD (q :: b)) = true := by unfold bagD; rw [D.plain]; exact plain_bag _
  have d1 : D.depth (bagD (q :: b)) ≤ 60 := by unfold bagD; rw [D.depth]; have := depth_bag (q :: b); omega
  have p2 : D.plain (.tup []) = true := rfl
  have d2 : D.depth (.tup []) ≤ 60 := by decide
  have e : D.eqv (bagD (q :: b)) (.tup []) = false := by unfold bagD; rw [List.map_cons, D.eqv]; rfl
  simp [cmpop, pyEq, p1, p2, d1, d2, e]
end PL
namespace K_k38
open PL
open PySem (Str)
theorem bag : BagG prog := by constructor <;> rfl
theorem eff : EffG prog := by constructor <;> rfl
theorem drw : DrawG prog := by constructor <;> rfl
theorem efh : EffH prog := by constructor <;> rfl
theorem uni : UniG prog := by constructor <;> rfl
theorem dif : DifG prog := by constructor <;> rfl
theorem rmg : RemG prog := by constructor <;> rfl
theorem siz : SizG prog := by constructor <;> rfl
theorem atg : AtG prog := by constructor <;> rfl
theorem ge_at : prog.fns.lookup (K1 "_law_great_effect") = some BG.f__law_great_effect := rfl
theorem mk_apply (p : Parts) : methK prog (effD p) "apply" = some (true, K2 "Effect" "apply", ("Effect" : Str)) := by
  simp [methK, effD, efh.m_apply, efh.f_apply]
theorem mk_removed (p : Parts) : methK prog (effD p) "removed" = some (true, K2 "Effect" "removed", ("Effect" : Str)) := by
  simp [methK, effD, efh.m_removed, rmg.f_removed]
def UU : List Int := [5] ++ U4
theorem mem_UU {x : Int} (h : -4 ≤ x) (h2 : x ≤ 5) : x ∈ UU := by
  have : x = 5 ∨ (-4 ≤ x ∧ x ≤ 4) := by omega
  rcases this with rfl | ⟨h, h2⟩
  · decide
  · exact List.mem_append_right _ (mem_U4 h h2)
theorem kin_up {b : Bag} (h : KIn U4 b) : KIn UU b := fun p hp => List.mem_append_right _ (h p hp)
theorem call_union {a b : Bag} {os : List Opd} {e : Env} (h : evF prog 60 (K1 "union") [.tup [bagD a, bagD b]] = .ret (bagD (uniB a b)) [none]) (hos : getAll os e = .ok [bagD a, bagD b] e) :
    callB prog (evF prog 60) (K1 "union") os [] [] e = .ok (bagD (uniB a b)) e := by
  have L2 : 2 ≤ LINE := by decide
  unfold callB
  rw [uni.union]
  simp only [M.bind, hos, R.bind]
  simp [BG.f_union, L2, starArgs, callO, ownSlots, nodupN, h, backTo]
/-- one more entry of the heap -/
theorem turn2 {e0 e1 e3 e5 e6 e9 e10 e11 e12 e13 e14 : Option D} {a b : Int} (q : PoolOk a b) {p : Parts} {c : Bag} (gf : GEff p c) {L : Bag} (hl : L.length < 1000) (x : Int) (x4 : Option D) :
    ∃ a' b' v y9, (M.bind (asgT (.nm 4) (.int x)) fun _ => evSs prog (evF prog 60) b_law_2) [e0, e1, some (poolD a b), e3, x4, e5, e6, some (effD p), some (prsD L), e9, e10, e11, e12, e13, e14] =
      .ok .nx [e0, e1, some (poolD a' b'), e3, some (.int x), e5, e6, some (effD p), some (prsD (L ++ [(x, v)])), y9, e10, e11, e12, e13, e14] ∧ PoolOk a' b' ∧ 0 ≤ v ∧ (x = 5 → p.2.1 - totalB p.1 + totalB p.2.2 ≤ v) := by
  obtain ⟨r1, a1, b1, p1, l1, u1, q1⟩ := ev_draw drw (n := 60) (by decide) q (m := 4) (by decide) (by decide)
  obtain ⟨r2, a2, b2, p2, l2, u2, q2⟩ := ev_draw drw (n := 60) (by decide) q1 (m := 1000000000000000000000000000000) (by decide) (by decide)
  obtain ⟨r3, a3, b3, p3, l3, u3, q3⟩ := ev_draw drw (n := 60) (by decide) q2 (m := 3) (by decide) (by decide)
  have s1 := sub_three (o := true) (q := 0) (r := r1) (s := r2) l3 u3
  generalize hm : (if r3 = 0 then 0 else if r3 = 1 then r1 else r2) = many at s1
  have m0 : 0 ≤ many := by rw [← hm]; split <;> (try split) <;> omega
  have pin := gf.pin
  have ls := pin.s.len pin.ok.s.nd
  have li := pin.i.len pin.ok.i.nd
  have u4' : U4.length = 9 := rfl
  have at3 := at_need bag eff (n := 60) (by omega) (p := p) (by unfold LINE; omega) (by unfold LINE; omega) (i := 7) (e := [e0, e1, some (poolD a3 b3), e3, some (.int x), e5, e6, some (effD p), some (prsD L), some (.int many), e10, e11, e12, e13, e14]) rfl
  have tt : totalB c = totalB p.1 - totalB p.2.2 := by
    have := total_add (a := c) (b := p.2.2) (c := p.1) fun x => by have := pin.ok.lev x; omega
    omega
  have rem := pin.ok.rem
  generalize hneed : p.2.1 - totalB p.1 + totalB p.2.2 = need at at3
  have n0 : 0 ≤ need := by omega
  have L2 : 2 ≤ LINE := by decide
  have L3 : 3 ≤ LINE := by decide
  have pw30 := pw30'
  have h0 : evS prog (evF prog 60) s_law_2_0 [e0, e1, some (poolD a b), e3, some (.int x), e5, e6, some (effD p), some (prsD L), e9, e10, e11, e12, e13, e14] = .ok .nx [e0, e1, some (poolD a3 b3), e3, some (.int x), e5, e6, some (effD p), some (prsD L), some (.int many), e10, e11, e12, e13, e14] := by
    simp [s_law_2_0, opd, asgT, callX, drw.draw, callO, ownSlots, nodupN, p1, p2, p3, backTo, pw30, L3, s1]
  have ap := fun v => app_prs L x v (by unfold LINE; omega)
  have idd : intD (D.bl (decide (x = 5))) = some (.int (if x = 5 then 1 else 0)) := by by_cases z : x = 5 <;> simp [z, intD]
  have mb : mulOk need (if x = 5 then 1 else 0) = true := mul_sm (by split <;> decide)
  have h1 : evS prog (evF prog 60) s_law_2_1 [e0, e1, some (poolD a3 b3), e3, some (.int x), e5, e6, some (effD p), some (prsD L), some (.int many), e10, e11, e12, e13, e14] = .ok .nx [e0, e1, some (poolD a3 b3), e3, some (.int x), e5, e6, some (effD p), some (prsD (L ++ [(x, many + need * (if x = 5 then 1 else 0))])), some (.int many), e10, e11, e12, e13, e14] := by
    simp [s_law_2_1, opd, at3, bltin, blt1, idd, bin_mul mb, L2, callBM, ap, putBack, D.truth]
  refine ⟨a3, b3, many + need * (if x = 5 then 1 else 0), some (.int many), ?_, q3, ?_, ?_⟩
  · show (R.bind (asgT (.nm 4) (.int x) [e0, e1, some (poolD a b), e3, x4, e5, e6, some (effD p), some (prsD L), e9, e10, e11, e12, e13, e14]) fun _ => evSs prog (evF prog 60) b_law_2) = _
    have hset : asgT (.nm 4) (.int x) [e0, e1, some (poolD a b), e3, x4, e5, e6, some (effD p), some (prsD L), e9, e10, e11, e12, e13, e14] = .ok () [e0, e1, some (poolD a b), e3, some (.int x), e5, e6, some (effD p), some (prsD L), e9, e10, e11, e12, e13, e14] := rfl
    rw [hset]
    show evSs prog (evF prog 60) b_law_2 _ = _
    unfold b_law_2
    rw [ss_nx h0, ss_nx h1]
    rfl
  · split <;> omega
  · intro hx; rw [if_pos hx]; omega
/-- one number -/
theorem turn4 {p : Parts} {c h res : Bag} (gf : GEff p c) (hh : Canon h) (hl : h.length < 1000) (hres : res = addB p.2.2 (dropB (addB h c) p.2.1)) (rl : res.length < 1000) (x : Int) {e0 e1 e2 e3 x4 e6 e8 e9 e10 e12 e13 e14 : Option D} :
    (M.bind (asgT (.nm 4) (.int x)) fun _ => evSs prog (evF prog 60) b_law_4) [e0, e1, e2, e3, x4, some (bagD h), e6, some (effD p), e8, e9, e10, some (bagD res), e12, e13, e14] =
      .ok .nx [e0, e1, e2, e3, some (.int x), some (bagD h), e6, some (effD p), e8, e9, e10, some (bagD res), some (.int (levelB p.1 x - p.2.1)), some (.int (max (levelB h x + (levelB p.1 x - p.2.1)) (levelB p.2.2 x))), e14] := by
  have pin := gf.pin
  have ls := pin.s.len pin.ok.s.nd
  have li := pin.i.len pin.ok.i.nd
  have u4' : U4.length = 9 := rfl
  have rc : Canon res := by rw [hres]; exact addB_canon pin.ok.s
  have a1 := ev_at_most bag atg (n := 60) (b := p.1) (x := x) (by omega) pin.ok.i (by unfold LINE; omega)
  have a2 := ev_at_most bag atg (n := 60) (b := p.2.2) (x := x) (by omega) pin.ok.s (by unfold LINE; omega)
  have a3 := ev_at_most bag atg (n := 60) (b := h) (x := x) (by omega) hh (by unfold LINE; omega)
  have a4 := ev_at_most bag atg (n := 60) (b := res) (x := x) (by omega) rc (by unfold LINE; omega)
  have lv : levelB res x = max (levelB h x + (levelB p.1 x - p.2.1)) (levelB p.2.2 x) := by
    rw [hres, apply_level bag eff efh pin.ok hh]; omega
  rw [lv] at a4
  have t1 := at_ins bag eff (n := 60) (by omega) (p := p) (i := 7) (e := [e0, e1, e2, e3, some (.int x), some (bagD h), e6, some (effD p), e8, e9, e10, some (bagD res), e12, e13, e14]) rfl
  have t2 := at_rem bag eff (n := 60) (by omega) (p := p) (i := 7) (e := [e0, e1, e2, e3, some (.int x), some (bagD h), e6, some (effD p), e8, e9, e10, some (bagD res), e12, e13, e14]) rfl
  have t3 := at_sur bag eff (n := 60) (by omega) (p := p) (i := 7) (e := [e0, e1, e2, e3, some (.int x), some (bagD h), e6, some (effD p), e8, e9, e10, some (bagD res), some (.int (levelB p.1 x - p.2.1)), e13, e14]) rfl
  have mx : ∀ i j : Int, bltin .max [.int i, .int j] = some (.int (max i j)) := fun i j => by
    simp [bltin, minmax]
    split <;> omega
  have h0 : evS prog (evF prog 60) s_law_4_0 [e0, e1, e2, e3, some (.int x), some (bagD h), e6, some (effD p), e8, e9, e10, some (bagD res), e12, e13, e14] = .ok .nx [e0, e1, e2, e3, some (.int x), some (bagD h), e6, some (effD p), e8, e9, e10, some (bagD res), some (.int (levelB p.1 x - p.2.1)), e13, e14] := by
    simp [s_law_4_0, opd, asgT, callX, atg.at_most, callO, ownSlots, nodupN, a1, t1, t2, backTo]
  have h1 : evS prog (evF prog 60) s_law_4_1 [e0, e1, e2, e3, some (.int x), some (bagD h), e6, some (effD p), e8, e9, e10, some (bagD res), some (.int (levelB p.1 x - p.2.1)), e13, e14] = .ok .nx [e0, e1, e2, e3, some (.int x), some (bagD h), e6, some (effD p), e8, e9, e10, some (bagD res), some (.int (levelB p.1 x - p.2.1)), some (.int (max (levelB h x + (levelB p.1 x - p.2.1)) (levelB p.2.2 x))), e14] := by
    simp [s_law_4_1, opd, asgT, callX, atg.at_most, callO, ownSlots, nodupN, a2, a3, t3, backTo, mx]
  have h2 : evS prog (evF prog 60) s_law_4_2 [e0, e1, e2, e3, some (.int x), some (bagD h), e6, some (effD p), e8, e9, e10, some (bagD res), some (.int (levelB p.1 x - p.2.1)), some (.int (max (levelB h x + (levelB p.1 x - p.2.1)) (levelB p.2.2 x))), e14] = .ok .nx [e0, e1, e2, e3, some (.int x), some (bagD h), e6, some (effD p), e8, e9, e10, some (bagD res), some (.int (levelB p.1 x - p.2.1)), some (.int (max (levelB h x + (levelB p.1 x - p.2.1)) (levelB p.2.2 x))), e14] := by
    simp [s_law_4_2, opd, test, callX, atg.at_most, callO, ownSlots, nodupN, a4, backTo]
  show (R.bind (asgT (.nm 4) (.int x) [e0, e1, e2, e3, x4, some (bagD h), e6, some (effD p), e8, e9, e10, some (bagD res), e12, e13, e14]) fun _ => evSs prog (evF prog 60) b_law_4) = _
  have hset : asgT (.nm 4) (.int x) [e0, e1, e2, e3, x4, some (bagD h), e6, some (effD p), e8, e9, e10, some (bagD res), e12, e13, e14] = .ok () [e0, e1, e2, e3, some (.int x), some (bagD h), e6, some (effD p), e8, e9, e10, some (bagD res), e12, e13, e14] := rfl
  rw [hset]
  show evSs prog (evF prog 60) b_law_4 _ = _
  unfold b_law_4
  rw [ss_nx h0, ss_nx h1, ss_nx h2]
  rfl
theorem rngA : items .rng [.int (-4), .int 6] = some ((List.range 10).map fun (k : Nat) => D.int (-4 + (k : Int))) := by
  show rangeD (-4) 6 = _
  unfold rangeD
  rw [if_pos ⟨by decide, by decide, by decide, by decide⟩]
  rfl
theorem rngB : items .rng [.int (-5), .int 7] = some ((List.range 12).map fun (k : Nat) => D.int (-5 + (k : Int))) := by
  show rangeD (-5) 7 = _
  unfold rangeD
  rw [if_pos ⟨by decide, by decide, by decide, by decide⟩]
  rfl
/-- the heap's entries -/
structure EOk (ks : List Nat) (need : Int) (L : Bag) : Prop where
  keys : L.map (·.1) = ks.map fun (k : Nat) => -4 + (k : Int)
  nn : ∀ p ∈ L, 0 ≤ p.2
  big : 9 ∈ ks → need ≤ totalB L
theorem eok_heap {need : Int} {L : Bag} (h : EOk (List.range 10) need L) : Canon (filtP L) ∧ KIn UU (filtP L) ∧ need ≤ totalB (filtP L) ∧ L.length = 10 := by
  have srt : L.Pairwise fun p q => p.1 < q.1 := by
    rw [srt_iff, h.keys]
    have : (List.range 10).Pairwise (· < ·) := List.pairwise_lt_range
    exact List.Pairwise.map _ (fun a b e => by omega) this
  refine ⟨filt_canon srt, fun p hp => ?_, ?_, by have := congrArg List.length h.keys; simpa using this⟩
  · have hp2 : p.1 ∈ L.map (·.1) := List.mem_map.mpr ⟨p, (List.mem_filter.mp hp).1, rfl⟩
    rw [h.keys] at hp2
    obtain ⟨k, hk, e⟩ := List.mem_map.mp hp2
    have := List.mem_range.mp hk
    exact mem_UU (by omega) (by omega)
  · rw [filt_total h.nn]
    exact h.big (List.mem_range.mpr (by decide))
/-- one turn within -/
theorem turn1 (sc kk : D) {a b : Int} (q : PoolOk a b) (tn : D) (x3 x4 x5 x6 x7 x8 x9 x10 x11 x12 x13 x14 : Option D) :
    ∃ a' b' y3 y4 y5 y6 y7 y8 y9 y10 y11 y12 y13 y14, (M.bind (asgT (.nm 3) tn) fun _ => evSs prog (evF prog 60) b_law_1) [some sc, some kk, some (poolD a b), x3, x4, x5, x6, x7, x8, x9, x10, x11, x12, x13, x14] = .ok .nx [some sc, some kk, some (poolD a' b'), y3, y4, y5, y6, y7, y8, y9, y10, y11, y12, y13, y14] ∧ PoolOk a' b' := by
  obtain ⟨p, c, a1, b1, p1, q1, gf⟩ := ev_ge bag eff drw ge_at (n := 60) (by decide) q
  have pin := gf.pin
  have ls := pin.s.len pin.ok.s.nd
  have li := pin.i.len pin.ok.i.nd
  have lc := pin.cc.len pin.ok.cc.nd
  have u4' : U4.length = 9 := rfl
  have uu : UU.length = 10 := rfl
  have L0 : 0 ≤ LINE := by decide
  have h0 : evS prog (evF prog 60) s_law_1_0 [some sc, some kk, some (poolD a b), some tn, x4, x5, x6, x7, x8, x9, x10, x11, x12, x13, x14] = .ok .nx [some sc, some kk, some (poolD a1 b1), some tn, x4, x5, x6, some (effD p), some (prsD []), x9, x10, x11, x12, x13, x14] := by
    simp [s_law_1_0, opd, bindAll, callX, ge_at, callO, ownSlots, nodupN, p1, backTo, L0, prsD]
  have loop := forL_map (inj := fun (k : Nat) => D.int (-4 + (k : Int))) (l := List.range 10) (w := []) (turn := fun d => M.bind (asgT (.nm 4) d) fun _ => evSs prog (evF prog 60) b_law_2)
    (e := [some sc, some kk, some (poolD a1 b1), some tn, x4, x5, x6, some (effD p), some (prsD []), x9, x10, x11, x12, x13, x14])
    (fun done e => ∃ a b x4 x9 L, e = [some sc, some kk, some (poolD a b), some tn, x4, x5, x6, some (effD p), some (prsD L), x9, x10, x11, x12, x13, x14] ∧ PoolOk a b ∧ EOk done (p.2.1 - totalB p.1 + totalB p.2.2) L) ⟨a1, b1, x4, x9, [], rfl, q1, ⟨rfl, (fun p hp => nomatch hp), (fun h => nomatch h)⟩⟩ (by
      rintro done j rest e hd ⟨a, b, z4, z9, L, rfl, q, ok⟩
      have hdl : L.length = done.length := by have := congrArg List.length ok.keys; simpa using this
      have hdl2 : done.length < 10 := by have := congrArg List.length hd; simp at this; omega
      obtain ⟨a', b', v, y9, t1, t2, t3, t4⟩ := turn2 (e0 := some sc) (e1 := some kk) (e3 := some tn) (e5 := x5) (e6 := x6) (e9 := z9) (e10 := x10) (e11 := x11) (e12 := x12) (e13 := x13) (e14 := x14) q gf (L := L) (by omega) (-4 + (j : Int)) z4
      refine ⟨_, .inl t1, ⟨a', b', _, y9, _, rfl, t2, ⟨?_, ?_, ?_⟩⟩, rfl⟩
      · rw [List.map_append, List.map_append, ok.keys]; rfl
      · intro r hr
        rcases List.mem_append.mp hr with hr | hr
        · exact ok.nn r hr
        · simp at hr; rw [hr]; exact t3
      · intro h9
        have tn := total_nonneg ok.nn
        rw [total_append, total_cons, total_nil]
        dsimp only
        rcases List.mem_append.mp h9 with h9 | h9
        · have := ok.big h9; omega
        · have h9' : 9 = j := by simpa using h9
          have := t4 (by omega)
          omega)
  obtain ⟨e', l1, a2, b2, z4, z9, L, rfl, q2, ok⟩ := loop
  have h1 : evS prog (evF prog 60) l_law_2 [some sc, some kk, some (poolD a1 b1), some tn, x4, x5, x6, some (effD p), some (prsD []), x9, x10, x11, x12, x13, x14] = .ok .nx [some sc, some kk, some (poolD a2 b2), some tn, z4, x5, x6, some (effD p), some (prsD L), z9, x10, x11, x12, x13, x14] := by
    unfold l_law_2
    rw [ev_for (os := [.val (.int (-4)), .val (.int 6)]) (ds := [.int (-4), .int 6]) (xs := (List.range 10).map fun (k : Nat) => D.int (-4 + (k : Int))) (e1 := [some sc, some kk, some (poolD a1 b1), some tn, x4, x5, x6, some (effD p), some (prsD []), x9, x10, x11, x12, x13, x14]) (by simp [opd]) (by simp) rngA (by simp [watch, noAsg])]
    have w : watch [Opd.val (.int (-4)), Opd.val (.int 6)] [some sc, some kk, some (poolD a1 b1), some tn, x4, x5, x6, some (effD p), some (prsD []), x9, x10, x11, x12, x13, x14] = [] := by simp [watch]
    rw [w, l1]
  obtain ⟨hh, hk, hs, hlen⟩ := eok_heap ok
  have h2 : evS prog (evF prog 60) s_law_1_2 [some sc, some kk, some (poolD a2 b2), some tn, z4, x5, x6, some (effD p), some (prsD L), z9, x10, x11, x12, x13, x14] = .ok .nx [some sc, some kk, some (poolD a2 b2), some tn, z4, some (bagD (filtP L)), x6, some (effD p), some (prsD L), z9, x10, x11, x12, x13, none] := by
    have z := comp_posG (G := prog) (cf := evF prog 60) L (by unfold LINE; omega) (e := [some sc, some kk, some (poolD a2 b2), some tn, z4, x5, x6, some (effD p), some (prsD L), z9, x10, x11, x12, x13, x14]) (i := 8) (v := 14) rfl (by simp) (by decide)
    unfold s_law_1_2
    rw [qevS57]
    simp only [M.bind, z, R.bind]
    simp [asgT]
  generalize filtP L = h at *
  have lh := hk.len hh.nd
  have kp := kin_add hh hk (kin_up pin.cc)
  have lp := kp.len (addB_canon hh).nd
  have kd := kin_drop (l := p.2.1) kp
  have cd := dropB_canon (addB_canon (b := c) hh) p.2.1
  have ld := kd.len cd.nd
  have kr := kin_add pin.ok.s (kin_up pin.s) kd
  have cr := addB_canon (b := dropB (addB h c) p.2.1) pin.ok.s
  have lr := kr.len cr.nd
  have kt := kin_take (l := p.2.1) kp
  have ct := takeB_canon (addB_canon (b := c) hh) p.2.1
  have lt := kt.len ct.nd
  have k1 : KIn UU (addB [] (takeB (addB h c) p.2.1)) := kin_add canon_nil kin_nil kt
  have l1' := k1.len (addB_canon canon_nil).nd
  have k2 : KIn UU (addB [] h) := kin_add canon_nil kin_nil hk
  have l2' := k2.len (addB_canon canon_nil).nd
  have e1 := ev_removed bag eff efh rmg (n := 60) (by omega) pin.ok (h := h) (by unfold LINE; omega) hh (by unfold LINE; omega) (by unfold LINE; omega) hs
  have e2 := ev_apply bag eff efh (n := 60) (by omega) pin.ok (h := h) (by unfold LINE; omega) hh (by unfold LINE; omega) (by unfold LINE; omega) (by unfold LINE; omega) hs
  have e3 := ev_union bag uni (n := 60) (by omega) ct cr (by omega) (by omega) (by omega)
  have e4 := ev_union bag uni (n := 60) (by omega) hh pin.ok.i (by omega) (by omega) (by omega)
  have e5 := ev_size bag siz (n := 60) (by omega) ct (by unfold LINE; omega)
  have e6 := ev_difference bag dif (n := 60) (by omega) cr pin.ok.s (by unfold LINE; omega)
  rw [take_total pin.ok hh hs] at e5
  rw [lost_sub pin.ok hh] at e6
  have eu := lost_uni pin.ok hh
  have ord := fun q z d' => lost_ord pin.ok hh hs (q := q) (z := z) (d' := d')
  have t4 := fun (x : Int) (w4 w12 w13 : Option D) => turn4 gf hh (by omega) rfl (by omega) x (res := addB p.2.2 (dropB (addB h c) p.2.1)) (e0 := some sc) (e1 := some kk) (e2 := some (poolD a2 b2)) (e3 := some tn) (x4 := w4) (e6 := some (bagD (dropB (addB h c) p.2.1))) (e8 := some (prsD L)) (e9 := z9) (e10 := some (bagD (takeB (addB h c) p.2.1))) (e12 := w12) (e13 := w13) (e14 := none)
  generalize takeB (addB h c) p.2.1 = t at *
  generalize hdd : dropB (addB h c) p.2.1 = d at *
  generalize hrr : addB p.2.2 d = res at *
  have L1 : 1 ≤ LINE := by decide
  have L2 : 2 ≤ LINE := by decide
  have h3 : evS prog (evF prog 60) s_law_1_3 [some sc, some kk, some (poolD a2 b2), some tn, z4, some (bagD h), x6, some (effD p), some (prsD L), z9, x10, x11, x12, x13, none] = .ok .nx [some sc, some kk, some (poolD a2 b2), some tn, z4, some (bagD h), x6, some (effD p), some (prsD L), z9, some (bagD t), some (bagD res), x12, x13, none] := by
    simp [s_law_1_3, opd, bindAll, mk_removed, mk_apply, callX, rmg.f_removed, efh.f_apply, callO, ownSlots, nodupN, e1, e2, backTo]
  have cu1 := call_union e3 (os := [.slot 10, .slot 11]) (e := [some sc, some kk, some (poolD a2 b2), some tn, z4, some (bagD h), x6, some (effD p), some (prsD L), z9, some (bagD t), some (bagD res), x12, x13, none]) (by simp)
  have cu2 := call_union e4 (os := [.slot 5, .val (bagD p.1)]) (e := [some sc, some kk, some (poolD a2 b2), some tn, z4, some (bagD h), x6, some (effD p), some (prsD L), z9, some (bagD t), some (bagD res), x12, x13, none]) (by simp)
  rw [eu] at cu1
  have t1 := at_ins bag eff (n := 60) (by omega) (p := p) (i := 7) (e := [some sc, some kk, some (poolD a2 b2), some tn, z4, some (bagD h), x6, some (effD p), some (prsD L), z9, some (bagD t), some (bagD res), x12, x13, none]) rfl
  have t2 := at_rem bag eff (n := 60) (by omega) (p := p) (i := 7) (e := [some sc, some kk, some (poolD a2 b2), some tn, z4, some (bagD h), x6, some (effD p), some (prsD L), z9, some (bagD t), some (bagD res), x12, x13, none]) rfl
  have t3 := at_sur bag eff (n := 60) (by omega) (p := p) (i := 7) (e := [some sc, some kk, some (poolD a2 b2), some tn, z4, some (bagD h), x6, some (effD p), some (prsD L), z9, some (bagD t), some (bagD res), x12, x13, none]) rfl
  have nb := ne_bag (uniB h p.1)
  have h4 : evS prog (evF prog 60) s_law_1_4 [some sc, some kk, some (poolD a2 b2), some tn, z4, some (bagD h), x6, some (effD p), some (prsD L), z9, some (bagD t), some (bagD res), x12, x13, none] = .ok .nx [some sc, some kk, some (poolD a2 b2), some tn, z4, some (bagD h), x6, some (effD p), some (prsD L), z9, some (bagD t), some (bagD res), x12, x13, none] := by
    simp [s_law_1_4, opd, test, cu1, cu2, t1, t2, callX, siz.size_of, callO, ownSlots, nodupN, e5, backTo, nb]
  have h5 : evS prog (evF prog 60) s_law_1_5 [some sc, some kk, some (poolD a2 b2), some tn, z4, some (bagD h), x6, some (effD p), some (prsD L), z9, some (bagD t), some (bagD res), x12, x13, none] = .ok .nx [some sc, some kk, some (poolD a2 b2), some tn, z4, some (bagD h), some (bagD d), some (effD p), some (prsD L), z9, some (bagD t), some (bagD res), x12, x13, none] := by
    simp [s_law_1_5, opd, asgT, t3, callX, dif.difference, callO, ownSlots, nodupN, e6, optB, backTo]
  have nn : bagD d ≠ D.non := by intro z; cases z
  have h6 : evS prog (evF prog 60) s_law_1_6 [some sc, some kk, some (poolD a2 b2), some tn, z4, some (bagD h), some (bagD d), some (effD p), some (prsD L), z9, some (bagD t), some (bagD res), x12, x13, none] = .ok .nx [some sc, some kk, some (poolD a2 b2), some tn, z4, some (bagD h), some (bagD d), some (effD p), some (prsD L), z9, some (bagD t), some (bagD res), x12, x13, none] := by
    have nd : cmpop .NotEq (bagD []) (.tup []) = some false := neq_nil
    match hd' : d with
    | [] => simp [s_law_1_6, opd, test, nn, nd]
    | q :: d' =>
      have c1 := neq_cons q d'
      have hd0 : subscr (bagD (q :: d')) (.int 0) = some (pairD q) := by unfold bagD; rw [List.map_cons]; exact sub_t0 _ _
      rcases List.eq_nil_or_concat t with rfl | ⟨t', z, rfl⟩
      · simp [s_law_1_6, opd, test, nn, nd, c1]
      · have c2 : cmpop .NotEq (bagD (t' ++ [z])) (.tup []) = some true := by
          rcases t' with _ | ⟨r, t''⟩
          · exact neq_cons z []
          · exact neq_cons r (t'' ++ [z])
        have lb := last_bag t' z
        have le := ord q z d' rfl (by simp)
        have lt : ¬ q.1 < z.1 := by omega
        have pq : subscr (pairD q) (.int 0) = some (.int q.1) := sub_t0 _ _
        have pz : subscr (pairD z) (.int 0) = some (.int z.1) := sub_t0 _ _
        simp [s_law_1_6, opd, test, nn, c1, c2, lb, hd0, pq, pz, lt]
  have loop2 := forL_map (inj := fun (k : Nat) => D.int (-5 + (k : Int))) (l := List.range 12) (w := []) (turn := fun d => M.bind (asgT (.nm 4) d) fun _ => evSs prog (evF prog 60) b_law_4)
    (e := [some sc, some kk, some (poolD a2 b2), some tn, z4, some (bagD h), some (bagD d), some (effD p), some (prsD L), z9, some (bagD t), some (bagD res), x12, x13, none])
    (fun _ e => ∃ x4 x12 x13, e = [some sc, some kk, some (poolD a2 b2), some tn, x4, some (bagD h), some (bagD d), some (effD p), some (prsD L), z9, some (bagD t), some (bagD res), x12, x13, none]) ⟨z4, x12, x13, rfl⟩ (by
      rintro done j rest e hd ⟨y4, y12, y13, rfl⟩
      exact ⟨_, .inl (t4 (-5 + (j : Int)) y4 y12 y13), ⟨_, _, _, rfl⟩, rfl⟩)
  obtain ⟨e', l2, w4, w12, w13, rfl⟩ := loop2
  have h7 : evS prog (evF prog 60) l_law_4 [some sc, some kk, some (poolD a2 b2), some tn, z4, some (bagD h), some (bagD d), some (effD p), some (prsD L), z9, some (bagD t), some (bagD res), x12, x13, none] = .ok .nx [some sc, some kk, some (poolD a2 b2), some tn, w4, some (bagD h), some (bagD d), some (effD p), some (prsD L), z9, some (bagD t), some (bagD res), w12, w13, none] := by
    unfold l_law_4
    rw [ev_for (os := [.val (.int (-5)), .val (.int 7)]) (ds := [.int (-5), .int 7]) (xs := (List.range 12).map fun (k : Nat) => D.int (-5 + (k : Int))) (e1 := [some sc, some kk, some (poolD a2 b2), some tn, z4, some (bagD h), some (bagD d), some (effD p), some (prsD L), z9, some (bagD t), some (bagD res), x12, x13, none]) (by simp [opd]) (by simp) rngB (by simp [watch, noAsg])]
    have w : watch [Opd.val (.int (-5)), Opd.val (.int 7)] [some sc, some kk, some (poolD a2 b2), some tn, z4, some (bagD h), some (bagD d), some (effD p), some (prsD L), z9, some (bagD t), some (bagD res), x12, x13, none] = [] := by simp [watch]
    rw [w, l2]
  refine ⟨a2, b2, some tn, w4, some (bagD h), some (bagD d), some (effD p), some (prsD L), z9, some (bagD t), some (bagD res), w12, w13, none, ?_, q2⟩
  show (R.bind (asgT (.nm 3) tn [some sc, some kk, some (poolD a b), x3, x4, x5, x6, x7, x8, x9, x10, x11, x12, x13, x14]) fun _ => evSs prog (evF prog 60) b_law_1) = _
  have hset : asgT (.nm 3) tn [some sc, some kk, some (poolD a b), x3, x4, x5, x6, x7, x8, x9, x10, x11, x12, x13, x14] = .ok () [some sc, some kk, some (poolD a b), some tn, x4, x5, x6, x7, x8, x9, x10, x11, x12, x13, x14] := rfl
  rw [hset]
  show evSs prog (evF prog 60) b_law_1 _ = _
  unfold b_law_1
  rw [ss_nx h0, ss_nx h1, ss_nx h2, ss_nx h3, ss_nx h4, ss_nx h5, ss_nx h6, ss_nx h7]
  rfl
theorem rng3 : items .rng [.int 3] = some ((List.range 3).map fun (k : Nat) => D.int (0 + (k : Int))) := by
  show rangeD 0 3 = _
  unfold rangeD
  rw [if_pos ⟨by decide, by decide, by decide, by decide⟩]
  rfl
theorem turn (ns : List Int) (k : Nat) (hk : k < 1000) (x1 x2 x3 x4 x5 x6 x7 x8 x9 x10 x11 x12 x13 x14 : Option D) :
    ∃ y1 y2 y3 y4 y5 y6 y7 y8 y9 y10 y11 y12 y13 y14, (M.bind (asgT (.nm 1) (.int (0 + (k : Int)))) fun _ => evSs prog (evF prog 60) b_law_0) [some (.scr ns), x1, x2, x3, x4, x5, x6, x7, x8, x9, x10, x11, x12, x13, x14] = .ok .nx [some (.scr ns), y1, y2, y3, y4, y5, y6, y7, y8, y9, y10, y11, y12, y13, y14] := by
  obtain ⟨a0, b0, p0, q0⟩ := ev_pool drw (n := 60) (by decide) (ns := ns) (k := 0 + (k : Int)) (by omega) (by omega)
  generalize hkk : 0 + (k : Int) = kk at p0
  have h0 : evS prog (evF prog 60) s_law_0_0 [some (.scr ns), some (.int kk), x2, x3, x4, x5, x6, x7, x8, x9, x10, x11, x12, x13, x14] = .ok .nx [some (.scr ns), some (.int kk), some (poolD a0 b0), x3, x4, x5, x6, x7, x8, x9, x10, x11, x12, x13, x14] := by
    simp [s_law_0_0, opd, asgT, callX, drw.pool, callO, ownSlots, nodupN, p0, backTo]
  have loop := forL_map (inj := fun (k : Nat) => D.int (0 + (k : Int))) (l := List.range 3) (w := []) (turn := fun d => M.bind (asgT (.nm 3) d) fun _ => evSs prog (evF prog 60) b_law_1)
    (e := [some (.scr ns), some (.int kk), some (poolD a0 b0), x3, x4, x5, x6, x7, x8, x9, x10, x11, x12, x13, x14])
    (fun _ e => ∃ a b x3 x4 x5 x6 x7 x8 x9 x10 x11 x12 x13 x14, e = [some (.scr ns), some (.int kk), some (poolD a b), x3, x4, x5, x6, x7, x8, x9, x10, x11, x12, x13, x14] ∧ PoolOk a b) ⟨a0, b0, x3, x4, x5, x6, x7, x8, x9, x10, x11, x12, x13, x14, rfl, q0⟩ (by
      rintro done j rest e hd ⟨a, b, z3, z4, z5, z6, z7, z8, z9, z10, z11, z12, z13, z14, rfl, q⟩
      obtain ⟨a', b', y3, y4, y5, y6, y7, y8, y9, y10, y11, y12, y13, y14, t1, t2⟩ := turn1 (.scr ns) (.int kk) q (.int (0 + (j : Int))) z3 z4 z5 z6 z7 z8 z9 z10 z11 z12 z13 z14
      exact ⟨_, .inl t1, ⟨a', b', y3, y4, y5, y6, y7, y8, y9, y10, y11, y12, y13, y14, rfl, t2⟩, rfl⟩)
  obtain ⟨e', l1, a1, b1, z3, z4, z5, z6, z7, z8, z9, z10, z11, z12, z13, z14, rfl, q1⟩ := loop
  have h1 : evS prog (evF prog 60) l_law_1 [some (.scr ns), some (.int kk), some (poolD a0 b0), x3, x4, x5, x6, x7, x8, x9, x10, x11, x12, x13, x14] = .ok .nx [some (.scr ns), some (.int kk), some (poolD a1 b1), z3, z4, z5, z6, z7, z8, z9, z10, z11, z12, z13, z14] := by
    unfold l_law_1
    rw [ev_for (os := [.val (.int 3)]) (ds := [.int 3]) (xs := (List.range 3).map fun (k : Nat) => D.int (0 + (k : Int))) (e1 := [some (.scr ns), some (.int kk), some (poolD a0 b0), x3, x4, x5, x6, x7, x8, x9, x10, x11, x12, x13, x14]) (by simp [opd]) (by simp) rng3 (by simp [watch, noAsg])]
    have w : watch [Opd.val (.int 3)] [some (.scr ns), some (.int kk), some (poolD a0 b0), x3, x4, x5, x6, x7, x8, x9, x10, x11, x12, x13, x14] = [] := by simp [watch]
    rw [w, l1]
  refine ⟨some (.int kk), some (poolD a1 b1), z3, z4, z5, z6, z7, z8, z9, z10, z11, z12, z13, z14, ?_⟩
  show (R.bind (setS 1 (.int kk) [some (.scr ns), x1, x2, x3, x4, x5, x6, x7, x8, x9, x10, x11, x12, x13, x14]) fun _ => evSs prog (evF prog 60) b_law_0) = _
  have hset : setS 1 (.int kk) [some (.scr ns), x1, x2, x3, x4, x5, x6, x7, x8, x9, x10, x11, x12, x13, x14] = .ok () [some (.scr ns), some (.int kk), x2, x3, x4, x5, x6, x7, x8, x9, x10, x11, x12, x13, x14] := rfl
  rw [hset]
  show evSs prog (evF prog 60) b_law_0 _ = _
  unfold b_law_0
  rw [ss_nx h0, ss_nx h1]
  rfl
theorem plain (ns : List Int) (h : ns.length ≤ 63) : ∃ fin, evF prog (60 + 1) (("law" : Str), none) [.scr ns] = .ret (.bl true) fin := by
  have lk : prog.fns.lookup (K1 "law") = some f_law := rfl
  have e0 : evF prog (60 + 1) (K1 "law") [.scr ns] = runF prog (evF prog 60) f_law [.scr ns] := evF_succ lk rfl
  have mx : ∃ j : Int, 0 ≤ j ∧ j < 100 ∧ evOs prog (evF prog 60) [(.blt .max [(.lit (.int 1)), (.blt .min [(.blt .len [(.var 0)]), (.lit (.int 6))])])] [some (.scr ns), none, none, none, none, none, none, none, none, none, none, none, none, none, none] = .ok [.val (.int j)] [some (.scr ns), none, none, none, none, none, none, none, none, none, none, none, none, none, none] := by
    have l : (ns.length : Int) ≤ 63 := by omega
    generalize hm : minI2 (ns.length : Int) 6 = m
    have h1 : m ≤ 6 := by rw [← hm]; exact (min_le).2.1
    refine ⟨if m > 1 then m else 1, by split <;> omega, by split <;> omega, ?_⟩
    simp [opd, bltin, blt1, lenD, minmax]
    simp [minI2] at hm
    rw [hm]
  obtain ⟨j, j0, j1, hj⟩ := mx
  have loop := forL_map (inj := fun (k : Nat) => D.int (0 + (k : Int))) (l := List.range (j - 0).toNat) (w := []) (turn := fun d => M.bind (asgT (.nm 1) d) fun _ => evSs prog (evF prog 60) b_law_0)
    (e := [some (.scr ns), none, none, none, none, none, none, none, none, none, none, none, none, none, none]) (fun _ e => ∃ x1 x2 x3 x4 x5 x6 x7 x8 x9 x10 x11 x12 x13 x14, e = [some (.scr ns), x1, x2, x3, x4, x5, x6, x7, x8, x9, x10, x11, x12, x13, x14]) ⟨none, none, none, none, none, none, none, none, none, none, none, none, none, none, rfl⟩ (by
      rintro done k rest e hd ⟨x1, x2, x3, x4, x5, x6, x7, x8, x9, x10, x11, x12, x13, x14, rfl⟩
      have hk : k < 1000 := by
        have : k ∈ List.range (j - 0).toNat := by rw [hd]; simp
        have := List.mem_range.mp this
        omega
      obtain ⟨y1, y2, y3, y4, y5, y6, y7, y8, y9, y10, y11, y12, y13, y14, hy⟩ := turn ns k hk x1 x2 x3 x4 x5 x6 x7 x8 x9 x10 x11 x12 x13 x14
      exact ⟨_, .inl hy, ⟨y1, y2, y3, y4, y5, y6, y7, y8, y9, y10, y11, y12, y13, y14, rfl⟩, rfl⟩)
  obtain ⟨e', l1, x1, x2, x3, x4, x5, x6, x7, x8, x9, x10, x11, x12, x13, x14, rfl⟩ := loop
  have lp : evS prog (evF prog 60) l_law_0 [some (.scr ns), none, none, none, none, none, none, none, none, none, none, none, none, none, none] = .ok .nx [some (.scr ns), x1, x2, x3, x4, x5, x6, x7, x8, x9, x10, x11, x12, x13, x14] := by
    unfold l_law_0
    rw [ev_for (os := [.val (.int j)]) (ds := [.int j]) (xs := (List.range (j - 0).toNat).map fun (k : Nat) => D.int (0 + (k : Int))) (e1 := [some (.scr ns), none, none, none, none, none, none, none, none, none, none, none, none, none, none]) hj (by simp) ?_ (by simp [watch, noAsg])]
    · have w : watch [Opd.val (.int j)] [some (.scr ns), none, none, none, none, none, none, none, none, none, none, none, none, none, none] = [] := by simp [watch]
      rw [w, l1]
    · show rangeD 0 j = _
      unfold rangeD
      rw [if_pos ⟨by decide, by decide, by omega, by omega⟩]
  refine ⟨[none], e0.trans ?_⟩
  simp only [runF, f_law]
  show (match evSs prog (evF prog 60) [l_law_0, .ret (.lit (.bl true))] [some (.scr ns), none, none, none, none, none, none, none, none, none, none, none, none, none, none] with
      | .ok (.rt d) e => CR.ret d (fins [1, 2, 3, 4, 5, 6, 7, 8, 9, 10, 11, 12, 13] 0 [.scr ns] e)
      | .ok .nx e => .ret .non (fins [1, 2, 3, 4, 5, 6, 7, 8, 9, 10, 11, 12, 13] 0 [.scr ns] e)
      | .exc x e => CR.exc x (fins [1, 2, 3, 4, 5, 6, 7, 8, 9, 10, 11, 12, 13] 0 [.scr ns] e)
      | _ => .bad) = _
  rw [ss_nx lp]
  simp [retV, fins]
end K_k38

-- E_k38
set_option Elab.async false
set_option linter.all false
set_option maxRecDepth 100000
set_option maxHeartbeats 0
open PySem PySem.W PySem.Calls PyProof.Rows
set_option maxRecDepth 100000 in
set_option maxHeartbeats 0 in
theorem PySem.Challenge.cw_heapeffects_k38_whole_nothing_is_lost_holds : PySem.Challenge.rw_heapeffects_k38_whole_nothing_is_lost.Holds := by
  w_on; o_law
  refine HandSHeadRun.head_any (r := OpenLaw.row PySem.Challenge.rw_heapeffects_k38_whole_nothing_is_lost) (q := view (OpenLaw.row PySem.Challenge.rw_heapeffects_k38_whole_nothing_is_lost).prog [45]) (H := K_k38.hk) (ob := K_k38.ob) (M := 20000) (loose := K_k38.nms) (d := HandSHeadRun.topDef (OpenLaw.row PySem.Challenge.rw_heapeffects_k38_whole_nothing_is_lost).prog 45) (kwd := []) K_k38.ob_eq
    (by kernel_rfl) (fun s => by kernel_rfl) K_k38.run (by kernel_rfl) (by kernel_rfl) (by kernel_rfl) (by rfl) (by first | assumption | decide +kernel) (by decide +kernel) ⟨rfl, rfl, rfl, rfl, rfl, by decide +kernel⟩ ?hw ?hc
  case hw => w_witness2
  case hc =>
    refine L2.walk_ofE (l := PySem.Challenge.rw_heapeffects_k38_whole_nothing_is_lost) (n := 63) (k := 2 * 60 + 1 + 1) (x := "script") (CX := L2.CX0) rfl (by decide) (by kernel_rfl) ⟨rfl, by decide, by decide⟩ ?F (fun _ _ _ _ z => z)
    intro w mg fa h Y G hmg0
    obtain ⟨K, KX, c, cw⟩ := Y
    have hmg : mg ("law" : PySem.Str) = some (.ref fa) := by
      have e : (HandSHeadRun.topDef (OpenLaw.row PySem.Challenge.rw_heapeffects_k38_whole_nothing_is_lost).prog 45).name = ("law" : PySem.Str) := by kernel_rfl
      rw [← e]
      exact hmg0
    exact PL.law_end (G := K_k38.prog) (free := K_k38.free) (t := K_k38.tab) (ts := K_k38.tabS) (n := 60) (e := K_k38.eLaw) KX G K_k38.tab_fns K_k38.tab_ok c cw K_k38.eLaw_mem rfl rfl rfl rfl rfl hmg K_k38.tabS_fns K_k38.tabS_ok K_k38.plain

