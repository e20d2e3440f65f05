import PyProof.Rows.All
import PySem.Str
import PyProof.ReprReads
import HandS.ExcInit
import HandS.ExcIs
import HandS.ExcField
import HandS.HeadHook1
import KE.KExcSuper
import KE.KSuper
import HandS.ExcValue
import HandS.ExcOwn
import HandS.RaiseMore
import HandS.More
import HandS.Lambda
import PyProof.ReprRoads
import HandS.TryMany
import HandS.EndBits
import HandS.Ends
import HandS.CallRecv
import HandS.Slots
import HandS.SlotsOwn
import HandS.ForExc
import HandS.Comp
import HandS.Iter
import HandS.Walk
import HandS.Flow
import HandS.Conv
import HandS.SortInts
import HandS.SortRule
import HandS.Zip
import HandS.IsInst
import HandS.Wide
import HandS.TupAny
import PyProof.Rows.RuleB_pow
import HandS.TupMul
import HandS.Style
import HandS.Dict
import KE.GoesEnum
import PyProof.SumWalkG
import PyProof.WalksMore
import HandS.Codes
import HandS.Defaults
import HandS.Head0
import HandS.Head1
import HandS.Head2
import HandS.HeadEnd
import HandS.HeadHook2
import HandS.HeadHook4
import HandS.Words
import PySem.Challenge.RW_spanswaps_k03_errors_of_numbers_and_lots
set_option Elab.async false
set_option linter.all false
/-! MP: a small language with values, a store of mutable objects, and an evaluator of its own. -/
namespace MP
open PySem

-- values: integers, texts, tuples, frozen lists, places of the store, exceptions (class, fields)
inductive D where
  | non | bl (b : Bool) | int (i : Int) | str (x : Str)
  | tup (l : List D) | lst (l : List D) | loc (p : Nat)
  | scr (l : List D)
  | dic (ks : List (Sum Int Str)) (vs : List D)
  | exo (x : Str) (fs : List Str) (l : List D)
  | obj (c : Str) (l : List D)
  -- the dict, empty, of an instance with slots
  | own
  -- a def of the module, by its name
  | fn (x : Str)

-- what stands at a place of the store
inductive O where
  | lst (l : List D)
  | dic (l : List (Sum Int Str × D))
  | obj (c : Str) (l : List (Option D))

abbrev Heap := List O

-- an exception: its class's name, its fields
structure Ex where
  cls : Str
  fs : List (Str × D)

inductive Out (α : Type) where
  | ok (a : α) (h : Heap)
  | exc (x : Ex) (h : Heap)
abbrev Res (α : Type) := Option (Out α)

def bd {α β : Type} (m : Res α) (k : α → Heap → Res β) : Res β :=
  match m with
  | some (.ok a h) => k a h
  | some (.exc x h) => some (.exc x h)
  | none => none
@[simp] theorem bd_ok {α β : Type} (a : α) (h : Heap) (k : α → Heap → Res β) : bd (some (.ok a h)) k = k a h := rfl
@[simp] theorem bd_exc {α β : Type} (x : Ex) (h : Heap) (k : α → Heap → Res β) : bd (some (.exc x h) : Res α) k = some (.exc x h) := rfl
@[simp] theorem bd_none {α β : Type} (k : α → Heap → Res β) : bd (none : Res α) k = none := rfl

-- a result: a value, or a list (a dict) that nothing else holds
inductive R where
  | v (d : D)
  | newL (l : List D)
  | newD (l : List (Sum Int Str × D))
  | newO (c : Str) (l : List D)
def R.frz : R → D
  | .v d => d
  | .newL l => .lst l
  | .newD l => .dic (l.map (·.1)) (l.map (·.2))
  | .newO c l => .obj c l
@[simp] theorem R.frz_v (d : D) : R.frz (.v d) = d := rfl
@[simp] theorem R.frz_newL (l : List D) : R.frz (.newL l) = .lst l := rfl
@[simp] theorem R.frz_newD (l : List (Sum Int Str × D)) : R.frz (.newD l) = .dic (l.map (·.1)) (l.map (·.2)) := rfl

@[simp] theorem R.frz_newO (c : Str) (l : List D) : R.frz (.newO c l) = .obj c l := rfl

abbrev Env := List (Option D)
-- all slots are set
def allS : List (Option D) → Option (List D)
  | [] => some []
  | some d :: r => (allS r).map (d :: ·)
  | none :: _ => none

/-! ### closedness: places below n -/
mutual
def cl (n : Nat) : D → Bool
  | .non => true
  | .bl _ => true
  | .int _ => true
  | .str _ => true
  | .tup l => clL n l
  | .lst l => clL n l
  | .loc p => decide (p < n)
  | .scr l => clL n l
  | .dic _ l => clL n l
  | .exo _ _ l => clL n l
  | .obj _ l => clL n l
  | .own => true
  | .fn _ => true
def clL (n : Nat) : List D → Bool
  | [] => true
  | d :: ds => cl n d && clL n ds
end
def clO (n : Nat) : O → Bool
  | .lst l => clL n l
  | .dic l => clL n (l.map (·.2))
  | .obj _ l => l.all fun o => match o with
    | some d => cl n d
    | none => true

/-! ### operators -/
inductive BOp where
  | add | sub | mul | fdiv | mod | pow
  deriving DecidableEq
inductive COp where
  | eq | ne | lt | le | gt | ge | isN | notN | mem | nmem
  deriving DecidableEq
-- the limit of lengths
abbrev lim : Nat := 16777216

-- the content of a sequence
@[simp] def seqOf (h : Heap) : D → Option (List D)
  | .tup l => some l
  | .lst l => some l
  | .scr l => some l
  | .loc p => match h[p]? with
    | some (.lst l) => some l
    | _ => none
  | _ => none

-- a list's content, where it is surely the program's own
@[simp] def lstOf (h : Heap) : D → Option (List D)
  | .lst l => some l
  | .loc p => match h[p]? with
    | some (.lst l) => some l
    | _ => none
  | _ => none

-- data that == is told for: no places, not too deep
mutual
def dok : Nat → D → Bool
  | _, .non => true
  | _, .bl _ => true
  | _, .int _ => true
  | _, .str x => x.cps.all (· < 1114112)
  | 0, .tup _ => false
  | n + 1, .tup l => dokL n l
  | 0, .lst _ => false
  | n + 1, .lst l => dokL n l
  | _, .loc _ => false
  | _, .scr _ => false
  | _, .dic _ _ => false
  | _, .exo _ _ _ => false
  | _, .obj _ _ => false
  | _, .own => false
  | _, .fn _ => false
def dokL : Nat → List D → Bool
  | _, [] => true
  | n, d :: ds => dok n d && dokL n ds
end
def b2i (b : Bool) : Int := if b then 1 else 0
mutual
def eqD : D → D → Bool
  | .non, .non => true
  | .bl a, .bl b => a == b
  | .bl a, .int j => b2i a == j
  | .int i, .bl b => i == b2i b
  | .int i, .int j => i == j
  | .str x, .str y => x == y
  | .tup l, .tup m => eqDL l m
  | .lst l, .lst m => eqDL l m
  | _, _ => false
def eqDL : List D → List D → Bool
  | [], [] => true
  | x :: xs, y :: ys => eqD x y && eqDL xs ys
  | _, _ => false
end
-- a place that holds a list, read as that list (the outermost level alone)
@[simp] def look (h : Heap) : D → D
  | .loc p => match h[p]? with
    | some (.lst l) => .lst l
    | _ => .loc p
  | d => d

def mulOk (i j : Int) : Bool := decide (i.natAbs.log2 + j.natAbs.log2 < 1000000)
def fdivOk (j : Int) : Bool := decide (0 < j ∧ j.natAbs.log2 < 9000)
def powOk (i j : Int) : Bool := decide (0 ≤ j ∧ j ≤ 10000 ∧ i.natAbs.log2 < 10000)

@[simp] def catL (l : List D) (o : Option (List D)) (h : Heap) : Res R := match o with
  | some m => if l.length + m.length ≤ lim then some (.ok (.newL (l ++ m)) h) else none
  | none => none
@[simp] def bin (op : BOp) (x y : D) (h : Heap) : Res R :=
  match op, x, y with
  | .add, .tup l, .tup m => if l.length + m.length ≤ lim then some (.ok (.v (.tup (l ++ m))) h) else none
  | .add, .lst l, y => catL l (lstOf h y) h
  | .add, .loc p, y => match h[p]? with
    | some (.lst l) => catL l (lstOf h y) h
    | _ => none
  | .mul, .tup l, .int j => if l ≠ [] ∧ 2 ≤ j ∧ j ≤ 10000 ∧ l.length ≤ 1000 then some (.ok (.v (.tup (List.replicate j.toNat l).flatten)) h) else none
  | .mul, .lst l, .int j => if 0 ≤ j ∧ j ≤ 1000 ∧ l.length ≤ 1000 then some (.ok (.newL (List.replicate j.toNat l).flatten) h) else none
  | .add, .str a, .str b => if a.length + b.length ≤ lim then some (.ok (.v (.str (a ++ b))) h) else none
  | .add, .int i, .int j => some (.ok (.v (.int (i + j))) h)
  | .sub, .int i, .int j => some (.ok (.v (.int (i - j))) h)
  | .mul, .int i, .int j => if mulOk i j then some (.ok (.v (.int (i * j))) h) else none
  | .fdiv, .int i, .int j => if fdivOk j then some (.ok (.v (.int (i / j))) h) else none
  | .mod, .int i, .int j => if 0 < j then some (.ok (.v (.int (i % j))) h) else if j ≠ 0 then some (.ok (.v (.int (Int.fmod i j))) h) else none
  | .pow, .int i, .int j => if powOk i j then some (.ok (.v (.int (i ^ j.toNat))) h) else none
  | _, _, _ => none

def flat : D → Bool
  | .non => true
  | .bl _ => true
  | .int _ => true
  | .str _ => true
  | _ => false
@[simp] def isNon : D → Bool
  | .non => true
  | _ => false
-- x is y, y None or a bool
@[simp] def isM (x y : D) : Option Bool := match y with
  | .non => some (isNon x)
  | .bl b => match x with
    | .bl a => some (a == b)
    | _ => none
  | _ => none
def mem (x : D) (y : D) (h : Heap) : Option Bool :=
  match seqOf h y with
  | some l => if flat x && l.all flat then some (l.any fun z => eqD z x) else none
  | none => none
@[simp] def cmp (op : COp) (x y : D) (h : Heap) : Option Bool :=
  match op with
  | .eq => if dok 60 (look h x) && dok 60 (look h y) then some (eqD (look h x) (look h y)) else none
  | .ne => if dok 60 (look h x) && dok 60 (look h y) then some (!eqD (look h x) (look h y)) else none
  | .lt => match x, y with
    | .int i, .int j => some (decide (i < j))
    | _, _ => none
  | .le => match x, y with
    | .int i, .int j => some (decide (i ≤ j))
    | _, _ => none
  | .gt => match x, y with
    | .int i, .int j => some (decide (j < i))
    | _, _ => none
  | .ge => match x, y with
    | .int i, .int j => some (decide (j ≤ i))
    | _, _ => none
  | .isN => isM x y
  | .notN => (isM x y).map (!·)
  | .mem => mem x y h
  | .nmem => (mem x y h).map (!·)
-- truth
def tru (h : Heap) : D → Option Bool
  | .non => some false
  | .bl b => some b
  | .int i => some (decide (i ≠ 0))
  | .str x => if x.length ≤ lim then some (decide (x.length ≠ 0)) else none
  | .tup l => some (!l.isEmpty)
  | .lst l => some (!l.isEmpty)
  | .scr l => some (!l.isEmpty)
  | .dic _ _ => none
  | .exo _ _ _ => none
  | .obj _ _ => none
  | .own => none
  | .fn _ => none
  | .loc p => match h[p]? with
    | some (.lst l) => some (!l.isEmpty)
    | _ => none

/-! ### places in a sequence -/
def small (i : Int) : Bool := decide (-(2 ^ 62) ≤ i ∧ i < 2 ^ 62)
@[simp] def atN (n : Nat) (i : Int) : Option Nat := if 0 ≤ i then if i.toNat < n then some i.toNat else none else if -(n : Int) ≤ i then some (i + n).toNat else none
def atZ {α : Type} (l : List α) (i : Int) : Option α :=
  if 0 ≤ i then l[i.toNat]? else if -(l.length : Int) ≤ i then l[(i + l.length).toNat]? else none
-- an end of a slice: none: d
def cutAt (n d : Nat) : Option Int → Nat
  | none => d
  | some i => if i < 0 then (i + (n : Int)).toNat else min i.toNat n
def cutZ (l : List D) (lo hi : Option Int) : List D := (l.drop (cutAt l.length 0 lo)).take (cutAt l.length l.length hi - cutAt l.length 0 lo)
@[simp] def ixD (h : Heap) (x i : D) : Option D :=
  match seqOf h x, i with
  | some l, .int i => atZ l i
  | _, _ => none
@[simp] def sliceM (x : D) (lo hi : Option Int) (h : Heap) : Res R :=
  match x with
  | .tup l => some (.ok (.v (.tup (cutZ l lo hi))) h)
  | _ => match seqOf h x with
    | some l => some (.ok (.newL (cutZ l lo hi)) h)
    | none => none

/-! ### built-in functions -/
inductive B1 where
  | len | abs | int | str | repr
  deriving DecidableEq
inductive B2 where
  | min | max
  deriving DecidableEq
inductive Ty where
  | int | bool | tuple | list | str
  deriving DecidableEq
inductive BI where
  | tuple | list | sum | all | any | sorted
  deriving DecidableEq
inductive M where
  | append | pop | index
  deriving DecidableEq

-- repr: plain data, tuples and lists of such
mutual
def pyD : D → Option PyData
  | .non => some .none
  | .bl b => some (.bool b)
  | .int i => some (.int i)
  | .str x => some (.str x)
  | .tup l => (pyDL l).map .tuple
  | .lst l => (pyDL l).map .list
  | _ => none
def pyDL : List D → Option (List PyData)
  | [] => some []
  | d :: l => match pyD d with
    | some p => (pyDL l).map (p :: ·)
    | none => none
end
def reprD (d : D) : Option Str := match pyD d with
  | some p => if p.showable = true ∧ p.depth ≤ 20 ∧ p.shown.length ≤ lim then some p.shown else none
  | none => none
@[simp] def b1 (f : B1) (x : D) (h : Heap) : Option D :=
  match f with
  | .len => (seqOf h x).map fun l => .int l.length
  | .abs => match x with
    | .int i => some (.int (if i < 0 then -i else i))
    | _ => none
  | .int => match x with
    | .int i => some (.int i)
    | .bl b => some (.int (b2i b))
    | _ => none
  | .str => match x with
    | .int i => if i.natAbs.log2 < 1920 then some (.str (Str.ofString (toString i))) else none
    | _ => none
  | .repr => (reprD x).map .str
@[simp] def b2 (f : B2) (x y : D) : Option D :=
  match f, x, y with
  | .min, .int i, .int j => some (.int (if j < i then j else i))
  | .max, .int i, .int j => some (.int (if j > i then j else i))
  | _, _, _ => none
@[simp] def isTy (h : Heap) (t : Ty) : D → Option Bool
  | .non => some false
  | .bl _ => some (decide (t = .int ∨ t = .bool))
  | .int _ => some (decide (t = .int))
  | .str _ => some (decide (t = .str))
  | .tup _ => some (decide (t = .tuple))
  | .lst _ => some (decide (t = .list))
  | .scr _ => some (decide (t = .list))
  | .dic _ _ => some false
  | .exo _ _ _ => none
  | .obj _ _ => none
  | .own => none
  | .fn _ => none
  | .loc p => match h[p]? with
    | some (.lst _) => some (decide (t = .list))
    | some (.dic _) => some false
    | _ => none

-- all are intsD
def intsD : List D → Option (List Int)
  | [] => some []
  | .int i :: r => (intsD r).map (i :: ·)
  | _ :: _ => none
def bools : List D → Option (List Bool)
  | [] => some []
  | .bl i :: r => (bools r).map (i :: ·)
  | _ :: _ => none
-- all are pairs of intsD
def pairs : List D → Option (List (Int × Int))
  | [] => some []
  | .tup [.int i, .int j] :: r => (pairs r).map ((i, j) :: ·)
  | _ :: _ => none
def insBy {α : Type} (le : α → α → Bool) (x : α) : List α → List α
  | [] => [x]
  | y :: r => if le x y then x :: y :: r else y :: insBy le x r
def sortBy {α : Type} (le : α → α → Bool) : List α → List α
  | [] => []
  | x :: r => insBy le x (sortBy le r)
def leI (a b : Int) : Bool := decide (a ≤ b)
def leP (a b : Int × Int) : Bool := decide (a.1 < b.1) || (decide (a.1 = b.1) && decide (a.2 ≤ b.2))
def pairD (p : Int × Int) : D := .tup [.int p.1, .int p.2]
def sortD (l : List D) : Option (List D) :=
  match intsD l with
  | some ns => some ((sortBy leI ns).map .int)
  | none => match pairs l with
    | some ps => some ((sortBy leP ps).map pairD)
    | none => none
def bi (f : BI) (l : List D) : Option R :=
  match f with
  | .tuple => if l.length ≤ lim then some (.v (.tup l)) else none
  | .list => if l.length ≤ lim then some (.newL l) else none
  | .sum => (intsD l).map fun ns => .v (.int ns.sum)
  | .all => (bools l).map fun bs => .v (.bl (bs.all id))
  | .any => (bools l).map fun bs => .v (.bl (bs.any id))
  | .sorted => (sortD l).map .newL

/-! ### dicts -/
-- in its place, or at the end
def putD (l : List (Sum Int Str × D)) (k : Sum Int Str) (d : D) : List (Sum Int Str × D) :=
  if (l.any fun kv => decide (kv.1 = k)) = true then l.map (fun kv => if kv.1 = k then (kv.1, d) else kv) else l ++ [(k, d)]
def getD (l : List (Sum Int Str × D)) (k : Sum Int Str) : Option D := (l.find? fun kv => decide (kv.1 = k)).map (·.2)
@[simp] def keyOf : D → Option (Sum Int Str)
  | .int i => some (.inl i)
  | .str x => some (.inr x)
  | _ => none
-- a dict read
@[simp] def dicOf (h : Heap) : D → Option (List (Sum Int Str × D))
  | .dic ks vs => some (ks.zip vs)
  | .loc p => match h[p]? with
    | some (.dic l) => some l
    | _ => none
  | _ => none
-- keys that are all ints
def intKs : List (Sum Int Str) → Option (List Int)
  | [] => some []
  | .inl i :: r => (intKs r).map (i :: ·)
  | .inr _ :: _ => none
@[simp] def srtDM (x : D) (h : Heap) : Res R := match dicOf h x with
  | some l => match intKs (l.map (·.1)) with
    | some ks => if ks.length < 64 then some (.ok (.newL ((sortBy leI ks).map .int)) h) else none
    | none => none
  | none => none

/-! ### the syntax -/
inductive Tg where
  | slot (i : Nat)
  | tup (ts : List Tg)
-- a def that calls what it gets: try: a() (and ret behind it; without ret: try: return a()), then its except clauses;
-- ex: which class is caught by which clause
inductive Cst where
  | non | bl (b : Bool) | str (x : Str)
  deriving DecidableEq
def Cst.d : Cst → D
  | .non => .non
  | .bl b => .bl b
  | .str x => .str x
@[simp] theorem Cst.d_non : Cst.non.d = .non := rfl
@[simp] theorem Cst.d_bl (b : Bool) : (Cst.bl b).d = .bl b := rfl
@[simp] theorem Cst.d_str (x : Str) : (Cst.str x).d = .str x := rfl
inductive Hr where
  | c (d : Cst)
  | rp (t f : Str)
  deriving DecidableEq
structure Met where
  ret : Option Cst
  hs : List (Str × Hr)
  ex : List (Str × Str × Bool)
  xs : List (Str × Str)
  deriving DecidableEq
mutual
inductive E where
  | var (i : Nat)
  | c (d : D)
  | glob (k : Nat)
  | bin (op : BOp) (a b : E)
  | neg (a : E)
  | not (a : E)
  | cmp (op : COp) (a b : E)
  | cmp2 (o1 o2 : COp) (a b c : E)
  | and (a b : E)
  | or (a b : E)
  | ite (c a b : E)
  | tup (es : List E)
  | lst (es : List E)
  | ix (a b : E)
  | slice (a : E) (bl bh : Bool) (lo hi : E)
  | call (f : Nat) (es : List E)
  | b1 (f : B1) (a : E)
  | b2 (f : B2) (a b : E)
  | isinst (a : E) (t : Ty)
  | bi (f : BI) (i : I)
  | lc (elt : E) (tg : Tg) (it : I) (cond : List E) (ws : List Nat)
  | meth (m : M) (o : E) (es : List E)
  | alloc (e : E)
  | dct
  | srtD (a : E)
  | mkX (x : Str) (f : Option Str) (a : E)
  | isX (a : E) (t : Str) (yes no : List Str)
  | xf (a : E) (f : Str) (cs : List Str)
  | mk (c : Str) (f : Nat) (es : List E)
  | sl (c : Str) (i : Nat) (a : E)
  | pr (c : Str) (f : Nat) (a : E)
  | mc (c : Str) (f : Nat) (a : E) (es : List E)
  | isO (a : E) (c : Str) (cs : List Str)
  | eqO (c : Str) (f : Nat) (a b : E)
  | fn (x : Str)
  | callv (fs : List (Str × Nat)) (i : Nat) (es : List E)
  | met (x : Str) (m : Met) (e : E)
inductive I where
  | of (e : E)
  | range1 (a : E)
  | range2 (a b : E)
  | enum (a : E)
  | zip (a b : E)
end
inductive St where
  | asg (tg : Tg) (e : E)
  | par (is : List Nat) (es : List E)
  | aug (i : Nat) (op : BOp) (e : E)
  | setix (o k e : E)
  | sst (c : Str) (i : Nat) (o e : E)
  | sstT (ts : List (Str × Nat × E)) (e : E)
  | augix (op : BOp) (o k e : E)
  | expr (e : E)
  | ret (e : E)
  | ret0
  | if_ (c : E) (a b : List St)
  | for_ (tg : Tg) (it : I) (body : List St)
  | while_ (c : E) (body : List St)
  | pass | brk | cont
  | raise_ (x : Str) (f : Option Str) (e : E)
  | never

/-! ### the evaluator -/
mutual
@[simp] def assign : Tg → D → Env → Option Env
  | .slot i, d, g => some (g.set i (some d))
  | .tup ts, .tup l, g => assigns ts l g
  | .tup _, _, _ => none
@[simp] def assigns : List Tg → List D → Env → Option Env
  | [], [], g => some g
  | t :: ts, d :: ds, g => match assign t d g with
    | some g => assigns ts ds g
    | none => none
  | _, _, _ => none
end
mutual
-- the slots that a target stores
def slots : Tg → List Nat
  | .slot i => [i]
  | .tup ts => slotsL ts
def slotsL : List Tg → List Nat
  | [] => []
  | t :: ts => slots t ++ slotsL ts
end
def wipes (g : Env) : List Nat → Env
  | [] => g
  | i :: is => (wipes g is).set i none

def ofO {α : Type} (o : Option α) (h : Heap) : Res α := o.map fun a => .ok a h
@[simp] theorem ofO_some {α : Type} (a : α) (h : Heap) : ofO (some a) h = some (.ok a h) := rfl
@[simp] theorem ofO_none {α : Type} (h : Heap) : ofO (none : Option α) h = none := rfl

-- items of a walk; the place walked, if there is one
abbrev Items := List D × Option Nat
open Classical in
-- the place walked still holds what it held
noncomputable def still (it : Items) (h : Heap) : Bool := match it.2 with
  | none => true
  | some p => decide (h[p]? = some (.lst it.1))

-- whose methods these are
@[simp] def recv (m : M) (o : D) (h : Heap) : Bool := match o with
  | .loc p => match h[p]? with
    | some (.lst _) => true
    | _ => false
  | .lst _ => decide (m = .index)
  | _ => false
-- where a flat thing stands first
def idxM (x : D) (l : List D) (h : Heap) : Res R := if flat x && l.all flat then match l.findIdx? (fun z => eqD z x) with
    | some j => some (.ok (.v (.int (j : Int))) h)
    | none => none
  else none
-- methods of lists
@[simp] def meth (m : M) (o : D) (args : List D) (h : Heap) : Res R :=
  match m, o, args with
  | .append, .loc p, [d] => match h[p]? with
    | some (.lst l) => if l.length < lim then some (.ok (.v .non) (h.set p (.lst (l ++ [d])))) else none
    | _ => none
  | .pop, .loc p, [] => match h[p]? with
    | some (.lst l) => match l.getLast? with
      | some d => some (.ok (.v d) (h.set p (.lst l.dropLast)))
      | none => none
    | _ => none
  | .pop, .loc p, [.int i] => match h[p]? with
    | some (.lst l) => match atN l.length i with
      | some j => match l[j]? with
        | some d => if small i then some (.ok (.v d) (h.set p (.lst (l.eraseIdx j)))) else none
        | none => none
      | none => none
    | _ => none
  | .index, .lst l, [d] => idxM d l h
  | .index, .loc p, [d] => match h[p]? with
    | some (.lst l) => idxM d l h
    | _ => none
  | _, _, _ => none

-- the turns of a comprehension: f gives the item's value, or none where a test fails
def lcGo (f : D → Heap → Res (Option D)) : List D → Heap → Res (List D)
  | [], h => some (.ok [] h)
  | x :: xs, h => match f x h with
    | some (.ok (some y) h) => match lcGo f xs h with
      | some (.ok ys h) => some (.ok (y :: ys) h)
      | _ => none
    | some (.ok none h) => lcGo f xs h
    | _ => none

noncomputable def lcF (its : Items) (tg : Tg) (g0 : Env) (tests : Env → Heap → Res Bool) (elt : Env → Heap → Res R) (d : D) (h : Heap) : Res (Option D) := match assign tg d g0 with
  | some g' => bd (tests g' h) fun b h => if b && still its h then bd (elt g' h) fun r h => if still its h then some (.ok (some r.frz) h) else none else if still its h then some (.ok none h) else none
  | none => none
def rangeD (lo hi : Int) : List D := (List.range (hi - lo).toNat).map fun (k : Nat) => D.int (lo + (k : Int))
def enumD (l : List D) : List D := (List.range l.length).zipWith (fun (k : Nat) d => D.tup [D.int (k : Int), d]) l

/-! ### what a call leaves -/
-- the old part is as it was, or holds nothing new
def OldOk (h h1 : Heap) : Prop := h.length ≤ h1.length ∧ ∀ i, i < h.length → h1[i]? = h[i]? ∨ ∃ o, h1[i]? = some o ∧ clO h.length o = true
-- what a call leaves: new objects that nothing holds are dropped
open Classical in
noncomputable def gc (h : Heap) (r : R) (h1 : Heap) : Res R :=
  if OldOk h h1 then
    match r with
    | .newL l => if clL h.length l then some (.ok (.newL l) (h1.take h.length)) else none
    | .newD l => if clL h.length (l.map (·.2)) then some (.ok (.newD l) (h1.take h.length)) else none
    | .newO c l => if clL h.length l then some (.ok (.newO c l) (h1.take h.length)) else none
    | .v (.loc p) => if p < h.length then some (.ok (.v (.loc p)) (h1.take h.length)) else
      match h1[p]? with
      | some (.lst l) => if clL h.length l then some (.ok (.newL l) (h1.take h.length)) else none
      | some (.dic l) => if clL h.length (l.map (·.2)) then some (.ok (.newD l) (h1.take h.length)) else none
      | some (.obj c l) => match allS l with
        | some l => if clL h.length l then some (.ok (.newO c l) (h1.take h.length)) else none
        | none => none
      | _ => none
    | .v d => if cl h.length d then some (.ok (.v d) (h1.take h.length)) else none
  else none
/-! ### instances with slots -/
@[simp] def clsOf (h : Heap) : D → Option Str
  | .obj c _ => some c
  | .loc p => match h[p]? with
    | some (.obj c _) => some c
    | _ => none
  | _ => none
@[simp] def slM (c : Str) (i : Nat) (d : D) (h : Heap) : Res R := match d with
  | .obj c' l => if c' = c then valR' l[i]? h else none
  | .loc p => match h[p]? with
    | some (.obj c' l) => if c' = c then valR' (l[i]?).join h else none
    | _ => none
  | _ => none
where valR' (o : Option D) (h : Heap) : Res R := match o with
  | some d => some (.ok (.v d) h)
  | none => none
@[simp] theorem slM_valR' (o : Option D) (h : Heap) : slM.valR' o h = match o with
  | some d => some (.ok (.v d) h)
  | none => none := rfl
noncomputable def mkM (h : Heap) (r : R) (h2 : Heap) : Res R := match r with
  | .v .non => gc h (.v (.loc h.length)) h2
  | _ => none
def noExc (m : Res R) : Res R := match m with
  | some (.ok r h) => some (.ok r h)
  | _ => none
def eqM (m : Res R) : Res R := match m with
  | some (.ok (.v (.bl b)) h) => some (.ok (.v (.bl b)) h)
  | _ => none
@[simp] theorem eqM_ok (b : Bool) (h : Heap) : eqM (some (.ok (.v (.bl b)) h)) = some (.ok (.v (.bl b)) h) := rfl
@[simp] theorem noExc_ok (r : R) (h : Heap) : noExc (some (.ok r h)) = some (.ok r h) := rfl
@[simp] def isOM (c : Str) (cs : List Str) (d : D) (h : Heap) : Res R := match clsOf h d with
  | some c' => if c' ∈ cs then some (.ok (.v (.bl (decide (c' = c)))) h) else none
  | none => none
-- a def that is a value, called
@[simp] def fnM (fs : List (Str × Nat)) (d : D) : Option Nat := match d with
  | .fn x => fs.lookup x
  | _ => none
-- what an except clause tells
@[simp] def hrM (xs : List (Str × Str)) (r : Hr) (x : Ex) (h : Heap) : Res R := match r with
  | .c d => some (.ok (.v d.d) h)
  | .rp t f => if (x.cls, f) ∈ xs then (match x.fs.lookup f with
    | some d => (match reprD d with
      | some s => if t.length + s.length ≤ lim then some (.ok (.v (.str (t ++ s))) h) else none
      | none => none)
    | none => none)
    else none
-- the clauses, one after another
@[simp] def hdsM (m : Met) (x : Ex) (h : Heap) : List (Str × Hr) → Res R
  | [] => none
  | c :: cs => if (x.cls, c.1, true) ∈ m.ex then hrM m.xs c.2 x h else if (x.cls, c.1, false) ∈ m.ex then hdsM m x h cs else none
@[simp] def metM (m : Met) : Res R → Res R
  | some (.ok r h) => (match m.ret with
    | some d => some (.ok (.v d.d) h)
    | none => some (.ok r h))
  | some (.exc x h) => hdsM m x h m.hs
  | none => none
-- o.f = d
@[simp] def sstM (c : Str) (i : Nat) (o d : D) (h : Heap) : Option Heap := match o with
  | .loc p => match h[p]? with
    | some (.obj c' l) => if c' = c then some (h.set p (.obj c ((l ++ List.replicate (i + 1 - l.length) none).set i (some d)))) else none
    | _ => none
  | _ => none
-- names stored one after another
@[simp] def setAll : List Nat → List D → Env → Option Env
  | [], [], g => some g
  | i :: is, d :: ds, g => setAll is ds (g.set i (some d))
  | _, _, _ => none
@[simp] def augD (op : BOp) (x y : D) : Option D := match op, x, y with
  | .add, .int i, .int j => some (.int (i + j))
  | .sub, .int i, .int j => some (.int (i - j))
  | _, _, _ => none
-- o[i] = d
@[simp] def setM (o i d : D) (h : Heap) : Option Heap := match o, i with
  | .loc p, .int i => match h[p]? with
    | some (.lst l) => match atN l.length i with
      | some j => some (h.set p (.lst (l.set j d)))
      | none => none
    | some (.dic l) => if l.length < lim then some (h.set p (.dic (putD l (.inl i) d))) else none
    | _ => none
  | .loc p, .str x => match h[p]? with
    | some (.dic l) => if l.length < lim then some (h.set p (.dic (putD l (.inr x) d))) else none
    | _ => none
  | _, _ => none
-- a part of a slice, if it is there
@[simp] def partM (b : Bool) (m : Heap → Res R) (h : Heap) : Res (Option Int) :=
  if b = true then bd (m h) fun r h => match r.frz with
    | .int i => some (.ok (some i) h)
    | _ => none
  else some (.ok none h)
@[simp] def allocM (r : R) (h : Heap) : Res R := match r with
  | .newL l => some (.ok (.v (.loc h.length)) (h ++ [.lst l]))
  | .newD l => some (.ok (.v (.loc h.length)) (h ++ [.dic l]))
  | .newO c l => some (.ok (.v (.loc h.length)) (h ++ [.obj c (l.map some)]))
  | .v _ => none
@[simp] def negM (d : D) (h : Heap) : Res R := match d with
  | .int i => some (.ok (.v (.int (-i))) h)
  | _ => none
@[simp] def boolR (o : Option Bool) (h : Heap) : Res R := match o with
  | some t => some (.ok (.v (.bl t)) h)
  | none => none
@[simp] def valR (o : Option D) (h : Heap) : Res R := match o with
  | some d => some (.ok (.v d) h)
  | none => none
@[simp] def cmpM (op : COp) (x y : D) (h : Heap) : Res R := boolR (cmp op x y h) h
-- a dict's value
@[simp] def dixD (h : Heap) (x i : D) : Option D := match dicOf h x, keyOf i with
  | some l, some k => getD l k
  | _, _ => none
@[simp] def ixM (x y : D) (h : Heap) : Res R := valR (match ixD h x y with
  | some d => some d
  | none => dixD h x y) h
@[simp] def b1M (f : B1) (x : D) (h : Heap) : Res R := valR (b1 f x h) h
@[simp] def b2M (f : B2) (x y : D) (h : Heap) : Res R := valR (b2 f x y) h
@[simp] def tyM (t : Ty) (x : D) (h : Heap) : Res R := boolR (isTy h t x) h
-- exceptions: made, asked, read
@[simp] def mkXM (x : Str) (f : Option Str) (d : D) (h : Heap) : Res R := match f with
  | some f => some (.ok (.v (.exo x [f] [d])) h)
  | none => some (.ok (.v (.exo x [] [])) h)
@[simp] def isXM (yes no : List Str) (d : D) (h : Heap) : Res R := match d with
  | .exo x _ _ => if x ∈ yes then some (.ok (.v (.bl true)) h) else if x ∈ no then some (.ok (.v (.bl false)) h) else none
  | _ => none
@[simp] def xfM (f : Str) (cs : List Str) (d : D) (h : Heap) : Res R := match d with
  | .exo x fs l => if x ∈ cs ∧ fs.length = l.length then valR ((fs.zip l).lookup f) h else none
  | _ => none
@[simp] def tupM (ds : List D) (h : Heap) : Res R := if ds.length ≤ lim then some (.ok (.v (.tup ds)) h) else none
@[simp] def lstM (ds : List D) (h : Heap) : Res R := if ds.length ≤ lim then some (.ok (.newL ds) h) else none

@[simp] def seqIt (d : D) (h : Heap) : Res Items := match d with
  | .tup l => some (.ok (l, none) h)
  | .lst l => some (.ok (l, none) h)
  | .scr l => some (.ok (l, none) h)
  | .loc p => match h[p]? with
    | some (.lst l) => some (.ok (l, some p) h)
    | _ => none
  | _ => none
@[simp] def range1It (d : D) (h : Heap) : Res Items := match d with
  | .int i => if small i then some (.ok (rangeD 0 i, none) h) else none
  | _ => none
@[simp] def range2It (d e : D) (h : Heap) : Res Items := match d, e with
  | .int i, .int j => if small i && small j then some (.ok (rangeD i j, none) h) else none
  | _, _ => none
@[simp] def enumIt (d : D) (h : Heap) : Res Items := match d with
  | .tup l => some (.ok (enumD l, none) h)
  | .lst l => some (.ok (enumD l, none) h)
  | _ => none
@[simp] def zipIt (d e : D) (h : Heap) : Res Items := match d, e with
  | .tup l, .tup m => some (.ok (l.zipWith (fun x y => D.tup [x, y]) m, none) h)
  | .lst l, .lst m => some (.ok (l.zipWith (fun x y => D.tup [x, y]) m, none) h)
  | _, _ => none

section
variable (Φ : Nat → List D → Heap → Res R) (G : Nat → Option D)
mutual
@[simp] noncomputable def eval : E → Env → Heap → Res R
  | .var i, g, h => match g[i]? with
    | some (some d) => some (.ok (.v d) h)
    | _ => none
  | .c d, _, h => some (.ok (.v d) h)
  | .glob k, _, h => match G k with
    | some d => some (.ok (.v d) h)
    | none => none
  | .bin op a b, g, h => bd (eval a g h) fun x h => bd (eval b g h) fun y h => bin op x.frz y.frz h
  | .neg a, g, h => bd (eval a g h) fun x h => negM x.frz h
  | .not a, g, h => bd (eval a g h) fun x h => boolR ((tru h x.frz).map (!·)) h
  | .cmp op a b, g, h => bd (eval a g h) fun x h => bd (eval b g h) fun y h => cmpM op x.frz y.frz h
  | .cmp2 o1 o2 a b c, g, h => bd (eval a g h) fun x h => bd (eval b g h) fun y h => match cmp o1 x.frz y.frz h with
    | some false => some (.ok (.v (.bl false)) h)
    | some true => bd (eval c g h) fun z h => cmpM o2 y.frz z.frz h
    | none => none
  | .and a b, g, h => bd (eval a g h) fun x h => match tru h x.frz with
    | some true => bd (eval b g h) fun y h => some (.ok (.v y.frz) h)
    | some false => some (.ok (.v x.frz) h)
    | none => none
  | .or a b, g, h => bd (eval a g h) fun x h => match tru h x.frz with
    | some true => some (.ok (.v x.frz) h)
    | some false => bd (eval b g h) fun y h => some (.ok (.v y.frz) h)
    | none => none
  | .ite c a b, g, h => bd (eval c g h) fun x h => match tru h x.frz with
    | some true => eval a g h
    | some false => eval b g h
    | none => none
  | .tup es, g, h => bd (evals es g h) fun ds h => tupM ds h
  | .lst es, g, h => bd (evals es g h) fun ds h => lstM ds h
  | .ix a b, g, h => bd (eval a g h) fun x h => bd (eval b g h) fun y h => ixM x.frz y.frz h
  | .slice a bl bh lo hi, g, h => bd (eval a g h) fun x h => bd (partM bl (eval lo g) h) fun l h => bd (partM bh (eval hi g) h) fun u h => sliceM x.frz l u h
  | .call f es, g, h => bd (evals es g h) fun ds h => Φ f ds h
  | .b1 f a, g, h => bd (eval a g h) fun x h => b1M f x.frz h
  | .b2 f a b, g, h => bd (eval a g h) fun x h => bd (eval b g h) fun y h => b2M f x.frz y.frz h
  | .isinst a t, g, h => bd (eval a g h) fun x h => tyM t x.frz h
  | .bi f i, g, h => bd (items i g h) fun it h => ofO (bi f it.1) h
  | .lc elt tg it cond ws, g, h => bd (items it g h) fun its h =>
      bd (lcGo (lcF its tg (wipes g ws) (tests cond) (eval elt)) its.1 h) fun l h => if l.length ≤ lim then some (.ok (.newL l) h) else none
  | .meth m o es, g, h => bd (eval o g h) fun x h => if recv m x.frz h then bd (evals es g h) fun ds h => meth m x.frz ds h else none
  | .alloc e, g, h => bd (eval e g h) fun r h => allocM r h
  | .dct, _, h => some (.ok (.newD []) h)
  | .srtD a, g, h => bd (eval a g h) fun r h => srtDM r.frz h
  | .mkX x f a, g, h => bd (eval a g h) fun r h => mkXM x f r.frz h
  | .isX a _ yes no, g, h => bd (eval a g h) fun r h => isXM yes no r.frz h
  | .xf a f cs, g, h => bd (eval a g h) fun r h => xfM f cs r.frz h
  | .mk c f es, g, h => bd (evals es g h) fun ds h => bd (Φ f (.loc h.length :: ds) (h ++ [.obj c []])) fun r h2 => mkM h r h2
  | .sl c i a, g, h => bd (eval a g h) fun r h => slM c i r.frz h
  | .pr c f a, g, h => bd (eval a g h) fun r h => if clsOf h r.frz = some c then noExc (Φ f [r.frz] h) else none
  | .mc c f a es, g, h => bd (eval a g h) fun r h => if clsOf h r.frz = some c then bd (evals es g h) fun ds h => Φ f (r.frz :: ds) h else none
  | .isO a c cs, g, h => bd (eval a g h) fun r h => isOM c cs r.frz h
  | .eqO c f a b, g, h => bd (eval a g h) fun x h => bd (eval b g h) fun y h => if clsOf h x.frz = some c ∧ clsOf h y.frz = some c then eqM (Φ f [x.frz, y.frz] h) else none
  | .fn x, _, h => some (.ok (.v (.fn x)) h)
  | .callv fs i es, g, h => match g[i]? with
    | some (some d) => (match fnM fs d with
      | some f => bd (evals es g h) fun ds h => Φ f ds h
      | none => none)
    | _ => none
  | .met _ m e, g, h => metM m (eval e g h)
@[simp] noncomputable def evals : List E → Env → Heap → Res (List D)
  | [], _, h => some (.ok [] h)
  | e :: es, g, h => bd (eval e g h) fun r h => bd (evals es g h) fun ds h => some (.ok (r.frz :: ds) h)
-- tests of a comprehension, one after another
noncomputable def tests : List E → Env → Heap → Res Bool
  | [], _, h => some (.ok true h)
  | e :: es, g, h => bd (eval e g h) fun r h => match tru h r.frz with
    | some true => tests es g h
    | some false => some (.ok false h)
    | none => none
@[simp] noncomputable def items : I → Env → Heap → Res Items
  | .of e, g, h => bd (eval e g h) fun r h => seqIt r.frz h
  | .range1 a, g, h => bd (eval a g h) fun r h => range1It r.frz h
  | .range2 a b, g, h => bd (eval a g h) fun r h => bd (eval b g h) fun q h => range2It r.frz q.frz h
  | .enum a, g, h => bd (eval a g h) fun r h => enumIt r.frz h
  | .zip a b, g, h => bd (eval a g h) fun r h => bd (eval b g h) fun q h => zipIt r.frz q.frz h
end

-- o.f, p.g, .. = a tuple
noncomputable def ssts : List (Str × Nat × E) → List D → Env → Heap → Res Unit
  | [], [], _, h => some (.ok () h)
  | t :: ts, d :: ds, g, h => bd (eval Φ G t.2.2 g h) fun x h => match sstM t.1 t.2.1 x.frz d h with
    | some h => ssts ts ds g h
    | none => none
  | _, _, _, _ => none
inductive Fl where
  | nx (g : Env) | rt (r : R) | bk (g : Env) | ct (g : Env)

-- the turns of a for
noncomputable def forGo (its : Items) (f : D → Env → Heap → Res Fl) : List D → Env → Heap → Res Fl
  | [], g, h => some (.ok (.nx g) h)
  | x :: xs, g, h => bd (f x g h) fun fl h => match fl with
    | .nx g => if still its h then forGo its f xs g h else none
    | .ct g => if still its h then forGo its f xs g h else none
    | .bk g => some (.ok (.nx g) h)
    | .rt r => some (.ok (.rt r) h)
-- one turn of a for
def forF (tg : Tg) (b : Env → Heap → Res Fl) : D → Env → Heap → Res Fl := fun d g h => match assign tg d g with
  | some g => b g h
  | none => none
-- a value as a test
def tst (m : Env → Heap → Res R) : Env → Heap → Res Bool := fun g h => bd (m g h) fun r h => ofO (tru h r.frz) h
-- k turns of a while at most
def whileGo (c : Env → Heap → Res Bool) (f : Env → Heap → Res Fl) : Nat → Env → Heap → Res Fl
  | 0, _, _ => none
  | k + 1, g, h => bd (c g h) fun b h => if b then bd (f g h) fun fl h => match fl with
      | .nx g => whileGo c f k g h
      | .ct g => whileGo c f k g h
      | .bk g => some (.ok (.nx g) h)
      | .rt r => some (.ok (.rt r) h)
    else some (.ok (.nx g) h)
open Classical in
-- as many turns as it wants
noncomputable def whileD (c : Env → Heap → Res Bool) (f : Env → Heap → Res Fl) (g : Env) (h : Heap) : Res Fl :=
  if q : ∃ k r, whileGo c f k g h = some r then some q.choose_spec.choose else none

mutual
@[simp] noncomputable def exec : St → Env → Heap → Res Fl
  | .asg tg e, g, h => bd (eval Φ G e g h) fun r h => match assign tg r.frz g with
    | some g => some (.ok (.nx g) h)
    | none => none
  | .par is es, g, h => bd (evals Φ G es g h) fun ds h => match setAll is ds g with
    | some g => some (.ok (.nx g) h)
    | none => none
  | .aug i op e, g, h => match g[i]? with
    | some (some x) => bd (eval Φ G e g h) fun r h => match augD op x r.frz with
      | some d => some (.ok (.nx (g.set i (some d))) h)
      | none => none
    | _ => none
  | .setix o k e, g, h => bd (eval Φ G e g h) fun r h => bd (eval Φ G o g h) fun x h => bd (eval Φ G k g h) fun y h => match setM x.frz y.frz r.frz h with
    | some h => some (.ok (.nx g) h)
    | none => none
  | .sst c i o e, g, h => bd (eval Φ G e g h) fun r h => bd (eval Φ G o g h) fun x h => match sstM c i x.frz r.frz h with
    | some h => some (.ok (.nx g) h)
    | none => none
  | .augix op o k e, g, h => bd (eval Φ G o g h) fun x h => bd (eval Φ G k g h) fun y h => bd (ixM x.frz y.frz h) fun z h => bd (eval Φ G e g h) fun r h => match augD op z.frz r.frz with
    | some d => match setM x.frz y.frz d h with
      | some h => some (.ok (.nx g) h)
      | none => none
    | none => none
  | .sstT ts e, g, h => bd (eval Φ G e g h) fun r h => match r.frz with
    | .tup l => if l.length = ts.length then bd (ssts Φ G ts l g h) fun _ h => some (.ok (.nx g) h) else none
    | _ => none
  | .expr e, g, h => bd (eval Φ G e g h) fun _ h => some (.ok (.nx g) h)
  | .ret e, g, h => bd (eval Φ G e g h) fun r h => some (.ok (.rt r) h)
  | .ret0, _, h => some (.ok (.rt (.v .non)) h)
  | .if_ c a b, g, h => bd (eval Φ G c g h) fun r h => match tru h r.frz with
    | some true => execs a g h
    | some false => execs b g h
    | none => none
  | .for_ tg it body, g, h => bd (items Φ G it g h) fun its h => forGo its (forF tg (execs body)) its.1 g h
  | .while_ c body, g, h => whileD (tst (eval Φ G c)) (execs body) g h
  | .pass, g, h => some (.ok (.nx g) h)
  | .brk, g, h => some (.ok (.bk g) h)
  | .cont, g, h => some (.ok (.ct g) h)
  | .raise_ x f e, g, h => bd (eval Φ G e g h) fun r h => some (.exc ⟨x, match f with
    | some f => [(f, r.frz)]
    | none => []⟩ h)
  | .never, _, _ => none
@[simp] noncomputable def execs : List St → Env → Heap → Res Fl
  | [], g, h => some (.ok (.nx g) h)
  | s :: ss, g, h => bd (exec s g h) fun fl h => match fl with
    | .nx g => execs ss g h
    | .rt r => some (.ok (.rt r) h)
    | .bk g => some (.ok (.bk g) h)
    | .ct g => some (.ok (.ct g) h)
end
end

/-! ### calls -/
structure Def where
  np : Nat
  nl : Nat
  body : List St
structure Tab where
  defs : List Def
  globs : List D
def Tab.get (T : Tab) (i : Nat) : Option D := T.globs[i]?
def gcx (h : Heap) (x : Ex) (h1 : Heap) : Res R := some (.exc x h1)
@[simp] def start (d : Def) (args : List D) : Env := args.map some ++ List.replicate (d.nl - args.length) none
noncomputable def endI (h : Heap) : Res Fl → Res R
  | some (.ok (.rt r) h1) => gc h r h1
  | some (.ok (.nx _) h1) => gc h (.v .non) h1
  | some (.exc x h1) => gcx h x h1
  | _ => none
noncomputable def callI (T : Tab) : Nat → Nat → List D → Heap → Res R
  | 0, _, _, _ => none
  | k + 1, f, args, h => match T.defs[f]? with
    | none => none
    | some d => if args.length = d.np then endI h (execs (callI T k) T.get d.body (start d args) h) else none
end MP

set_option maxRecDepth 100000
set_option maxHeartbeats 4000000
/-! MP.Exc: an own exception whose __init__ says super().__init__(x) and keeps x. -/
namespace MP
open PySem PySem.Spec PyProof.Rows L2

/-! ### the built-in bases -/
inductive XB where
  | value | key | index | overflow | arith | look
  deriving DecidableEq
def XB.nm : XB → String
  | .value => "ValueError"
  | .key => "KeyError"
  | .index => "IndexError"
  | .overflow => "OverflowError"
  | .arith => "ArithmeticError"
  | .look => "LookupError"
-- whose __new__ it has
def XB.nB : XB → String
  | .key => "LookupError"
  | b => b.nm
def XB.newId : XB → String
  | .value => "ValueError.__new__"
  | .key => "LookupError.__new__"
  | .index => "IndexError.__new__"
  | .overflow => "OverflowError.__new__"
  | .arith => "ArithmeticError.__new__"
  | .look => "LookupError.__new__"
def XB.initId : XB → String
  | .value => "ValueError.__init__"
  | .key => "KeyError.__init__"
  | .index => "IndexError.__init__"
  | .overflow => "OverflowError.__init__"
  | .arith => "ArithmeticError.__init__"
  | .look => "LookupError.__init__"
def XB.bm : XB → List Value
  | .value => ["ValueError", "Exception", "BaseException", "object"].map .type
  | .key => ["KeyError", "LookupError", "Exception", "BaseException", "object"].map .type
  | .index => ["IndexError", "LookupError", "Exception", "BaseException", "object"].map .type
  | .overflow => ["OverflowError", "ArithmeticError", "Exception", "BaseException", "object"].map .type
  | .arith => ["ArithmeticError", "Exception", "BaseException", "object"].map .type
  | .look => ["LookupError", "Exception", "BaseException", "object"].map .type

structure XbOk (b : XB) : Prop where
  ends : b.newId.endsWith ".__new__" = true
  quiet : b.newId.startsWith "lifetime." = false
  owner : b.newId.dropRight 8 = b.nB
  entry : entryFor table b.newId = some Builtin.«BaseException.__new__»
  canon : Manifest.canonical b.newId = Manifest.canonical "BaseException.__new__"
  nSplit : splitId b.newId = some (b.nB, "__new__")
  nKind : builtinKind b.newId = some .builtinFn
  nRow : Manifest.signature? b.newId = some ⟨.any, b.nB, b.nB, .cls, [⟨"args", .varPos, false⟩, ⟨"kwargs", .varKw, false⟩]⟩
  iKind : builtinKind b.initId = some .slot
  iRow : Manifest.signature? b.initId = some ⟨.positional, "*", b.nm, .self, [⟨"args", .varPos, false⟩]⟩
  iEntry : entryFor table b.initId = some Builtin.«BaseException.__init__»
  iPlain : plainId b.initId = true
  star : (b.nm != "*") = true
  starN : (b.nB != "*") = true
  hasN : b.bm.contains (.type b.nB) = true
  noA : b.bm.contains (.type "AttributeError") = false
  noN : b.bm.contains (.type "NameError") = false
  kxs : PySem.W.KxsFacts b.nm b.initId
  store : StoreFacts b.nm b.bm "object.__setattr__" "object"
theorem xb_of {b : XB} (e : b.nB = b.nm) (f : ExcBaseFacts b.nm b.newId b.initId b.bm) (k : PySem.W.KxsFacts b.nm b.initId) (s : StoreFacts b.nm b.bm "object.__setattr__" "object") : XbOk b :=
  ⟨f.ends, f.quiet, by rw [e]; exact f.owner, f.entry, f.canon, by rw [e]; exact f.newSplit, f.newKind, by rw [e]; exact f.newRow, f.initKind, f.initRow, f.initEntry, f.init.plain, f.noStar, by rw [e]; exact f.noStar, by rw [e]; exact f.hasB, f.noAttr, f.noName, k, s⟩
theorem key_kxs : PySem.W.KxsFacts "KeyError" "KeyError.__init__" := by
  constructor
  · show builtinType _ = _
    rw [builtinType_eq_fast]
    kernel_rfl
  · kernel_rfl
theorem key_store : StoreFacts "KeyError" XB.key.bm "object.__setattr__" "object" := by
  refine { mro := ?mro, slot := ?slot, entry := F.store_IndexError.entry, kind := F.store_IndexError.kind, split := F.store_IndexError.split, hasOwner := ?ho, args := F.store_IndexError.args, passes := ?ps }
  case mro => rw [mroOf_type]; kernel_rfl
  case slot => exact Slot.of (owner := "object") (n := "__setattr__") (by rw [typeLookup_type, builtinLookup_eq_fast] <;> kernel_rfl) (by decide +kernel) (by decide +kernel) (by decide +kernel) (.inl (by decide +kernel)) (by rw [isSubtype_type] <;> kernel_rfl)
  case ho => decide +kernel
  case ps => intro self; kernel_rfl
theorem xb_key : XbOk .key := by
  have f := F.excBase_LookupError
  refine ⟨f.ends, f.quiet, f.owner, f.entry, f.canon, f.newSplit, f.newKind, f.newRow, ?_, ?_, ?_, ?_, ?_, ?_, ?_, ?_, ?_, key_kxs, key_store⟩
  · decide +kernel
  · kernel_rfl
  · exact entryFor_alias (id' := "BaseException.__init__") (by rw [fastTable_eq_tree] <;> kernel_rfl) (by decide +kernel) (by decide +kernel) (by rw [fastTable_eq_tree] <;> kernel_rfl)
  all_goals decide +kernel
theorem xb_ok : ∀ b : XB, XbOk b
  | .value => xb_of rfl F.excBase_ValueError PySem.W.kxs_ValueError F.store_ValueError
  | .key => xb_key
  | .index => xb_of rfl F.excBase_IndexError PySem.W.kxs_IndexError F.store_IndexError
  | .overflow => xb_of rfl F.excBase_OverflowError PySem.W.kxs_OverflowError F.store_OverflowError
  | .arith => xb_of rfl F.excBase_ArithmeticError PySem.W.kxs_ArithmeticError F.store_ArithmeticError
  | .look => xb_of rfl F.excBase_LookupError PySem.W.kxs_LookupError F.store_LookupError

/-! ### the class is called -/
abbrev xObj (C t : Addr) : Obj := { cls := .ref C, data := .fields #[.ref t, .none, .none, .none, .bool false, .none] }
section
variable {M : Model} {prog : Program} {w : PySem.World} {A : Around} {E : Value → Shared → Prop} {R : Result → Shared → Prop} {hp : PySem.Heap} {g : Array GenState} {dr : Drawn} {tk : Nat} {os : OsState}
variable {nm qn : Str} {C N : Addr} {bs bm : List Value} {hdct : Bool} {sn : List Str} {sub : List Value} {ab : Bool} {col : Option Bool} {dd : Option Addr} {k0 k1 k2 k3 k5 : Option Value} {b : XB}
theorem x_check_new (o : XbOk b) (hT : ∀ X : String, bm.contains (.type X) = b.bm.contains (.type X)) {us : List Value} {Q : Unit → Shared → Prop} (hC : hp.get? C = some (excClassObj nm qn C N bs bm hdct sn sub ab col dd k0 k1 k2 k3 k5 b.newId))
    (q : Q () ⟨hp, g, dr, tk, os⟩) : wpAny M A (checkBuiltinCall b.newId ⟨.ref C :: us, []⟩) Q E ⟨hp, g, dr, tk, os⟩ := by
  have c1 : (Value.ref C :: bm).contains (.type b.nB) = true := by rw [List.contains_cons, hT, o.hasN, Bool.or_true]
  have c2 := o.starN
  simp only [checkBuiltinCall, o.nKind, o.nSplit, o.nRow]
  repeat (first
    | refine wpAny_loadPart_at hC ?_
    | (refine wpAny_isSubtype_exc hC ?_
       rw [c1])
    | refine wpAny_staticBase_exc hC ?_
    | refine wpAny_madeBy_exc hC ?_
    | simp only [bne_self_eq_false, Bool.false_eq_true, if_false]
    | wp_step)
  exact q
theorem x_new (o : XbOk b) (hT : ∀ X : String, bm.contains (.type X) = b.bm.contains (.type X)) {us : List Value} (hC : hp.get? C = some (excClassObj nm qn C N bs bm hdct sn sub ab col dd k0 k1 k2 k3 k5 b.newId)) (hz : us.length ≤ sizeLine)
    (q : R (.ok (.ret (.ref (hp.objs.size + 1)))) ⟨(hp.push (PySem.W.kdv_tup us)).push (xObj C hp.objs.size), g, dr, tk, os⟩) :
    codeAny (model prog w) A (.builtin b.newId ⟨.ref C :: us, []⟩) R ⟨hp, g, dr, tk, os⟩ := by
  have c0 := o.ends
  have c1 : (Value.ref C :: bm).contains (.type b.nB) = true := by rw [List.contains_cons, hT, o.hasN, Bool.or_true]
  have c2 : (Value.ref C :: bm).contains (.type "AttributeError") = false := by rw [List.contains_cons, hT, o.noA, Bool.or_false]; rfl
  have c3 : (Value.ref C :: bm).contains (.type "NameError") = false := by rw [List.contains_cons, hT, o.noN, Bool.or_false]; rfl
  refine codeAny_builtinAt o.entry ?_
  unfold Builtin.«BaseException.__new__»
  refine PySem.wpAt_bind ?_
  show PySem.wpAt _ _ _ (PySem.stack >>= _) _ _ _
  refine PySem.wpAt_bind (PySem.wpAt_stack fun p rest => PySem.wpAt_of_wpAny ?_)
  wp_walk
  refine PySem.wpAt_of_wpAny ?_
  rw [o.owner]
  repeat (first
    | with_reducible refine wpAny_madeHere_exc o.canon hC ?_
    | with_reducible refine wpAny_loadPart_at hC ?_
    | (with_reducible refine wpAny_isSubtype_exc hC ?_
       first | rw [c1] | rw [c2] | rw [c3])
    | wp_step)
  show R _ _
  rw [Heap.size_push]
  exact q
theorem x_type_call (o : XbOk b) (hT : ∀ X : String, bm.contains (.type X) = b.bm.contains (.type X)) {us : List Value} {fI : Addr} {Q : Fin → Shared → Prop} (hC : hp.get? C = some (excClassObj nm qn C N bs bm hdct sn sub ab col dd k0 k1 k2 k3 k5 b.newId))
    (li : PySem.W.Looks (model prog w) hp (typeLookup (.ref C) "__init__") (some (.ref fI))) (lb : ∀ x, PySem.W.Looks (model prog w) hp (bindSpecial (.ref fI) x) (.ref fI, [x])) (hz : us.length ≤ sizeLine)
    (q : codeAny (model prog w) A (.call (.ref fI) ⟨.ref (hp.objs.size + 1) :: us, []⟩) (fun r s' => match r with
      | .ok (.ret v) => v = .none ∧ Q (.done (.ret (.ref (hp.objs.size + 1)))) s'
      | .ok _ => False
      | .error e => E e s') ⟨(hp.push (PySem.W.kdv_tup us)).push (xObj C hp.objs.size), g, dr, tk, os⟩) :
    wpAny (model prog w) A (Builtin.«type.__call__» ⟨.ref C :: us, []⟩) Q E ⟨hp, g, dr, tk, os⟩ := by
  repeat (first
    | with_reducible refine wpAny_loadPart_at hC ?_
    | with_reducible refine wpAny_madeBy_exc hC ?_
    | wp_step)
  refine codeAny_call_builtin_code (Code.quiet_builtin _ o.quiet) (x_check_new o hT hC (x_new o hT hC hz ?_))
  show wpAny _ _ _ _ _ _
  have up : ∀ a u, hp.get? a = some u → ((hp.push (PySem.W.kdv_tup us)).push (xObj C hp.objs.size)).get? a = some u := fun a u e => Heap.get?_push_of_some _ (Heap.get?_push_of_some _ e)
  have hC' := up _ _ hC
  have hx : ((hp.push (PySem.W.kdv_tup us)).push (xObj C hp.objs.size)).get? (hp.objs.size + 1) = some (xObj C hp.objs.size) := by heap_get
  have cC : (Value.ref C :: bm).contains (.ref C) = true := by simp
  have li' := li.keeps up
  have lb' := (lb (.ref (hp.objs.size + 1))).keeps up
  unfold isInstance
  repeat (first
    | with_reducible refine wpAny_loadPart_at hx ?_
    | (with_reducible refine wpAny_isSubtype_exc hC' ?_
       rw [cC])
    | wp_step)
  show wpAny _ _ (typeLookup (.ref C) _) _ _ _
  refine li'.at (wpAny_holding (wpAny_bind (lb'.at (wpAny_bind (wpAny_call (codeAny_mono q fun r s' z => ?_))))))
  cases r with
  | error e => exact z
  | ok fl =>
    cases fl with
    | ret v =>
      obtain ⟨rfl, z⟩ := z
      first
        | exact wpAny_pure (wpAny_pure z)
        | (wp_walk
           exact z)
    | next => exact z.elim
    | brk => exact z.elim
    | cont => exact z.elim
theorem x_call (o : XbOk b) (hT : ∀ X : String, bm.contains (.type X) = b.bm.contains (.type X)) {us : List Value} {fI : Addr} (hC : hp.get? C = some (excClassObj nm qn C N bs bm hdct sn sub ab col dd k0 k1 k2 k3 k5 b.newId))
    (li : PySem.W.Looks (model prog w) hp (typeLookup (.ref C) "__init__") (some (.ref fI))) (lb : ∀ x, PySem.W.Looks (model prog w) hp (bindSpecial (.ref fI) x) (.ref fI, [x])) (hz : us.length ≤ sizeLine)
    (q : codeAny (model prog w) (A.under (.builtin "type.__call__" ⟨.ref C :: us, []⟩)) (.call (.ref fI) ⟨.ref (hp.objs.size + 1) :: us, []⟩) (PySem.W.InitBack (hp.objs.size + 1) R) ⟨(hp.push (PySem.W.kdv_tup us)).push (xObj C hp.objs.size), g, dr, tk, os⟩) :
    codeAny (model prog w) A (.call (.ref C) ⟨us, []⟩) R ⟨hp, g, dr, tk, os⟩ := by
  have f1 := PySem.tc_lookup
  have f2 := PySem.tc_bind (.ref C)
  have ty : (⟨hp, g, dr, tk, os⟩ : Shared).TypeIs (.ref C) "type" := ⟨_, hC, rfl⟩
  refine codeAny_of_tree ?_
  show wpAny _ _ (callAny (.ref C) _) _ _ _
  repeat (any_goals (first
    | assumption
    | with_reducible refine wpAny_loadPart_at hC ?_
    | wp_step))
  refine ⟨rfl, codeAny_call_builtin_at (Code.quiet_builtin _ (by decide +kernel)) PySem.entry_typeCall (wpAny_check_type_call_sub hC (x_type_call o hT hC li lb hz (codeAny_mono q fun r s' z => ?_)))⟩
  cases r with
  | error e => exact z
  | ok fl => cases fl <;> exact z
-- a method's call with one plain argument
theorem x_methCall {y : PySem.Expr} {nm f : Str} {p2 p3 p4 : Pos} {env : PySem.Env} (e : (p2.endLine == p4.line) = true) :
    ∃ pl : Sem Bool, PySem.eval (.Call (.Attribute y nm p2) [.Name f p3] [] p4) env = (do
      let ov ← attributeBase y nm env (PySem.eval y env)
      standAt p2.atName
      let (a, l) ← holding [ov] (getMethod ov nm pl)
      callWith p4 a l (backTo p4 (starEach [.Name f p3] env)) []) := by
  refine ⟨do return (← importBound y env).getD true, ?_⟩
  rw [arm_eval_Call]
  unfold methodCall methodCallPos calleeOf
  have e1 : methodCallForm ([Expr.Name f p3].length + ([] : List Keyword).length) (backTo p4 (starEach [.Name f p3] env)) (backToKw p4 (keywordEach [] env)) = true := by rfl
  simp only [e1, e, Bool.not_true, Bool.false_or, if_true, pure_bind]
  rfl
-- super().__init__(..): the object's args are laid anew
theorem x_check_bound (o : XbOk b) {e : Addr} {oe : Obj} {us : List Value} {Q : Unit → Shared → Prop} (hC : hp.get? C = some (excClassObj nm qn C N bs bm hdct sn sub ab col dd k0 k1 k2 k3 k5 b.newId)) (he : hp.get? e = some oe) (ec : oe.cls = .ref C)
    (q : Q () ⟨hp, g, dr, tk, os⟩) : wpAny M A (checkBoundCall b.initId ⟨.ref e :: us, []⟩) Q E ⟨hp, g, dr, tk, os⟩ := by
  have c2 := o.star
  simp only [checkBoundCall, o.iKind, o.iRow]
  repeat (first
    | (with_reducible refine wpAny_loadPart_at he ?_
       rw [ec])
    | with_reducible refine wpAny_loadPart_at hC ?_
    | wp_step)
  refine wpAny_onRaise ?_
  have z : ∀ (x y : String) (n : Nat), Bind.check ⟨.positional, "*", b.nm, .self, [⟨"args", .varPos, false⟩]⟩ x y n (List.map (fun v => v.fst) ({ pos := Value.ref e :: us } : Args).kw) = pure () := fun x y n => check_star_args _ _ _ _ _ _
  rw [z]
  exact wpAny_pure q
theorem x_call_mw (o : XbOk b) {u e t0 : Addr} {us : List Value} {Q : Value → Shared → Prop} (hC : hp.get? C = some (excClassObj nm qn C N bs bm hdct sn sub ab col dd k0 k1 k2 k3 k5 b.newId)) (he : hp.get? e = some (xObj C t0)) (hu : hp.get? u = some (PySem.W.kxs_mw b.initId e)) (hz : us.length ≤ sizeLine)
    (q : ∀ h', (∀ a v, a ≠ e → hp.get? a = some v → h'.get? a = some v) → h'.get? e = some (xObj C hp.objs.size) → Q .none ⟨h', g, dr, tk, os⟩) :
    wpAny (model prog w) A (call (.ref u) us) Q E ⟨hp, g, dr, tk, os⟩ := by
  have t1 : (Value.type "method-wrapper" == Value.type "method" || Value.type "method-wrapper" == Value.type "builtin_function_or_method" || Value.type "method-wrapper" == Value.type "method-wrapper") = true := by decide
  refine wpAny_call (codeAny_of_tree ?_)
  show wpAny _ A.in1 (callAny (.ref u) ⟨us, []⟩) _ _ _
  simp only [callAny]
  refine wpAny_bind (wpAny_load hu ?_)
  simp only [PySem.W.kxs_mw, t1, if_true]
  refine PySem.W.KFB.if_so (by decide) (wpAny_bind (x_check_bound o hC he rfl (wpAny_bind (wpAny_pure (wpAny_pure ⟨PySem.plainId_quiet o.iPlain _, codeAny_builtin o.iEntry ?_⟩)))))
  exact PySem.W.exc_init_tree (cls := .ref C) (t0 := t0) (dv := none) (c2 := .none) (c3 := .none) (b4 := .bool false) he hz fun h' k1 k2 _ => q h' k1 k2
end

/-! ### what the written part says of such a class -/
def xbody (f : Str) (p0 p1 p2 p3 p4 p5 q0 q1 q2 q3 : Pos) : List Stmt := [.Expr (.Call (.Attribute (.Call (.Name "super" p0) [] [] p1) "__init__" p2) [.Name f p3] [] p4) p5, .Assign [.Attribute (.Name "self" q0) f q1] (.Name f q2) q3]
structure XFn (prog : Program) (K : PySem.W.Frag) (C : Addr) (f : Str) (fI : Addr) (fd : FuncData) (cc cda : Addr) : Prop where
  lk : ∃ (oc : Value) (od : Option Addr) (osl : Array (Option Value)), K.lookup fI = some ⟨oc, od, .func fd, osl⟩
  cdI : PySem.W.codeIn K fd.code fd.qualname = true
  body : ∃ p0 p1 p2 p3 p4 p5 q0 q1 q2 q3 : Pos, fd.body = .stmts (xbody f p0 p1 p2 p3 p4 p5 q0 q1 q2 q3) ∧ (p2.endLine == p4.line) = true
  gl : fd.globals = mainGlobals
  bl : fd.builtins = builtinsNs
  cl : fd.closure = [(("__class__" : Str), cc)]
  cd : fd.code = .ref cda
  ar : ∃ ar : Arg, (fd.params.posonlyargs ++ fd.params.args).head? = some ar ∧ ar.arg = ("self" : Str)
  cell : ∃ (c : Value) (d : Option Addr) (sl : Array (Option Value)), K.lookup cc = some ⟨c, d, .cell (some (.ref C)), sl⟩
  code : ∃ (c : Value) (d : Option Addr) (sl : Array (Option Value)) (vs : Array Value) (file : Str) (tf : Tok), K.lookup cda = some ⟨c, d, .fields vs, sl⟩ ∧ vs[2]? = some (.str file tf) ∧ ((prog.main.file : Str) == file) = true
  cells : ∀ x ∈ fd.scope.names, x.2 ≠ .cell
  n1 : fd.scope.names.lookup ("self" : Str) = some .local
  n2 : fd.scope.names.lookup f = some .local
  n3 : fd.scope.names.lookup ("super" : Str) = some .globalImplicit
  n4 : fd.scope.names.lookup ("__class__" : Str) = some .free
  kd : fd.scope.kind = .function
  co : fd.scope.isCoroutine = false
  ge : fd.scope.isGenerator = false
  bind : ∀ u0 u1 : Value, bindArgs fd ⟨[u0, u1], []⟩ = pure [(("self" : Str), u0), (f, u1)]
structure XMk (prog : Program) (K : PySem.W.Frag) (C : Addr) (f : Str) (b : XB) : Prop where
  init : ∃ (fI : Addr) (fd : FuncData) (cc cda : Addr), PySem.W.findIn K (.ref C) "__init__" = some (some (.ref fI)) ∧ PySem.W.typeIn K (.ref fI) = some (.type "function") ∧ XFn prog K C f fI fd cc cda
  ei : PySem.W.excInitIn K C b.bm b.newId = true
  cls : ∃ cd, PySem.W.clsIn K C = some cd
  mro : PySem.W.mroIn K C (.ref C) = some true
  sup : PySem.W.nsIn K mainGlobals "super" = some none
  top : (prog.main.scope.names.lookup ("super" : Str)).isSome = false
  si : PySem.W.ks_superIn K C C "__init__" = some (some (.builtin b.initId))
  sB : PySem.W.subIn K (.ref C) (.type b.nm) = some true
  tp : PySem.W.nsIn K cStatics "thirdparty.any" = some none
  sa : PySem.W.findIn K (.ref C) "__setattr__" = some (some (.builtin "object.__setattr__"))
  eo : PySem.W.excOver K C b.bm = true
  tk : PySem.W.takerIn K C f = some none
  hd : PySem.W.hasDictIn K C = true
  fne : f ≠ ("self" : Str)
  fdb : (f == ("__debug__" : Str)) = false
section
variable {prog : Program} {w : PySem.World} {A : Around} {E : Value → Shared → Prop} {R : Result → Shared → Prop} {K : PySem.W.Frag} {mg : Str → Option Value} {base hp : PySem.Heap} {g : Array GenState} {dr : Drawn} {tk : Nat} {os : OsState} {C : Addr} {f : Str} {b : XB}
theorem x_store (T : XMk prog K C f b) (X : K.In hp) {e t0 : Addr} {u : Value} (he : hp.get? e = some (xObj C t0)) {Q : Unit → Shared → Prop}
    (q : ∀ h' tk' dx, (∀ a v, a ≠ e → hp.get? a = some v → h'.get? a = some v) → hp.objs.size ≤ dx → dx ≠ e → h'.get? e = some { xObj C t0 with dict := some dx } → h'.Ns1 dx (fun y => if y = f then some u else none) → Q () ⟨h', g, dr, tk', os⟩) :
    wpAny (model prog w) A (setAttr (.ref e) f u) Q E ⟨hp, g, dr, tk, os⟩ := by
  have I : PySem.W.InstAt hp e (xObj C t0) C none := ⟨he, rfl, rfl, trivial⟩
  refine PySem.W.set_plain X I T.sa (PySem.W.osa_openX (xb_ok b).store X I T.eo T.tk fun _ => ?_)
  show wpAny _ _ (Builtin.ObjectAttr.storeInOwnDict _ _ _ _ _ _) _ _ _
  obtain ⟨cd, hc, hd⟩ := PySem.W.any_some T.hd
  have ne : e ≠ hp.objs.size := Nat.ne_of_lt (Heap.lt_size he)
  have lc : PySem.W.Looks (model prog w) hp (classData C) cd := PySem.W.looks_clsIn X hc
  obtain ⟨cnm, cbs, cmro, cns, cqn, chd, csn, csb, cab, ccol, cdel⟩ := cd
  dsimp only at hd
  subst hd
  unfold Builtin.ObjectAttr.storeInOwnDict Builtin.ObjectAttr.ownDictForStores
  repeat (first
    | with_reducible refine PySem.HandSPX.store_in_new ?_ ?_
    | with_reducible refine wpAny_loadPart_at he ?_
    | with_reducible refine lc.at ?_
    | wp_step)
  · exact ⟨_, #[], _, (Heap.get?_update_ne _ _ _ _ ne.symm).trans (Heap.get?_push_at rfl rfl), rfl, fun e he => absurd he (by simp), fun _ => rfl⟩
  · intro h' tk' n1 sb
    have z : (hp.push { cls := .type "dict", data := .dict #[] }).get? e = some (xObj C t0) := Heap.get?_push_of_some _ he
    refine q h' tk' hp.objs.size (fun a v ha hv => ?_) (Nat.le_refl _) ne.symm ?_ n1
    · exact (sb.2 a (Nat.ne_of_lt (Heap.lt_size hv))).trans ((Heap.get?_update_ne _ _ _ _ ha).trans (Heap.get?_push_of_some _ hv))
    · exact (sb.2 e ne).trans (Heap.get?_update_self _ z rfl)
theorem x_made (T : XMk prog K C f b) (X0 : K.In base) (G : base.Ns mainGlobals mg) (B : ∃ mb, base.Ns builtinsNs mb ∧ ∀ x : Str, x ≠ "__name__" → mb x = bootBuiltins x) (nl : base.NoLimit) (kp : ∀ a o, base.get? a = some o → hp.get? a = some o) (bz : base.objs.size ≤ hp.objs.size) (hr : L2.Room 1 A)
    {u : Value} {Q : Value → Shared → Prop} (q : ∀ h' tk' e dx t1, (∀ a o, hp.get? a = some o → h'.get? a = some o) → hp.get? e = none → hp.get? dx = none → dx ≠ e → h'.get? e = some { xObj C t1 with dict := some dx } → h'.Ns1 dx (fun y => if y = f then some u else none) → Q (.ref e) ⟨h', g, dr, tk', os⟩) :
    wpAny (model prog w) A (call (.ref C) [u]) Q E ⟨hp, g, dr, tk, os⟩ := by
  have X : K.In hp := X0.keeps kp
  have o := xb_ok b
  obtain ⟨fI, fd, cc, cda, hI, tI, F⟩ := T.init
  obtain ⟨nm, N, qn, bs, bm, hdct, sn, sub, ab, col, dd, k0, k1, k2, k3, k5, hC, hT⟩ := PySem.W.excInit_of X T.ei
  obtain ⟨oc, od, osl, lk⟩ := F.lk
  obtain ⟨p0, p1, p2, p3, p4, p5, q0, q1, q2, q3, eb, eln⟩ := F.body
  obtain ⟨ar, ea, es⟩ := F.ar
  obtain ⟨c1, d1, sl1, lc⟩ := F.cell
  obtain ⟨c2, d2, sl2, vs, file, tf, lcd, e2, efile⟩ := F.code
  obtain ⟨cd, hcd⟩ := T.cls
  have hz : ([u] : List Value).length ≤ sizeLine := by
    show 1 ≤ sizeLine
    rw [sizeLine_eq]
    decide
  refine wpAny_call (x_call o hT hC (PySem.W.looks_findIn X hI) (fun x => PySem.W.bind_fn X x tI) hz ?_)
  -- the object, not yet filled
  let e : Addr := hp.objs.size + 1
  let h1 : PySem.Heap := (hp.push (PySem.W.kdv_tup [u])).push (xObj C hp.objs.size)
  have up1 : ∀ a v, hp.get? a = some v → h1.get? a = some v := fun a v z => Heap.get?_push_of_some _ (Heap.get?_push_of_some _ z)
  have he1 : h1.get? e = some (xObj C hp.objs.size) := by
    show ((hp.push (PySem.W.kdv_tup [u])).push (xObj C hp.objs.size)).get? (hp.objs.size + 1) = _
    heap_get
  have X1 : K.In h1 := X.keeps up1
  have lt1 : h1.objs.size = hp.objs.size + 2 := by
    show ((hp.push (PySem.W.kdv_tup [u])).push (xObj C hp.objs.size)).objs.size = _
    rw [Heap.size_push, Heap.size_push]
  refine PySem.ks_codeAny_call_defAt (fd := fd) (body := xbody f p0 p1 p2 p3 p4 p5 q0 q1 q2 q3) (binds := [(("self" : Str), .ref e), (f, u)]) (hr.make C [u] []).depth (X1 _ _ lk) rfl (nl.keeps fun a o z => up1 a o (kp a o z)) (PySem.W.codeRec_of X1 F.cdI) eb (BindsTo.of_eq (F.bind _ _)) F.cells (fun x hx => ?_) (fun h2 hns up2 => ?_) F.co F.ge F.kd
  · simp only [List.mem_cons, List.not_mem_nil, or_false] at hx
    rcases hx with rfl | rfl
    · exact F.n1
    · exact F.n2
  have X2 : K.In h2 := X1.keeps up2
  have up02 : ∀ a v, base.get? a = some v → h2.get? a = some v := fun a v z => up2 _ _ (up1 _ _ (kp _ _ z))
  have m1 : ([(("self" : Str), Value.ref e), (f, u)].reverse.lookup ("self" : Str)) = some (.ref e) := by
    have hne : (("self" : Str) == f) = false := by
      rw [beq_eq_false_iff_ne]
      exact fun z => T.fne z.symm
    simp [List.lookup, hne]
  have m2 : ([(("self" : Str), Value.ref e), (f, u)].reverse.lookup f) = some u := by simp [List.lookup]
  have he2 := up2 _ _ he1
  have Fr2 : Fr hp h1.objs.size h2 (fun x => [(("self" : Str), Value.ref e), (f, u)].reverse.lookup x) := ⟨hns, fun a v z => up2 _ _ (up1 _ _ z), by omega⟩
  have eL : e ≠ h1.objs.size := by
    show hp.objs.size + 1 ≠ h1.objs.size
    omega
  have nb : hp.get? e = none := Heap.get?_none_of_le (Nat.le_succ _)
  have N2 : News hp h1.objs.size h2 [(e, xObj C hp.objs.size)] := fun p hp => by
    rw [List.mem_singleton.mp hp]
    exact ⟨he2, eL, nb⟩
  have I2 : PySem.W.InstAt h2 e (xObj C hp.objs.size) C none := ⟨he2, rfl, rfl, trivial⟩
  obtain ⟨oC, hC1, hC2⟩ : ∃ oC, h2.get? C = some oC ∧ oC.data = .cls cd := by
    unfold PySem.W.clsIn at hcd
    split at hcd
    · rename_i z1 z2 z3 z4 ho
      cases hcd
      exact ⟨_, X2 _ _ ho, rfl⟩
    · cases hcd
  obtain ⟨mb, Bn, Bb⟩ := B
  -- super()
  obtain ⟨pl, epl⟩ := x_methCall (y := .Call (.Name "super" p0) [] [] p1) (nm := "__init__") (f := f) (p3 := p3) (env := callEnv fd h1.objs.size fI) eln
  refine PySem.ks_wpAt_execs_cons (PySem.ks_wpAt_Expr_any (PySem.ks_wpAt_MethodCall (pl := pl) ?_ epl) (hi := by
    unfold interactive
    rw [show (callEnv fd h1.objs.size fI).scope.kind = .function from F.kd]
    rfl))
  refine PySem.ks_wpAt_super_base (env := callEnv fd h1.objs.size fI) F.n3 F.n4 rfl rfl (X2 _ _ lk) rfl ea F.cd (X2 _ _ lcd) rfl e2 efile T.top ?_
  refine PySem.W.ks_loadName_global F.kd F.n3 (Calls.loadGlobal_builtin (mg := mg) (mb := mb) (by rw [show (callEnv fd h1.objs.size fI).globals = mainGlobals from F.gl]; exact G.keeps up02) (PySem.W.mg_none_of X0 G T.sup) (by rw [show (callEnv fd h1.objs.size fI).builtins = builtinsNs from F.bl]; exact Bn.keeps up02) ((Bb _ (by decide +kernel)).trans (by first | rfl | decide +kernel | kernel_rfl)) ⟨rfl, ?_⟩)
  refine wpAny_loadName_free (c := cc) F.kd F.n4 (by rw [show (callEnv fd h1.objs.size fI).cells = fd.closure from rfl, F.cl]; rfl) ⟨_, X2 _ _ lc, rfl⟩ ?_
  rw [es]
  refine wpAny_loadName_local F.kd F.n1 hns m1 ?_
  refine PySem.ks_wpAny_isType_cls hC1 hC2 ⟨rfl, ?_⟩
  refine PySem.ks_wpAny_call_super hC1 hC2 he2 rfl (fun c z => nomatch z) (PySem.W.looks_mroIn X2 T.mro) (fun h3 hso up3 => ?_)
  obtain ⟨Fr3, N3, _⟩ := PySem.W.ks_newsPush (s := ⟨h2, g, dr, tk, os⟩) Fr2 N2 rfl hso up3
  have I3 : PySem.W.InstAt h3 e (xObj C hp.objs.size) C none := ⟨up3 _ _ he2, rfl, rfl, trivial⟩
  refine PySem.W.kxs_method o.kxs Fr3 X N3 List.mem_cons_self I3 T.tp T.si T.sB (by decide) (fun mw h4 Fr4 N4 _ => ?_)
  have he4 := (N4 (e, xObj C hp.objs.size) (by simp)).1
  have hmw := (N4 (mw, PySem.W.kxs_mw b.initId e) (by simp)).1
  have up4 : ∀ a v, hp.get? a = some v → a ≠ e := fun a v z => Nat.ne_of_lt (Nat.lt_of_lt_of_le (Heap.lt_size z) (Nat.le_succ _))
  refine PySem.W.kxs_callWith1 N4 List.mem_cons_self ?_
  show wpAny _ _ (spliced ((false, PySem.eval (.Name f p3) (callEnv fd h1.objs.size fI)) :: backTo p4 (starEach [] (callEnv fd h1.objs.size fI)))) _ _ _
  refine Calls.spliced_cons (wpAny_Name (wpAny_loadName_local F.kd F.n2 Fr4.ns m2 (Calls.spliced_nil ⟨PySem.W.kxs_at N4 List.mem_cons_self, ?_⟩)) T.fdb)
  refine x_call_mw o (Fr4.keep _ _ hC) he4 hmw hz fun h5 k5 he5 => ?_
  have X5 : K.In h5 := X.keeps fun a v z => k5 a v (up4 a v z) (Fr4.keep a v z)
  have ns5 : h5.Ns h1.objs.size (fun x => [(("self" : Str), Value.ref e), (f, u)].reverse.lookup x) := by
    obtain ⟨z1, z2, z3, z4, z5⟩ := Fr4.ns
    exact ⟨z1, z2, z3, k5 _ _ (Ne.symm eL) z4, z5⟩
  -- self.f = x
  refine PySem.ks_wpAt_execs_cons (PySem.ks_wpAt_Assign_Attr (PySem.wpAt_of_wpAny (wpAny_Name (wpAny_loadName_local F.kd F.n2 ns5 m2 ?_) T.fdb)))
  refine wpAny_Name (wpAny_loadName_local F.kd F.n1 ns5 m1 ?_) (by decide)
  refine x_store T X5 he5 fun h6 tk' dx k6 dn dne he6 n6 => ?_
  refine PySem.wpAt_of_wpAny (wpAny_execs_nil ⟨rfl, ?_⟩)
  refine q h6 tk' e dx _ (fun a v z => k6 a v (up4 a v z) (k5 a v (up4 a v z) (Fr4.keep a v z))) nb (Heap.get?_none_of_le ?_) dne he6 n6
  have z : h1.objs.size < h5.objs.size := Heap.lt_size (k5 _ _ (Ne.symm eL) Fr4.ns.choose_spec.choose_spec.choose_spec.1)
  omega
end
end MP

/-! MP.Exc2: own exceptions as values: made, asked, read. -/
namespace MP
open PySem PySem.Spec PyProof.Rows L2

section
variable {X : Cx} {pins : List (Addr × Obj)} {σ : L2.St} {H : Hp} {s : Shared} {C : Addr} {f : Str} {b : XB}
theorem exo_fr {a C : Addr} {d : Option Addr} {u : HO} (h : ∀ φ, u ≠ .ext φ) : exo a C d ≠ u := fun z => h _ z.symm
-- an exception with its dict is laid
theorem laid_exo {h' : PySem.Heap} {a dx t1 : Addr} {vfs : List (Str × V)} {mA : Str → Option Value} {tk : Nat} (I : Inv X pins σ H s) (k : ∀ b o, s.heap.get? b = some o → h'.get? b = some o) (ha : s.heap.get? a = none) (hd : s.heap.get? dx = none) (ne : dx ≠ a)
    (oa : h'.get? a = some { xObj C t1 with dict := some dx }) (od : h'.Ns1 dx mA) (rl : ∀ g, RelO (vfs.lookup g) (mA g)) :
    H a = none ∧ H dx = none ∧ Inv X pins σ (upd (upd H dx (.xd vfs)) a (exo a C (some dx))) { s with heap := h', toks := tk } := by
  have na : H a = none := I.hok.gone ha
  have nd : H dx = none := I.hok.gone hd
  have n1 : ∀ {b : Addr} {o : Obj}, s.heap.get? b = some o → b ≠ a ∧ b ≠ dx := fun {b o} z => ⟨fun e => (by rw [e, ha] at z; cases z), fun e => (by rw [e, hd] at z; cases z)⟩
  have n2 : ∀ {b : Addr} {u : HO}, H b = some u → b ≠ a ∧ b ≠ dx := fun {b u} z => ⟨ne_of_none z na, ne_of_none z nd⟩
  refine ⟨na, nd, I.un (t' := tk) ?_ fun b u z => ?_⟩
  · exact { keep := fun b o q _ _ _ => k b o q
            slot := fun b o q _ _ _ => ⟨o.slots, k b o q⟩
            free := fun b o q n _ => by rw [upd_ne (n1 q).1, upd_ne (n1 q).2]; exact n
            there := fun b o q _ => ⟨o, k b o q⟩
            tups := fun b xs q => by rw [upd_ne (n2 q).1, upd_ne (n2 q).2]; exact q
            frzs := fun b o v q => by rw [upd_ne (n2 q).1, upd_ne (n2 q).2]; exact q
            tbls := fun b ps q => ⟨#[], by rw [upd_ne (n2 q).1, upd_ne (n2 q).2, q]; simp⟩ }
  · by_cases hb : b = a
    · subst hb
      rw [upd_same] at z
      cases z
      exact exo_ok oa
    · rw [upd_ne hb] at z
      by_cases hb2 : b = dx
      · subst hb2
        rw [upd_same] at z
        cases z
        exact ⟨mA, od, rl⟩
      · rw [upd_ne hb2] at z
        exact (I.hok b u z).stay (fun c v _ q => k c v q) (fun c q => by rw [upd_ne (n2 q).1, upd_ne (n2 q).2]; exact q) fun c xs q => by rw [upd_ne (n2 q).1, upd_ne (n2 q).2]; exact q
-- C(e), C with an own __init__
def tMkX (C : Addr) (f : Str) (ta : TE) : TE := fun σ H Q => ta σ H fun y H1 => ∀ a dx, H1 a = none → H1 dx = none → dx ≠ a → Q (.ref a) (upd (upd H1 dx (.xd [(f, y)])) a (exo a C (some dx)))
theorem pe_mkX {x : Str} {e : Expr} {ta : TE} {p pos : Pos} {k : Nat} (T : XMk X.prog X.K C f b) (gC : X.mg x = some (.ref C)) (kC : PySem.W.keepIn X.K (.ref C) = true) (hg : Gl X x) (hr : L2.Room (k + 1) X.A)
    (he : PE X e ta) (hs : starEach [e] X.env = (false, PySem.eval e X.env) :: starEach [] X.env) (hdb : (x == ("__debug__" : Str)) = false) :
    PE X (.Call (.Name x p) [e] [] pos) (tMkX C f ta) := by
  refine ⟨fun pins s σ H Q I h => ?_⟩
  refine wpAny_Call_Name_kw (ld_glob I hg gC ?_ hdb)
  refine PySem.W.callWith_K (h₀ := X.base) I.ok.mod.kin kC ?_ hs (by rfl)
  rw [hs]
  show wpAny _ _ (spliced ((false, PySem.eval e X.env) :: backTo pos (starEach [] X.env))) _ _ s
  refine Calls.spliced_cons (thn (he.run pins s σ H _ I h) fun u s1 ⟨v, H1, I1, r1, q1⟩ => Calls.spliced_nil ⟨I1.kIn, ?_⟩)
  show wpAny _ _ (call (.ref C) [u]) _ _ _
  obtain ⟨hp, g, dr, tk, os⟩ := s1
  refine x_made T I1.mod.kin I1.mod.glob I1.mod.blt I1.mod.nolimit I1.bk (Nat.le_trans I1.ok.bsz I1.sz) (hr.mono (by omega)) fun h' tk' a dx t1 k' ha hd ne oa od => ?_
  obtain ⟨na, nd, I2⟩ := laid_exo (tk := tk') (vfs := [(f, v)]) I1 k' ha hd ne oa od (relO_put (fs := []) r1 fun _ => trivial)
  exact ⟨.ref a, _, I2, rfl, q1 a dx na nd ne⟩
-- C(e), to be raised
theorem pmk_X {x : Str} {e : Expr} {ta : TE} {p pos : Pos} {k : Nat} (T : XMk X.prog X.K C f b) (gC : X.mg x = some (.ref C)) (kC : PySem.W.keepIn X.K (.ref C) = true) (rs : Raises X (.ref C)) (hg : Gl X x) (hr : L2.Room (k + 1) X.A)
    (he : PE X e ta) (hs : starEach [e] X.env = (false, PySem.eval e X.env) :: starEach [] X.env) (hdb : (x == ("__debug__" : Str)) = false) :
    PMk X (.Call (.Name x p) [e] [] pos) (fun σ H Q => ta σ H fun y H1 => ∀ dx, H1 dx = none → Q (.ref C) (some dx) (upd H1 dx (.xd [(f, y)]))) := by
  intro pins s σ H Q I h
  refine wpAny_Call_Name_kw (ld_glob I hg gC ?_ hdb)
  refine PySem.W.callWith_K (h₀ := X.base) I.ok.mod.kin kC ?_ hs (by rfl)
  rw [hs]
  show wpAny _ _ (spliced ((false, PySem.eval e X.env) :: backTo pos (starEach [] X.env))) _ _ s
  refine Calls.spliced_cons (thn (he.run pins s σ H _ I h) fun u s1 ⟨v, H1, I1, r1, q1⟩ => Calls.spliced_nil ⟨I1.kIn, ?_⟩)
  show wpAny _ _ (call (.ref C) [u]) _ _ _
  obtain ⟨hp, g, dr, tk, os⟩ := s1
  refine x_made T I1.mod.kin I1.mod.glob I1.mod.blt I1.mod.nolimit I1.bk (Nat.le_trans I1.ok.bsz I1.sz) (hr.mono (by omega)) fun h' tk' a dx t1 k' ha hd ne oa od => ?_
  obtain ⟨G, g1, g2⟩ := restrict h' fun b => decide (b ≠ a)
  have gk : ∀ b o, b ≠ a → h'.get? b = some o → G.get? b = some o := fun b o hb z => by rw [g1 b (decide_eq_true hb)]; exact z
  have ga : G.get? a = none := g2 a (decide_eq_false fun z => z rfl)
  have gs : ∀ b o, G.get? b = some o → h'.get? b = some o := fun b o z => by
    by_cases hb : b = a
    · rw [hb, ga] at z
      cases z
    · rw [← g1 b (decide_eq_true hb)]
      exact z
  have ha : hp.get? a = none := ha
  have na : H1 a = none := I1.hok.gone ha
  have nd : H1 dx = none := I1.hok.gone hd
  have odG : G.Ns1 dx (fun y => if y = f then some u else none) := od.at fun o z => gk _ _ ne z
  have J := Inv.laidN (t' := tk') (o := .xd [(f, v)]) I1 (fun b o z => gk b o (fun w => by rw [w] at z; rw [show hp.get? a = some o from z] at ha; cases ha) (k' b o z)) hd nd ⟨_, odG, relO_put (fs := []) r1 fun _ => trivial⟩
  exact ⟨a, _, _, _, _, .ref C, some dx, rfl, J, gs, ga, oa, ⟨rfl, rfl⟩, rfl, rfl, by rw [upd_ne (Ne.symm ne)]; exact na, rfl, I1.bare, rs, q1 dx nd⟩
-- C(e), C with a built-in __init__
def tMkM (C : Addr) (ta : TE) : TE := fun σ H Q => ta σ H fun _ H1 => ∀ a, H1 a = none → Q (.ref a) (upd H1 a (exo a C none))
theorem pe_mkM {bmB : List Value} {B newId initId : String} {x : Str} {e : Expr} {ta : TE} {p pos : Pos} (F : ExcBaseFacts B newId initId bmB) (q : PySem.W.excIn X.K C bmB newId = true) (gC : X.mg x = some (.ref C)) (kC : PySem.W.keepIn X.K (.ref C) = true) (hg : Gl X x)
    (he : PE X e ta) (hs : starEach [e] X.env = (false, PySem.eval e X.env) :: starEach [] X.env) (hdb : (x == ("__debug__" : Str)) = false) :
    PE X (.Call (.Name x p) [e] [] pos) (tMkM C ta) := by
  refine ⟨fun pins s σ H Q I h => ?_⟩
  refine wpAny_Call_Name_kw (ld_glob I hg gC ?_ hdb)
  refine PySem.W.callWith_K (h₀ := X.base) I.ok.mod.kin kC ?_ hs (by rfl)
  rw [hs]
  show wpAny _ _ (spliced ((false, PySem.eval e X.env) :: backTo pos (starEach [] X.env))) _ _ s
  refine Calls.spliced_cons (thn (he.run pins s σ H _ I h) fun u s1 ⟨v, H1, I1, r1, q1⟩ => Calls.spliced_nil ⟨I1.kIn, ?_⟩)
  show wpAny _ _ (call (.ref C) [u]) _ _ _
  obtain ⟨bm, N, nm, qn, bs, hdct, sn, sub, ab, col, dd, k0, k1, k2, k3, k5, mN, hC, hN, hni, T⟩ := exc_obj I1.kIn q
  refine wpAny_call_exc_subT F T hC hN hni (fun h' a hm => ?_) (by show 1 ≤ sizeLine; rw [sizeLine_eq]; decide)
  have hn : H1 a = none := I1.hok.gone hm.new
  obtain ⟨t, ht, _, _⟩ := hm.there
  exact ⟨.ref a, _, I1.laidN hm.keeps hm.new hn (exo_ok ht), rfl, q1 a hn⟩

/-! ### isinstance -/
-- the exception's object, its dict
theorem exo_inst {a C : Addr} {d : Option Addr} {H : Hp} {h : PySem.Heap} (hok : HOk X.prog X.w H h) (e : Rd H a (exo a C d)) (ed : ∀ dx, d = some dx → ∃ vfs, Rd H dx (.xd vfs)) :
    ∃ (ox : Obj) (od : Option Obj), PySem.W.InstAt h a ox C od ∧ ∀ dx vfs, d = some dx → Rd H dx (.xd vfs) → ∃ (o : Obj) (mA : Str → Option Value), od = some o ∧ (∀ name, PySem.W.lookIn name o = some (mA name)) ∧ ∀ g, RelO (vfs.lookup g) (mA g) := by
  have x : ObjOk X.prog X.w H h a (.ext fun h => ∃ t1 : Addr, h.get? a = some ({ cls := .ref C, dict := d, data := .fields #[.ref t1, .none, .none, .none, .bool false, .none] } : Obj)) := e.ok hok
  obtain ⟨t1, oa⟩ := x.1
  cases d with
  | none => exact ⟨_, none, ⟨oa, rfl, rfl, trivial⟩, fun dx vfs z => nomatch z⟩
  | some dx =>
    obtain ⟨vfs, e2⟩ := ed dx rfl
    have x : ObjOk X.prog X.w H h dx (.xd vfs) := e2.ok hok
    obtain ⟨mA, hns, hr⟩ := x
    obtain ⟨o, ho, hl⟩ := lookIn_ns hns
    refine ⟨_, some o, ⟨oa, rfl, rfl, ho⟩, fun dx' vfs' z z2 => ?_⟩
    cases z
    have x2 : ObjOk X.prog X.w H h dx (.xd vfs') := z2.ok hok
    obtain ⟨mA2, hns2, hr2⟩ := x2
    obtain ⟨o2, ho2, hl2⟩ := lookIn_ns hns2
    rw [ho] at ho2
    cases ho2
    exact ⟨o, mA2, rfl, hl2, hr2⟩
end
section
variable {prog : Program} {w : PySem.World} {A : Around} {E : Value → Shared → Prop} {s : Shared} {K : PySem.W.Frag} {x D : Addr} {ox : Obj} {od : Option Obj}
open PySem.W in
theorem x_class {Q : Option Value → Shared → Prop} (c : ExcC K D) (X : K.In s.heap) (I : PySem.W.InstAt s.heap x ox D od) (q : Q (some (.ref D)) { s with toks := s.toks + 1 }) : wpAny (model prog w) A (getAttr? (.ref x) "__class__") Q E s := by
  have hf : findObj K D od "__class__" = some (.bind (.builtin "getset_descriptor.__get__") (.builtin "object.__class__")) := by
    obtain ⟨cd, hc, _⟩ := any_some c.hd
    unfold findObj
    rw [hc, Option.bind_some, c.ha, Option.bind_some]
    simp [c.hn, c.ht]
  obtain ⟨hp, g, dr, tk, os⟩ := s
  have l0 := I.type (M := model prog w)
  have l1 := looks_findIn (M := model prog w) X c.hg
  have l2 := looks_findIn (M := model prog w) X c.hk
  have l3 := looks_find (M := model prog w) X I hf
  have sb : Looks (model prog w) hp (isInstance (.ref x) (.type "BaseException")) true := l0.andThen (looks_subIn X c.hs)
  have z1 : (Value.builtin "BaseException.__getattribute__" == Value.builtin "object.__getattribute__") = false := by decide +kernel
  have z2 : (onTheHeap (Value.ref D) && Value.builtin "BaseException.__getattribute__" == Value.builtin "object.__getattribute__") = false := by rw [z1] <;> rfl
  have z3 : (false && onTheHeap (Value.builtin "BaseException.__getattribute__")) = false := rfl
  unfold getAttr? getAttrBy? getAttrBy
  refine wpAny_bind (wpAny_mkText (wpAny_bind (wpAny_attempt (wpAny_holding (wpAny_bind (l0.at (wpAny_bind (l1.at ?_))))))))
  show wpAny _ _ (if (onTheHeap (Value.ref D) && Value.builtin "BaseException.__getattribute__" == Value.builtin "object.__getattribute__") = true then _ else _) _ _ _
  rw [z2, if_neg Bool.false_ne_true]
  unfold getAttrByItsOwn hookBefore
  refine wpAny_bind ?_
  rw [if_pos (show onTheHeap (Value.ref D) = true from rfl)]
  refine l2.at (wpAny_bind (wpAny_attempt (wpAny_holding ?_)))
  unfold callGetattribute
  rw [z3, if_neg Bool.false_ne_true]
  unfold boundAndCalled
  rw [PySem.F.excAttr_ValueError.ga.bind (.ref x)]
  refine wpAny_bind (wpAny_pure ?_)
  show wpAny _ _ (call (.builtin "BaseException.__getattribute__") [.ref x, .str "__class__" tk]) _ _ _
  refine wpAny_call (codeAny_call_builtin PySem.F.excAttr_ValueError.ga.plain PySem.F.entry_bexc_ga (@check_slot (model prog w) _ _ ⟨hp, g, dr, tk + 1, os⟩ "BaseException.__getattribute__" "BaseException" "__getattribute__" (.ref x) [.str "__class__" tk] [] _ (by decide +kernel) (by decide +kernel) sb (PySem.F.args_bexc_ga (.ref x) (.str "__class__" tk)) ?_))
  unfold Builtin.«object.__getattribute__»
  refine wpAny_bind (wpAny_of_eq (a := ((Value.ref x : Value), [Value.str "__class__" tk])) (by first | rfl | (simp only [slotArgs]; rfl)) (wpAny_bind (wpAny_pure (wpAny_bind (l0.at (wpAny_bind (l3.at ?_)))))))
  show wpAny _ _ (holding [Value.builtin "object.__class__"] (call (.builtin "getset_descriptor.__get__") [.builtin "object.__class__", .ref x, .ref D]) >>= ret) _ _ _
  refine wpAny_bind (wpAny_holding (wpAny_call (class_get (s := ⟨hp, g, dr, tk + 1, os⟩) (ox := ox) (od := od) X I c.hm (wpAny_pure ?_))))
  show wpAny _ _ (handedOut (.ref D)) _ _ _
  rw [handedOut_of (v := .ref D) rfl]
  first
    | exact wpAny_pure (wpAny_pure q)
    | exact wpAny_pure q
    | exact wpAny_pure (wpAny_bind (wpAny_pure (wpAny_pure q)))
theorem x_kit (c : ExcC K D) : PySem.W.KitX K (.ref x) (.ref D) (fun h => ∃ ox od, PySem.W.InstAt h x ox D od) := by
  obtain ⟨cd, hc, _⟩ := PySem.W.any_some c.hd
  have at_ : ∃ o : Obj, K.lookup D = some o ∧ o.data = .cls cd := by
    unfold PySem.W.clsIn at hc
    split at hc
    · rename_i z1 z2 z3 z4 ho
      cases hc
      exact ⟨_, ho, rfl⟩
    · cases hc
  obtain ⟨o, lo, eo⟩ := at_
  refine ⟨fun M h X q => ?_, fun M h X q => ?_, fun h tp dd its n sl X htp => ?_, fun X q k => ?_⟩
  · obtain ⟨ox, od, I⟩ := q
    exact I.type
  · intro A' Q' E' s' k q'
    unfold isType loadHead
    refine wpAny_bind (wpAny_loadPart (k _ _ (X _ _ lo)) ?_)
    rw [eo]
    exact wpAny_pure q'
  · refine Bool.eq_false_iff.mpr fun q => ?_
    have e : D = tp := Value.ref.inj (beq_iff_eq.mp q)
    subst e
    have z := (X _ _ lo).symm.trans htp
    cases z
    cases eo
  · obtain ⟨ox, od, I⟩ := q
    exact x_class c X I k
end
section
variable {X : Cx}
-- isinstance(e, c), e an exception of ours
def rIsX (K : PySem.W.Frag) : List V → Hp → VK → Prop := fun xs H Q => ∃ (a D : Addr) (d : Option Addr) (c : V) (cv : Value) (b : Bool), xs = [.ref a, c] ∧ Rd H a (exo a D d) ∧ (∀ dx, d = some dx → ∃ vfs, Rd H dx (.xd vfs)) ∧ ExcC K D ∧ (∀ u, RelV c u → u = cv) ∧ PySem.W.kitOne K (.ref D) cv = some b ∧ Q (.bl b) H
theorem call_isX : CallR X (.builtin "isinstance") (rIsX X.K) := by
  intro pins s σ H xs us Q I r h
  obtain ⟨a, D, d, c, cv, b, rfl, e1, e2, C, hcv, e, q⟩ := h
  cases r with
  | cons rx rr =>
    cases rr with
    | cons rt rr =>
      cases rr
      cases rx
      have ec := hcv _ rt
      subst ec
      obtain ⟨ox, od, J, _⟩ := exo_inst I.hok e1 e2
      exact PySem.W.kia_one (x_kit C) I.kIn ⟨ox, od, J⟩ e (fun z => nomatch z) fun tk => ⟨.bl b, H, I.kept (t' := tk) fun _ _ z => z, rfl, q⟩
-- e.f
def tXr (C : Addr) (f : Str) (te : TE) : TE := fun σ H Q => te σ H fun x H1 => ∃ (a dx : Addr) (vfs : List (Str × V)) (v : V), x = .ref a ∧ Rd H1 a (exo a C (some dx)) ∧ Rd H1 dx (.xd vfs) ∧ vfs.lookup f = some v ∧ Q v H1
theorem pe_xr {C : Addr} {e : Expr} {te : TE} {pos : Pos} {f : Str} (T : XfC X.K C) (hno : PySem.W.findIn X.K (.ref C) f = some none) (he : PE X e te) (hb : attributeBase e f X.env (PySem.eval e X.env) = PySem.eval e X.env) :
    PE X (.Attribute e f pos) (tXr C f te) := by
  refine ⟨fun pins s σ H Q I h => ?_⟩
  refine attr_of hb (thn (he.run pins s σ H _ I h) fun u s1 hh => ?_)
  obtain ⟨x, H1, I1, rx, a, dx, vfs, v, ex, e1, e2, l, q⟩ := hh
  subst ex
  obtain rfl : u = Value.ref a := rx
  obtain ⟨ox, od, J, k⟩ := exo_inst I1.hok e1 (fun dx' z => by cases z; exact ⟨vfs, e2⟩)
  obtain ⟨o, mA, rfl, hl, hr⟩ := k dx vfs rfl e2
  obtain ⟨u, hu, ru⟩ := RelO.some_of (v := v) (o := mA f) (by rw [← l]; exact hr f)
  exact PySem.HandSPX.exc_get I1.kIn J T.ga T.gg T.exC (PySem.W.findObj_own T.hdC hno rfl (by rw [hl, hu])) (handed_of ru) ⟨v, H1, I1.tok _, ru, q⟩
end
end MP

/-! MP.Grd: calls where nothing guarded is under way (no repr of a tuple). -/
namespace MP
open PySem PySem.Spec PyProof.Rows L2

structure GRoom (k : Nat) (A : Around) : Prop where
  rm : L2.Room k A
  gd : A.guards = some []
namespace GRoom
variable {j k : Nat} {A : Around}
theorem units (r : GRoom k A) : A.units + 64 < cLine := r.rm.units
theorem units0 (r : GRoom k A) : A.units < cLine := r.rm.units0
theorem depth (r : GRoom k A) : A.depth < recursionLimit := r.rm.depth
theorem hd (r : GRoom k A) : A.handled = none := r.rm.hd
theorem mono (r : GRoom k A) (h : j ≤ k) : GRoom j A := ⟨r.rm.mono h, r.gd⟩
theorem deeper (r : GRoom (k + 1) A) (env : PySem.Env) : GRoom k (A.deeper env) := ⟨r.rm.deeper env, r.gd⟩
theorem in1 (r : GRoom (k + 1) A) : GRoom k A.in1 := ⟨r.rm.in1, r.gd⟩
theorem make_guards {C : Addr} {us : List Value} {kw : List (Str × Value)} : (A.under (.builtin "type.__call__" ⟨.ref C :: us, kw⟩)).guards = A.guards := by
  first | rfl | simp [Around.under, Code.guards, Code.isGuard, guardIds, pushGuards]
theorem make (r : GRoom (k + 1) A) (C : Addr) (us : List Value) (kw : List (Str × Value)) : GRoom k (A.under (.builtin "type.__call__" ⟨.ref C :: us, kw⟩)) := ⟨r.rm.make C us kw, by rw [make_guards]; exact r.gd⟩
end GRoom

-- a promise by values, where nothing guarded is under way
def FnG (P : Program) (w : World) (K : PySem.W.Frag) (mg : Str → Option Value) (base : PySem.Heap) (CX : CXT) (k : Nat) (f : Addr) (sp : Sp) : Prop :=
  ∀ (A : Around) (outer : List PySem.Env) (s0 : Shared) (H0 : Hp) (us : List Value) (xs : List V) (Q : VK) (E : XK), GRoom k A → Env0 P w K mg base A outer s0 H0 → Vals xs us → sp xs H0 Q E →
    codeAny (model P w) A (.call (.ref f) ⟨us, []⟩) (CR CX outer P w H0 s0 Q E) s0
section
variable {P : Program} {w : World} {K : PySem.W.Frag} {mg : Str → Option Value} {base : PySem.Heap} {CX : CXT} {j k : Nat} {f : Addr} {sp sp' : Sp}
theorem FnG.imp (F : FnG P w K mg base CX k f sp) (h : ∀ vs H Q E, sp' vs H Q E → sp vs H Q E) : FnG P w K mg base CX k f sp' :=
  fun A o s0 H0 us xs Q E hr e0 r hs => F A o s0 H0 us xs Q E hr e0 r (h _ _ _ _ hs)
-- a def of the text, by its body
theorem fn_ofG {name qual : Str} {params : Arguments} {body : List Stmt} {scope : Scope} {dV kV doc pm cdv ct oc : Value} {an od : Option Addr} {osl : Array (Option Value)} {N ps : List Str}
    (lk : K.lookup f = some ⟨oc, od, .func (PySem.W.fnOf name qual params body scope dV kV doc pm an cdv ct), osl⟩) (hcd : PySem.W.codeIn K cdv qual = true) (S : FnScope N ps scope)
    (hb : Binds K (PySem.W.fnOf name qual params body scope dV kV doc pm an cdv ct) ps []) (len : ∀ vs H Q E, sp vs H Q E → vs.length = ps.length)
    (go : ∀ (A : Around) (outer : List PySem.Env) (s0 : Shared) (H0 : Hp) (xs : List V) (Q : VK) (E : XK), GRoom k (A.deeper (envOfC qual scope s0.heap.objs.size f cdv)) → sp xs H0 Q E →
      ∃ t, PSs (cxOf CX P w K mg base N qual scope f cdv A outer s0 H0 E) body t ∧ t { nx := fun _ H' => Q .non H', rt := Q } (L2.start N xs) H0) :
    FnG P w K mg base CX (k + 1) f sp := by
  intro A outer s0 H0 us xs Q E hr e0 r hs
  have hl := len _ _ _ _ hs
  have hlu : us.length = ps.length := by rw [← r.length]; exact hl
  have bb := hb s0 us (e0.mod.kin.keeps fun b o e => (e0.bs b o e).1) (by simpa using hlu)
  rw [List.append_nil] at bb
  exact LamX.run_ofS lk hcd S hr.rm e0 bb r hl fun _ => go A outer s0 H0 xs Q E (hr.deeper _) hs
end
section
variable {X : Cx} {pins : List (Addr × Obj)} {σ : L2.St} {H : Hp} {s : Shared} {CX : CXT} {k : Nat} {f : Addr} {sp : Sp} {E : XK}
theorem run_fnG {Q : VK} {us : List Value} {xs : List V} (F : FnG X.prog X.w X.K X.mg X.base CX k f sp) (hr : GRoom k X.A) (hx : Passes CX X E) (I : Inv X pins σ H s) (r : Vals xs us) (q : sp xs H Q E) :
    codeAny (model X.prog X.w) X.A (.call (.ref f) ⟨us, []⟩) (fun r s' => match r with
      | .ok (.ret v) => EP X pins σ Q v s'
      | .ok _ => False
      | .error e => X.xe e s') s := by
  refine codeAny_mono (F _ _ _ _ _ _ Q E hr I.env0 r q) fun z s2 y => ?_
  match z, y with
  | .error e, y => exact hx _ _ _ _ _ _ I y
  | .ok (.ret u), y => exact I.after y
  | .ok .next, y => exact (show False from y).elim
  | .ok .brk, y => exact (show False from y).elim
  | .ok .cont, y => exact (show False from y).elim
theorem pe_callG {x : Str} {p pos : Pos} {e : Expr} {es : List Expr} {t : TA} (F : FnG X.prog X.w X.K X.mg X.base CX k f sp) (hr : GRoom k X.A) (hg : Gl X x) (hm : X.mg x = some (.ref f)) (hk : PySem.W.keepIn X.K (.ref f) = true) (hx : Passes CX X E)
    (ha : PA X (e :: es) t) (hdb : (x == ("__debug__" : Str)) = false) (he : starEach (e :: es) X.env = (false, PySem.eval e X.env) :: starEach es X.env) (hpl : (backTo pos (starEach es X.env)).any (·.1) = false) :
    PE X (.Call (.Name x p) (e :: es) [] pos) (fun σ H Q => t σ H fun xs H1 => sp xs H1 Q E) := by
  refine ⟨fun pins s σ H Q I h => wpAny_Call_Name_kw (ld_glob I hg hm ?_ hdb)⟩
  exact PySem.W.callWith_K (h₀ := X.base) I.ok.mod.kin hk (thn (ha.run pos pins s σ H _ I h) fun us s1 ⟨xs, H1, I1, r, q⟩ => ⟨I1.kIn, wpAny_call (run_fnG F hr hx I1 r q)⟩) he hpl
-- without arguments
theorem pe_callG0 {x : Str} {p pos : Pos} (F : FnG X.prog X.w X.K X.mg X.base CX k f sp) (hr : GRoom k X.A) (hg : Gl X x) (hm : X.mg x = some (.ref f)) (hk : PySem.W.keepIn X.K (.ref f) = true) (hx : Passes CX X E)
    (hdb : (x == ("__debug__" : Str)) = false) : PE X (.Call (.Name x p) [] [] pos) (fun σ H Q => sp [] H Q E) := by
  refine ⟨fun pins s σ H Q I h => wpAny_Call_Name_kw (ld_glob I hg hm ?_ hdb)⟩
  exact PySem.W.callWith_K0 I.kIn hk (wpAny_call (run_fnG (us := []) F hr hx I .nil h))
end
end MP

/-! MP.Rep: repr of plain data; try with clauses of both kinds; a lambda handed to a def that calls it. -/
namespace MP
open PySem PySem.Spec PyProof.Rows L2

/-! ### repr -/
mutual
-- v is the data p
def RepP (K : PySem.W.Frag) (H : Hp) : PyData → V → Prop
  | .none, v => v = .non
  | .bool b, v => v = .bl b
  | .int i, v => v = .int i
  | .str x, v => v = .str x
  | .tuple l, v => ∃ a vs, v = .ref a ∧ SqT K H a vs ∧ RepPs K H l vs
  | .list l, v => ∃ a vs, v = .ref a ∧ SqL K H a vs ∧ RepPs K H l vs
  | .dict _, _ => False
def RepPs (K : PySem.W.Frag) (H : Hp) : List PyData → List V → Prop
  | [], vs => vs = []
  | p :: l, vs => ∃ v r, vs = v :: r ∧ RepP K H p v ∧ RepPs K H l r
end
section
variable {X : Cx} {pins : List (Addr × Obj)} {σ : L2.St} {H : Hp} {s : Shared}
mutual
theorem RepP.reads (I : Inv X pins σ H s) : ∀ (p : PyData) (v : V) (u : Value), RepP X.K H p v → L2.RelV v u → (∃ as, Reads s.heap u p as) ∧ p.hasDict = false
  | .none, v, u, q, r => by
    simp only [RepP] at q
    subst q
    have r : u = Value.none := r
    subst r
    exact ⟨⟨[], .none⟩, rfl⟩
  | .bool b, v, u, q, r => by
    simp only [RepP] at q
    subst q
    have r : u = Value.bool b := r
    subst r
    exact ⟨⟨[], .bool b⟩, rfl⟩
  | .int i, v, u, q, r => by
    simp only [RepP] at q
    subst q
    obtain ⟨t, rfl⟩ := (show ∃ t, u = Value.int i t from r)
    exact ⟨⟨[], .int i t⟩, rfl⟩
  | .str x, v, u, q, r => by
    simp only [RepP] at q
    subst q
    obtain ⟨t, rfl⟩ := (show ∃ t, u = Value.str x t from r)
    exact ⟨⟨[], .str x t⟩, rfl⟩
  | .tuple l, v, u, q, r => by
    simp only [RepP] at q
    obtain ⟨a, vs, rfl, sq, q⟩ := q
    have r : u = Value.ref a := r
    subst r
    obtain ⟨its, rv, ⟨o, e1, e2, n, e3⟩, _⟩ := I.tuple sq
    obtain ⟨⟨as, ra⟩, hd⟩ := RepPs.reads I l vs its q rv
    exact ⟨⟨_, .tuple e1 e2 e3 (by simpa using ra)⟩, by simp only [PyData.hasDict]; exact hd⟩
  | .list l, v, u, q, r => by
    simp only [RepP] at q
    obtain ⟨a, vs, rfl, sq, q⟩ := q
    have r : u = Value.ref a := r
    subst r
    obtain ⟨its, rv, ⟨o, n, e1, e2, _, e3⟩, _⟩ := I.list sq
    obtain ⟨⟨as, ra⟩, hd⟩ := RepPs.reads I l vs its q rv
    exact ⟨⟨_, .list e1 e2 e3 (by simpa using ra)⟩, by simp only [PyData.hasDict]; exact hd⟩
  | .dict _, v, u, q, r => by
    simp only [RepP] at q
theorem RepPs.reads (I : Inv X pins σ H s) : ∀ (l : List PyData) (vs : List V) (us : List Value), RepPs X.K H l vs → Vals vs us → (∃ as, ReadsAll s.heap us l as) ∧ PyData.hasDictAll l = false
  | [], vs, us, q, r => by
    simp only [RepPs] at q
    subst q
    cases r
    exact ⟨⟨[], .nil⟩, rfl⟩
  | p :: l, vs, us, q, r => by
    simp only [RepPs] at q
    obtain ⟨v, w, rfl, q1, q2⟩ := q
    cases r with
    | cons r1 r2 =>
      obtain ⟨⟨as, ra⟩, h1⟩ := RepP.reads I p v _ q1 r1
      obtain ⟨⟨bs, rb⟩, h2⟩ := RepPs.reads I l w _ q2 r2
      exact ⟨⟨_, .cons ra rb⟩, by simp only [PyData.hasDictAll, h1, h2]; rfl⟩
end
def rRep (K : PySem.W.Frag) : List V → Hp → VK → Prop := fun xs H Q => ∃ v p, xs = [v] ∧ RepP K H p v ∧ p.showable = true ∧ p.depth ≤ 20 ∧ p.shown.length ≤ sizeLine ∧ Q (.str p.shown) H
theorem call_repr (hg : X.A.guards = some []) (hu : X.A.units + 64 < cLine) : CallR X (.builtin "repr") (rRep X.K) := by
  intro pins s σ H xs us Q I r h
  obtain ⟨v, p, rfl, q, h1, h2, h3, k⟩ := h
  cases r with
  | @cons _ u _ _ r1 r2 =>
    cases r2
    cases p with
    | none =>
      simp only [RepP] at q
      subst q
      have r1 : u = Value.none := r1
      subst r1
      simp only [PyData.shown] at k
      exact PySem.P.repr_of_none ⟨V.str _, H, I.tok _, ⟨_, rfl⟩, k⟩
    | bool b =>
      simp only [RepP] at q
      subst q
      have r1 : u = Value.bool b := r1
      subst r1
      simp only [PyData.shown] at k
      exact PySem.P.repr_of_bool ⟨V.str (if b = true then "True" else "False"), H, I.tok _, ⟨_, by cases b <;> rfl⟩, by cases b <;> exact k⟩
    | int i =>
      simp only [RepP] at q
      subst q
      obtain ⟨t, rfl⟩ := (show ∃ t, u = Value.int i t from r1)
      simp only [PyData.shown] at k
      exact PySem.P.repr_of_int (by simpa [PyData.showable] using h1) ⟨V.str (toString i), H, I.tok _, ⟨_, rfl⟩, k⟩
    | str x =>
      simp only [RepP] at q
      subst q
      obtain ⟨t, rfl⟩ := (show ∃ t, u = Value.str x t from r1)
      simp only [PyData.shown] at k h3
      exact PySem.P.repr_of_str ⟨V.str (reprText x), H, I.tok _, ⟨_, rfl⟩, k⟩ h3
    | dict l =>
      simp only [RepP] at q
    | tuple l =>
      obtain ⟨⟨as, ra⟩, hd⟩ := RepP.reads I (.tuple l) v u q r1
      simp only [RepP] at q
      obtain ⟨a, vs, rfl, _, _⟩ := q
      have r1 : u = Value.ref a := r1
      subst r1
      exact repr_of_reads' ra h1 (PyData.noDict_hsm hd) hg (by omega) (fun _ _ e => e) (fun h' w tk ext => ⟨V.str (PyData.tuple l).shown, H, I.kept (t' := tk) ext, ⟨_, rfl⟩, k⟩) h3
    | list l =>
      obtain ⟨⟨as, ra⟩, hd⟩ := RepP.reads I (.list l) v u q r1
      simp only [RepP] at q
      obtain ⟨a, vs, rfl, _, _⟩ := q
      have r1 : u = Value.ref a := r1
      subst r1
      exact repr_of_reads' ra h1 (PyData.noDict_hsm hd) hg (by omega) (fun _ _ e => e) (fun h' w tk ext => ⟨V.str (PyData.list l).shown, H, I.kept (t' := tk) ext, ⟨_, rfl⟩, k⟩) h3
end

/-! ### try, with except clauses with a name and without -/
abbrev TSx := Addr → Value → Option Addr → TS
-- the ends of a suite whose name, slot i, goes behind it
def endsN (i : Nat) (D : Ends) : Ends := { nx := fun τ G => D.nx (τ.set i none) G, rt := D.rt, bk := fun τ G => D.bk (τ.set i none) G, ct := fun τ G => D.ct (τ.set i none) G }
-- a clause: its class, its name's slot, its suite
abbrev Cla := Value × Option Nat × TSx
def wX (K : PySem.W.Frag) (Wout : WX) (D : Ends) : List Cla → WX
  | [] => Wout
  | q :: r => fun cls d σ H => ∃ b, PySem.W.exmOne K cls q.1 = some b ∧ (b = true → ∀ a, H a = none → (match q.2.1 with
      | none => q.2.2 a cls d D σ H
      | some i => q.2.2 a cls d (endsN i D) (σ.set i (some (.ref a))) H)) ∧ (b = false → wX K Wout D r cls d σ H)
-- a suite in every state in which its clause may be run
def SuOk (X : Cx) (su : List Stmt) (ts : TSx) : Prop := ∀ (a : Addr) (oe : Obj) (cls : Value) (d : Option Addr) (pn : List (Addr × Obj)), Zc cls d oe → (∃ vs, oe.data = .fields vs) → PSs (X.suite a ((a, oe) :: pn)) su (ts a cls d)
inductive HdX (X : Cx) : List ExceptHandler → List Cla → Prop
  | nil : HdX X [] []
  | pl {y : Str} {c : Value} {ts : TSx} {b₁ : Stmt} {su : List Stmt} {p1 p2 : Pos} {hs : List ExceptHandler} {l : List Cla} (nm : Names X y c) (ok : SuOk X (b₁ :: su) ts) (r : HdX X hs l) : HdX X (.ExceptHandler (some (.Name y p1)) none (b₁ :: su) p2 :: hs) ((c, none, ts) :: l)
  | nm {y n : Str} {i : Nat} {c : Value} {ts : TSx} {b₁ : Stmt} {su : List Stmt} {p1 p2 : Pos} {hs : List ExceptHandler} {l : List Cla} (nm : Names X y c) (hi : X.N[i]? = some n) (hk : X.env.kindOf n = some .local) (ok : SuOk X (b₁ :: su) ts) (r : HdX X hs l) :
      HdX X (.ExceptHandler (some (.Name y p1)) (some n) (b₁ :: su) p2 :: hs) ((c, some i, ts) :: l)
section
variable {X : Cx}
-- what ends a suite ends the try
theorem su_end {D : Ends} {a : Addr} {z : Addr × Obj} {pins pn' : List (Addr × Obj)} {fl : Flow} {t : Shared} (ok : X.Ok) (h : SP (X.suite a (z :: (X.pn ++ pins))) pn' D fl t) : SP X pins D fl t := by
  match fl, h with
  | .next, h =>
    obtain ⟨τ, G, J, q⟩ := h
    exact ⟨τ, G, J.unsuite ok, q⟩
  | .brk, h =>
    obtain ⟨τ, G, J, q⟩ := h
    exact ⟨τ, G, J.unsuite ok, q⟩
  | .cont, h =>
    obtain ⟨τ, G, J, q⟩ := h
    exact ⟨τ, G, J.unsuite ok, q⟩
  | .ret u, h =>
    obtain ⟨v, τ, G, J, rv, q⟩ := h
    exact ⟨v, τ, G, J.unsuite ok, rv, q⟩
theorem su_endN {D : Ends} {a : Addr} {z : Addr × Obj} {pins pn' : List (Addr × Obj)} {fl : Flow} {t : Shared} {i : Nat} {n : Str} {pos : Pos} (ok : X.Ok) (nd : X.N.Nodup) (hi : X.N[i]? = some n) (hk : X.env.kindOf n = some .local)
    (h : SP (X.suite a (z :: (X.pn ++ pins))) pn' (endsN i D) fl t) : wpAny (model X.prog X.w) X.A (do bindName X.env n .none; unbindBehindTheSuite X.env n pos) (fun _ t2 => SP X pins D fl t2) X.xe t := by
  match fl, h with
  | .next, h =>
    obtain ⟨τ, G, J, q⟩ := h
    exact gone_ok (J.unsuite ok) nd hi hk fun t2 J2 => ⟨_, _, J2, q⟩
  | .brk, h =>
    obtain ⟨τ, G, J, q⟩ := h
    exact gone_ok (J.unsuite ok) nd hi hk fun t2 J2 => ⟨_, _, J2, q⟩
  | .cont, h =>
    obtain ⟨τ, G, J, q⟩ := h
    exact gone_ok (J.unsuite ok) nd hi hk fun t2 J2 => ⟨_, _, J2, q⟩
  | .ret u, h =>
    obtain ⟨v, τ, G, J, rv, q⟩ := h
    exact gone_ok (J.unsuite ok) nd hi hk fun t2 J2 => ⟨_, _, _, J2, rv, q⟩
-- where the exception lies when the clauses are asked
structure Land (X : Cx) (pins : List (Addr × Obj)) (B : PySem.Heap) (a : Addr) (cls : Value) (d : Option Addr) (sI t : Shared) (σ : L2.St) (H : Hp) : Prop where
  inv : Inv X pins σ H sI
  nb : ∀ b o, sI.heap.get? b = some o → b ∉ frs X.stack → B.get? b = some o
  up : sI.heap.UpToSlots t.heap
  fl : HandSPX.FlyingZ B (X.env :: X.outer) a (Zc cls d) t.heap
  na : H a = none
  os : t.os = sI.os
  bare : AllBare t.gens
variable {pins : List (Addr × Obj)} {B : PySem.Heap} {a : Addr} {cls : Value} {d : Option Addr} {sI t : Shared} {σ : L2.St} {H : Hp}
theorem Land.step (L : Land X pins B a cls d sI t σ H) {h' : PySem.Heap} (f : HandSPX.FlyingZ B (X.env :: X.outer) a (Zc cls d) h') (u : t.heap.UpToSlots h') : Land X pins B a cls d sI { t with heap := h' } σ H :=
  ⟨L.inv, L.nb, L.up.trans u, f, L.na, L.os, L.bare⟩
theorem Land.here (L : Land X pins B a cls d sI t σ H) : Inv X pins σ H t := L.inv.landed L.nb L.fl.1 L.up L.os L.bare
-- the exception's object is no frame
theorem Land.obj (L : Land X pins B a cls d sI t σ H) (hf : X.env.frame = some X.env.locals) : ∃ (oe : Obj) (vs : Array Value), t.heap.get? a = some oe ∧ Zc cls d oe ∧ oe.data = .fields vs ∧ Inv (X.suite a ((a, oe) :: (X.pn ++ pins))) [] σ H t := by
  obtain ⟨oe, vs, g1, g2, g3⟩ := L.fl.there
  have out : a ∉ frs (X.env :: X.outer) := fun m => by
    obtain ⟨_, o2, g4, g5⟩ := L.fl.2.2.1.mem m
    rw [g1] at g4
    cases g4
    exact g5 _ g3
  have n1 : a ≠ X.env.locals := fun z => out (List.mem_filterMap.mpr ⟨X.env, List.mem_cons_self, by rw [hf, z]⟩)
  have n2 : a ∉ X.fs := fun m => by
    obtain ⟨e, he, w⟩ := List.mem_filterMap.mp m
    exact out (List.mem_filterMap.mpr ⟨e, List.mem_cons_of_mem _ he, w⟩)
  exact ⟨oe, vs, g1, g2, g3, L.here.suite g1 g3 L.na n1 n2⟩
theorem hds_ok {Wout : WX} {D : Ends} (hs : X.stack = X.env :: X.outer) (hf : X.env.frame = some X.env.locals) (nd : X.N.Nodup) (tk : Takes X Wout) (ok : X.Ok) {hds : List ExceptHandler} {l : List Cla} (hh : HdX X hds l) :
    Land X pins B a cls d sI t σ H → wX X.K Wout D l cls d σ H → wpAny (model X.prog X.w) X.A (handleBy (.ref a) X.env hds) (SP X pins D) X.xe t := by
  induction hh with
  | nil =>
    intro L w
    refine wpAny_handleBy_nil ?_
    obtain ⟨_, _, _, oe, vs, T, oT, ts, g1, _, g2, g3, _⟩ := id L.fl
    have out : wpAny (model X.prog X.w) X.A (setFlight (.ref a) X.env.frame) (fun _ t2 => wpAny (model X.prog X.w) X.A (throw (.ref a) : Sem Flow) (SP X pins D) X.xe t2) X.xe t := by
      rw [hf]
      refine HandSPX.setFlight_upZ L.fl fun h' held u => wpAny_throw (tk _ _ ?_)
      exact ⟨a, B, sI, pins, σ, H, cls, d, rfl, L.inv, L.nb, L.up.trans u, .inr (.inr (by rw [hs]; exact held)), L.na, L.os, L.bare, w⟩
    unfold PySem.passOn
    refine wpAny_bind (wpAny_field g1 g2 g3 ?_)
    rw [if_neg (show ¬ ((Value.ref T == Value.none) = true) from by simp)]
    first
      | exact wpAny_bind (wpAny_pure (wpAny_bind out))
      | exact wpAny_bind out
  | @pl y c ts b₁ su p1 p2 hs2 l2 nm sok r ih =>
    intro L w
    obtain ⟨b, e1, yes, no⟩ := w
    obtain ⟨oe, vs, g1, g2, g3, S⟩ := L.obj hf
    have ty : PySem.W.Looks (model X.prog X.w) t.heap (typeOf (.ref a)) cls := fun _ _ _ _ k q => wpAny_typeOf_ref (k _ _ g1) (by rw [g2.1]; exact q)
    have ask : ∀ {Q : Value → Shared → Prop} {E : Value → Shared → Prop}, Q c t → wpAny (model X.prog X.w) (X.A.mark (some (.ref a))) (PySem.eval (.Name y p1) X.env) Q E t := fun {Q E} q => by
      obtain ⟨k1, k2, k3⟩ := nm
      rcases k3 with k3 | ⟨k3, k4, k5⟩
      · exact ld_glob S k1 k3 q k2
      · exact ld_blt S k1 k3 k4 q k5 k2
    refine wpAny_handleBy_cons (codeAny_handlers_test (ask ((PySem.W.exm_one (M := model X.prog X.w) L.here.kIn ty e1).here ?_))) (fun q => nomatch q)
    cases b with
    | false => exact ih L (no rfl)
    | true =>
      refine codeAny_handlers_suite (HandSPX.lands_againZ L.fl fun h' f' u => ?_)
      obtain ⟨oe', _, _, z2, z3, S'⟩ := (L.step f' u).obj hf
      exact wpAny_mono ((sok a oe' cls d (X.pn ++ pins) z2 ⟨_, z3⟩).run [] _ _ H _ S' (yes rfl a L.na)) (fun fl t2 h => su_end ok h) fun _ _ z => z.elim
  | @nm y n i c ts b₁ su p1 p2 hs2 l2 nm hi hk sok r ih =>
    intro L w
    obtain ⟨b, e1, yes, no⟩ := w
    obtain ⟨oe, vs, g1, g2, g3, S⟩ := L.obj hf
    have ty : PySem.W.Looks (model X.prog X.w) t.heap (typeOf (.ref a)) cls := fun _ _ _ _ k q => wpAny_typeOf_ref (k _ _ g1) (by rw [g2.1]; exact q)
    have ask : ∀ {Q : Value → Shared → Prop} {E : Value → Shared → Prop}, Q c t → wpAny (model X.prog X.w) (X.A.mark (some (.ref a))) (PySem.eval (.Name y p1) X.env) Q E t := fun {Q E} q => by
      obtain ⟨k1, k2, k3⟩ := nm
      rcases k3 with k3 | ⟨k3, k4, k5⟩
      · exact ld_glob S k1 k3 q k2
      · exact ld_blt S k1 k3 k4 q k5 k2
    refine wpAny_handleBy_cons (codeAny_handlers_test (ask ((PySem.W.exm_one (M := model X.prog X.w) L.here.kIn ty e1).here ?_))) (fun q => nomatch q)
    cases b with
    | false => exact ih L (no rfl)
    | true =>
      refine codeAny_handlers_suite_as (HandSPX.lands_againZ L.fl fun h' f' u => ?_)
      obtain ⟨oe', _, _, z2, z3, S'⟩ := (L.step f' u).obj hf
      refine store_ok (X := X.suite a ((a, oe') :: (X.pn ++ pins))) (v := .ref a) S' nd hi (.inl hk) rfl (fun t1 S1 => ?_) (.inr hk)
      exact wpAny_mono ((sok a oe' cls d (X.pn ++ pins) z2 ⟨_, z3⟩).run [] t1 _ H _ S1 (yes rfl a L.na)) (fun fl t2 h => su_endN ok nd hi hk h) fun _ _ z => z.elim
theorem ps_try_mix {Wout : WX} {tb : WX → TS} {body : List Stmt} {hd : ExceptHandler} {hds : List ExceptHandler} {l : List Cla} {pos : Pos} (hs : X.stack = X.env :: X.outer) (hf : X.env.frame = some X.env.locals) (nd : X.N.Nodup) (tk : Takes X Wout)
    (hb : ∀ (W : WX) (pn : List (Addr × Obj)) (xe : Value → Shared → Prop), Takes (X.tr pn xe) W → PSs (X.tr pn xe) body (tb W)) (hh : HdX X (hd :: hds) l) : PS X (.Try body (hd :: hds) [] [] pos) (fun D σ H => tb (wX X.K Wout D l) D σ H) := by
  refine ⟨fun pins s σ H D I h => ?_⟩
  have ok := I.ok
  let out : Value → Shared → Prop := fun e t1 => wpAny (model X.prog X.w) X.A (noteFrame e X.env) (fun _ t2 => wpAny (model X.prog X.w) X.A (setFlight e none) (fun _ t3 => wpAny (model X.prog X.w) X.A (handleBy e X.env (hd :: hds)) (SP X pins D) X.xe t3) X.xe t2) X.xe t1
  have tk2 : Takes (X.tr (X.pn ++ pins) out) (wX X.K Wout D l) := fun u t xx => by
    obtain ⟨a, B, sI, pn', τ, G, cls, d, rfl, J, nb, up, sky, na, os, ag, w⟩ := xx
    have J := J.ofTry ok
    have sky : Sky B (X.env :: X.outer) a (Zc cls d) X.env.locals t.heap := by rw [← hs]; exact sky
    refine Sky.land Zc.steady (by rw [ok.frames, hs]) hf sky fun h' f' u' => ?_
    exact hds_ok hs hf nd tk ok hh (sI := sI) ⟨J, nb, up.trans u', f', na, os, ag⟩ w
  refine wpAny_Try_except (wpAny_mono ((hb _ (X.pn ++ pins) out tk2).run [] s σ H D (I.toTry _) h) (fun fl t q => ?_) fun _ _ z => z)
  match fl, q with
  | .next, q =>
    obtain ⟨τ, G, J, q⟩ := q
    exact wpAny_execs_nil ⟨τ, G, J.ofTry ok, q⟩
  | .brk, q =>
    obtain ⟨τ, G, J, q⟩ := q
    exact ⟨τ, G, J.ofTry ok, q⟩
  | .cont, q =>
    obtain ⟨τ, G, J, q⟩ := q
    exact ⟨τ, G, J.ofTry ok, q⟩
  | .ret u, q =>
    obtain ⟨v, τ, G, J, rv, q⟩ := q
    exact ⟨v, τ, G, J.ofTry ok, rv, q⟩
end
end MP

/-! MP.Lamg: a lambda handed to a def that calls it in a try. -/
namespace MP
open PySem PySem.Spec PyProof.Rows L2

section
variable {X : Cx} {pins : List (Addr × Obj)} {σ : L2.St} {H : Hp} {s : Shared}
-- the context of the def that got the lambda: entered at s
abbrev metCx (X : Cx) (N : List Str) (x : Str) (sg : Scope) (g : Addr) (cdg : Value) (s : Shared) (H : Hp) : Cx := cxOf C8.CX0 X.prog X.w X.K X.mg X.base N x sg g cdg X.A X.stack s H C8.E0
-- a() there: a holds the lambda that was made at s
theorem pe_act {N : List Str} {x a : Str} {sg : Scope} {g f c : Addr} {cdg pm ctv : Value} {ps : Arguments} {body : Expr} {lsc : Scope} {k : Nat} {pn : List (Addr × Obj)} {xe : Value → Shared → Prop} {W : WX} {E : XK} {tb : TE} {p1 p2 : Pos}
    (I : Inv X pins σ H s) (L : LamX.LamS X.env.scope lsc) (at_ : s.heap.get? f = some (PySem.W.kla_obj "<lambda>" (X.env.qual ++ "<lambda>") ps body lsc (cloFrom X.env.cells lsc.names []) pm c ctv)) (nf : H f = none) (ns : f ∉ frs X.stack)
    (hbind : bindArgs (PySem.W.kla_fn "<lambda>" (X.env.qual ++ "<lambda>") ps body lsc (cloFrom X.env.cells lsc.names []) pm (.ref c) ctv) ⟨[], []⟩ = pure [])
    (tk : Takes ((metCx X N x sg g cdg s H).tr pn xe) W) (hW : ∀ cls d τ G, E cls d G → W cls d τ G) (hr : GRoom (k + 1) (metCx X N x sg g cdg s H).A)
    (hbody : ∀ (A : Around) (outer : List PySem.Env) (s1 : Shared) (H1 : Hp), GRoom k (A.deeper (LamX.lamEnv X lsc s1.heap.objs.size f c)) → PE (LamX.lamCx X A outer s1 H1 E lsc f c) body tb)
    (hN : N[0]? = some a) (hv : Vis sg a) (hd : (a == ("__debug__" : Str)) = false) (hcd : (a == ("__classdict__" : Str)) = false) :
    PE ((metCx X N x sg g cdg s H).tr pn xe) (.Call (.Name a p1) [] [] p2) (fun τ G Q => τ[0]? = some (some (.ref f)) ∧ G c = some (LamX.CodeO c (X.env.qual ++ "<lambda>")) ∧ tb σ G Q) := by
  refine ⟨fun pz z τ G Q J h => ?_⟩
  obtain ⟨h0, hc, ht⟩ := h
  have ld := (pe_var (X := (metCx X N x sg g cdg s H).tr pn xe) (pos := p1) (i := 0) hN hv hd hcd).run pz z τ G (fun v G1 => v = .ref f ∧ G1 = G) J ⟨.ref f, h0, rfl, rfl⟩
  refine wpAny_Call_Name_kw (thn ld fun u z1 y => ?_)
  obtain ⟨v, G1, J1, rv, rfl, rfl⟩ := y
  have rv : u = Value.ref f := rv
  subst rv
  have there : z1.heap.get? f = some (PySem.W.kla_obj "<lambda>" (X.env.qual ++ "<lambda>") ps body lsc (cloFrom X.env.cells lsc.names []) pm c ctv) := J1.base.keep f _ at_ nf ns (fun m => (nomatch m))
  have run : codeAny (model X.prog X.w) (metCx X N x sg g cdg s H).A (.call (.ref f) ⟨[], []⟩) (CR (L2.CX X.prog X.w) (metCx X N x sg g cdg s H).stack X.prog X.w G1 z1 Q E) z1 := by
    obtain ⟨⟨oc, w, t, w1, w2, w3⟩, _, _⟩ := J1.hok c _ hc
    refine PySem.W.kla_callFunE hr.depth there rfl L.co L.gen rfl ⟨c, oc, w, t, rfl, w1, w2, w3⟩ ?_
    rw [hbind]
    refine wpAny_pure (wpAny_newFunctionEnv (fun y hy => (L.own y hy).2) (fun y hy => (nomatch hy)) (fun h₁ e1 e2 => ⟨J1.nolimit.fresh _ e2, ?_⟩) L.kind)
    have keep : ∀ b o, z1.heap.get? b = some o → h₁.get? b = some o := fun b o e => e2.extBut b o (Nat.ne_of_lt (Heap.lt_size e)) (Heap.get?_push_of_some _ e)
    have un : Un (frs X.stack) [] H G1 s.heap z1.heap := J1.base
    have start := LamX.lam_start2 (A := (metCx X N x sg g cdg s H).A) (outer := (metCx X N x sg g cdg s H).stack) (E := E) (tk := z1.toks + ([] : List (Str × Value)).length) (f := f) (c' := c) I L J1.env0 hr.hd un e1 keep
    refine PySem.W.kla_codeExpr (wpAny_mono ((hbody _ _ z1 G1 (hr.deeper _)).run [] _ _ G1 Q start ht) (fun u z2 y => ?_) fun _ _ y => y)
    obtain ⟨v, G2, J2, rv, q⟩ := y
    exact ⟨v, G2, J2.os, J2.bare, J2.base, J2.hok, rv, q⟩
  refine PySem.W.callWith_F0 ⟨_, _, _, _, there⟩ (wpAny_call (codeAny_mono run fun r z2 y => ?_))
  match r, y with
  | .error e, y => exact tk _ _ (XE.of_call J1 (fun cls d G' h => hW cls d _ G' h) y)
  | .ok (.ret u), y => exact J1.after y
  | .ok .next, y => exact (show False from y).elim
  | .ok .brk, y => exact (show False from y).elim
  | .ok .cont, y => exact (show False from y).elim
end

/-! ### except clauses that tell a constant, or a text and the repr of a field -/
def cstV : Cst → V
  | .non => .non
  | .bl b => .bl b
  | .str x => .str x
def cstB : Cst → Const → Bool
  | .non, .none => true
  | .bl b, .bool c => b == c
  | .str x, .str y => decide (x = y)
  | _, _ => false
theorem pe_cst {X : Cx} {c : Cst} {k : Const} {j : Nat} {pos : Pos} (h : cstB c k = true) : PE X (.Constant k j pos) (fun _ H Q => Q (cstV c) H) := by
  cases c <;> cases k <;> first
    | (cases h; done)
    | exact pe_non
    | (simp only [cstB, beq_iff_eq] at h; subst h; exact pe_bl)
    | (simp only [cstB, decide_eq_true_eq] at h; subst h; exact pe_str)
-- what a clause asks and gives
def hPost (K : PySem.W.Frag) (r : Hr) (Q : VK) : XK := fun cls d H => match r with
  | .c w => Q (cstV w) H
  | .rp t f => ∃ (C dd : Addr) (fs : List (Str × V)) (v : V) (p : PyData), cls = .ref C ∧ XfC K C ∧ PySem.W.findIn K (.ref C) f = some none ∧ d = some dd ∧ H dd = some (.xd fs) ∧ fs.lookup f = some v ∧ RepP K H p v ∧ p.showable = true ∧ p.depth ≤ 20 ∧
      t.length + p.shown.length ≤ sizeLine ∧ Q (.str (t ++ p.shown)) H
def hWish (K : PySem.W.Frag) (Q : VK) : List (Addr × Hr) → XK
  | [] => fun _ _ _ => False
  | q :: l => fun cls d H => ∃ b, PySem.W.exmOne K cls (.ref q.1) = some b ∧ (b = true → hPost K q.2 Q cls d H) ∧ (b = false → hWish K Q l cls d H)
-- the reading of a clause's suite
def hTs (K : PySem.W.Frag) (r : Hr) : TSx := fun a cls d D σ H => match r with
  | .c w => D.rt (cstV w) H
  | .rp _ _ => (1 < σ.length → σ[1]? = some (some (.ref a))) ∧ hPost K r D.rt cls d H
def hSlot : Hr → Option Nat
  | .c _ => none
  | .rp _ _ => some 1
def hCla (K : PySem.W.Frag) (q : Addr × Hr) : Cla := (.ref q.1, hSlot q.2, hTs K q.2)
theorem wish_ok {K : PySem.W.Frag} {D : Ends} : ∀ (l : List (Addr × Hr)) {cls : Value} {d : Option Addr} {σ : L2.St} {H : Hp}, hWish K D.rt l cls d H → wX K (fun _ _ _ _ => False) D (l.map (hCla K)) cls d σ H
  | [], _, _, _, _, h => h
  | (C, r) :: l, cls, d, σ, H, h => by
    obtain ⟨b, e, yes, no⟩ := h
    refine ⟨b, e, fun hb a na => ?_, fun hb => wish_ok l (no hb)⟩
    have y := yes hb
    cases r with
    | c w => exact y
    | rp t f => exact ⟨fun hl => by simp [List.getElem?_set] at hl ⊢; exact hl, y⟩
-- a clause of a def's text: N the def's names, sg its scope
def hdC (sg : Scope) (y0 : Str) (w : Cst) (h : ExceptHandler) : Bool := match h with
  | .ExceptHandler (some (.Name y _)) none [.Return (some (.Constant k _ _)) _] _ => (decide (y = y0) && !(y == ("__debug__" : Str))) && (decide (sg.names.lookup y = some .globalImplicit) && cstB w k)
  | _ => false
def hdR (N : List Str) (sg : Scope) (y0 t f : Str) (h : ExceptHandler) : Bool := match h with
  | .ExceptHandler (some (.Name y _)) (some n) [.Return (some (.BinOp (.Constant (.str t') _ _) .Add (.Call (.Name rn _) [.Attribute (.Name n' _) f' _] [] _) _)) _] _ =>
    ((decide (y = y0) && !(y == ("__debug__" : Str))) && (decide (sg.names.lookup y = some .globalImplicit) && (decide (t' = t) && decide (f' = f)))) &&
      (((decide (rn = ("repr" : Str)) && decide (sg.names.lookup rn = some .globalImplicit)) && (decide (n' = n) && decide (N[1]? = some n))) && (decide (sg.names.lookup n = some .local) && (!(n == ("__debug__" : Str)) && !(n == ("__classdict__" : Str)))))
  | _ => false
def hdB (N : List Str) (sg : Scope) (q : Str × Hr) (h : ExceptHandler) : Bool := match q.2 with
  | .c w => hdC sg q.1 w h
  | .rp t f => hdR N sg q.1 t f h
def hdsB (N : List Str) (sg : Scope) : List (Str × Hr) → List ExceptHandler → Bool
  | [], hs => hs.isEmpty
  | q :: l, hs => match hs with
    | [] => false
    | h :: hs => hdB N sg q h && hdsB N sg l hs
theorem boot_repr : bootBuiltins ("repr" : Str) = some (.builtin "repr") := by decide +kernel
section
variable {Z : Cx}
theorem su_c {w : Cst} {k : Const} {j : Nat} {p1 p2 : Pos} (h : cstB w k = true) : SuOk Z [.Return (some (.Constant k j p1)) p2] (hTs Z.K (.c w)) := fun a oe cls d pn _ _ =>
  pss_one (PS_of (ps_ret (X := Z.suite a ((a, oe) :: pn)) (pos := p2) (pe_cst (j := j) (pos := p1) h)))
where PS_of {X : Cx} {e : Stmt} {t : TS} (p : PS X e t) : PS X e t := p
theorem su_rp {t f n : Str} {j : Nat} {p1 p2 p3 p4 p5 p6 p7 : Pos} (hg : Z.A.guards = some []) (hu : Z.A.units + 64 < cLine) (hn : Z.N[1]? = some n) (hl : Z.env.scope.names.lookup n = some .local) (hr : Z.env.scope.names.lookup ("repr" : Str) = some .globalImplicit)
    (hd : (n == ("__debug__" : Str)) = false) (hcd : (n == ("__classdict__" : Str)) = false) (mr : Z.mg "repr" = none) :
    SuOk Z [.Return (some (.BinOp (.Constant (.str t) j p1) .Add (.Call (.Name "repr" p2) [.Attribute (.Name n p3) f p4] [] p5) p6)) p7] (hTs Z.K (.rp t f)) := fun a oe cls d pn hz hf => by
  refine pss_one ⟨fun pins s σ H D I h => ?_⟩
  obtain ⟨h0, C, dd, fs, v, p, rfl, x1, x2, rfl, e1, e2, rep, y1, y2, y3, q⟩ := h
  have len : 1 < σ.length := by
    rw [I.len]
    have : (Z.suite a ((a, oe) :: pn)).N[1]? = some n := hn
    rcases Nat.lt_or_ge 1 (Z.suite a ((a, oe) :: pn)).N.length with z | z
    · exact z
    · rw [List.getElem?_eq_none z] at this
      cases this
  have at_ : PE (Z.suite a ((a, oe) :: pn)) (.Attribute (.Name n p3) f p4) (tXf a (.ref C) (some dd) C f (tVar 1)) := pe_xf (pos := p4) x1 x2 hz hf (pe_var (X := Z.suite a ((a, oe) :: pn)) (pos := p3) hn (.inl hl) hd hcd)
  have rp : PE (Z.suite a ((a, oe) :: pn)) (.Call (.Name "repr" p2) [.Attribute (.Name n p3) f p4] [] p5) (tCB (rRep Z.K) (tCons (tXf a (.ref C) (some dd) C f (tVar 1)) tNil)) :=
    pe_callB (X := Z.suite a ((a, oe) :: pn)) (p := p2) (pos := p5) (call_repr (X := Z.suite a ((a, oe) :: pn)) hg hu) hr mr boot_repr (pa_cons at_ pa_nil)
  have whole := ps_ret (pos := p7) (pe_op (pos := p6) (op_add_str (X := Z.suite a ((a, oe) :: pn))) (pe_str (x := t) (j := j) (pos := p1)) rp)
  refine whole.run pins s σ H D I ?_
  exact ⟨.ref a, h0 len, rfl, rfl, dd, fs, v, rfl, e1, e2, v, p, rfl, rep, y1, y2, by omega, t, p.shown, rfl, rfl, y3, q⟩
theorem hds_of {N : List Str} {sg : Scope} (hg : Z.A.guards = some []) (hu : Z.A.units + 64 < cLine) (eN : Z.N = N) (es : Z.env.scope = sg) (mr : Z.mg "repr" = none) : ∀ (l : List (Str × Hr)) (hs : List ExceptHandler) (ga : Str → Addr), (∀ q ∈ l, Z.mg q.1 = some (.ref (ga q.1))) →
    hdsB N sg l hs = true → HdX Z hs ((l.map fun q => (ga q.1, q.2)).map (hCla Z.K))
  | [], [], _, _, _ => .nil
  | [], _ :: _, _, _, h => by cases h
  | _ :: _, [], _, _, h => by cases h
  | (c, r) :: l, h1 :: hs, ga, hm, h => by
    simp only [hdsB, Bool.and_eq_true] at h
    obtain ⟨h2, h3⟩ := h
    have ih := hds_of hg hu eN es mr l hs ga (fun q hq => hm q (List.mem_cons_of_mem _ hq)) h3
    have m := hm (c, r) List.mem_cons_self
    subst es eN
    cases r with
    | c w =>
      have h2 : hdC _ c w h1 = true := h2
      unfold hdC at h2
      split at h2
      · simp only [Bool.and_eq_true, decide_eq_true_eq, Bool.not_eq_true'] at h2
        obtain ⟨⟨rfl, d1⟩, d2, d3⟩ := h2
        exact .pl ⟨d2, d1, .inl m⟩ (su_c d3) ih
      · cases h2
    | rp t f =>
      have h2 : hdR _ _ c t f h1 = true := h2
      unfold hdR at h2
      split at h2
      · simp only [Bool.and_eq_true, decide_eq_true_eq, Bool.not_eq_true'] at h2
        obtain ⟨⟨⟨rfl, d1⟩, d2, rfl, rfl⟩, ⟨⟨rfl, d3⟩, rfl, d4⟩, d5, d6, d7⟩ := h2
        exact .nm ⟨d2, d1, .inl m⟩ d4 d5 (su_rp hg hu d4 d5 d3 d6 d7 mr) ih
      · cases h2
end

/-! ### a lambda is made: only its maker's table changes -/
section
variable {X : Cx} {pins : List (Addr × Obj)} {σ : L2.St} {H : Hp} {s : Shared}
theorem lam_new {T : List (Addr × Str)} {c Pt : Addr} {ps : Arguments} {body : Expr} {lsc : Scope} {pos : Pos} {E Q : Value → Shared → Prop} (I : Inv X pins σ H s) (TB : LamX.TabB X.base X.mg c Pt) (hcode : X.env.code = .ref c)
    (mem : (Pt, X.env.qual ++ "<lambda>") ∈ T) (uniq : ∀ q ∈ T, q.1 = Pt → q.2 = X.env.qual ++ "<lambda>") (tabs : LamX.Tabs T H) (hdef : defaultsOf ps X.env = ([], [])) (free : ∀ y ∈ lsc.names, y.2 = .free → ∃ c, X.env.cells.lookup y.1 = some c)
    (go : ∀ (f cl : Addr) (pm ctv : Value) (H1 : Hp) (z : Shared), Inv X pins σ H1 z → (∀ b o, H b = some o → b ≠ Pt → H1 b = some o) → LamX.Tabs T H1 →
      z.heap.get? f = some (PySem.W.kla_obj "<lambda>" (X.env.qual ++ "<lambda>") ps body lsc (cloFrom X.env.cells lsc.names []) pm cl ctv) → H1 f = none → f ∉ frs X.stack → H1 cl = some (LamX.CodeO cl (X.env.qual ++ "<lambda>")) → Q (.ref f) z) :
    wpAny (model X.prog X.w) X.A (PySem.eval (.Lambda ps body lsc pos) X.env) Q E s := by
  obtain ⟨old, e1, e2, e3⟩ := tabs _ mem
  have e1 : H Pt = some (.tbl old) := e1
  have g1 : s.heap.get? Pt = some { cls := .none, data := .fields old } := I.hok Pt _ e1
  have outF : ∀ b, s.heap.objs.size ≤ b → b ∉ frs X.stack := fun b hb m => by
    rcases List.mem_cons.mp (I.stkSub _ m) with w | w
    · exact absurd I.lt (by rw [← w]; exact Nat.not_lt_of_le hb)
    · exact I.nofs hb w
  refine PySem.W.kla_eval hdef ?_
  cases found : codeAmong pos old.toList with
  | some w =>
    obtain ⟨cl, rfl, w2⟩ := e3 pos w found
    refine PySem.W.kla_makeFunctionHit (mg := X.mg) (c := c) (P := Pt) (ps := old) (closure_ok free) I.ok.glob (I.mod.glob.keeps I.bk) hcode (TB.code.keeps I.bk) g1 e2 found (TB.bm.keeps I.bk) fun ctv h' tk ext sz => ?_
    refine go h'.objs.size cl ((X.mg "__name__").getD .none) ctv H _ (I.kept (t' := tk) fun b o e => Heap.get?_push_of_some _ (ext b o e)) (fun b o e _ => e) tabs (Heap.get?_push_size _ rfl) (I.hok.fresh sz) (outF _ sz) w2
  | none =>
    refine PySem.W.kla_makeFunction (mg := X.mg) (c := c) (P := Pt) (ps := old) (closure_ok free) I.ok.glob (I.mod.glob.keeps I.bk) hcode (TB.code.keeps I.bk) g1 e2 found TB.gP (TB.bm.keeps I.bk) fun cl ctv h' tk ext ge lt rec tab => ?_
    obtain ⟨cl2, oc, w, tw, rfl', r1, r2, r3⟩ := rec
    cases rfl'
    have nC : H cl = none := I.hok.fresh ge
    have pc : Pt ≠ cl := fun w => by rw [w, nC] at e1; cases e1
    have J := LamX.inv_table (t' := tk) (more := #[rawInt pos.line, rawInt pos.col, .ref cl]) (h' := h'.push (PySem.W.kla_obj "<lambda>" (X.env.qual ++ "<lambda>") ps body lsc (cloFrom X.env.cells lsc.names []) ((X.mg "__name__").getD .none) cl ctv)) I e1
      (fun b o hb e => Heap.get?_push_of_some _ (ext b o hb e)) (Heap.get?_push_of_some _ tab) ge ⟨oc, w, tw, Heap.get?_push_of_some _ r1, r2, r3⟩
    have stay : ∀ b o, H b = some o → b ≠ Pt → upd (upd H Pt (.tbl (old ++ #[rawInt pos.line, rawInt pos.col, .ref cl]))) cl (LamX.CodeO cl (X.env.qual ++ "<lambda>")) b = some o := fun b o e ne => by
      rw [upd_ne (fun w => by rw [w, nC] at e; cases e), upd_ne ne]
      exact e
    have lay : (old ++ #[rawInt pos.line, rawInt pos.col, .ref cl]).toList = old.toList ++ [rawInt pos.line, rawInt pos.col, .ref cl] := by simp
    have sz : s.heap.objs.size ≤ h'.objs.size := Nat.le_trans ge (Nat.le_of_lt lt)
    have nF : h'.objs.size ≠ Pt := Nat.ne_of_gt (Nat.lt_of_lt_of_le (Heap.lt_size g1) sz)
    have codes : ∀ {b : Addr} {q : Str} {x : Addr}, H b = some (LamX.CodeO x q) → b ≠ Pt := fun {b q x} e w => by
      rw [w, e1] at e
      exact LamX.codeO_ne _ (Option.some.inj e).symm
    refine go h'.objs.size cl ((X.mg "__name__").getD .none) ctv _ _ J stay (fun q hq => ?_) (Heap.get?_push_size _ rfl) ?_ (outF _ sz) upd_same
    · by_cases eq : q.1 = Pt
      · rw [uniq q hq eq, eq]
        refine ⟨_, by rw [upd_ne pc, upd_same], by rw [lay]; exact PySem.TriplesOk_snoc _ _ _ _ e2, fun p2 v hv => ?_⟩
        rw [lay] at hv
        rcases LamX.among_app _ e2 hv with y | y
        · obtain ⟨x, y1, y2⟩ := e3 p2 v y
          exact ⟨x, y1, stay _ _ y2 (codes y2)⟩
        · exact ⟨cl, y, upd_same⟩
      · obtain ⟨l, y1, y2, y3⟩ := tabs q hq
        refine ⟨l, stay _ _ y1 eq, y2, fun p2 v hv => ?_⟩
        obtain ⟨x, x1, x2⟩ := y3 p2 v hv
        exact ⟨x, x1, stay _ _ x2 (codes x2)⟩
    · rw [upd_ne (Nat.ne_of_gt lt), upd_ne nF]
      exact I.hok.fresh sz
end
/-! ### such a def, called with a lambda -/
def metB (m : Met) (N : List Str) (a : Str) (sg : Scope) (bg : List Stmt) : Bool := match bg with
  | .Try [st] (h :: hs) [] [] _ :: r => hdsB N sg m.hs (h :: hs) && (match m.ret with
    | some w => (match st, r with
      | .Expr (.Call (.Name y _) [] [] _) _, [.Return (some (.Constant k _ _)) _] => decide (y = a) && cstB w k
      | _, _ => false)
    | none => (match st, r with
      | .Return (some (.Call (.Name y _) [] [] _)) _, [] => decide (y = a)
      | _, _ => false))
  | _ => false
def metQ (m : Met) (Q : VK) : VK := match m.ret with
  | some w => fun _ H => Q (cstV w) H
  | none => Q
section
variable {X : Cx}
theorem pe_met {T : List (Addr × Str)} {m : Met} {x a : Str} {g c Pt : Addr} {k : Nat} {pg : Arguments} {bg : List Stmt} {sg : Scope} {dV kV doc pm cdv ct oc : Value} {an od : Option Addr} {osl : Array (Option Value)} {N : List Str}
    {ps : Arguments} {body : Expr} {lsc : Scope} {t : XK → TE} {p lpos pos : Pos} {ga : Str → Addr} (hg : Gl X x) (hm : X.mg x = some (.ref g)) (hk : PySem.W.keepIn X.K (.ref g) = true)
    (lk : X.K.lookup g = some ⟨oc, od, .func (PySem.W.fnOf x x pg bg sg dV kV doc pm an cdv ct), osl⟩) (hcg : PySem.W.codeIn X.K cdv x = true) (hb : L2.Binds X.K (PySem.W.fnOf x x pg bg sg dV kV doc pm an cdv ct) [a] []) (Sg : FnScope N [a] sg)
    (hN : N[0]? = some a) (hva : Vis sg a) (hmt : metB m N a sg bg = true) (hga : ∀ q ∈ m.hs, X.mg q.1 = some (.ref (ga q.1))) (mr : X.mg "repr" = none)
    (TB : LamX.TabB X.base X.mg c Pt) (hcode : X.env.code = .ref c) (hmT : (Pt, X.env.qual ++ "<lambda>") ∈ T) (hu : ∀ q ∈ T, q.1 = Pt → q.2 = X.env.qual ++ "<lambda>") (hr : GRoom (k + 2) X.A) (L : LamX.LamS X.env.scope lsc) (hdef : defaultsOf ps X.env = ([], []))
    (hbind : ∀ (q : Str) (cl : List (Str × Addr)) (pm cv ctv : Value), bindArgs (PySem.W.kla_fn "<lambda>" q ps body lsc cl pm cv ctv) ⟨[], []⟩ = pure [])
    (hbody : ∀ (A : Around) (outer : List PySem.Env) (s : Shared) (H : Hp) (E : XK) (f c' : Addr), GRoom k (A.deeper (LamX.lamEnv X lsc s.heap.objs.size f c')) → PE (LamX.lamCx X A outer s H E lsc f c') body (t E))
    (hdb : (x == ("__debug__" : Str)) = false) (hd : (a == ("__debug__" : Str)) = false) (hcd : (a == ("__classdict__" : Str)) = false) :
    PE X (.Call (.Name x p) [.Lambda ps body lsc lpos] [] pos) (fun σ H Q => LamX.Tabs T H ∧ ∀ H1, (∀ b o, H b = some o → b ≠ Pt → H1 b = some o) → LamX.Tabs T H1 → t (hWish X.K Q (m.hs.map fun q : Str × Hr => (ga q.1, q.2))) σ H1 (metQ m Q)) := by
  refine ⟨fun pins s σ H Q I h => ?_⟩
  obtain ⟨hT, h⟩ := h
  refine wpAny_Call_Name_kw (ld_glob I hg hm ?_ hdb)
  refine PySem.W.callWith_K (h₀ := X.base) I.ok.mod.kin hk ?_ (by rfl) (by rfl)
  show wpAny _ _ (spliced ((false, PySem.eval (.Lambda ps body lsc lpos) X.env) :: backTo pos (starEach [] X.env))) _ _ s
  refine Calls.spliced_cons (lam_new I TB hcode hmT hu hT hdef (L.has I.ok) fun f c' pm' ctv H1 s' I1 eN T1 hf hfn hfr hco => ?_)
  refine Calls.spliced_nil ⟨I1.kIn, ?_⟩
  have ht := h H1 eN T1
  have run : codeAny (model X.prog X.w) X.A (.call (.ref g) ⟨[.ref f], []⟩) (CR C8.CX0 X.stack X.prog X.w H1 s' Q C8.E0) s' := by
    refine LamX.run_ofS (N := N) (ps := [a]) (us := [.ref f]) (vs := [.ref f]) lk hcg Sg hr.rm I1.env0 (hb s' [.ref f] I1.kIn rfl) (.cons rfl .nil) rfl fun _ => ?_
    let Z := metCx X N x sg g cdv s' H1
    have rZ : GRoom (k + 1) Z.A := hr.deeper _
    have gd : Z.nox.A.guards = some [] := rZ.gd
    have un : Z.nox.A.units + 64 < cLine := rZ.units
    have st0 : (L2.start N [V.ref f])[0]? = some (some (V.ref f)) := rfl
    have act : ∀ (W : WX) (pn : List (Addr × Obj)) (xe : Value → Shared → Prop) (E : XK) (p1 p2 : Pos), Takes (Z.nox.tr pn xe) W → (∀ cls d τ G, E cls d G → W cls d τ G) →
        PE (Z.nox.tr pn xe) (.Call (.Name a p1) [] [] p2) (fun τ G Q => τ[0]? = some (some (.ref f)) ∧ G c' = some (LamX.CodeO c' (X.env.qual ++ "<lambda>")) ∧ t E σ G Q) := fun W pn xe E p1 p2 tk hW =>
      MP.pe_act (pn := pn) (xe := xe) (c := c') I1 L hf hfn hfr (hbind _ _ _ _ _) tk hW rZ (fun A o s2 H2 r2 => hbody A o s2 H2 E f c' r2) hN hva hd hcd
    unfold metB at hmt
    split at hmt
    · rename_i st hd1 hds tp r
      obtain ⟨h1, h2⟩ := Bool.and_eq_true_iff.mp hmt
      have HX : HdX Z.nox (hd1 :: hds) ((m.hs.map fun q : Str × Hr => (ga q.1, q.2)).map (hCla Z.nox.K)) := hds_of (Z := Z.nox) gd un rfl rfl mr m.hs (hd1 :: hds) ga hga h1
      unfold metQ at ht
      cases em : m.ret with
      | some w =>
        rw [em] at h2 ht
        dsimp only at h2 ht
        split at h2
        · rename_i y p1 p2 p3 kk j p4 p5
          simp only [Bool.and_eq_true, decide_eq_true_eq] at h2
          obtain ⟨rfl, hc⟩ := h2
          have body_ : ∀ (W : WX) (pn : List (Addr × Obj)) (xe : Value → Shared → Prop), Takes (Z.nox.tr pn xe) W → PSs (Z.nox.tr pn xe) [.Expr (.Call (.Name y p1) [] [] p2) p3] (fun D τ G => ∃ E : XK, (∀ cls d τ G, E cls d G → W cls d τ G) ∧ τ[0]? = some (some (.ref f)) ∧ G c' = some (LamX.CodeO c' (X.env.qual ++ "<lambda>")) ∧ t E σ G (fun _ G1 => D.nx τ G1)) := fun W pn xe tk => by
            refine ⟨fun pz z τ G D J q => ?_⟩
            obtain ⟨E, hW, q⟩ := q
            exact (pss_one (ps_expr (pos := p3) (act W pn xe E p1 p2 tk hW))).run pz z τ G D J q
          refine ⟨_, (pss_cons (ps_try_mix rfl rfl Sg.nd LamX.takes0 body_ HX) (pss_one (ps_ret (pos := p5) (pe_cst (j := j) (pos := p4) hc)))).nox, hWish X.K Q (m.hs.map fun q : Str × Hr => (ga q.1, q.2)), fun cls d τ G y => wish_ok _ y, st0, hco, ?_⟩
          exact ht
        · cases h2
      | none =>
        rw [em] at h2 ht
        dsimp only at h2 ht
        split at h2
        · rename_i y p1 p2 p3
          simp only [decide_eq_true_eq] at h2
          subst h2
          have body_ : ∀ (W : WX) (pn : List (Addr × Obj)) (xe : Value → Shared → Prop), Takes (Z.nox.tr pn xe) W → PSs (Z.nox.tr pn xe) [.Return (some (.Call (.Name y p1) [] [] p2)) p3] (fun D τ G => ∃ E : XK, (∀ cls d τ G, E cls d G → W cls d τ G) ∧ τ[0]? = some (some (.ref f)) ∧ G c' = some (LamX.CodeO c' (X.env.qual ++ "<lambda>")) ∧ t E σ G D.rt) := fun W pn xe tk => by
            refine ⟨fun pz z τ G D J q => ?_⟩
            obtain ⟨E, hW, q⟩ := q
            exact (pss_one (ps_ret (pos := p3) (act W pn xe E p1 p2 tk hW))).run pz z τ G D J q
          refine ⟨_, (pss_one (ps_try_mix rfl rfl Sg.nd LamX.takes0 body_ HX)).nox, hWish X.K Q (m.hs.map fun q : Str × Hr => (ga q.1, q.2)), fun cls d τ G y => wish_ok _ y, st0, hco, ?_⟩
          exact ht
        · cases h2
    · cases hmt
  refine wpAny_call (codeAny_mono run fun r s2 y => ?_)
  match r, y with
  | .error e, y => exact (show False from y).elim
  | .ok (.ret u), y => exact I1.after y
  | .ok .next, y => exact (show False from y).elim
  | .ok .brk, y => exact (show False from y).elim
  | .ok .cont, y => exact (show False from y).elim
end
end MP

/-! MP.EndG: the law's call: tables of code objects empty, nothing guarded under way. -/
namespace MP
open PySem PySem.Spec PyProof.Rows L2

abbrev scrO (vs : List Value) : Obj := { cls := .type "list", data := .seq vs.toArray }
-- what is tracked at the law's call: empty tables T, the script at a (unless the written part has it)
def hp0 (T : List Addr) (a : Addr) (fz : Bool) (vs : List Value) (ns : List Int) : Hp := fun b =>
  if b ∈ T then some (.tbl #[]) else if b = a ∧ fz = true then some (.frz (scrO vs) (.lst (ns.map V.int))) else none
section
variable {T : List Addr} {a b : Addr} {fz : Bool} {vs : List Value} {ns : List Int}
theorem hp0_tab (m : b ∈ T) : hp0 T a fz vs ns b = some (.tbl #[]) := if_pos m
theorem hp0_some {u : HO} (e : hp0 T a fz vs ns b = some u) : (b ∈ T ∧ u = .tbl #[]) ∨ (b ∉ T ∧ b = a ∧ fz = true ∧ u = .frz (scrO vs) (.lst (ns.map V.int))) := by
  unfold hp0 at e
  split at e
  · rename_i m
    exact .inl ⟨m, (Option.some.inj e).symm⟩
  · rename_i m
    split at e
    · rename_i z
      exact .inr ⟨m, z.1, z.2, (Option.some.inj e).symm⟩
    · cases e
end
-- the heap at the law's call
structure AtLaw (K : PySem.W.Frag) (mg mb : Str → Option Value) (cs : List (Addr × Addr)) (a : Addr) (vs : List Value) (ns : List Int) (s : Shared) : Prop where
  kin : K.In s.heap
  glo : s.heap.Ns mainGlobals mg
  blt : s.heap.Ns builtinsNs mb
  boot : ∀ y : Str, y ≠ "__name__" → mb y = bootBuiltins y
  noLim : s.heap.NoLimit
  tab : ∀ q ∈ cs, s.heap.get? q.2 = some (PySem.W.tabObj #[])
  out : ∀ q ∈ cs, K.lookup q.2 = none
  code : ∀ q ∈ cs, PySem.W.CodeHd s.heap q.1 q.2
  bmod : ∃ (m : Addr) (o : Obj), mg "__builtins__" = some (.ref m) ∧ m ≠ builtinsNs ∧ s.heap.get? m = some o ∧ o.cls = .type "module" ∧ o.dict = some builtinsNs ∧ o.data = .plain
  scr : s.heap.get? a = some (scrO vs)
  iAre : IntsAre vs ns
  len : ns.length ≤ sizeLine
section
variable {K : PySem.W.Frag} {mg mb : Str → Option Value} {cs : List (Addr × Addr)} {a : Addr} {vs : List Value} {ns : List Int} {s : Shared} {P : Program} {w : PySem.World}
abbrev AtLaw.hp (_ : AtLaw K mg mb cs a vs ns s) : Hp := hp0 (cs.map (·.2)) a (K.lookup a).isNone vs ns
theorem AtLaw.tabAt (L : AtLaw K mg mb cs a vs ns s) {b : Addr} (m : b ∈ cs.map (·.2)) : s.heap.get? b = some (PySem.W.tabObj #[]) := by
  obtain ⟨q, hq, rfl⟩ := List.mem_map.mp m
  exact L.tab q hq
theorem AtLaw.ne (L : AtLaw K mg mb cs a vs ns s) : a ∉ cs.map (·.2) := fun m => by
  have e := L.tabAt m
  rw [L.scr] at e
  exact absurd (congrArg Obj.cls (Option.some.inj e)) (by simp)
theorem AtLaw.hok (L : AtLaw K mg mb cs a vs ns s) : HOk P w L.hp s.heap := fun b u e => by
  rcases hp0_some e with ⟨m, rfl⟩ | ⟨_, rfl, _, rfl⟩
  · exact L.tabAt m
  · exact ⟨L.scr, by rw [List.length_map]; exact L.len, vs, _, vals_ints L.iAre, L.scr⟩
theorem AtLaw.sql (L : AtLaw K mg mb cs a vs ns s) : SqL K L.hp a (ns.map V.int) := by
  cases q : K.lookup a with
  | none => exact .inl (.inr ⟨scrO vs, by unfold AtLaw.hp hp0; rw [if_neg L.ne, if_pos ⟨rfl, by rw [q]; rfl⟩]⟩)
  | some o =>
    have e := L.kin a o q
    rw [L.scr] at e
    cases e
    exact .inr ⟨_, vs.toArray, _, q, rfl, rfl, rfl, by rw [List.size_toArray, L.iAre.length]; exact L.len, by simpa using vals_ints L.iAre⟩
-- all but tables and the script is untracked
theorem AtLaw.free (L : AtLaw K mg mb cs a vs ns s) {b : Addr} {o : Obj} (e : s.heap.get? b = some o) (h1 : ∀ z n, o.data ≠ .seq z n) (h2 : o.data ≠ .fields #[]) : L.hp b = none := by
  cases q : L.hp b with
  | none => rfl
  | some u =>
    exfalso
    rcases hp0_some q with ⟨m, _⟩ | ⟨_, rfl, _⟩
    · rw [L.tabAt m] at e
      exact h2 (congrArg Obj.data (Option.some.inj e)).symm
    · rw [L.scr] at e
      exact h1 _ _ (congrArg Obj.data (Option.some.inj e)).symm
abbrev AtLaw.base (L : AtLaw K mg mb cs a vs ns s) : PySem.Heap := hidT s.heap L.hp
theorem AtLaw.get (L : AtLaw K mg mb cs a vs ns s) {b : Addr} {o : Obj} (e : s.heap.get? b = some o) (h1 : ∀ z n, o.data ≠ .seq z n) (h2 : o.data ≠ .fields #[]) : L.base.get? b = some o := hidT_get e (L.free e h1 h2)
theorem AtLaw.nsB (L : AtLaw K mg mb cs a vs ns s) {b : Addr} {m : Str → Option Value} (q : s.heap.Ns b m) : L.base.Ns b m := by
  obtain ⟨o, es, ep, e, d, r⟩ := q
  exact ⟨o, es, ep, L.get e (fun z n y => by rw [d] at y; cases y) (fun y => by rw [d] at y; cases y), d, r⟩
theorem AtLaw.kinB (L : AtLaw K mg mb cs a vs ns s) : K.In L.base := fun b o e => by
  refine hidT_get (L.kin b o e) ?_
  cases q : L.hp b with
  | none => rfl
  | some u =>
    exfalso
    rcases hp0_some q with ⟨m, _⟩ | ⟨_, rfl, z, _⟩
    · obtain ⟨y, hy, rfl⟩ := List.mem_map.mp m
      rw [L.out y hy] at e
      cases e
    · rw [e] at z
      cases z
theorem AtLaw.mod (L : AtLaw K mg mb cs a vs ns s) : L2.Mod K mg L.base := by
  obtain ⟨mc, l1, l2⟩ := L.noLim
  exact ⟨L.kinB, L.nsB L.glo, ⟨mb, L.nsB L.blt, L.boot⟩, ⟨mc, L.nsB l1, l2⟩⟩
theorem ns_ne {h : PySem.Heap} {b P : Addr} {m : Str → Option Value} {o : Obj} (q : h.Ns b m) (e : h.get? P = some o) (d : ∀ es n, o.data ≠ .dict es n) : b ≠ P := fun z => by
  obtain ⟨o', es, ep, e', d', _⟩ := q
  rw [z, e] at e'
  cases e'
  exact d _ _ d'
theorem AtLaw.tabB (L : AtLaw K mg mb cs a vs ns s) : ∀ q ∈ cs, LamX.TabB L.base mg q.1 q.2 := fun q hq => by
  obtain ⟨m, o, g1, g2, g3, g4, g5, g6⟩ := L.bmod
  refine ⟨?_, ⟨m, o, g1, g2, (ns_ne L.glo g3 fun es n z => by rw [g6] at z; cases z).symm, fun z => ?_, L.get g3 (fun z n y => by rw [g6] at y; cases y) (fun y => by rw [g6] at y; cases y), g4, g5, g6⟩, ns_ne L.glo (L.tab q hq) fun es n z => by cases z⟩
  · obtain ⟨o, us, fi, tf, fl, tg, inF, tx, tt, c1, c2, c3, c4, r⟩ := L.code q hq
    refine ⟨o, us, fi, tf, fl, tg, inF, tx, tt, L.get c1 (fun z n y => by rw [c3] at y; cases y) (fun y => ?_), c2, c3, c4, r⟩
    rw [c3] at y
    cases y
    simp at c4
  · rw [z, L.tab q hq] at g3
    cases g3
    cases g6
theorem AtLaw.env (L : AtLaw K mg mb cs a vs ns s) (hg : s.gens = #[]) : Env0 P w K mg L.base callerA [] s L.hp :=
  ⟨rfl, L.mod, fun b o e => of_hidT e, Nat.le_of_eq (hidT_size _ _), trivial, fun b m => (nomatch m), L.hok, .of_eq hg⟩
-- behind the call all is as it was, but tables that grew
theorem AtLaw.old (L : AtLaw K mg mb cs a vs ns s) {H' : Hp} {h' : PySem.Heap} (u : Un (frs []) [] L.hp H' s.heap h') (ok : HOk P w H' h') : OldK s.heap h' := by
  have kept : ∀ b o, s.heap.get? b = some o → b ∉ cs.map (·.2) → h'.get? b = some o := fun b o e nb => by
    cases q : L.hp b with
    | none => exact u.keep b o e q (fun z => nomatch z) (fun z => nomatch z)
    | some v =>
      rcases hp0_some q with ⟨m, _⟩ | ⟨_, rfl, _, rfl⟩
      · exact absurd m nb
      · have y := (ok b _ (u.frzs b _ _ q)).1
        rw [L.scr] at e
        cases e
        exact y
  have grew : ∀ q ∈ cs, ∃ m : Array Value, h'.get? q.2 = some (PySem.W.tabObj m) := fun q hq => by
    obtain ⟨m, e⟩ := u.tbls q.2 #[] (hp0_tab (List.mem_map.mpr ⟨q, hq, rfl⟩))
    exact ⟨_, ok q.2 _ e⟩
  refine ⟨fun b o e => ?_, fun b o e => ?_⟩
  · by_cases m : b ∈ cs.map (·.2)
    · obtain ⟨q, hq, rfl⟩ := List.mem_map.mp m
      obtain ⟨z, e2⟩ := grew q hq
      have e3 := L.tab q hq
      rw [e3] at e
      cases e
      exact .inr (.inl ⟨((L.code q hq).tab e3).isCodeTable, rfl, #[], z, rfl, by rw [Array.empty_append]; exact e2⟩)
    · exact .inl (kept b o e m)
  · by_cases m : b ∈ cs.map (·.2)
    · obtain ⟨q, hq, rfl⟩ := List.mem_map.mp m
      obtain ⟨z, e2⟩ := grew q hq
      exact ⟨_, e2⟩
    · exact ⟨o, kept b o e m⟩
theorem law_callG {fa : Addr} {sp : Sp} {k : Nat} (L : AtLaw K mg mb cs a vs ns s) (hg : s.gens = #[]) (hr : L2.Room k callerA)
    (F : ∀ base : PySem.Heap, K.In base → base.Ns mainGlobals mg → (∀ q ∈ cs, LamX.TabB base mg q.1 q.2) → FnG P w K mg base (L2.CX P w) k fa sp)
    (go : ∀ H : Hp, (∀ q ∈ cs, H q.2 = some (.tbl #[])) → SqL K H a (ns.map V.int) → sp [.ref a] H (fun v _ => v = .bl true) fun _ _ _ => False) :
    codeAny (model P w) callerA (.call (.ref fa) ⟨[.ref a], []⟩) (fun r s' => r = .ok (.ret (.bool true)) ∧ OldK s.heap s'.heap ∧ s'.os = s.os ∧ AllBare s'.gens) s := by
  have f := F L.base L.kinB (L.nsB L.glo) L.tabB
  have hs := go L.hp (fun q hq => hp0_tab (List.mem_map.mpr ⟨q, hq, rfl⟩)) L.sql
  refine codeAny_mono (f callerA [] s L.hp [.ref a] [.ref a] _ _ ⟨hr, rfl⟩ (L.env hg) (.cons rfl .nil) hs) fun r s' y => ?_
  match r, y with
  | .error e, y =>
    obtain ⟨_, _, _, _, _, _, _, _, _, _, _, _, z⟩ := (show L2.CX P w [] L.hp s (fun _ _ _ => False) e s' from y)
    exact z.elim
  | .ok .next, y => exact (show False from y).elim
  | .ok .brk, y => exact (show False from y).elim
  | .ok .cont, y => exact (show False from y).elim
  | .ok (.ret u), y =>
    obtain ⟨v, H', o1, o2, o3, o4, o5, o6⟩ := y
    have o6 : v = V.bl true := o6
    subst o6
    have o5 : u = Value.bool true := o5
    subst o5
    exact ⟨rfl, L.old o3 o4, o1, o2⟩
end
-- what is known of the law at the head's heap
def LawG (l : PySem.W.OpenLaw) (w : World) (K : PySem.W.Frag) (k n : Nat) (mg : Str → Option Value) (fa : Addr) (h : PySem.Heap) : Prop :=
  ∃ (cs : List (Addr × Addr)) (sp : Sp), (∀ q ∈ cs, h.get? q.2 = some (PySem.W.tabObj #[])) ∧ (∀ q ∈ cs, K.lookup q.2 = none) ∧ (∀ q ∈ cs, PySem.W.CodeHd h q.1 q.2) ∧
    (∀ (H : Hp) (a : Addr) (ns : List Int), ns.length ≤ n → (∀ q ∈ cs, H q.2 = some (.tbl #[])) → SqL K H a (ns.map V.int) → sp [.ref a] H (fun v _ => v = .bl true) fun _ _ _ => False) ∧
    ∀ base : PySem.Heap, K.In base → base.Ns mainGlobals mg → (∀ q ∈ cs, LamX.TabB base mg q.1 q.2) → FnG l.prog w K mg base (L2.CX l.prog w) k fa sp
theorem walk_ofG {l : PySem.W.OpenLaw} {n k : Nat} {q : Program} {loose : List Str} {XP : (Str → Option Value) → PySem.Heap → Prop} {YP : World → PySem.Heap → Prop} {d : DefRec} (hn : l.most = some n) (hn2 : n ≤ sizeLine) (hdf : d.params.defaults = [])
    (hr : L2.Room k callerA) (F : ∀ (w : World) (mg : Str → Option Value) (fa : Addr) (h : PySem.Heap), YP w h → h.Ns mainGlobals mg → mg d.name = some (.ref fa) → ∃ K : PySem.W.Frag, K.In h ∧ LawG l w K k n mg fa h) :
    PySem.W.WalkO q loose XP YP l.row.toRowW d [] (fun f vs => PySem.call f vs) := by
  refine Att.attach_callB hn hdf fun w s₀ s₁ mg mb fa o pm cd doc a vs ns G Y ho hd hcd hmg hobj hints hlen hbits hg => ?_
  obtain ⟨K, KX, cs, sp, t1, t2, t3, go, f⟩ := F w mg fa _ Y G.T.g hmg
  exact law_callG ⟨KX, G.T.g, G.T.b, G.T.builtins, G.T.nolimit, t1, t2, t3, G.T.bmain, hobj, hints, Nat.le_trans hlen hn2⟩ hg hr f fun H hH hS => go H a ns hlen hH hS
end MP

/-! MP.Slx: instances with slots, by what is read of them. -/
namespace MP
open PySem PySem.Spec PyProof.Rows L2 SlX

section
variable {X : Cx} {pins : List (Addr × Obj)} {σ : L2.St} {H : Hp} {s : Shared} {a C dx p : Addr} {vs : List (Option V)} {f m : Str} {i : Nat} {v : V} {A : Around} {E : Value → Shared → Prop}
-- the instance, its dict
structure Sx (H : Hp) (a C dx : Addr) (vs : List (Option V)) : Prop where
  ob : Rd H a (SlO a C dx vs)
  dt : Rd H dx (.xd [])
theorem sx_inst {h : PySem.Heap} (hok : HOk X.prog X.w H h) (x : Sx H a C dx vs) : ∃ (sl : Array (Option Value)) (od : Obj), SlR vs sl ∧ PySem.W.InstAt h a { PySem.W.instObj C dx with slots := sl } C (some od) ∧ ∀ f, PySem.W.lookIn f od = some none := by
  have y : ObjOk X.prog X.w H h a (.ext fun h => ∃ sl : Array (Option Value), h.get? a = some { PySem.W.instObj C dx with slots := sl } ∧ SlR vs sl) := x.ob.ok hok
  obtain ⟨⟨sl, e, r⟩, _, _⟩ := y
  have z : ObjOk X.prog X.w H h dx (.xd []) := x.dt.ok hok
  obtain ⟨mA, n, r2⟩ := z
  obtain ⟨od, ho, hl⟩ := lookIn_ns n
  exact ⟨sl, od, r, ⟨e, rfl, rfl, ho⟩, fun f => by rw [hl f, RelO.none_of (r2 f)]⟩
theorem sx_get {b : Bool} {Q : Value → Shared → Prop} (I : Inv X pins σ H s) (h : Sx H a C dx vs) (c : SCls X.K C) (t : Slot1 X.K C f p i) (l : vs[i]? = some (some v)) (q : ∀ u s', Inv X pins σ H s' → RelV v u → Q u s') :
    wpAny (model X.prog X.w) A (getAttr (.ref a) f b) Q E s := by
  obtain ⟨sl, od, r, J, _⟩ := sx_inst I.hok h
  obtain ⟨u, eu, ru⟩ := r i v l
  obtain ⟨m, F⟩ := I.fr
  have es : (({ PySem.W.instObj C dx with slots := sl } : Obj).slots[i]?).join = some u := by
    show (sl[i]?).join = some u
    rw [eu] <;> rfl
  exact PySem.W.get_slot F I.mod.kin J (c.get f) c.ic t.at_ t.get t.tk t.ix (v := u) es (handed_of ru) (q u _ (I.tok _) ru)
theorem sx_set {y : V} {u : Value} {Q : Unit → Shared → Prop} (I : Inv X pins σ H s) (ha : H a = some (SlO a C dx vs)) (hd : Rd H dx (.xd [])) (c : SCls X.K C) (t : Slot1 X.K C f p i) (ry : RelV y u) (q : ∀ s', Inv X pins σ (upd H a (SlO a C dx (putS i y vs))) s' → Q () s') :
    wpAny (model X.prog X.w) A (setAttr (.ref a) f u) Q E s := by
  obtain ⟨sl, od, r, J, _⟩ := sx_inst I.hok ⟨.inl ha, hd⟩
  obtain ⟨m, F⟩ := I.fr
  have aL : a ≠ X.env.locals := fun z => by
    rw [z, I.free] at ha
    cases ha
  have aB : X.base.get? a = none := by
    cases e : X.base.get? a with
    | none => rfl
    | some o =>
      have z := (I.bs a o e).2
      rw [ha] at z
      cases z
  refine PySem.W.set_slot F I.mod.kin (news_at aL aB J.at_) J c.sa c.po t.taker t.ty t.ix t.lt rfl rfl (PySem.W.Upd.head rest_ne) fun h' F' N' => q _ ?_
  have e' : h'.get? a = some { PySem.W.instObj C dx with slots := (sl ++ Array.replicate (i + 1 - sl.size) Option.none).setIfInBounds i (some u) } := (N' _ List.mem_cons_self).1
  have k0 := kept_of_news I.bk F' (fun z hz => N' z (List.mem_cons_of_mem _ hz))
  have nn : ∀ b, H b = none → b ≠ a := fun b z => Ne.symm (ne_of_none ha z)
  have tp : ∀ b xs, H b = some (.tup xs) → b ≠ a := fun b xs z w => by
    rw [w, ha] at z
    unfold SlO at z
    cases z
  have fz : ∀ b o u, H b = some (.frz o u) → b ≠ a := fun b o u z w => by
    rw [w, ha] at z
    unfold SlO at z
    cases z
  have tb : ∀ b ps, H b = some (.tbl ps) → b ≠ a := fun b ps z w => by
    rw [w, ha] at z
    unfold SlO at z
    cases z
  have ow : ∀ b y, H b = some (.own y) → b ≠ a := fun b y z w => by
    rw [w, ha] at z
    unfold SlO at z
    cases z
  have nsk : ∀ m', s.heap.Ns X.env.locals m' → h'.Ns X.env.locals m' := fun m' hm => by
    rw [ns_only hm F.ns]
    exact F'.ns
  refine I.step (g' := s.gens) (d' := s.drawn) (ch := []) (fun _ z => nomatch z) (fun b o h1 _ _ e z => k0 b o h1 (nn b z) e) (fun b o h1 _ _ e z => ⟨o.slots, k0 b o h1 (nn b z) e⟩) (fun b o _ _ z => by rw [upd_ne (nn b z)]; exact z) (fun b o _ e => ?_)
    (fun b xs z => by rw [upd_ne (tp b xs z)]; exact z) (fun b o u z => by rw [upd_ne (fz b o u z)]; exact z) (fun b ps z => ⟨#[], by rw [upd_ne (tb b ps z), z]; simp⟩) nsk (fun b u z => ?_) I.bare
  · by_cases h1 : b = X.env.locals
    · obtain ⟨o', _, _, w, _⟩ := nsk m F.ns
      exact ⟨o', by rw [h1]; exact w⟩
    · by_cases h2 : b = a
      · exact ⟨_, by rw [h2]; exact e'⟩
      · exact ⟨o, k0 b o h1 h2 e⟩
  · by_cases h1 : b = a
    · subst h1
      rw [upd_same] at z
      cases z
      exact ⟨⟨_, e', r.put i ry⟩, ⟨_, e'⟩, fun h1 h2 ⟨sl, z1, z2⟩ st => ⟨sl, st _ z1, z2⟩⟩
    · rw [upd_ne h1] at z
      refine (I.hok b u z).stay (fun c' v' hc w => ?_) (fun c' w => by rw [upd_ne (ow c' b w)]; exact w) fun c' xs w => by rw [upd_ne (tp c' xs w)]; exact w
      rcases hc with hc | hc
      · rw [hc] at w ⊢
        refine k0 b v' (fun x => ?_) h1 w
        rw [x, I.free] at z
        cases z
      · refine k0 c' v' (fun x => ?_) (ow c' b hc) w
        rw [x, I.free] at hc
        cases hc
theorem sx_meth {g : Addr} {pl : Sem Bool} {Q : Value × List Value → Shared → Prop} (I : Inv X pins σ H s) (h : Sx H a C dx vs) (c : SCls X.K C) (k : Meth X.K C m g) (q : Q (.ref g, [.ref a]) s) :
    wpAny (model X.prog X.w) A (getMethod (.ref a) m pl) Q E s := by
  obtain ⟨sl, od, _, J, hl⟩ := sx_inst I.hok h
  have pg := PySem.W.plainGet_of (c.get m)
  have no : (PySem.W.lookIn m od).map (·.isSome) = some false := by rw [hl m] <;> rfl
  exact PySem.W.method_fn I.kIn J pg.1 pg.2 k.at_ (beq_iff_eq.mp k.fn) no q
-- a property
structure Prop1 (K : PySem.W.Frag) (C : Addr) (f : Str) (g : Addr) : Prop where
  ex : ∃ p : Addr, PySem.W.findIn K (.ref C) f = some (some (.ref p)) ∧ PySem.W.specialIn K (.ref p) "__get__" = some (some (.builtin "property.__get__")) ∧ PySem.W.takesIn K (.ref p) = some true ∧ ∃ rest, PySem.W.recIn K p "property" = some (.ref g :: rest)
theorem sx_prop {CX : CXT} {n : Nat} {sp : Sp} {E : XK} {g : Addr} {b : Bool} {Q : VK} (I : Inv X pins σ H s) (h : Sx H a C dx vs) (c : SCls X.K C) (t : Prop1 X.K C f g) (F : FnG X.prog X.w X.K X.mg X.base CX n g sp) (hr : GRoom (n + 1) X.A)
    (hx : ∀ (H : Hp) (s : Shared) (e : Value) (s' : Shared), CX X.stack H s E e s' → False) (q : sp [.ref a] H Q E) : wpAny (model X.prog X.w) X.A (getAttr (.ref a) f b) (EP X pins σ Q) X.xe s := by
  obtain ⟨sl, od, _, J, _⟩ := sx_inst I.hok h
  obtain ⟨p, at_, get, tk, rest, hrec⟩ := t.ex
  have pg := PySem.W.plainGet_of (c.get f)
  have J1 : Inv X pins σ H { s with toks := s.toks + 1 } := I.tok (s.toks + 1)
  refine PySem.W.get_bind I.kIn J pg.1 (PySem.W.findObj_data c.ic at_ get tk) pg.2 (wpAny_call (PySem.W.prop_get (s := { s with toks := s.toks + 1 }) I.kIn hrec ?_))
  refine codeAny_mono (F X.A.in1 X.stack { s with toks := s.toks + 1 } H [.ref a] [.ref a] Q E hr.in1 J1.env0.in1 (.cons rfl .nil) q) fun r s' hq => ?_
  cases r with
  | error e => exact (hx _ _ _ _ hq).elim
  | ok fl =>
    cases fl with
    | ret u =>
      obtain ⟨v, H', I2, rv, q⟩ := J1.after hq
      exact wpAny_of_eq (PySem.W.handedOut_of (handed_of rv)) ⟨v, H', I2, rv, q⟩
    | next => exact hq.elim
    | brk => exact hq.elim
    | cont => exact hq.elim
end
end MP

/-! MP.Slx2: instances with slots: made, asked, compared; methods called. -/
namespace MP
open PySem PySem.Spec PyProof.Rows L2 SlX

section
variable {X : Cx} {pins : List (Addr × Obj)} {σ : L2.St} {H : Hp} {s : Shared} {C g : Addr} {E : XK} {sp : Sp} {CX : CXT} {k : Nat}
-- a new instance, as one with slots
theorem sx_made (I : Inv X pins σ H s) : Inv X pins σ (upd (upd H s.heap.objs.size (.xd [])) (s.heap.objs.size + 1) (SlO (s.heap.objs.size + 1) C s.heap.objs.size []))
    { s with heap := (s.heap.push PySem.W.emptyDict).push (PySem.W.instObj C s.heap.objs.size) } := by
  have I2 := Inv.made (C := C) I
  have hs : Slt (upd (upd H s.heap.objs.size (.own (s.heap.objs.size + 1))) (s.heap.objs.size + 1) (.ins C s.heap.objs.size [])) (s.heap.objs.size + 1) C s.heap.objs.size [] := .inl ⟨upd_same, rfl⟩
  have e1 : ((s.heap.push PySem.W.emptyDict).push (PySem.W.instObj C s.heap.objs.size)).get? (s.heap.objs.size + 1) = some { PySem.W.instObj C s.heap.objs.size with slots := #[] } := by
    have := Heap.get?_push_size (s.heap.push PySem.W.emptyDict) (o := PySem.W.instObj C s.heap.objs.size) rfl
    rw [Heap.size_push] at this
    exact this
  have I3 := inv_slot (t' := s.toks) (vs' := []) I2 hs (fun b o _ _ e => e) (fun _ z => z) e1 (SlR.nil _)
  have eH : slH (upd (upd H s.heap.objs.size (.own (s.heap.objs.size + 1))) (s.heap.objs.size + 1) (.ins C s.heap.objs.size [])) (s.heap.objs.size + 1) C s.heap.objs.size [] = upd (upd H s.heap.objs.size (.xd [])) (s.heap.objs.size + 1) (SlO (s.heap.objs.size + 1) C s.heap.objs.size []) := by
    funext b
    unfold slH
    by_cases h1 : b = s.heap.objs.size + 1
    · rw [h1, upd_same, upd_same]
    · rw [upd_ne h1, upd_ne h1]
      by_cases h2 : b = s.heap.objs.size
      · rw [h2, upd_same, upd_same]
      · rw [upd_ne h2, upd_ne h2, upd_ne h1, upd_ne h2]
  rw [eH] at I3
  exact I3
-- C(..)
theorem run_mk {Q : VK} {us : List Value} {vs : List V} (M : Mk X.K C g) (F : FnG X.prog X.w X.K X.mg X.base CX k g sp) (hr : GRoom (k + 1) X.A) (hx : Passes CX X E) (I : Inv X pins σ H s) (r : Vals vs us)
    (h : ∀ a dx, H a = none → H dx = none → dx ≠ a → sp (.ref a :: vs) (upd (upd H dx (.xd [])) a (SlO a C dx [])) (fun v H2 => v = .non ∧ Q (.ref a) H2) E) :
    wpAny (model X.prog X.w) X.A (call (.ref C) us) (EP X pins σ Q) X.xe s := by
  have hq := h (s.heap.objs.size + 1) s.heap.objs.size (I.hok.fresh (Nat.le_succ _)) (I.hok.fresh (Nat.le_refl _)) (Nat.ne_of_lt (Nat.lt_succ_self _))
  have I2 := sx_made (C := C) I
  have r2 : Vals (V.ref (s.heap.objs.size + 1) :: vs) (Value.ref (s.heap.objs.size + 1) :: us) := .cons rfl r
  refine wpAny_call (make_map (f := g) I.kIn M.makes M.init (beq_iff_eq.mp M.fn) (codeAny_mono (F _ X.stack _ _ _ _ _ E (hr.make C us []) (I2.env0.make C us []) r2 hq) fun r s' hq' => ?_))
  cases r with
  | error e => exact hx pins σ _ _ e s' I2 hq'
  | ok fl =>
    cases fl with
    | ret u =>
      obtain ⟨v, H', I3, rv, ev, q3⟩ := I2.after hq'
      subst ev
      exact ⟨rv, ⟨V.ref (s.heap.objs.size + 1), H', I3, rfl, q3⟩⟩
    | next => exact hq'.elim
    | brk => exact hq'.elim
    | cont => exact hq'.elim
def tMk (C : Addr) (sp : Sp) (E : XK) (t : TA) : TE := fun σ H Q => t σ H fun vs H1 => ∀ a dx, H1 a = none → H1 dx = none → dx ≠ a → sp (.ref a :: vs) (upd (upd H1 dx (.xd [])) a (SlO a C dx [])) (fun v H2 => v = .non ∧ Q (.ref a) H2) E
theorem pe_mk {x : Str} {e : Expr} {es : List Expr} {t : TA} {p pos : Pos} (M : Mk X.K C g) (F : FnG X.prog X.w X.K X.mg X.base CX k g sp) (hr : GRoom (k + 1) X.A) (hg : Gl X x) (hm : X.mg x = some (.ref C)) (hx : Passes CX X E) (ha : PA X (e :: es) t)
    (hdb : (x == ("__debug__" : Str)) = false) (he : starEach (e :: es) X.env = (false, PySem.eval e X.env) :: starEach es X.env) (hpl : (backTo pos (starEach es X.env)).any (·.1) = false) : PE X (.Call (.Name x p) (e :: es) [] pos) (tMk C sp E t) := by
  refine ⟨fun pins s σ H Q I h => ?_⟩
  refine wpAny_Call_Name_kw (ld_glob I hg hm ?_ hdb)
  exact PySem.W.callWith_K (h₀ := X.base) I.ok.mod.kin M.kp (thn (ha.run pos pins s σ H _ I h) fun us s1 ⟨vs, H1, I1, r1, q1⟩ => ⟨I1.kIn, run_mk M F hr hx I1 r1 q1⟩) he hpl
-- o.m(..)
theorem meth_eq {y : Expr} {nm : Str} {p2 p4 : Pos} {args : List Expr} {env : PySem.Env} (hb : attributeBase y nm env (PySem.eval y env) = PySem.eval y env) (hline : (p2.endLine == p4.line) = true)
    (hfew : methodCallForm (args.length + ([] : List Keyword).length) (backTo p4 (starEach args env)) (backToKw p4 (keywordEach [] env)) = true) :
    ∃ pl : Sem Bool, PySem.eval (.Call (.Attribute y nm p2) args [] p4) env = (do
      let ov ← PySem.eval y env
      standAt p2.atName
      let (f, first) ← holding [ov] (getMethod ov nm pl)
      callWith p4 f first (backTo p4 (starEach args env)) (backToKw p4 (keywordEach [] env))) := by
  refine ⟨do return (← importBound y env).getD true, ?_⟩
  rw [arm_eval_Call, hb]
  unfold methodCall methodCallPos calleeOf
  simp only [hfew, hline, Bool.not_true, Bool.false_or, if_true, pure_bind]
def tMs (C : Addr) (sp : Sp) (E : XK) (ta : TE) (t : TA) : TE := fun σ H Q => ta σ H fun x H1 => ∃ a dx vs, x = .ref a ∧ Sx H1 a C dx vs ∧ t σ H1 fun ws H2 => sp (x :: ws) H2 Q E
theorem pe_ms {o e : Expr} {es : List Expr} {m : Str} {ta : TE} {t : TA} {apos pos : Pos} (he : PE X o ta) (c : SCls X.K C) (hm : Meth X.K C m g) (F : FnG X.prog X.w X.K X.mg X.base CX k g sp) (hr : GRoom k X.A) (hx : Passes CX X E) (ha : PA X (e :: es) t)
    (hst : starEach (e :: es) X.env = (false, PySem.eval e X.env) :: starEach es X.env) (hpl : (backTo pos (starEach es X.env)).any (·.1) = false) (hb : attributeBase o m X.env (PySem.eval o X.env) = PySem.eval o X.env) (hline : (apos.endLine == pos.line) = true)
    (hfew : methodCallForm ((e :: es).length + ([] : List Keyword).length) (backTo pos (starEach (e :: es) X.env)) (backToKw pos (keywordEach [] X.env)) = true) : PE X (.Call (.Attribute o m apos) (e :: es) [] pos) (tMs C sp E ta t) := by
  obtain ⟨pl, ht⟩ := meth_eq (args := e :: es) hb hline hfew
  refine ⟨fun pins s σ H Q I h => ?_⟩
  refine PySem.W.methodCall_KW (pl := pl) (thn (he.run pins s σ H _ I h) fun u s1 ⟨x, H1, I1, rx, a, dx, vs, ex, hsl, q⟩ => ?_) ht
  subst ex
  obtain rfl : u = Value.ref a := rx
  refine sx_meth I1 hsl c hm (PySem.W.callWith_K (first := [.ref a]) (h₀ := X.base) I.ok.mod.kin hm.kp (thn (ha.run pos pins s1 σ H1 _ I1 q) fun us s2 ⟨ws, H2, I2, r, q2⟩ => ⟨I2.kIn, ?_⟩) hst hpl)
  exact wpAny_call (run_fnG (us := .ref a :: us) (xs := .ref a :: ws) F hr hx I2 (.cons rfl r) q2)
theorem pe_ms0 {o : Expr} {m : Str} {ta : TE} {apos pos : Pos} (he : PE X o ta) (c : SCls X.K C) (hm : Meth X.K C m g) (F : FnG X.prog X.w X.K X.mg X.base CX k g sp) (hr : GRoom k X.A) (hx : Passes CX X E)
    (hb : attributeBase o m X.env (PySem.eval o X.env) = PySem.eval o X.env) (hline : (apos.endLine == pos.line) = true) : PE X (.Call (.Attribute o m apos) [] [] pos) (tMs C sp E ta tNil) := by
  obtain ⟨pl, ht⟩ := meth_eq (args := []) hb hline rfl
  refine ⟨fun pins s σ H Q I h => ?_⟩
  refine PySem.W.methodCall_KW (pl := pl) (thn (he.run pins s σ H _ I h) fun u s1 ⟨x, H1, I1, rx, a, dx, vs, ex, hsl, q⟩ => ?_) ht
  subst ex
  obtain rfl : u = Value.ref a := rx
  refine sx_meth I1 hsl c hm (PySem.W.callWith_K0 (first := [.ref a]) I1.kIn hm.kp (wpAny_call (run_fnG (us := [.ref a]) (xs := [.ref a]) F hr hx I1 (.cons rfl .nil) q)))
-- e.f: a slot, a property
def tSg (K : PySem.W.Frag) (C : Addr) (i : Nat) (ta : TE) : TE := fun σ H Q => ta σ H fun x H1 => ∃ a dx vs v, x = .ref a ∧ Sx H1 a C dx vs ∧ vs[i]? = some (some v) ∧ Q v H1
theorem pe_sg {e : Expr} {f : Str} {i : Nat} {p : Addr} {ta : TE} {pos : Pos} (he : PE X e ta) (c : SCls X.K C) (t : Slot1 X.K C f p i) (hb : attributeBase e f X.env (PySem.eval e X.env) = PySem.eval e X.env) : PE X (.Attribute e f pos) (tSg X.K C i ta) := by
  refine ⟨fun pins s σ H Q I h => ?_⟩
  refine attr_of hb (thn (he.run pins s σ H _ I h) fun u s1 ⟨x, H1, I1, rx, a, dx, vs, v, ex, hs, l, q⟩ => ?_)
  subst ex
  obtain rfl : u = Value.ref a := rx
  exact sx_get I1 hs c t l fun u' s2 I2 ru => ⟨v, H1, I2, ru, q⟩
def tPg (C : Addr) (sp : Sp) (E : XK) (ta : TE) : TE := fun σ H Q => ta σ H fun x H1 => ∃ a dx vs, x = .ref a ∧ Sx H1 a C dx vs ∧ sp [.ref a] H1 Q E
theorem pe_pg {e : Expr} {f : Str} {ta : TE} {pos : Pos} (he : PE X e ta) (c : SCls X.K C) (t : Prop1 X.K C f g) (F : FnG X.prog X.w X.K X.mg X.base CX k g sp) (hr : GRoom (k + 1) X.A) (hx : ∀ (H : Hp) (s : Shared) (e : Value) (s' : Shared), CX X.stack H s E e s' → False)
    (hb : attributeBase e f X.env (PySem.eval e X.env) = PySem.eval e X.env) : PE X (.Attribute e f pos) (tPg C sp E ta) := by
  refine ⟨fun pins s σ H Q I h => ?_⟩
  refine attr_of hb (thn (he.run pins s σ H _ I h) fun w s1 ⟨x, H1, I1, rx, a, dx, vs, ex, hs, q⟩ => ?_)
  subst ex
  obtain rfl : w = Value.ref a := rx
  exact sx_prop I1 hs c t F hr hx q
-- o.f = e
def sSt (C : Addr) (i : Nat) (ta tv : TE) : TS := fun D σ H => tv σ H fun y H1 => ta σ H1 fun x H2 => ∃ a dx vs, x = .ref a ∧ H2 a = some (SlO a C dx vs) ∧ Rd H2 dx (.xd []) ∧ D.nx σ (upd H2 a (SlO a C dx (putS i y vs)))
theorem ps_st {o value : Expr} {f : Str} {i : Nat} {p : Addr} {ta tv : TE} {pos pos' : Pos} (ha : PE X o ta) (hv : PE X value tv) (c : SCls X.K C) (t : Slot1 X.K C f p i) (hs : swapsWith value (some (.Attribute o f pos')) pos.line X.env = pure false) : PS X (.Assign [.Attribute o f pos'] value pos) (sSt C i ta tv) := by
  refine ⟨fun pins s σ H D I h => ?_⟩
  refine plainObj_wpAny_Assign_Attribute (thn (hv.run pins s σ H _ I h) fun u s1 ⟨y, H1, I1, ry, q⟩ => thn (ha.run pins s1 σ H1 _ I1 q) fun ov s2 ⟨x, H2, I2, rx, a, dx, vs, ex, e1, e2, q2⟩ => ?_) hs
  subst ex
  obtain rfl : ov = Value.ref a := rx
  exact sx_set I2 e1 e2 c t ry fun s3 I3 => ⟨σ, _, I3, q2⟩
def gSt (C : Addr) (i : Nat) (ta : TE) : TG := fun y σ H Q => ta σ H fun x H2 => ∃ a dx vs, x = .ref a ∧ H2 a = some (SlO a C dx vs) ∧ Rd H2 dx (.xd []) ∧ Q σ (upd H2 a (SlO a C dx (putS i y vs)))
theorem pg_st {o : Expr} {f : Str} {i : Nat} {p : Addr} {ta : TE} {pos' : Pos} (ha : PE X o ta) (c : SCls X.K C) (t : Slot1 X.K C f p i) : PG X (.Attribute o f pos') (gSt C i ta) := by
  refine ⟨fun pins s σ H v u Q I r h => ?_⟩
  rw [assign_Attribute]
  refine wpAny_bind (wpAny_holding (thn (ha.run pins s σ H _ I h) fun ov s2 ⟨x, H2, I2, rx, a, dx, vs, ex, e1, e2, q2⟩ => ?_))
  subst ex
  obtain rfl : ov = Value.ref a := rx
  exact wpAny_bind (wpAny_standAt (wpAny_bind (wpAny_holding (sx_set I2 e1 e2 c t r fun s3 I3 => wpAny_release ⟨σ, _, I3, q2⟩))))
-- isinstance(o, T)
def rIsS (K : PySem.W.Frag) : List V → Hp → VK → Prop := fun xs H Q => ∃ (a D dx : Addr) (vs : List (Option V)) (c : V) (cv : Value) (b : Bool), xs = [.ref a, c] ∧ Sx H a D dx vs ∧ SCls K D ∧ SIsi K D ∧ (∀ u, RelV c u → u = cv) ∧ PySem.W.kitOne K (.ref D) cv = some b ∧ Q (.bl b) H
theorem call_isS : CallR X (.builtin "isinstance") (rIsS X.K) := by
  intro pins s σ H xs us Q I r h
  obtain ⟨a, D, dx, vs, c, cv, b, rfl, e1, C, i, hcv, e, q⟩ := h
  cases r with
  | cons rx rr =>
    cases rr with
    | cons rt rr =>
      cases rr
      cases rx
      have ec := hcv _ rt
      subst ec
      obtain ⟨sl, od, _, J, _⟩ := sx_inst I.hok e1
      exact PySem.W.kia_one (OwX.kitx_slt C.ic (C.get _) i.ca i.cn i.ct i.cm) I.kIn J e (fun z => nomatch z) fun tk => ⟨.bl b, H, I.tok _, rfl, q⟩
-- a == b by the class's own def
def rEqS (K : PySem.W.Frag) (C : Addr) (sp : Sp) (E : XK) : R2 := fun x y H Q => ∃ a dx vs b C' dy ws, x = .ref a ∧ y = .ref b ∧ Sx H a C dx vs ∧ Sx H b C' dy ws ∧ PySem.W.notFirst K C (.ref C') = true ∧ sp [x, y] H Q E
theorem op_eqS {op : CmpOp} (hop : ∀ a b, compareOp op a b = richCompare op a b) (hs : PySem.W.findIn X.K (.ref C) (cmpInfo op).2.1 = some (some (.ref g))) (hf : PySem.W.isFn X.K (.ref g) = true) (F : FnG X.prog X.w X.K X.mg X.base CX k g sp)
    (hr : GRoom k X.A) (hx : Passes CX X E) : OpR X (compareOp op) (rEqS X.K C sp E) := by
  intro pins s σ H x y v u Q I rx ry h
  obtain ⟨a, dx, vs, b, C', dy, ws, rfl, rfl, ha, hb, hn, q⟩ := h
  cases (show v = Value.ref a from rx)
  cases (show u = Value.ref b from ry)
  obtain ⟨_, _, _, J, _⟩ := sx_inst I.hok ha
  obtain ⟨_, _, _, J', _⟩ := sx_inst I.hok hb
  obtain ⟨m, hF⟩ := I.fr
  rw [hop]
  refine PySem.W.cmp_K (op := op) (tb := .ref C') hr.rm.units0 hF I.ok.mod.kin J J'.type hn hs hf ?_
  refine wpAny_mono (wpAny_call (run_fnG (us := [.ref a, .ref b]) (xs := [.ref a, .ref b]) F hr hx I (.cons rfl (.cons rfl .nil)) q)) (fun w s' z => ?_) fun _ _ x => x
  obtain ⟨z', H', I', rz, qz⟩ := z
  exact SlX.cmpback rz ⟨z', H', I', rz, qz⟩
end
end MP

set_option maxHeartbeats 2000000
/-! MP.Rel: values of MP beside values of the model. -/
namespace MP
open PySem PySem.Spec PyProof.Rows L2

-- where the places of the store stand; s: addresses that may change all the same
structure Mu where
  f : Nat → Addr
  s : Addr → Prop
instance : CoeFun Mu (fun _ => Nat → Addr) := ⟨Mu.f⟩
-- a list of the written part
def KL (K : PySem.W.Frag) (a : Addr) (xs : List V) : Prop :=
  ∃ (o : Obj) (its : Array Value) (n : Nat), K.lookup a = some o ∧ o.cls = .type "list" ∧ o.dict = none ∧ o.data = .seq its n ∧ its.size ≤ sizeLine ∧ Vals xs its.toList
-- a frozen thing: no place of the store is its own
def Fz (μ : Mu) (n : Nat) (H : Hp) (a : Addr) (u : HO) : Prop := Rd H a u ∧ (∀ p, p < n → μ p ≠ a) ∧ ¬ μ.s a
def FzL (K : PySem.W.Frag) (μ : Mu) (n : Nat) (H : Hp) (a : Addr) (xs : List V) : Prop :=
  KL K a xs ∨ Fz μ n H a (.lst xs)
theorem FzL.imp {K : PySem.W.Frag} {μ μ' : Mu} {n n' : Nat} {H H' : Hp} {a : Addr} {xs : List V} (q : FzL K μ n H a xs) (f : ∀ a u, Fz μ n H a u → Fz μ' n' H' a u) : FzL K μ' n' H' a xs := Or.imp id (f a _) q
-- what stands at a place: it may be changed
def Chg : HO → Prop
  | .lst _ => True
  | .dK _ => True
  | .ext _ => True
  | _ => False
theorem FzL.sqk {K : PySem.W.Frag} {μ : Mu} {n : Nat} {H : Hp} {a : Addr} {xs : List V} (h : FzL K μ n H a xs) : SqL K H a xs := by
  rcases h with h | ⟨h, _⟩
  · exact .inr h
  · exact .inl h
theorem FzL.rd {μ : Mu} {n : Nat} {H : Hp} {a : Addr} {xs : List V} (h : FzL [] μ n H a xs) : Rd H a (.lst xs) := by
  rcases h with ⟨_, _, _, e, _⟩ | ⟨h, _⟩
  · cases e
  · exact h
theorem FzL.sq {K : PySem.W.Frag} {μ : Mu} {n : Nat} {H : Hp} {a : Addr} {xs : List V} (h : FzL [] μ n H a xs) : SqL K H a xs := .inl h.rd
mutual
def RD (K : PySem.W.Frag) (μ : Mu) (n : Nat) (H : Hp) : D → V → Prop
  | .non, v => v = .non
  | .bl b, v => v = .bl b
  | .int i, v => v = .int i
  | .str x, v => v = .str x
  | .tup l, v => ∃ a vs, v = .ref a ∧ SqT K H a vs ∧ RDs K μ n H l vs
  | .lst l, v => ∃ a vs, v = .ref a ∧ FzL [] μ n H a vs ∧ RDs K μ n H l vs
  | .scr l, v => ∃ a vs, v = .ref a ∧ FzL K μ n H a vs ∧ RDs K μ n H l vs
  | .dic ks l, v => ∃ (a : Addr) (kvs : List (Key × V)), v = .ref a ∧ Fz μ n H a (.dK kvs) ∧ kvs.map (·.1) = ks ∧ RDs K μ n H l (kvs.map (·.2))
  | .exo x fs l, v => ∃ (a : Addr) (dd : Option Addr) (vfs : List (Str × V)), v = .ref a ∧ Fz μ n H a (exo a (He.ga K x) dd) ∧ (∀ dx, dd = some dx → Fz μ n H dx (.xd vfs)) ∧ (dd = none → fs = []) ∧ vfs.map (·.1) = fs ∧ RDs K μ n H l (vfs.map (·.2))
  | .obj c l, v => ∃ (a dx : Addr) (vs : List V), v = .ref a ∧ Fz μ n H a (SlX.SlO a (He.ga K c) dx (vs.map some)) ∧ Fz μ n H dx (.xd []) ∧ RDs K μ n H l vs
  | .own, v => ∃ dx : Addr, v = .ref dx ∧ Fz μ n H dx (.xd [])
  | .fn x, v => v = .ref (He.ga K x)
  | .loc p, v => p < n ∧ v = .ref (μ p)
def RDs (K : PySem.W.Frag) (μ : Mu) (n : Nat) (H : Hp) : List D → List V → Prop
  | [], vs => vs = []
  | d :: ds, vs => ∃ v r, vs = v :: r ∧ RD K μ n H d v ∧ RDs K μ n H ds r
end
-- slots, those that are set
def RS (K : PySem.W.Frag) (μ : Mu) (n : Nat) (H : Hp) (l : List (Option D)) (vs : List (Option V)) : Prop := l.length = vs.length ∧ ∀ (i : Nat) (d : D), l[i]? = some (some d) → ∃ v : V, vs[i]? = some (some v) ∧ RD K μ n H d v
def RO (K : PySem.W.Frag) (μ : Mu) (n : Nat) (H : Hp) (a : Addr) : O → Prop
  | .lst l => ∃ vs, H a = some (.lst vs) ∧ RDs K μ n H l vs
  | .dic l => ∃ kvs : List (Key × V), H a = some (.dK kvs) ∧ kvs.map (·.1) = l.map (·.1) ∧ RDs K μ n H (l.map (·.2)) (kvs.map (·.2))
  | .obj c l => ∃ (dx : Addr) (vs : List (Option V)), H a = some (SlX.SlO a (He.ga K c) dx vs) ∧ RD K μ n H .own (.ref dx) ∧ RS K μ n H l vs
/-! ### tables of code objects -/
-- a def of the module: its code object, that one's table, its name
def ctabOf (K : PySem.W.Frag) (q : Addr × Obj) : Option (Addr × Addr × Str) := match q.2.data with
  | .func fd => (match PySem.W.nsIn K mainGlobals fd.name with
    | some (some (.ref a)) => if a = q.1 ∧ fd.name = fd.qualname then (match fd.code with
      | .ref c => (match K.lookup c with
        | some ⟨_, _, .fields vs, _⟩ => (match (vs[11]? : Option Value) with
          | some (.ref Pa) => some (c, Pa, fd.qualname)
          | _ => none)
        | _ => none)
      | _ => none)
      else none
    | _ => none)
  | _ => none
def ctabs (K : PySem.W.Frag) : List (Addr × Addr × Str) := K.filterMap (ctabOf K)
-- the name of a lambda of the def q
def lamN (q : Str) : Str := (q ++ ".<locals>.") ++ "<lambda>"
def tabs (K : PySem.W.Frag) : List (Addr × Str) := (ctabs K).map fun q => (q.2.1, lamN q.2.2)
def noT (o : HO) : Prop := ∀ ps, o ≠ .tbl ps
structure HR (K : PySem.W.Frag) (μ : Mu) (h : Heap) (H : Hp) : Prop where
  tb : ∀ p ∈ tabs K, μ.s p.1
  ts : LamX.Tabs (tabs K) H
  sn : ∀ a, μ.s a → H a ≠ none
  sp : ∀ a, μ.s a → ∀ p, p < h.length → μ p ≠ a
  inj : ∀ p q, p < h.length → q < h.length → μ p = μ q → p = q
  ob : ∀ p o, h[p]? = some o → RO K μ h.length H (μ p) o
structure Post (K : PySem.W.Frag) (μ : Mu) (h : Heap) (H : Hp) (μ' : Mu) (h' : Heap) (H' : Hp) : Prop where
  len : h.length ≤ h'.length
  sd1 : ∀ a, μ.s a → μ'.s a
  sd2 : ∀ a, μ'.s a → μ.s a ∨ H a = none
  ext : ∀ p, p < h.length → μ' p = μ p
  hr : HR K μ' h' H'
  fresh : ∀ p, h.length ≤ p → p < h'.length → H (μ' p) = none
  keep : ∀ b o, H b = some o → (∀ p, p < h.length → μ p ≠ b) → (∀ q, (b, q) ∉ tabs K) → H' b = some o

section
variable {K : PySem.W.Frag} {μ μ' μ1 μ2 : Mu} {h h' h1 h2 : Heap} {H H' H1 H2 : Hp} {n : Nat}
theorem HR.ntab (r : HR K μ h H) {b : Addr} {o : HO} (e : H b = some o) (nt : noT o := by intro ps z; cases z) : ∀ q, (b, q) ∉ tabs K := fun q m => by
  obtain ⟨ps, e2, _⟩ := r.ts _ m
  have e2 : H b = some (.tbl ps) := e2
  rw [e] at e2
  exact nt ps (Option.some.inj e2)
theorem HR.at (r : HR K μ h H) {p : Nat} (hp : p < h.length) : ∃ u, H (μ p) = some u ∧ Chg u := by
  have e : h[p]? = some h[p] := List.getElem?_eq_getElem hp
  have q := r.ob p _ e
  cases c : h[p] with
  | lst l =>
    rw [c] at q
    obtain ⟨vs, e, _⟩ := q
    exact ⟨_, e, trivial⟩
  | dic l =>
    rw [c] at q
    obtain ⟨vs, e, _⟩ := q
    exact ⟨_, e, trivial⟩
  | obj k l =>
    rw [c] at q
    obtain ⟨dx, vs, e, _⟩ := q
    exact ⟨_, e, trivial⟩
theorem codeO_slo {c : Addr} {q : Str} {a C dx : Addr} {vs : List (Option V)} : LamX.CodeO c q ≠ SlX.SlO a C dx vs := fun z => by
  unfold LamX.CodeO SlX.SlO at z
  have z := HO.ext.inj z
  let ob : Obj := { cls := .none, data := .fields #[.none, .str q 0] }
  have hg : ∀ b (ob' : Obj), (⟨Array.replicate (c + 1) ob, {}⟩ : PySem.Heap).get? b = some ob' → ob' = ob := fun b ob' e => by
    unfold PySem.Heap.get? at e
    by_cases hb : b < c + 1
    · simp only [Array.getElem?_replicate, hb, if_true] at e
      exact (Option.some.inj e).symm
    · simp only [Array.getElem?_replicate, hb, if_false] at e
      cases e
  have e1 : (fun h : PySem.Heap => ∃ (oc : Obj) (vs : Array Value) (t : Tok), h.get? c = some oc ∧ oc.data = .fields vs ∧ vs[1]? = some (.str q t)) ⟨Array.replicate (c + 1) ob, {}⟩ := by
    refine ⟨ob, _, 0, ?_, rfl, rfl⟩
    unfold PySem.Heap.get?
    simp only [Array.getElem?_replicate, Nat.lt_succ_self, if_true]
    rfl
  rw [z] at e1
  obtain ⟨sl, e, _⟩ := e1
  have := congrArg Obj.data (hg a _ e)
  cases this
theorem codeO_ne {c : Addr} {q : Str} {u : HO} (h : ∀ φ, u ≠ .ext φ) : LamX.CodeO c q ≠ u := fun z => h _ z.symm
theorem HR.ne_code (r : HR K μ h H) {a c : Addr} {q : Str} (e : H a = some (LamX.CodeO c q)) : ∀ p, p < h.length → μ p ≠ a := fun p hp z => by
  have e0 : h[p]? = some h[p] := List.getElem?_eq_getElem hp
  have w := r.ob p _ e0
  rw [z] at w
  cases k : h[p] with
  | lst l =>
    rw [k] at w
    obtain ⟨vs, e2, _⟩ := w
    rw [e] at e2
    exact codeO_ne (fun φ z => by cases z) (Option.some.inj e2)
  | dic l =>
    rw [k] at w
    obtain ⟨vs, e2, _⟩ := w
    rw [e] at e2
    exact codeO_ne (fun φ z => by cases z) (Option.some.inj e2)
  | obj x l =>
    rw [k] at w
    obtain ⟨dx, vs, e2, _⟩ := w
    rw [e] at e2
    exact codeO_slo (Option.some.inj e2)
theorem HR.ne_tbl (r : HR K μ h H) {a : Addr} {ps : Array Value} (e : H a = some (.tbl ps)) : ∀ p, p < h.length → μ p ≠ a := fun p hp z => by
  obtain ⟨u, e2, c⟩ := r.at hp
  rw [z, e] at e2
  cases e2
  exact c
-- what is a table, or a code object
def isC (o : HO) : Prop := (∃ ps, o = .tbl ps) ∨ ∃ c q, o = LamX.CodeO c q
theorem tabs_kept {T : List (Addr × Str)} (t : LamX.Tabs T H) (k : ∀ b o, H b = some o → isC o → H' b = some o) : LamX.Tabs T H' := fun p hp => by
  obtain ⟨ps, h1, h2, h3⟩ := t p hp
  refine ⟨ps, k _ _ h1 (.inl ⟨_, rfl⟩), h2, fun pos cv hc => ?_⟩
  obtain ⟨c, e1, e2⟩ := h3 pos cv hc
  exact ⟨c, e1, k _ _ e2 (.inr ⟨_, _, rfl⟩)⟩
theorem HR.ne_c (r : HR K μ h H) {a : Addr} {o : HO} (e : H a = some o) (c : isC o) : ∀ p, p < h.length → μ p ≠ a := by
  rcases c with ⟨ps, rfl⟩ | ⟨c, q, rfl⟩
  · exact r.ne_tbl e
  · exact r.ne_code e
theorem lst_ne_c {a b : Addr} {o : HO} {vs : List V} (e : H a = some (.lst vs)) (e2 : H b = some o) (c : isC o) : b ≠ a := fun z => by
  rw [z, e] at e2
  rcases c with ⟨ps, rfl⟩ | ⟨c, q, rfl⟩
  · cases e2
  · exact codeO_ne (fun φ z => by cases z) (Option.some.inj e2).symm
theorem HR.ne_tup (r : HR K μ h H) {a : Addr} {xs : List V} (e : H a = some (.tup xs)) : ∀ p, p < h.length → μ p ≠ a := fun p hp z => by
  obtain ⟨u, e2, c⟩ := r.at hp
  rw [z, e] at e2
  cases e2
  exact c
theorem HR.ne_frz (r : HR K μ h H) {a : Addr} {o : Obj} {u : HO} (e : H a = some (.frz o u)) : ∀ p, p < h.length → μ p ≠ a := fun p hp z => by
  obtain ⟨u, e2, c⟩ := r.at hp
  rw [z, e] at e2
  cases e2
  exact c
theorem HR.ne_none (r : HR K μ h H) {a : Addr} (e : H a = none) : ∀ p, p < h.length → μ p ≠ a := fun p hp z => by
  obtain ⟨u, e2, c⟩ := r.at hp
  rw [z, e] at e2
  cases e2
theorem Post.rdT (P : Post K μ h H μ' h' H') (r : HR K μ h H) {a : Addr} {xs : List V} (q : SqT K H a xs) : SqT K H' a xs := by
  rcases q with (q | ⟨o, q⟩) | q
  · exact .inl (.inl (P.keep a _ q (r.ne_tup q) (r.ntab q)))
  · exact .inl (.inr ⟨o, P.keep a _ q (r.ne_frz q) (r.ntab q)⟩)
  · exact .inr q
theorem Post.fzu (P : Post K μ h H μ' h' H') (r : HR K μ h H) {a : Addr} {u : HO} (q : Fz μ h.length H a u) : Fz μ' h'.length H' a u := by
  obtain ⟨q, ne, ns⟩ := q
  have q' : Rd H' a u := by
    rcases q with q | ⟨o, q⟩
    · exact .inl (P.keep a _ q ne fun _ m => ns (r.tb _ m))
    · exact .inr ⟨o, P.keep a _ q (r.ne_frz q) (r.ntab q)⟩
  have ta : H a ≠ none := by
    rcases q with q | ⟨o, q⟩ <;> rw [q] <;> exact fun z => nomatch z
  refine ⟨q', fun p hp => ?_, fun z => (P.sd2 a z).elim ns ta⟩
  by_cases hl : p < h.length
  · rw [P.ext p hl]
    exact ne p hl
  · intro z
    have f := P.fresh p (by omega) hp
    rw [z] at f
    rcases q with q | ⟨o, q⟩ <;> rw [q] at f <;> cases f
theorem Post.fz (P : Post K μ h H μ' h' H') (r : HR K μ h H) {L : PySem.W.Frag} {a : Addr} {xs : List V} (q : FzL L μ h.length H a xs) : FzL L μ' h'.length H' a xs := q.imp fun _ _ => P.fzu r
mutual
-- the general step: what is kept of tuples, frozen lists, places (below m)
theorem RD.gen {n' m : Nat} (ht : ∀ a xs, SqT K H a xs → SqT K H' a xs) (hf : ∀ a u, Fz μ n H a u → Fz μ' n' H' a u) (hl : ∀ p, p < n → p < m → p < n' ∧ μ' p = μ p) :
    ∀ (d : D) (v : V), cl m d = true → RD K μ n H d v → RD K μ' n' H' d v
  | .non, _, _, q => q
  | .bl _, _, _, q => q
  | .int _, _, _, q => q
  | .str _, _, _, q => q
  | .tup l, v, c, q => by
    simp only [RD, cl] at q c ⊢
    obtain ⟨a, vs, e, s, t⟩ := q
    exact ⟨a, vs, e, ht _ _ s, RDs.gen ht hf hl l vs c t⟩
  | .lst l, v, c, q => by
    simp only [RD, cl] at q c ⊢
    obtain ⟨a, vs, e, s, t⟩ := q
    exact ⟨a, vs, e, s.imp hf, RDs.gen ht hf hl l vs c t⟩
  | .scr l, v, c, q => by
    simp only [RD, cl] at q c ⊢
    obtain ⟨a, vs, e, s, t⟩ := q
    exact ⟨a, vs, e, s.imp hf, RDs.gen ht hf hl l vs c t⟩
  | .dic ks l, v, c, q => by
    simp only [RD, cl] at q c ⊢
    obtain ⟨a, kvs, e, s, ek, t⟩ := q
    exact ⟨a, kvs, e, hf _ _ s, ek, RDs.gen ht hf hl l _ c t⟩
  | .exo x fs l, v, c, q => by
    simp only [RD, cl] at q c ⊢
    obtain ⟨a, dd, vfs, e, s1, s2, z, ek, t⟩ := q
    exact ⟨a, dd, vfs, e, hf _ _ s1, fun dx w => hf _ _ (s2 dx w), z, ek, RDs.gen ht hf hl l _ c t⟩
  | .obj x l, v, c, q => by
    simp only [RD, cl] at q c ⊢
    obtain ⟨a, dx, vs, e, s1, s2, t⟩ := q
    exact ⟨a, dx, vs, e, hf _ _ s1, hf _ _ s2, RDs.gen ht hf hl l _ c t⟩
  | .own, v, c, q => by
    simp only [RD] at q ⊢
    obtain ⟨dx, e, s⟩ := q
    exact ⟨dx, e, hf _ _ s⟩
  | .fn x, v, c, q => by
    simp only [RD] at q ⊢
    exact q
  | .loc p, v, c, q => by
    simp only [RD, cl, decide_eq_true_eq] at q c ⊢
    obtain ⟨h1, h2⟩ := hl p q.1 c
    exact ⟨h1, by rw [h2]; exact q.2⟩
theorem RDs.gen {n' m : Nat} (ht : ∀ a xs, SqT K H a xs → SqT K H' a xs) (hf : ∀ a u, Fz μ n H a u → Fz μ' n' H' a u) (hl : ∀ p, p < n → p < m → p < n' ∧ μ' p = μ p) :
    ∀ (ds : List D) (vs : List V), clL m ds = true → RDs K μ n H ds vs → RDs K μ' n' H' ds vs
  | [], _, _, q => q
  | d :: ds, vs, c, q => by
    simp only [RDs, clL, Bool.and_eq_true] at q c ⊢
    obtain ⟨v, r', e, q1, q2⟩ := q
    exact ⟨v, r', e, RD.gen ht hf hl d v c.1 q1, RDs.gen ht hf hl ds r' c.2 q2⟩
end
mutual
theorem RD.cl : ∀ (d : D) (v : V), RD K μ n H d v → cl n d = true
  | .non, _, _ => rfl
  | .bl _, _, _ => rfl
  | .int _, _, _ => rfl
  | .str _, _, _ => rfl
  | .tup l, v, q => by
    simp only [RD, MP.cl] at q ⊢
    obtain ⟨a, vs, e, s, t⟩ := q
    exact RDs.cl l vs t
  | .lst l, v, q => by
    simp only [RD, MP.cl] at q ⊢
    obtain ⟨a, vs, e, s, t⟩ := q
    exact RDs.cl l vs t
  | .scr l, v, q => by
    simp only [RD, MP.cl] at q ⊢
    obtain ⟨a, vs, e, s, t⟩ := q
    exact RDs.cl l vs t
  | .dic ks l, v, q => by
    simp only [RD, MP.cl] at q ⊢
    obtain ⟨a, kvs, e, s, ek, t⟩ := q
    exact RDs.cl l _ t
  | .exo x fs l, v, q => by
    simp only [RD, MP.cl] at q ⊢
    obtain ⟨a, dd, vfs, e, s1, s2, z, ek, t⟩ := q
    exact RDs.cl l _ t
  | .obj x l, v, q => by
    simp only [RD, MP.cl] at q ⊢
    obtain ⟨a, dx, vs, e, s1, s2, t⟩ := q
    exact RDs.cl l _ t
  | .own, v, q => rfl
  | .fn x, v, q => rfl
  | .loc p, v, q => by
    simp only [RD, MP.cl, decide_eq_true_eq] at q ⊢
    exact q.1
theorem RDs.cl : ∀ (ds : List D) (vs : List V), RDs K μ n H ds vs → clL n ds = true
  | [], _, _ => rfl
  | d :: ds, vs, q => by
    simp only [RDs, clL, Bool.and_eq_true] at q ⊢
    obtain ⟨v, r', e, q1, q2⟩ := q
    exact ⟨RD.cl d v q1, RDs.cl ds r' q2⟩
end
theorem clS_at {m : Nat} {c : Str} {l : List (Option D)} (h : clO m (.obj c l) = true) {i : Nat} {d : D} (e : l[i]? = some (some d)) : MP.cl m d = true := List.all_eq_true.mp h _ (List.mem_of_getElem? e)
theorem RO.mapC {n' m : Nat} {a : Addr} {o : O} (c : clO m o = true) (k : ∀ u, H a = some u → H' a = some u) (m1 : ∀ (d : D) (v : V), MP.cl m d = true → RD K μ n H d v → RD K μ' n' H' d v) (m2 : ∀ (ds : List D) (us : List V), clL m ds = true → RDs K μ n H ds us → RDs K μ' n' H' ds us) (q : RO K μ n H a o) : RO K μ' n' H' a o := by
  cases o with
  | lst l =>
    obtain ⟨vs, e1, e2⟩ := q
    exact ⟨vs, k _ e1, m2 l vs c e2⟩
  | dic l =>
    obtain ⟨vs, e1, ek, e2⟩ := q
    exact ⟨vs, k _ e1, ek, m2 _ _ c e2⟩
  | obj x l =>
    obtain ⟨dx, vs, e1, e2, e3, e4⟩ := q
    refine ⟨dx, vs, k _ e1, m1 _ _ rfl e2, e3, fun i d e => ?_⟩
    obtain ⟨v, z1, z2⟩ := e4 i d e
    exact ⟨v, z1, m1 d v (clS_at c e) z2⟩
theorem RO.cl {a : Addr} {o : O} (q : RO K μ n H a o) : clO n o = true := by
  cases o with
  | lst l =>
    obtain ⟨vs, e1, e2⟩ := q
    exact RDs.cl l vs e2
  | dic l =>
    obtain ⟨vs, e1, ek, e2⟩ := q
    exact RDs.cl _ _ e2
  | obj x l =>
    obtain ⟨dx, vs, e1, e2, e3, e4⟩ := q
    refine List.all_eq_true.mpr fun o ho => ?_
    cases o with
    | none => rfl
    | some d =>
      obtain ⟨i, e⟩ := List.mem_iff_getElem?.mp ho
      obtain ⟨v, z1, z2⟩ := e4 i d e
      exact RD.cl d v z2
theorem RO.map {n' : Nat} {a : Addr} {o : O} (k : ∀ u, H a = some u → H' a = some u) (m1 : ∀ (d : D) (v : V), RD K μ n H d v → RD K μ' n' H' d v) (m2 : ∀ (ds : List D) (us : List V), RDs K μ n H ds us → RDs K μ' n' H' ds us) (q : RO K μ n H a o) : RO K μ' n' H' a o := q.mapC q.cl k (fun d v _ => m1 d v) (fun ds us _ => m2 ds us)
theorem Post.rl (P : Post K μ h H μ' h' H') : ∀ p, p < h.length → p < h.length → p < h'.length ∧ μ' p = μ p := fun p hp _ => ⟨Nat.lt_of_lt_of_le hp P.len, P.ext p hp⟩
theorem RD.mono (P : Post K μ h H μ' h' H') (r : HR K μ h H) (d : D) (v : V) (q : RD K μ h.length H d v) : RD K μ' h'.length H' d v :=
  RD.gen (fun _ _ => P.rdT r) (fun _ _ => P.fzu r) P.rl d v (RD.cl d v q) q
theorem RDs.mono (P : Post K μ h H μ' h' H') (r : HR K μ h H) (ds : List D) (vs : List V) (q : RDs K μ h.length H ds vs) : RDs K μ' h'.length H' ds vs :=
  RDs.gen (fun _ _ => P.rdT r) (fun _ _ => P.fzu r) P.rl ds vs (RDs.cl ds vs q) q
theorem Post.refl (r : HR K μ h H) : Post K μ h H μ h H :=
  ⟨Nat.le_refl _, fun _ z => z, fun _ z => .inl z, fun _ _ => rfl, r, fun p h1 h2 => absurd h2 (by omega), fun _ _ e _ _ => e⟩
-- what was nowhere stays so in what was before
theorem Post.none_back (P : Post K μ h H μ1 h1 H1) {a : Addr} (e : H1 a = none) : H a = none := by
  cases q : H a with
  | none => rfl
  | some o =>
    by_cases hx : ∃ p, p < h.length ∧ μ p = a
    · obtain ⟨p, hp, rfl⟩ := hx
      obtain ⟨xs, e2, _⟩ := P.hr.at (Nat.lt_of_lt_of_le hp P.len)
      rw [P.ext p hp, e] at e2
      cases e2
    · by_cases ht : ∃ q, (a, q) ∈ tabs K
      · obtain ⟨q, m⟩ := ht
        obtain ⟨ps, e2, _⟩ := P.hr.ts _ m
        have e2 : H1 a = some (.tbl ps) := e2
        rw [e] at e2
        cases e2
      · have := P.keep a o q (fun p hp z => hx ⟨p, hp, z⟩) fun q m => ht ⟨q, m⟩
        rw [e] at this
        cases this
theorem Post.trans (P : Post K μ h H μ1 h1 H1) (P2 : Post K μ1 h1 H1 μ2 h2 H2) : Post K μ h H μ2 h2 H2 := by
  refine ⟨Nat.le_trans P.len P2.len, fun a z => P2.sd1 a (P.sd1 a z), fun a z => (P2.sd2 a z).elim (P.sd2 a) fun e => .inr (P.none_back e), fun p hp => ?_, P2.hr, fun p h3 h4 => ?_, fun b o e ne nt => ?_⟩
  · rw [P2.ext p (Nat.lt_of_lt_of_le hp P.len), P.ext p hp]
  · by_cases hl : p < h1.length
    · rw [P2.ext p hl]
      exact P.fresh p h3 hl
    · exact P.none_back (P2.fresh p (by omega) h4)
  · refine P2.keep b o (P.keep b o e ne nt) (fun p hp z => ?_) nt
    by_cases hl : p < h.length
    · rw [P.ext p hl] at z
      exact ne p hl z
    · have f := P.fresh p (by omega) hp
      rw [z, e] at f
      cases f
-- a new object of the model, told by no place
theorem Post.new (r : HR K μ h H) {p : Addr} {o : HO} (e : H p = none) : Post K μ h H μ h (upd H p o) := by
  have k : ∀ b u, H b = some u → upd H p o b = some u := fun b u q => by rw [upd_ne (ne_of_none q e)]; exact q
  have P : ∀ r', Post K μ h H μ h (upd H p o) := fun r' => ⟨Nat.le_refl _, fun _ z => z, fun _ z => .inl z, fun _ _ => rfl, r', fun p h1 h2 => absurd h2 (by omega), fun b u q _ _ => k b u q⟩
  have tupk : ∀ a xs, SqT K H a xs → SqT K (upd H p o) a xs := fun a xs q => by
    rcases q with (q | ⟨o, q⟩) | q
    · exact .inl (.inl (k _ _ q))
    · exact .inl (.inr ⟨o, k _ _ q⟩)
    · exact .inr q
  have fzk : ∀ a u, Fz μ h.length H a u → Fz μ h.length (upd H p o) a u := fun a u q => by
    rcases q with ⟨q | ⟨o, q⟩, ne⟩
    · exact ⟨.inl (k _ _ q), ne⟩
    · exact ⟨.inr ⟨o, k _ _ q⟩, ne⟩
  have mono : ∀ l vs, RDs K μ h.length H l vs → RDs K μ h.length (upd H p o) l vs := fun l vs q =>
    RDs.gen tupk fzk (fun p hp _ => ⟨hp, rfl⟩) l vs (RDs.cl l vs q) q
  have mono1 : ∀ d v, RD K μ h.length H d v → RD K μ h.length (upd H p o) d v := fun d v q =>
    RD.gen tupk fzk (fun p hp _ => ⟨hp, rfl⟩) d v (RD.cl d v q) q
  refine P ⟨r.tb, r.ts.ext k, fun a sa => (by
    have := r.sn a sa
    cases q : H a with
    | none => exact absurd q this
    | some u => rw [k _ _ q]; exact fun z => nomatch z), r.sp, r.inj, fun q o' eq => ?_⟩
  exact (r.ob q o' eq).map (fun u e => k _ _ e) mono1 mono
-- an address that may change is written
theorem RD.updS {D0 : Addr} {vs ws : List V} (sD : μ.s D0) (e : H D0 = some (.lst vs)) : (∀ (d : D) (v : V), RD K μ n H d v → RD K μ n (upd H D0 (.lst ws)) d v) ∧ ∀ (ds : List D) (us : List V), RDs K μ n H ds us → RDs K μ n (upd H D0 (.lst ws)) ds us := by
  have tupk : ∀ a xs, SqT K H a xs → SqT K (upd H D0 (.lst ws)) a xs := fun a xs q => by
    rcases q with (q | ⟨o, q⟩) | q
    · refine .inl (.inl ?_)
      rw [upd_ne]
      · exact q
      · intro z
        rw [z, e] at q
        cases q
    · refine .inl (.inr ⟨o, ?_⟩)
      rw [upd_ne]
      · exact q
      · intro z
        rw [z, e] at q
        cases q
    · exact .inr q
  have fzk : ∀ a u, Fz μ n H a u → Fz μ n (upd H D0 (.lst ws)) a u := fun a u q => by
    obtain ⟨q, ne, ns⟩ := q
    have na : a ≠ D0 := fun z => ns (z ▸ sD)
    refine ⟨?_, ne, ns⟩
    rcases q with q | ⟨o, q⟩
    · exact .inl (by rw [upd_ne na]; exact q)
    · exact .inr ⟨o, by rw [upd_ne na]; exact q⟩
  exact ⟨fun d v q => RD.gen tupk fzk (fun p hp _ => ⟨hp, rfl⟩) d v (RD.cl d v q) q, fun ds us q => RDs.gen tupk fzk (fun p hp _ => ⟨hp, rfl⟩) ds us (RDs.cl ds us q) q⟩
theorem HR.updS (r : HR K μ h H) {D0 : Addr} {vs ws : List V} (sD : μ.s D0) (e : H D0 = some (.lst vs)) : HR K μ h (upd H D0 (.lst ws)) := by
  refine ⟨r.tb, tabs_kept r.ts fun b o q c => ?_, fun a sa => ?_, r.sp, r.inj, fun p o q => ?_⟩
  · rw [upd_ne (lst_ne_c e q c)]
    exact q
  · by_cases ha : a = D0
    · rw [ha, upd_same]; exact fun z => nomatch z
    · rw [upd_ne ha]; exact r.sn a sa
  · have hp : p < h.length := by
      rcases Nat.lt_or_ge p h.length with z | z
      · exact z
      · rw [List.getElem?_eq_none z] at q; cases q
    exact (r.ob p o q).map (fun u z => by rw [upd_ne (r.sp _ sD p hp)]; exact z) (RD.updS sD e).1 (RD.updS sD e).2
-- without what stands at a
def del (H : Hp) (a : Addr) : Hp := fun b => if b = a then none else H b
theorem del_same (H : Hp) (a : Addr) : del H a a = none := if_pos rfl
theorem del_ne {H : Hp} {a b : Addr} (h : b ≠ a) : del H a b = H b := if_neg h
theorem del_some {H : Hp} {a b : Addr} {o : HO} (h : del H a b = some o) : b ≠ a ∧ H b = some o := by
  by_cases e : b = a
  · rw [e, del_same] at h; cases h
  · rw [del_ne e] at h; exact ⟨e, h⟩
theorem del_upd {H : Hp} {a : Addr} {o : HO} (h : H a = none) : del (upd H a o) a = H := by
  funext b
  by_cases e : b = a
  · rw [e, del_same, h]
  · rw [del_ne e, upd_ne e]
theorem upd_del {H : Hp} {a : Addr} {o : HO} (h : H a = some o) : upd (del H a) a o = H := by
  funext b
  by_cases e : b = a
  · rw [e, upd_same, h]
  · rw [upd_ne e, del_ne e]
-- without a, where nothing holds a
theorem Post.del (P : Post K μ h H μ' h' H') {a : Addr} (r : HR K μ' h' (del H' a)) (e : H a = none) : Post K μ h H μ' h' (del H' a) :=
  ⟨P.len, P.sd1, P.sd2, P.ext, r, P.fresh, fun b o q ne nt => by rw [del_ne (ne_of_none q e)]; exact P.keep b o q ne nt⟩
-- an address that may change is held by nothing
theorem RD.delS {D0 : Addr} {vs : List V} (sD : μ.s D0) (e : H D0 = some (.lst vs)) {μ0 : Mu} (hf : ∀ p, p < n → μ0 p = μ p) (hs : ∀ a, μ0.s a → μ.s a) : (∀ (d : D) (v : V), RD K μ n H d v → RD K μ0 n (MP.del H D0) d v) ∧ ∀ (ds : List D) (us : List V), RDs K μ n H ds us → RDs K μ0 n (MP.del H D0) ds us := by
  have k : ∀ {b : Addr} {u : HO}, H b = some u → (∀ zs, u ≠ .lst zs) → b ≠ D0 := fun {b u} q k z => by
    rw [z, e] at q
    cases q
    exact k _ rfl
  have tupk : ∀ a xs, SqT K H a xs → SqT K (MP.del H D0) a xs := fun a xs q => by
    rcases q with (q | ⟨o, q⟩) | q
    · exact .inl (.inl (by rw [del_ne (k q fun _ z => nomatch z)]; exact q))
    · exact .inl (.inr ⟨o, by rw [del_ne (k q fun _ z => nomatch z)]; exact q⟩)
    · exact .inr q
  have fzk : ∀ a u, Fz μ n H a u → Fz μ0 n (MP.del H D0) a u := fun a u q => by
    obtain ⟨q, ne, ns⟩ := q
    have na : a ≠ D0 := fun z => ns (z ▸ sD)
    refine ⟨?_, fun p hp => by rw [hf p hp]; exact ne p hp, fun z => ns (hs a z)⟩
    rcases q with q | ⟨o, q⟩
    · exact .inl (by rw [del_ne na]; exact q)
    · exact .inr ⟨o, by rw [del_ne na]; exact q⟩
  exact ⟨fun d v q => RD.gen tupk fzk (fun p hp _ => ⟨hp, hf p hp⟩) d v (RD.cl d v q) q, fun ds us q => RDs.gen tupk fzk (fun p hp _ => ⟨hp, hf p hp⟩) ds us (RDs.cl ds us q) q⟩
theorem HR.delS (r : HR K μ h H) {D0 : Addr} {vs : List V} (sD : μ.s D0) (e : H D0 = some (.lst vs)) {μ0 : Mu} (hf : ∀ p, p < h.length → μ0 p = μ p) (hs : ∀ a, μ0.s a → μ.s a) (hn : ¬ μ0.s D0) (ht : ∀ p ∈ tabs K, μ0.s p.1) : HR K μ0 h (MP.del H D0) := by
  refine ⟨ht, tabs_kept r.ts fun b o q c => by rw [del_ne (lst_ne_c e q c)]; exact q, fun a sa => ?_, fun a sa p hp => by rw [hf p hp]; exact r.sp a (hs a sa) p hp, fun p q hp hq e => r.inj p q hp hq (by rw [← hf p hp, ← hf q hq]; exact e), fun p ob q => ?_⟩
  · have na : a ≠ D0 := fun z => hn (z ▸ sa)
    rw [del_ne na]
    exact r.sn a (hs a sa)
  have hp : p < h.length := by
    rcases Nat.lt_or_ge p h.length with z | z
    · exact z
    · rw [List.getElem?_eq_none z] at q; cases q
  have := r.ob p ob q
  rw [hf p hp]
  exact this.map (fun u z => by rw [del_ne (r.sp _ sD p hp)]; exact z) (RD.delS sD e hf hs).1 (RD.delS sD e hf hs).2
-- a new place
def Mu.put (μ : Mu) (n : Nat) (a : Addr) : Mu := ⟨fun p => if p = n then a else μ.f p, μ.s⟩
theorem Mu.put_same (μ : Mu) (n : Nat) (a : Addr) : (μ.put n a) n = a := if_pos rfl
theorem Mu.put_ne (μ : Mu) {n p : Nat} (a : Addr) (hp : p ≠ n) : (μ.put n a) p = μ p := if_neg hp
theorem RD.put {a : Addr} {o : HO} (e : H a = none) : (∀ (d : D) (v : V), RD K μ n H d v → RD K (μ.put n a) (n + 1) (upd H a o) d v) ∧ ∀ (ds : List D) (us : List V), RDs K μ n H ds us → RDs K (μ.put n a) (n + 1) (upd H a o) ds us := by
  have k : ∀ {b : Addr} {u : HO}, H b = some u → b ≠ a := fun {b u} q => ne_of_none q e
  have tupk : ∀ b xs, SqT K H b xs → SqT K (upd H a o) b xs := fun b xs q => by
    rcases q with (q | ⟨u, q⟩) | q
    · exact .inl (.inl (by rw [upd_ne (k q)]; exact q))
    · exact .inl (.inr ⟨u, by rw [upd_ne (k q)]; exact q⟩)
    · exact .inr q
  have fzk : ∀ b u, Fz μ n H b u → Fz (μ.put n a) (n + 1) (upd H a o) b u := fun b u q => by
    obtain ⟨q, ne, ns⟩ := q
    have na : b ≠ a := by
      rcases q with q | ⟨u, q⟩
      · exact k q
      · exact k q
    refine ⟨?_, fun p hp => ?_, ns⟩
    · rcases q with q | ⟨u, q⟩
      · exact .inl (by rw [upd_ne na]; exact q)
      · exact .inr ⟨u, by rw [upd_ne na]; exact q⟩
    · by_cases hq : p = n
      · rw [hq, Mu.put_same]; exact Ne.symm na
      · rw [Mu.put_ne _ _ hq]; exact ne p (by omega)
  have pl : ∀ p, p < n → p < n → p < n + 1 ∧ (μ.put n a) p = μ p := fun p hp _ => ⟨by omega, Mu.put_ne _ _ (by omega)⟩
  exact ⟨fun d v q => RD.gen tupk fzk pl d v (RD.cl d v q) q, fun ds us q => RDs.gen tupk fzk pl ds us (RDs.cl ds us q) q⟩
theorem Post.putO (r : HR K μ h H) {a : Addr} {o : O} {u : HO} (e : H a = none) (t : RO K (μ.put h.length a) (h.length + 1) (upd H a u) a o) : Post K μ h H (μ.put h.length a) (h ++ [o]) (upd H a u) := by
  have hl : (h ++ [o]).length = h.length + 1 := by simp
  have np : ∀ p, p < h.length → μ p ≠ a := r.ne_none e
  have na : ∀ b, μ.s b → b ≠ a := fun b sb z => r.sn b sb (by rw [z]; exact e)
  refine ⟨by omega, fun _ z => z, fun _ z => .inl z, fun p hp => Mu.put_ne _ _ (by omega), ⟨r.tb, r.ts.ext fun b o q => by rw [upd_ne (ne_of_none q e)]; exact q, fun b sb => ?_, fun b sb p hp => ?_, fun p q hp hq ee => ?_, fun p ob q => ?_⟩, fun p h1 h2 => ?_, fun b o q _ _ => by rw [upd_ne (ne_of_none q e)]; exact q⟩
  · rw [upd_ne (na b sb)]
    exact r.sn b sb
  · by_cases hq : p = h.length
    · rw [hq, Mu.put_same]; exact Ne.symm (na b sb)
    · rw [Mu.put_ne _ _ hq]; exact r.sp b sb p (by omega)
  · by_cases hp' : p = h.length
    · by_cases hq' : q = h.length
      · rw [hp', hq']
      · rw [hp', Mu.put_same, Mu.put_ne _ _ hq'] at ee
        exact absurd ee.symm (np q (by omega))
    · by_cases hq' : q = h.length
      · rw [hq', Mu.put_same, Mu.put_ne _ _ hp'] at ee
        exact absurd ee (np p (by omega))
      · rw [Mu.put_ne _ _ hp', Mu.put_ne _ _ hq'] at ee
        exact r.inj p q (by omega) (by omega) ee
  · rw [hl]
    by_cases hp' : p = h.length
    · subst hp'
      rw [List.getElem?_append_right (Nat.le_refl _)] at q
      simp only [Nat.sub_self, List.getElem?_cons_zero, Option.some.injEq] at q
      subst q
      rw [Mu.put_same]
      exact t
    · rw [Mu.put_ne _ _ hp']
      have hlt : p < h.length := by
        rcases Nat.lt_or_ge p h.length with z | z
        · exact z
        · rw [List.getElem?_eq_none (by rw [hl]; omega)] at q; cases q
      rw [List.getElem?_append_left hlt] at q
      have := r.ob p ob q
      rw [hl] at *
      exact this.map (fun u z => by rw [upd_ne (np p hlt)]; exact z) (RD.put e).1 (RD.put e).2
  · have : p = h.length := by omega
    rw [this, Mu.put_same]
    exact e
theorem Post.put (r : HR K μ h H) {a : Addr} {l : List D} {vs : List V} (e : H a = none) (t : RDs K μ h.length H l vs) : Post K μ h H (μ.put h.length a) (h ++ [.lst l]) (upd H a (.lst vs)) :=
  Post.putO r e ⟨vs, upd_same, (RD.put e).2 _ _ t⟩
theorem Post.putD (r : HR K μ h H) {a : Addr} {l : List (Sum Int Str × D)} {kvs : List (Key × V)} (e : H a = none) (ek : kvs.map (·.1) = l.map (·.1)) (t : RDs K μ h.length H (l.map (·.2)) (kvs.map (·.2))) : Post K μ h H (μ.put h.length a) (h ++ [.dic l]) (upd H a (.dK kvs)) :=
  Post.putO r e ⟨kvs, upd_same, ek, (RD.put e).2 _ _ t⟩
def Mu.add (μ : Mu) (D0 : Addr) : Mu := ⟨μ.f, fun a => μ.s a ∨ a = D0⟩
-- a new address is made one that may change
theorem RD.addS {D0 : Addr} {o : HO} (e : H D0 = none) : (∀ (d : D) (v : V), RD K μ n H d v → RD K (μ.add D0) n (upd H D0 o) d v) ∧ ∀ (ds : List D) (us : List V), RDs K μ n H ds us → RDs K (μ.add D0) n (upd H D0 o) ds us := by
  have k : ∀ b u, H b = some u → b ≠ D0 := fun b u q z => by rw [z, e] at q; cases q
  have tupk : ∀ a xs, SqT K H a xs → SqT K (upd H D0 o) a xs := fun a xs q => by
    rcases q with (q | ⟨o, q⟩) | q
    · exact .inl (.inl (by rw [upd_ne (k _ _ q)]; exact q))
    · exact .inl (.inr ⟨o, by rw [upd_ne (k _ _ q)]; exact q⟩)
    · exact .inr q
  have fzk : ∀ a u, Fz μ n H a u → Fz (μ.add D0) n (upd H D0 o) a u := fun a u q => by
    obtain ⟨q, ne, ns⟩ := q
    have na : a ≠ D0 := by
      rcases q with q | ⟨o, q⟩
      · exact k _ _ q
      · exact k _ _ q
    refine ⟨?_, ne, fun z => z.elim ns na⟩
    rcases q with q | ⟨o, q⟩
    · exact .inl (by rw [upd_ne na]; exact q)
    · exact .inr ⟨o, by rw [upd_ne na]; exact q⟩
  exact ⟨fun d v q => RD.gen tupk fzk (fun p hp _ => ⟨hp, rfl⟩) d v (RD.cl d v q) q, fun ds us q => RDs.gen tupk fzk (fun p hp _ => ⟨hp, rfl⟩) ds us (RDs.cl ds us q) q⟩
theorem HR.addS (r : HR K μ h H) {D0 : Addr} {o : HO} (e : H D0 = none) : HR K (μ.add D0) h (upd H D0 o) := by
  have np : ∀ p, p < h.length → μ p ≠ D0 := r.ne_none e
  refine ⟨fun p m => .inl (r.tb p m), r.ts.ext fun b o q => by rw [upd_ne (ne_of_none q e)]; exact q, fun a sa => ?_, fun a sa p hp => ?_, r.inj, fun p ob q => ?_⟩
  · by_cases ha : a = D0
    · rw [ha, upd_same]; exact fun z => nomatch z
    · rw [upd_ne ha]; exact r.sn a (sa.resolve_right ha)
  · rcases sa with sa | sa
    · exact r.sp a sa p hp
    · rw [sa]; exact np p hp
  · have hp : p < h.length := by
      rcases Nat.lt_or_ge p h.length with z | z
      · exact z
      · rw [List.getElem?_eq_none z] at q; cases q
    have := r.ob p ob q
    exact this.map (fun u z => by rw [show (μ.add D0) p = μ p from rfl, upd_ne (np p hp)]; exact z) (RD.addS e).1 (RD.addS e).2
-- fewer addresses that may change
theorem RD.less {μ0 : Mu} (hf : ∀ p, p < n → μ0 p = μ p) (hs : ∀ a, μ0.s a → μ.s a) : (∀ (d : D) (v : V), RD K μ n H d v → RD K μ0 n H d v) ∧ ∀ (ds : List D) (us : List V), RDs K μ n H ds us → RDs K μ0 n H ds us := by
  have fzk : ∀ a u, Fz μ n H a u → Fz μ0 n H a u := fun a u ⟨q, ne, ns⟩ => ⟨q, fun p hp => by rw [hf p hp]; exact ne p hp, fun z => ns (hs a z)⟩
  exact ⟨fun d v q => RD.gen (fun _ _ z => z) fzk (fun p hp _ => ⟨hp, hf p hp⟩) d v (RD.cl d v q) q, fun ds us q => RDs.gen (fun _ _ z => z) fzk (fun p hp _ => ⟨hp, hf p hp⟩) ds us (RDs.cl ds us q) q⟩
theorem HR.less (r : HR K μ h H) {μ0 : Mu} (hf : ∀ p, p < h.length → μ0 p = μ p) (hs : ∀ a, μ0.s a → μ.s a) (ht : ∀ p ∈ tabs K, μ0.s p.1) : HR K μ0 h H := by
  refine ⟨ht, r.ts, fun a sa => r.sn a (hs a sa), fun a sa p hp => by rw [hf p hp]; exact r.sp a (hs a sa) p hp, fun p q hp hq e => r.inj p q hp hq (by rw [← hf p hp, ← hf q hq]; exact e), fun p ob q => ?_⟩
  have hp : p < h.length := by
    rcases Nat.lt_or_ge p h.length with z | z
    · exact z
    · rw [List.getElem?_eq_none z] at q; cases q
  have := r.ob p ob q
  rw [hf p hp]
  exact this.map (fun u z => z) (RD.less hf hs).1 (RD.less hf hs).2
-- a new address D0 that may change: from its making on
theorem Post.startS (r : HR K μ h H) {D0 : Addr} {o : HO} (e : H D0 = none) : Post K μ h H (μ.add D0) h (upd H D0 o) :=
  ⟨Nat.le_refl _, fun _ z => .inl z, fun a z => z.elim .inl fun q => .inr (by rw [q]; exact e), fun _ _ => rfl, r.addS e, fun p h1 h2 => absurd h2 (by omega), fun b u q _ _ => by rw [upd_ne (ne_of_none q e)]; exact q⟩
-- it is written
theorem Post.updS (P : Post K μ h H μ' h' H') {D0 : Addr} (e1 : H D0 = none) (sD : μ'.s D0) {vs ws : List V} (e : H' D0 = some (.lst vs)) : Post K μ h H μ' h' (upd H' D0 (.lst ws)) :=
  ⟨P.len, P.sd1, P.sd2, P.ext, P.hr.updS sD e, P.fresh, fun b o q ne nt => by rw [upd_ne (ne_of_none q e1)]; exact P.keep b o q ne nt⟩
-- it is left
theorem Post.endS (P : Post K μ h H μ' h' H') (r : HR K μ h H) : Post K μ h H ⟨μ'.f, μ.s⟩ h' H' :=
  ⟨P.len, fun _ z => z, fun _ z => .inl z, P.ext, P.hr.less (μ0 := ⟨μ'.f, μ.s⟩) (fun _ _ => rfl) P.sd1 r.tb, P.fresh, P.keep⟩
end
end MP

/-! MP.Read: the evaluator's results as readings. -/
namespace MP
open PySem PySem.Spec PyProof.Rows L2

abbrev Rel (α β : Type) := (Mu) → Heap → Hp → Hp → α → β → Prop
-- an exception: its class by its name, its fields
def RX (K : PySem.W.Frag) (μ : Mu) (n : Nat) (H : Hp) (x : Ex) (c : Value) (d : Option Addr) : Prop :=
  ∃ C, PySem.W.nsIn K mainGlobals x.cls = some (some (.ref C)) ∧ c = .ref C ∧
    (x.fs = [] ∨ ∃ dx vfs, d = some dx ∧ H dx = some (.xd vfs) ∧ ∀ f dv, (f, dv) ∈ x.fs → ∃ v, vfs.lookup f = some v ∧ RD K μ n H dv v)
def RR (K : PySem.W.Frag) : Rel R V := fun μ hp H0 H r v => match r with
  | .v d => RD K μ hp.length H d v
  | .newL l => ∃ a vs, v = .ref a ∧ H a = some (.lst vs) ∧ HR K μ hp (del H a) ∧ H0 a = none ∧ RDs K μ hp.length (del H a) l vs
  | .newD l => ∃ (a : Addr) (kvs : List (Key × V)), v = .ref a ∧ H a = some (.dK kvs) ∧ HR K μ hp (del H a) ∧ H0 a = none ∧ kvs.map (·.1) = l.map (·.1) ∧ RDs K μ hp.length (del H a) (l.map (·.2)) (kvs.map (·.2))
  | .newO c l => ∃ (a dx : Addr) (vs : List V), v = .ref a ∧ H a = some (SlX.SlO a (He.ga K c) dx (vs.map some)) ∧ HR K μ hp (del H a) ∧ H0 a = none ∧ RD K μ hp.length (del H a) .own (.ref dx) ∧ RDs K μ hp.length (del H a) l vs
def RA (K : PySem.W.Frag) : Rel (List D) (List V) := fun μ hp _ H ds vs => RDs K μ hp.length H ds vs
def RB : Rel Bool Bool := fun _ _ _ _ a b => a = b
def ER (K : PySem.W.Frag) (μ : Mu) (n : Nat) (H : Hp) (g : Env) (σ : L2.St) : Prop :=
  g.length = σ.length ∧ ∀ (i : Nat) (d : D), g[i]? = some (some d) → ∃ v : V, σ[i]? = some (some v) ∧ RD K μ n H d v

def Fin {α β : Type} (K : PySem.W.Frag) (W : XK) (ρ : Rel α β) (μ : Mu) (h : Heap) (H : Hp) : Res α → (β → Hp → Prop) → Prop
  | some (.ok a h'), Q => ∀ b H' μ', Post K μ h H μ' h' H' → ρ μ' h' H H' a b → Q b H'
  | some (.exc x h'), _ => ∀ c d H' μ', Post K μ h H μ' h' H' → RX K μ' h'.length H' x c d → W c d H'
  | none, _ => False
def Back {α β : Type} (K : PySem.W.Frag) (ρ : Rel α β) : Prop := ∀ {μ μ1 μ2 : Mu} {h h1 h2 : Heap} {H H1 H2 : Hp} {a : α} {b : β}, Post K μ h H μ1 h1 H1 → ρ μ2 h2 H1 H2 a b → ρ μ2 h2 H H2 a b

section
variable {α β γ δ : Type} {K : PySem.W.Frag} {W : XK} {ρ : Rel α β} {ρ' : Rel γ δ} {μ μ' μ1 μ2 : Mu} {h h' h1 h2 : Heap} {H H' H1 H2 : Hp} {n : Nat}
theorem back_RR : Back K (RR K) := fun {μ μ1 μ2 h h1 h2 H H1 H2 r v} P q => by
  cases r with
  | v d => exact q
  | newL l =>
    obtain ⟨a, vs, e, e1, hr, e0, t⟩ := q
    exact ⟨a, vs, e, e1, hr, P.none_back e0, t⟩
  | newD l =>
    obtain ⟨a, vs, e, e1, hr, e0, t⟩ := q
    exact ⟨a, vs, e, e1, hr, P.none_back e0, t⟩
  | newO c l =>
    obtain ⟨a, dx, vs, e, e1, hr, e0, t0, t⟩ := q
    exact ⟨a, dx, vs, e, e1, hr, P.none_back e0, t0, t⟩
theorem RR.mk {H0 : Hp} {p : Addr} {l : List D} {vs : List V} (r : HR K μ h H) (hp : H p = none) (h0 : H0 p = none) (t : RDs K μ h.length H l vs) : RR K μ h H0 (upd H p (.lst vs)) (.newL l) (.ref p) :=
  ⟨p, vs, rfl, upd_same, by rw [del_upd hp]; exact r, h0, by rw [del_upd hp]; exact t⟩
theorem RR.mkD {H0 : Hp} {p : Addr} {l : List (Sum Int Str × D)} {kvs : List (Key × V)} (r : HR K μ h H) (hp : H p = none) (h0 : H0 p = none) (ek : kvs.map (·.1) = l.map (·.1)) (t : RDs K μ h.length H (l.map (·.2)) (kvs.map (·.2))) : RR K μ h H0 (upd H p (.dK kvs)) (.newD l) (.ref p) :=
  ⟨p, kvs, rfl, upd_same, by rw [del_upd hp]; exact r, h0, ek, by rw [del_upd hp]; exact t⟩
theorem RDs.toS : ∀ {l : List D} {vs : List V}, RDs K μ n H l vs → RS K μ n H (l.map some) (vs.map some) := fun {l vs} q => by
  have go : ∀ (l : List D) (vs : List V), RDs K μ n H l vs → l.length = vs.length ∧ ∀ (i : Nat) (d : D), l[i]? = some d → ∃ v : V, vs[i]? = some v ∧ RD K μ n H d v := by
    intro l
    induction l with
    | nil =>
      intro vs q
      simp only [RDs] at q
      subst q
      exact ⟨rfl, fun i d e => by simp at e⟩
    | cons d l ih =>
      intro vs q
      simp only [RDs] at q
      obtain ⟨v, r, rfl, q1, q2⟩ := q
      obtain ⟨a, b⟩ := ih r q2
      refine ⟨by simp [a], fun i d' e => ?_⟩
      cases i with
      | zero =>
        simp only [List.getElem?_cons_zero, Option.some.injEq] at e
        subst e
        exact ⟨v, rfl, q1⟩
      | succ i => exact b i d' e
  obtain ⟨a, b⟩ := go l vs q
  refine ⟨by simpa using a, fun i d e => ?_⟩
  rw [List.getElem?_map] at e
  cases c : l[i]? with
  | none => rw [c] at e; cases e
  | some d' =>
    rw [c] at e
    cases e
    obtain ⟨v, e1, e2⟩ := b i _ c
    exact ⟨v, by rw [List.getElem?_map, e1]; rfl, e2⟩
theorem RS.all : ∀ {l : List (Option D)} {l' : List D} {vs : List (Option V)}, allS l = some l' → RS K μ n H l vs → ∃ ws : List V, vs = ws.map some ∧ RDs K μ n H l' ws
  | [], l', vs, e, q => by
    cases e
    obtain ⟨a, _⟩ := q
    have : vs = [] := List.length_eq_zero_iff.mp a.symm
    subst this
    exact ⟨[], rfl, by simp only [RDs]⟩
  | none :: l, l', vs, e, q => by cases e
  | some d :: l, l', vs, e, q => by
    simp only [allS] at e
    cases c : allS l with
    | none => rw [c] at e; cases e
    | some m =>
      rw [c] at e
      cases e
      obtain ⟨a, b⟩ := q
      cases vs with
      | nil => cases a
      | cons v vs =>
        obtain ⟨u, e1, e2⟩ := b 0 d rfl
        simp only [List.getElem?_cons_zero, Option.some.injEq] at e1
        subst e1
        obtain ⟨ws, rfl, t⟩ := RS.all c ⟨by simpa using a, fun i d' e => b (i + 1) d' e⟩
        exact ⟨u :: ws, rfl, by simp only [RDs]; exact ⟨u, ws, rfl, e2, t⟩⟩
theorem own_fz {v : V} {dx : Addr} (q : RD K μ n H .own (.ref dx)) : Fz μ n H dx (.xd []) := by
  simp only [RD] at q
  obtain ⟨d, e, s⟩ := q
  cases e
  exact s
theorem back_RA : Back K (RA K) := fun _ q => q
theorem back_RB : Back K RB := fun _ q => q
theorem RR.frz {H0 : Hp} {r : R} {v : V} (q : RR K μ h H0 H r v) : RD K μ h.length H r.frz v := by
  cases r with
  | v d => exact q
  | newL l =>
    obtain ⟨a, vs, e, e1, hr, e0, t⟩ := q
    have Pn := Post.new (o := .lst vs) hr (del_same H a)
    have t2 := RDs.mono Pn hr _ _ t
    rw [upd_del e1] at t2
    simp only [R.frz_newL, RD]
    exact ⟨a, vs, e, .inr ⟨.inl e1, hr.ne_none (del_same H a), fun z => hr.sn a z (del_same H a)⟩, t2⟩
  | newD l =>
    obtain ⟨a, kvs, e, e1, hr, e0, ek, t⟩ := q
    have Pn := Post.new (o := .dK kvs) hr (del_same H a)
    have t2 := RDs.mono Pn hr _ _ t
    rw [upd_del e1] at t2
    simp only [R.frz_newD, RD]
    exact ⟨a, kvs, e, ⟨.inl e1, hr.ne_none (del_same H a), fun z => hr.sn a z (del_same H a)⟩, ek, t2⟩
  | newO c l =>
    obtain ⟨a, dx, vs, e, e1, hr, e0, t0, t⟩ := q
    have Pn := Post.new (o := SlX.SlO a (He.ga K c) dx (vs.map some)) hr (del_same H a)
    have t2 := RDs.mono Pn hr _ _ t
    have t3 := RD.mono Pn hr _ _ t0
    rw [upd_del e1] at t2 t3
    simp only [R.frz_newO, RD]
    exact ⟨a, dx, vs, e, ⟨.inl e1, hr.ne_none (del_same H a), fun z => hr.sn a z (del_same H a)⟩, own_fz (v := v) t3, t2⟩
theorem ER.mono {g : Env} {σ : L2.St} (P : Post K μ h H μ' h' H') (r : HR K μ h H) (q : ER K μ h.length H g σ) : ER K μ' h'.length H' g σ :=
  ⟨q.1, fun i d e => by
    obtain ⟨v, e1, e2⟩ := q.2 i d e
    exact ⟨v, e1, RD.mono P r d v e2⟩⟩
theorem ER.set {g : Env} {σ : L2.St} (q : ER K μ n H g σ) {i : Nat} {d : D} {v : V} (rd : RD K μ n H d v) : ER K μ n H (g.set i (some d)) (σ.set i (some v)) := by
  refine ⟨by simp [q.1], fun j d' e => ?_⟩
  by_cases hj : i = j
  · subst hj
    rw [List.getElem?_set] at e
    simp only [if_true] at e
    split at e
    · rename_i hl
      cases e
      refine ⟨v, ?_, rd⟩
      rw [List.getElem?_set]
      simp [← q.1, hl]
    · cases e
  · rw [List.getElem?_set_ne hj] at e
    obtain ⟨w, e1, e2⟩ := q.2 j d' e
    exact ⟨w, by rw [List.getElem?_set_ne hj]; exact e1, e2⟩
theorem ER.wipe {g : Env} {σ : L2.St} (q : ER K μ n H g σ) : ∀ ws : List Nat, ER K μ n H (wipes g ws) (wipe σ ws)
  | [] => q
  | w :: ws => by
    have ih := ER.wipe q ws
    refine ⟨by simp [wipes, L2.wipe, ih.1], fun j d e => ?_⟩
    simp only [wipes, L2.wipe] at e ⊢
    by_cases hj : w = j
    · subst hj
      rw [List.getElem?_set] at e
      simp only [if_true] at e
      split at e <;> cases e
    · rw [List.getElem?_set_ne hj] at e
      obtain ⟨w', e1, e2⟩ := ih.2 j d e
      exact ⟨w', by rw [List.getElem?_set_ne hj]; exact e1, e2⟩
theorem Fin.from {res : Res α} {Q : β → Hp → Prop} (F : Fin K W ρ μ h H res Q) (P : Post K μ h H μ1 h1 H1) (bk : Back K ρ) : Fin K W ρ μ1 h1 H1 res Q := by
  cases res with
  | none => exact F
  | some o =>
    cases o with
    | ok a h2 => exact fun b H2 μ2 P2 q => F b H2 μ2 (P.trans P2) (bk P q)
    | exc x h2 => exact fun c d H2 μ2 P2 q => F c d H2 μ2 (P.trans P2) q
theorem Fin.bind {m : Res α} {k : α → Heap → Res γ} {Q : δ → Hp → Prop} {Q1 : β → Hp → Prop} (F : Fin K W ρ' μ h H (bd m k) Q)
    (hk : ∀ a h1 b H1 μ1, Post K μ h H μ1 h1 H1 → ρ μ1 h1 H H1 a b → Fin K W ρ' μ h H (k a h1) Q → Q1 b H1) : Fin K W ρ μ h H m Q1 := by
  cases m with
  | none => exact F
  | some o =>
    cases o with
    | ok a h2 => exact fun b H2 μ2 P2 q => hk a h2 b H2 μ2 P2 q F
    | exc x h2 => exact F
theorem Fin.ok {a : α} {Q : β → Hp → Prop} (F : Fin K W ρ μ h H (some (.ok a h)) Q) (r : HR K μ h H) {b : β} (q : ρ μ h H H a b) : Q b H := F b H μ (Post.refl r) q
theorem Fin.imp {res : Res α} {Q Q' : β → Hp → Prop} (F : Fin K W ρ μ h H res Q) (i : ∀ b H', Q b H' → Q' b H') : Fin K W ρ μ h H res Q' := by
  cases res with
  | none => exact F
  | some o =>
    cases o with
    | ok a h2 => exact fun b H2 μ2 P2 q => i _ _ (F b H2 μ2 P2 q)
    | exc x h2 => exact F
theorem Fin.okP {a : α} {Q : β → Hp → Prop} (F : Fin K W ρ μ h H (some (.ok a h')) Q) (P : Post K μ h H μ' h' H') {b : β} (q : ρ μ' h' H H' a b) : Q b H' := F b H' μ' P q
end

-- a reading by the evaluator
def rd {α β : Type} (K : PySem.W.Frag) (W : XK) (ρ : Rel α β) (m : Env → Heap → Res α) : L2.St → Hp → (β → Hp → Prop) → Prop := fun σ H Q =>
  ∃ μ g h, HR K μ h H ∧ ER K μ h.length H g σ ∧ Fin K W ρ μ h H (m g h) Q
abbrev rE (K : PySem.W.Frag) (W : XK) (m : Env → Heap → Res R) : TE := rd K W (RR K) m
abbrev rA (K : PySem.W.Frag) (W : XK) (m : Env → Heap → Res (List D)) : TA := rd K W (RA K) m
abbrev rT (K : PySem.W.Frag) (W : XK) (m : Env → Heap → Res Bool) : TT := rd K W RB m

section
variable {α β γ δ : Type} {K : PySem.W.Frag} {W : XK} {ρ : Rel α β} {ρ' : Rel γ δ} {σ : L2.St} {H : Hp}
-- first m, then what follows
theorem rd_bind {m : Env → Heap → Res α} {k : Env → α → Heap → Res γ} {Q : δ → Hp → Prop} {Q1 : β → Hp → Prop} (q : rd K W ρ' (fun g h => bd (m g h) (k g)) σ H Q) (bk : Back K ρ')
    (hk : ∀ μ1 g h1 H1 a b H0, HR K μ1 h1 H1 → ER K μ1 h1.length H1 g σ → ρ μ1 h1 H0 H1 a b → Fin K W ρ' μ1 h1 H1 (k g a h1) Q → Q1 b H1) : rd K W ρ m σ H Q1 := by
  obtain ⟨μ, g, h, r, er, F⟩ := q
  exact ⟨μ, g, h, r, er, F.bind fun a h1 b H1 μ1 P q F1 => hk μ1 g h1 H1 a b H P.hr (er.mono P r) q (F1.from P bk)⟩
end

-- an operator of two values
def r2 (K : PySem.W.Frag) (W : XK) (f : D → D → Heap → Res R) : R2 := fun x y H Q => ∃ μ h d1 d2, HR K μ h H ∧ RD K μ h.length H d1 x ∧ RD K μ h.length H d2 y ∧ Fin K W (RR K) μ h H (f d1 d2 h) Q
def r1 (K : PySem.W.Frag) (W : XK) (f : D → Heap → Res R) : V → Hp → VK → Prop := fun x H Q => ∃ μ h d1, HR K μ h H ∧ RD K μ h.length H d1 x ∧ Fin K W (RR K) μ h H (f d1 h) Q
def rL (K : PySem.W.Frag) (W : XK) (f : List D → Heap → Res R) : List V → Hp → VK → Prop := fun xs H Q => ∃ μ h ds, HR K μ h H ∧ RDs K μ h.length H ds xs ∧ Fin K W (RR K) μ h H (f ds h) Q
section
variable {K : PySem.W.Frag} {W : XK} {σ : L2.St} {H : Hp} {Q : VK} {ma mb mc : Env → Heap → Res R}
theorem rd_two {f : D → D → Heap → Res R} (q : rE K W (fun g h => bd (ma g h) fun x h => bd (mb g h) fun y h => f x.frz y.frz h) σ H Q) : tOp (r2 K W f) (rE K W ma) (rE K W mb) σ H Q := by
  refine rd_bind (ρ := RR K) q back_RR fun μ1 g h1 H1 r1 v1 H0 hr er q1 F => ?_
  refine ⟨μ1, g, h1, hr, er, F.bind fun r2 h2 v2 H2 μ2 P q2 F2 => ?_⟩
  exact ⟨μ2, h2, _, _, P.hr, RD.mono P hr _ _ q1.frz, q2.frz, F2.from P back_RR⟩
theorem rd_one {f : D → Heap → Res R} (q : rE K W (fun g h => bd (ma g h) fun x h => f x.frz h) σ H Q) : tUn (r1 K W f) (rE K W ma) σ H Q := by
  refine rd_bind (ρ := RR K) q back_RR fun μ1 g h1 H1 r1 v1 H0 hr er q1 F => ?_
  exact ⟨μ1, h1, _, hr, q1.frz, F⟩
theorem rd_args {ms : Env → Heap → Res (List D)} {f : List D → Heap → Res R} (q : rE K W (fun g h => bd (ms g h) fun ds h => f ds h) σ H Q) : tCB (rL K W f) (rA K W ms) σ H Q := by
  refine rd_bind (ρ := RA K) q back_RR fun μ1 g h1 H1 r1 v1 H0 hr er q1 F => ?_
  exact ⟨μ1, h1, _, hr, q1, F⟩
end

section
variable {X : Cx}
theorem PE_imp {e : Expr} {t t' : TE} (p : PE X e t) (i : ∀ σ H Q, t' σ H Q → t σ H Q) : PE X e t' := ⟨fun pins s σ H Q I q => p.run pins s σ H Q I (i σ H Q q)⟩
theorem PT_imp {e : Expr} {t t' : TT} (p : PT X e t) (i : ∀ σ H Q, t' σ H Q → t σ H Q) : PT X e t' := ⟨fun pins s σ H Q I q => p.run pins s σ H Q I (i σ H Q q)⟩
theorem PA_imp {e : List Expr} {t t' : TA} (p : PA X e t) (i : ∀ σ H Q, t' σ H Q → t σ H Q) : PA X e t' := ⟨fun pos pins s σ H Q I q => p.run pos pins s σ H Q I (i σ H Q q)⟩
theorem PS_imp {e : Stmt} {t t' : TS} (p : PS X e t) (i : ∀ D σ H, t' D σ H → t D σ H) : PS X e t' := ⟨fun pins s σ H D I q => p.run pins s σ H D I (i D σ H q)⟩
theorem PSs_imp {e : List Stmt} {t t' : TS} (p : PSs X e t) (i : ∀ D σ H, t' D σ H → t D σ H) : PSs X e t' := ⟨fun pins s σ H D I q => p.run pins s σ H D I (i D σ H q)⟩
theorem OpR_imp {f : Value → Value → Sem Value} {r r' : R2} (p : OpR X f r) (i : ∀ x y H Q, r' x y H Q → r x y H Q) : OpR X f r' := fun pins s σ H x y v u Q I rx ry q => p pins s σ H x y v u Q I rx ry (i x y H Q q)
theorem UnR_imp {f : Value → Sem Value} {r r' : V → Hp → VK → Prop} (p : UnR X f r) (i : ∀ x H Q, r' x H Q → r x H Q) : UnR X f r' := fun pins s σ H x v Q I rx q => p pins s σ H x v Q I rx (i x H Q q)
theorem CallR_imp {f : Value} {r r' : List V → Hp → VK → Prop} (p : CallR X f r) (i : ∀ xs H Q, r' xs H Q → r xs H Q) : CallR X f r' := fun pins s σ H vs us Q I rx q => p pins s σ H vs us Q I rx (i vs H Q q)
theorem IxR_imp {r r' : R2} (p : IxR X r) (i : ∀ x y H Q, r' x y H Q → r x y H Q) : IxR X r' := fun va sl pins s σ H x y v u Q I rx ry q hs => p va sl pins s σ H x y v u Q I rx ry (i x y H Q q) hs
theorem MtR_imp {id : String} {r r' : V → List V → Hp → VK → Prop} (p : MtR X id r) (i : ∀ x xs H Q, r' x xs H Q → r x xs H Q) : MtR X id r' := fun pins s σ H x xs v us Q I rx ry q => p pins s σ H x xs v us Q I rx ry (i x xs H Q q)
theorem SlR_imp {r r' : V → Option Int → Option Int → Hp → VK → Prop} (p : L2.SlR X r) (i : ∀ x lo hi H Q, r' x lo hi H Q → r x lo hi H Q) : L2.SlR X r' := by
  intro pins s σ H x v vl vu lo hi sl Q I rx hs pl pu q
  exact p pins s σ H x v vl vu lo hi sl Q I rx hs pl pu (i x lo hi H Q q)
end
end MP

/-! MP.Chk: is a text of the model this text of MP? -/
namespace MP
open PySem PySem.Spec PyProof.Rows L2

structure PInfo where
  names : List Str
  globs : List (Str × D)
  -- own exceptions, each with the field of its __init__; which is of which class
  exs : List (Str × Option Str) := []
  sub : List (Str × Str × Bool) := []
  -- classes with their slots; their defs (class, name, is it a property), behind those of the module
  cls : List (Str × List Str) := []
  meths : List (Str × Str × Bool) := []
  -- defs that call what they get; may lambdas stand here
  mets : List (Str × Met) := []
  lams : List Str := []
  lam : Bool := false
def PInfo.wl (P : PInfo) (b : Bool) : PInfo := { P with lam := b }
abbrev PInfo.nolam (P : PInfo) : PInfo := P.wl false
def noPar (p : Arguments) : Bool := match p with
  | ⟨[], [], none, [], [], none, []⟩ => true
  | _ => false

-- def f is the def m of the class c
def PInfo.methB (P : PInfo) (c m : Str) (b : Bool) (f : Nat) : Bool := decide (P.names.length ≤ f) && decide (P.meths[f - P.names.length]? = some (c, m, b))
def PInfo.slotB (P : PInfo) (c m : Str) (i : Nat) : Bool := P.cls.any fun q => decide (q.1 = c) && decide (q.2[i]? = some m)
def PInfo.hasC (P : PInfo) (c : Str) : Bool := P.cls.any fun q => decide (q.1 = c)
def visB (sc : Scope) (x : Str) : Bool := match sc.names.lookup x with
  | some .local => true
  | some .cell => true
  | some .free => true
  | _ => false
def locB (sc : Scope) (x : Str) : Bool := match sc.names.lookup x with
  | some .local => true
  | some .cell => true
  | _ => false
def gloB (sc : Scope) (x : Str) : Bool := decide (sc.names.lookup x = some .globalImplicit) && !(x == ("__debug__" : Str)) && !decide (x = ("__name__" : Str))
theorem visB_ok {sc : Scope} {x : Str} (h : visB sc x = true) : Vis sc x := by
  unfold visB at h
  unfold Vis
  cases e : sc.names.lookup x with
  | none => rw [e] at h; cases h
  | some k => rw [e] at h; cases k <;> first | exact .inl rfl | exact .inr (.inl rfl) | exact .inr (.inr rfl) | cases h
theorem locB_ok {sc : Scope} {x : Str} (h : locB sc x = true) : L2.Loc sc x := by
  unfold locB at h
  unfold L2.Loc
  cases e : sc.names.lookup x with
  | none => rw [e] at h; cases h
  | some k => rw [e] at h; cases k <;> first | exact .inl rfl | exact .inr rfl | cases h

def bopB : BOp → Operator → Bool
  | .add, .Add => true
  | .sub, .Sub => true
  | .mul, .Mult => true
  | .fdiv, .FloorDiv => true
  | .mod, .Mod => true
  | .pow, .Pow => true
  | _, _ => false
def copB : COp → CmpOp → Bool
  | .eq, .Eq => true
  | .ne, .NotEq => true
  | .lt, .Lt => true
  | .le, .LtE => true
  | .gt, .Gt => true
  | .ge, .GtE => true
  | .isN, .Is => true
  | .notN, .IsNot => true
  | .mem, .In => true
  | .nmem, .NotIn => true
  | _, _ => false
def constB : D → Const → Bool
  | .non, .none => true
  | .bl b, .bool c => b == c
  | .int i, .int j => decide (i = j)
  | .str x, .str y => decide (x = y)
  | _, _ => false
def b1N : B1 → Str
  | .len => "len"
  | .abs => "abs"
  | .int => "int"
  | .str => "str"
  | .repr => "repr"
def b2N : B2 → Str
  | .min => "min"
  | .max => "max"
def tyN : Ty → String
  | .int => "int"
  | .bool => "bool"
  | .tuple => "tuple"
  | .list => "list"
  | .str => "str"
def biN : BI → Str
  | .tuple => "tuple"
  | .list => "list"
  | .sum => "sum"
  | .all => "all"
  | .any => "any"
  | .sorted => "sorted"
def meN : M → Str
  | .append => "append"
  | .pop => "pop"
  | .index => "index"

def tupI : I → Bool
  | .enum _ => true
  | .zip _ _ => true
  | _ => false
def isTupE : Expr → Bool
  | .Tuple _ _ _ => true
  | _ => false
def biOk : BI → I → Bool
  | .tuple, .of _ => true
  | .tuple, .range1 _ => true
  | .tuple, .range2 _ _ => true
  | .list, .of _ => true
  | .list, .range1 _ => true
  | .list, .range2 _ _ => true
  | .sum, .of _ => true
  | .all, .of _ => true
  | .any, .of _ => true
  | .sorted, .of _ => true
  | _, _ => false
mutual
def chkT (ck : Bool) (N : List Str) (sc : Scope) : Tg → Expr → Bool
  | .slot i, x => match x with
    | .Name n _ => decide (N[i]? = some n) && (decide (sc.names.lookup n = some .local) || (ck && decide (sc.names.lookup n = some .cell)))
    | _ => false
  | .tup ts, x => match x with
    | .Tuple es _ _ => chkTs ck N sc ts es
    | _ => false
def chkTs (ck : Bool) (N : List Str) (sc : Scope) : List Tg → List Expr → Bool
  | [], es => match es with
    | [] => true
    | _ => false
  | t :: ts, es => match es with
    | [] => false
    | e :: es => chkT ck N sc t e && chkTs ck N sc ts es
end
-- a block's scope within a scope
def relS (scope sc : Scope) : Scope := { scope with names := scope.names.map fun (n, k) => if k == .free && sc.kind == .function && sc.names.lookup n == some .cell then (n, .cell) else (n, k) }

-- e as a test, where its truth is its value's
def plainT : Expr → Bool
  | .UnaryOp .Not _ _ => false
  | .BoolOp _ _ _ => false
  | .IfExp _ _ _ _ => false
  | .Compare _ _ _ _ => false
  | _ => true
mutual
def chk (P : PInfo) (N : List Str) (sc : Scope) : E → Expr → Bool
  | .var i, x => match x with
    | .Name n _ => decide (N[i]? = some n) && (visB sc n && (!(n == ("__debug__" : Str)) && !(n == ("__classdict__" : Str))))
    | _ => false
  | .c d, x => match x with
    | .Constant k _ _ => constB d k
    | _ => false
  | .glob k, x => match x with
    | .Name n _ => decide ((P.globs[k]?).map Prod.fst = some n) && gloB sc n
    | _ => false
  | .bin op a b, x => match x with
    | .BinOp a' o b' _ => bopB op o && (chk P N sc a a' && chk P N sc b b')
    | _ => false
  | .neg a, x => match x with
    | .UnaryOp .USub a' _ => chk P N sc a a'
    | _ => false
  | .not a, x => match x with
    | .UnaryOp .Not a' _ => chk P N sc a a'
    | _ => false
  | .cmp op a b, x => match x with
    | .Compare a' [o] [b'] _ => copB op o && (chk P N sc a a' && chk P N sc b b')
    | _ => false
  | .cmp2 o1 o2 a b c, x => match x with
    | .Compare a' [p1, p2] [b', c'] _ => (copB o1 p1 && copB o2 p2) && (chk P N sc a a' && (chk P N sc b b' && chk P N sc c c'))
    | _ => false
  | .and a b, x => match x with
    | .BoolOp .And (a' :: r) pos => chk P N sc a a' && (match r with
      | [] => false
      | [b'] => chk P N sc b b'
      | b' :: c' :: r' => chk P N sc b (.BoolOp .And (b' :: c' :: r') pos))
    | _ => false
  | .or a b, x => match x with
    | .BoolOp .Or (a' :: r) pos => chk P N sc a a' && (match r with
      | [] => false
      | [b'] => chk P N sc b b'
      | b' :: c' :: r' => chk P N sc b (.BoolOp .Or (b' :: c' :: r') pos))
    | _ => false
  | .ite c a b, x => match x with
    | .IfExp c' a' b' _ => chk P N sc c c' && (chk P N sc a a' && chk P N sc b b')
    | _ => false
  | .tup es, x => match x with
    | .Tuple es' _ _ => chks P N sc es es'
    | _ => false
  | .lst es, x => match x with
    | .List es' _ => chks P N sc es es'
    | _ => false
  | .ix a b, x => match x with
    | .Subscript a' b' _ => chk P N sc a a' && chk P N sc b b'
    | _ => false
  | .slice a bl bh lo hi, x => match x with
    | .Subscript a' (.Slice lo' hi' none _) _ => chk P N sc a a' && ((match lo' with
      | none => !bl
      | some y => bl && chk P N sc lo y) && (match hi' with
      | none => !bh
      | some y => bh && chk P N sc hi y))
    | _ => false
  | .call f es, x => match x with
    | .Call (.Name n _) (e' :: es') [] _ => decide (P.names[f]? = some n) && (gloB sc n && chks P N sc es (e' :: es'))
    | _ => false
  | .b1 f a, x => match x with
    | .Call (.Name n _) [a'] [] _ => decide (n = b1N f) && (gloB sc n && chk P N sc a a')
    | _ => false
  | .b2 f a b, x => match x with
    | .Call (.Name n _) [a', b'] [] _ => decide (n = b2N f) && (gloB sc n && (chk P N sc a a' && chk P N sc b b'))
    | _ => false
  | .isinst a t, x => match x with
    | .Call (.Name n _) [a', .Name m _] [] _ => decide (n = ("isinstance" : Str)) && (gloB sc n && (decide (m = Str.ofString (tyN t)) && (gloB sc m && chk P N sc a a')))
    | _ => false
  | .bi f i, x => match x with
    | .Call (.Name n _) [a'] [] _ => decide (n = biN f) && (biOk f i && (gloB sc n && chkI P N sc i a'))
    | _ => false
  | .lc elt tg it cond ws, x => match x with
    | .ListComp elt' [⟨tg', it', ifs', 0⟩] scope _ => blkC N sc scope (ws.map fun i => (N.getD i ⟨#[]⟩, i)) && (chkI P N sc it it' && (chkT false N (relS scope sc) tg tg' && (chks P N (relS scope sc) cond ifs' && (chk P N (relS scope sc) elt elt' && (decide (cond.length ≤ 1) && ((slots tg).all (ws.contains ·) && (!tupI it || isTupE tg')))))))
    | _ => false
  | .meth m o es, x => match x with
    | .Call (.Attribute o' n p) es' [] q => decide (n = meN m) && ((p.endLine == q.line) && (decide (es'.length < 29) && (chk P N sc o o' && chks P N sc es es')))
    | _ => false
  | .alloc e, x => plainT x && chk P N sc e x
  | .dct, x => match x with
    | .Dict [] [] _ => true
    | _ => false
  | .srtD a, x => match x with
    | .Call (.Name n _) [a'] [] _ => decide (n = ("sorted" : Str)) && (gloB sc n && chk P N sc a a')
    | _ => false
  | .mkX y f a, x => match x with
    | .Call (.Name n _) [a'] [] _ => decide (n = y) && (P.exs.contains (y, f) && (gloB sc n && chk P N sc a a'))
    | _ => false
  | .isX a t yes no, x => match x with
    | .Call (.Name n _) [a', .Name m _] [] _ => (decide (n = ("isinstance" : Str)) && decide (m = t)) && (((yes.all fun y => P.sub.contains (y, t, true)) && (no.all fun y => P.sub.contains (y, t, false))) && ((!(yes.isEmpty && no.isEmpty)) && (gloB sc n && (gloB sc m && chk P N sc a a'))))
    | _ => false
  | .xf a f cs, x => match x with
    | .Attribute a' n _ => decide (n = f) && ((cs.all fun y => P.exs.contains (y, some f)) && chk P N sc a a')
    | _ => false
  | .mk c f es, x => match x with
    | .Call (.Name n _) (e' :: es') [] _ => decide (n = c) && (P.methB c "__init__" false f && (gloB sc n && chks P N sc es (e' :: es')))
    | _ => false
  | .sl c i a, x => match x with
    | .Attribute a' n _ => P.slotB c n i && chk P N sc a a'
    | _ => false
  | .pr c f a, x => match x with
    | .Attribute a' n _ => P.methB c n true f && chk P N sc a a'
    | _ => false
  | .mc c f a es, x => match x with
    | .Call (.Attribute o' n p) es' [] q => P.methB c n false f && ((p.endLine == q.line) && (decide (es'.length < 29) && (chk P N sc a o' && chks P N sc es es')))
    | _ => false
  | .isO a c cs, x => match x with
    | .Call (.Name n _) [a', .Name m _] [] _ => (decide (n = ("isinstance" : Str)) && decide (m = c)) && ((P.hasC c && cs.all P.hasC) && (gloB sc n && (gloB sc m && chk P N sc a a')))
    | _ => false
  | .eqO c f a b, x => match x with
    | .Compare a' [o] [b'] _ => copB .eq o && (P.methB c "__eq__" false f && (chk P N sc a a' && chk P N sc b b'))
    | _ => false
  | .fn y, x => match x with
    | .Name n _ => decide (n = y) && (P.names.contains y && gloB sc n)
    | _ => false
  | .callv fs i es, x => match x with
    | .Call (.Name n _) (e' :: es') [] _ => (fs.all fun q => decide (P.names[q.2]? = some q.1)) && ((decide (N[i]? = some n) && (visB sc n && (!(n == ("__debug__" : Str)) && !(n == ("__classdict__" : Str))))) && chks P N sc es (e' :: es'))
    | _ => false
  | .met y m e, x => match x with
    | .Call (.Name n _) [.Lambda ps b lsc _] [] _ => (P.lam && (decide (n = y) && decide ((y, m) ∈ P.mets))) && (gloB sc n && (LamX.lamSB sc lsc && (noPar ps && chk P.nolam N lsc e b)))
    | _ => false
def chks (P : PInfo) (N : List Str) (sc : Scope) : List E → List Expr → Bool
  | [], xs => match xs with
    | [] => true
    | _ => false
  | e :: es, xs => match xs with
    | [] => false
    | x :: xs => chk P N sc e x && chks P N sc es xs
def chkI (P : PInfo) (N : List Str) (sc : Scope) : I → Expr → Bool
  | .of e, x => chk P N sc e x
  | .range1 a, x => match x with
    | .Call (.Name n _) [a'] [] _ => decide (n = ("range" : Str)) && (gloB sc n && chk P N sc a a')
    | _ => false
  | .range2 a b, x => match x with
    | .Call (.Name n _) [a', b'] [] _ => decide (n = ("range" : Str)) && (gloB sc n && (chk P N sc a a' && chk P N sc b b'))
    | _ => false
  | .enum a, x => match x with
    | .Call (.Name n _) [a'] [] _ => decide (n = ("enumerate" : Str)) && (gloB sc n && chk P N sc a a')
    | _ => false
  | .zip a b, x => match x with
    | .Call (.Name n _) [a', b'] [] _ => decide (n = ("zip" : Str)) && (gloB sc n && (chk P N sc a a' && chk P N sc b b'))
    | _ => false
end

-- [..] for a name, made in place
def swB (sc : Scope) (e t : Expr) : Bool := match e, t with
  | .ListComp _ _ s p, .Name y py => (decide (sc.names.lookup y = some .local) && (py.line == p.line)) && !(s.names.any fun (n, k) => n == y && (k == .local || k == .cell))
  | _, _ => false
def noComp : Expr → Bool
  | .ListComp _ _ _ _ => false
  | .SetComp _ _ _ _ => false
  | .DictComp _ _ _ _ _ => false
  | _ => true
def isLc : Expr → Bool
  | .ListComp _ _ _ _ => true
  | _ => false
-- the plain names among targets
def nmS (sc : Scope) (ts : List Expr) : List Str := ts.filterMap fun
  | .Name id pos => if sc.names.lookup id == some .local && pos.line == (ts.head?.map (·.pos.line)).getD 0 then some id else none
  | _ => none
-- a, b = x, y: surely not stored from the right
def swN (sc : Scope) (t e : Expr) : Bool := match t, e with
  | .Tuple ts _ _, .Tuple vs _ _ => ((!(ts.length == 2 || ts.length == 3) || vs.length != ts.length) || (nmS sc ts).length != ts.length) || vs.all (foldedForSure 8)
  | .List _ _, _ => false
  | _, _ => true
-- a, b = x, y: surely stored from the right
def swY (sc : Scope) (ts vs : List Expr) : Option (List Str) := if (ts.length == 2 || ts.length == 3) && (vs.length == ts.length) && (nmS sc ts).length == ts.length && (nmS sc ts).eraseDups.length == (nmS sc ts).length && !vs.all (foldedForSure 8) && !vs.all (constantsAlone 8) then some (nmS sc ts) else none
section
variable (P : PInfo) (N : List Str)
def chkAs (sc : Scope) : List (Str × Nat × E) → List Expr → Bool
  | [], xs => match xs with
    | [] => true
    | _ => false
  | t :: ts, xs => match xs with
    | .Attribute o n _ :: xs => P.slotB t.1 n t.2.1 && (chk P N sc t.2.2 o && chkAs sc ts xs)
    | _ => false
mutual
def chkS (sc : Scope) : St → Stmt → Bool
  | .asg tg e, x => match x with
    | .Assign [t] e' _ => chkT true N sc tg t && (chk P N sc e e' && ((noComp e' || isLc e') && swN sc t e'))
    | _ => false
  | .par is es, x => match is, x with
    | [i, j], .Assign [.Tuple [.Name a p, .Name b q] kt pt] (.Tuple [u, v] k2 p2) _ => (decide (N[i]? = some a) && (decide (N[j]? = some b) && (decide (i ≠ j) && (decide (sc.names.lookup a = some .local) && decide (sc.names.lookup b = some .local))))) &&
      (chks P N sc es [u, v] && decide (swY sc [.Name a p, .Name b q] [u, v] = some [a, b]))
    | [i, j, l], .Assign [.Tuple [.Name a p, .Name b q, .Name c r] kt pt] (.Tuple [u, v, w] k2 p2) _ => (decide (N[i]? = some a) && (decide (N[j]? = some b) && (decide (N[l]? = some c) && ((decide (i ≠ j) && (decide (i ≠ l) && decide (j ≠ l))) && (decide (sc.names.lookup a = some .local) && (decide (sc.names.lookup b = some .local) && decide (sc.names.lookup c = some .local))))))) &&
      (chks P N sc es [u, v, w] && decide (swY sc [.Name a p, .Name b q, .Name c r] [u, v, w] = some [a, b, c]))
    | _, _ => false
  | .aug i op e, x => match x with
    | .AugAssign (.Name n _) o e' _ => decide (N[i]? = some n) && (locB sc n && (chk P N sc e e' && (bopB op o && (op == .add || op == .sub))))
    | _ => false
  | .setix o k e, x => match x with
    | .Assign [.Subscript o' k' _] e' _ => chk P N sc o o' && (chk P N sc k k' && (chk P N sc e e' && (noComp e' || isLc e')))
    | _ => false
  | .sst c i o e, x => match x with
    | .Assign [.Attribute o' n _] e' _ => P.slotB c n i && (chk P N sc o o' && (chk P N sc e e' && (noComp e' || isLc e')))
    | _ => false
  | .augix op o k e, x => match x with
    | .AugAssign (.Subscript o' k' _) p e' _ => chk P N sc o o' && (chk P N sc k k' && (chk P N sc e e' && (bopB op p && (op == .add || op == .sub))))
    | _ => false
  | .sstT ts e, x => match x with
    | .Assign [.Tuple es kt pt] e' _ => chkAs P N sc ts es && (chk P N sc e e' && ((noComp e' || isLc e') && swN sc (.Tuple es kt pt) e'))
    | _ => false
  | .expr e, x => match x with
    | .Expr e' _ => chk P N sc e e' && noComp e'
    | _ => false
  | .ret e, x => match x with
    | .Return (some e') _ => chk P N sc e e'
    | _ => false
  | .ret0, x => match x with
    | .Return none _ => true
    | _ => false
  | .if_ c a b, x => match x with
    | .If c' a' b' _ => chk P N sc c c' && (chkSs sc a a' && chkSs sc b b')
    | _ => false
  | .for_ tg it body, x => match x with
    | .For tg' it' body' [] _ => chkT true N sc tg tg' && (chkI P N sc it it' && (chkSs sc body body' && (!tupI it || isTupE tg')))
    | _ => false
  | .while_ c body, x => match x with
    | .While c' body' [] _ => chk P N sc c c' && chkSs sc body body'
    | _ => false
  | .pass, x => match x with
    | .Pass _ => true
    | .Expr (.Constant (.str _) _ _) _ => true
    | _ => false
  | .brk, x => match x with
    | .Break _ => true
    | _ => false
  | .cont, x => match x with
    | .Continue _ => true
    | _ => false
  | .raise_ y f e, x => match x with
    | .Raise (some (.Call (.Name n _) [a'] [] _)) none _ => decide (n = y) && (P.exs.contains (y, f) && (gloB sc n && chk P N sc e a'))
    | _ => false
  | .never, _ => true
def chkSs (sc : Scope) : List St → List Stmt → Bool
  | [], xs => match xs with
    | [] => true
    | _ => false
  | e :: es, xs => match xs with
    | [] => false
    | x :: xs => chkS sc e x && chkSs sc es xs
end
end

-- the promise of a def
def spI (K : PySem.W.Frag) (np : Nat) (f : List D → Heap → Res R) : Sp := fun vs H Q E => vs.length = np ∧ ∃ μ h ds, HR K μ h H ∧ RDs K μ h.length H ds vs ∧ Fin K E (RR K) μ h H (f ds h) Q

def blts : List Str := ["len", "abs", "int", "min", "max", "isinstance", "bool", "tuple", "list", "str", "sum", "all", "any", "sorted", "range", "enumerate", "zip", "repr"]
-- a plain value of the module
def RG : D → V → Prop
  | .non, v => v = .non
  | .bl b, v => v = .bl b
  | .int i, v => v = .int i
  | .str x, v => v = .str x
  | _, _ => False
-- the module's own exceptions
structure XIs (prog : Program) (K : PySem.W.Frag) (mg : Str → Option Value) (x t : Str) (b : Bool) : Prop where
  cls : ExcC K (He.ga K x)
  ans : (∃ ts : String, t = Str.ofString ts ∧ mg t = none ∧ bootBuiltins t = some (.type ts) ∧ PySem.W.kitOne K (.ref (He.ga K x)) (.type ts) = some b) ∨ (mg t = some (.ref (He.ga K t)) ∧ PySem.W.kitOne K (.ref (He.ga K x)) (.ref (He.ga K t)) = some b)
structure XOwn (K : PySem.W.Frag) (mg : Str → Option Value) (x : Str) : Prop where
  mga : mg x = some (.ref (He.ga K x))
  kp : PySem.W.keepIn K (.ref (He.ga K x)) = true
structure XFacts (P : PInfo) (prog : Program) (K : PySem.W.Frag) (mg : Str → Option Value) : Prop where
  mx : ∀ x f, (x, some f) ∈ P.exs → XOwn K mg x ∧ (∃ b, XMk prog K (He.ga K x) f b) ∧ XfC K (He.ga K x) ∧ PySem.W.findIn K (.ref (He.ga K x)) f = some none
  mm : ∀ x, (x, none) ∈ P.exs → XOwn K mg x ∧ PySem.W.excIn K (He.ga K x) XB.value.bm XB.value.newId = true
  is_ : ∀ x t b, (x, t, b) ∈ P.sub → XIs prog K mg x t b
  rs : ∀ x f, (x, f) ∈ P.exs → PySem.W.nsIn K mainGlobals x = some (some (.ref (He.ga K x))) ∧ PySem.W.subIn K (.ref (He.ga K x)) (.type "BaseException") = some true ∧ PySem.W.typeIn K (.ref (He.ga K x)) = some (.type "type")
-- the module's own classes
structure XCls (K : PySem.W.Frag) (mg : Str → Option Value) (c : Str) : Prop where
  own : XOwn K mg c
  sc : SlX.SCls K (He.ga K c)
  si : SlX.SIsi K (He.ga K c)
  mkI : PySem.W.makesIn K (He.ga K c) = true
structure CFacts (P : PInfo) (K : PySem.W.Frag) (mg : Str → Option Value) : Prop where
  cl : ∀ c, P.hasC c = true → XCls K mg c
  sl : ∀ c m i, P.slotB c m i = true → ∃ p, SlX.Slot1 K (He.ga K c) m p i
  is_ : ∀ c c', P.hasC c = true → P.hasC c' = true → PySem.W.kitOne K (.ref (He.ga K c')) (.ref (He.ga K c)) = some (decide (c' = c))
  mc : ∀ c m b f, P.methB c m b f = true → P.hasC c = true
-- a def that calls what it gets
structure MetOk (K : PySem.W.Frag) (mg : Str → Option Value) (x : Str) (m : Met) : Prop where
  mga : mg x = some (.ref (He.ga K x))
  kp : PySem.W.keepIn K (.ref (He.ga K x)) = true
  fn : ∃ (oc : Value) (od : Option Addr) (pg : Arguments) (bg : List Stmt) (sg : Scope) (dV kV doc pm : Value) (an : Option Addr) (cdv ct : Value) (osl : Array (Option Value)) (N : List Str) (a : Str),
    K.lookup (He.ga K x) = some ⟨oc, od, .func (PySem.W.fnOf x x pg bg sg dV kV doc pm an cdv ct), osl⟩ ∧ PySem.W.codeIn K cdv x = true ∧ L2.Binds K (PySem.W.fnOf x x pg bg sg dV kV doc pm an cdv ct) [a] [] ∧ FnScope N [a] sg ∧ N[0]? = some a ∧ Vis sg a ∧
      metB m N a sg bg = true ∧ (a == ("__debug__" : Str)) = false ∧ (a == ("__classdict__" : Str)) = false
  hs : ∀ q ∈ m.hs, mg q.1 = some (.ref (He.ga K q.1))
  ex : ∀ e ∈ m.ex, PySem.W.exmOne K (.ref (He.ga K e.1)) (.ref (He.ga K e.2.1)) = some e.2.2
  xs : ∀ q ∈ m.xs, XfC K (He.ga K q.1) ∧ PySem.W.findIn K (.ref (He.ga K q.1)) q.2 = some none
structure Good (P : PInfo) (Φ : Nat → List D → Heap → Res R) (G : Nat → Option D) (k : Nat) (X : Cx) (W : XK) : Prop where
  nd : X.N.Nodup
  calm : X.calm = true
  room : GRoom k X.A
  room2 : GRoom (k + 1) X.A
  pos : 0 < k
  tk : Takes X (fun c d _ H => W c d H)
  blt : ∀ x ∈ blts, X.mg x = none
  glob : ∀ i x d, P.globs[i]? = some (x, d) → G i = some d ∧ ∃ v u, X.mg x = some u ∧ RelV v u ∧ RG d v
  xs : XFacts P X.prog X.K X.mg
  os : CFacts P X.K X.mg
  mths : ∀ f c m b, P.methB c m b f = true → ∃ a np, (if b = true then Prop1 X.K (He.ga X.K c) m a else Meth X.K (He.ga X.K c) m a) ∧ FnG X.prog X.w X.K X.mg X.base (L2.CX X.prog X.w) k a (spI X.K np (Φ f)) ∧ ∀ ds h, Φ f ds h ≠ none → ds.length = np
  fns : ∀ f x, P.names[f]? = some x → ∃ np, X.mg x = some (.ref (He.ga X.K x)) ∧ PySem.W.keepIn X.K (.ref (He.ga X.K x)) = true ∧ FnG X.prog X.w X.K X.mg X.base (L2.CX X.prog X.w) k (He.ga X.K x) (spI X.K np (Φ f)) ∧ ∀ ds h, Φ f ds h ≠ none → ds.length = np
  mets : ∀ x m, (x, m) ∈ P.mets → MetOk X.K X.mg x m
  lam : P.lam = true → ∃ c Pt, X.env.code = .ref c ∧ LamX.TabB X.base X.mg c Pt ∧ (Pt, X.env.qual ++ "<lambda>") ∈ tabs X.K ∧ (∀ q ∈ tabs X.K, q.1 = Pt → q.2 = X.env.qual ++ "<lambda>") ∧ GRoom (k + 3) X.A
theorem RG.rd {d : D} {v : V} (q : RG d v) (K : PySem.W.Frag) (μ : Mu) (n : Nat) (H : Hp) : RD K μ n H d v := by
  cases d <;> first | exact q | exact q.elim
end MP

/-! MP.Snd1: the evaluator is right: shapes, names, operators. -/
namespace MP
open PySem PySem.Spec PyProof.Rows L2

def shape : Expr → Bool
  | .Starred _ _ => false
  | .Set _ _ _ => false
  | .Slice _ _ _ _ => false
  | _ => true
section
variable {P : PInfo} {N : List Str} {sc : Scope}
theorem chk_star (y : Expr) (p : Pos) : ∀ e : E, chk P N sc e (.Starred y p) = false
  | .alloc e => by
    have := chk_star y p e
    simp only [chk, this, Bool.and_false]
  | .var _ | .c _ | .glob _ | .bin _ _ _ | .neg _ | .not _ | .cmp _ _ _ | .cmp2 _ _ _ _ _ | .and _ _ | .or _ _ | .ite _ _ _ | .tup _ | .lst _ | .ix _ _ | .slice _ _ _ _ _ | .call _ _ | .b1 _ _ | .b2 _ _ _ | .isinst _ _ | .bi _ _ | .lc _ _ _ _ _ | .meth _ _ _ | .dct | .srtD _ | .mkX _ _ _ | .isX _ _ _ _ | .xf _ _ _ | .mk _ _ _ | .sl _ _ _ | .pr _ _ _ | .mc _ _ _ _ | .isO _ _ _ | .eqO _ _ _ _ | .fn _ | .callv _ _ _ | .met _ _ _ => by simp only [chk]
theorem chk_set (y : List Expr) (k : Nat) (p : Pos) : ∀ e : E, chk P N sc e (.Set y k p) = false
  | .alloc e => by
    have := chk_set y k p e
    simp only [chk, this, Bool.and_false]
  | .var _ | .c _ | .glob _ | .bin _ _ _ | .neg _ | .not _ | .cmp _ _ _ | .cmp2 _ _ _ _ _ | .and _ _ | .or _ _ | .ite _ _ _ | .tup _ | .lst _ | .ix _ _ | .slice _ _ _ _ _ | .call _ _ | .b1 _ _ | .b2 _ _ _ | .isinst _ _ | .bi _ _ | .lc _ _ _ _ _ | .meth _ _ _ | .dct | .srtD _ | .mkX _ _ _ | .isX _ _ _ _ | .xf _ _ _ | .mk _ _ _ | .sl _ _ _ | .pr _ _ _ | .mc _ _ _ _ | .isO _ _ _ | .eqO _ _ _ _ | .fn _ | .callv _ _ _ | .met _ _ _ => by simp only [chk]
theorem chk_slice (a b c : Option Expr) (p : Pos) : ∀ e : E, chk P N sc e (.Slice a b c p) = false
  | .alloc e => by
    have := chk_slice a b c p e
    simp only [chk, this, Bool.and_false]
  | .var _ | .c _ | .glob _ | .bin _ _ _ | .neg _ | .not _ | .cmp _ _ _ | .cmp2 _ _ _ _ _ | .and _ _ | .or _ _ | .ite _ _ _ | .tup _ | .lst _ | .ix _ _ | .slice _ _ _ _ _ | .call _ _ | .b1 _ _ | .b2 _ _ _ | .isinst _ _ | .bi _ _ | .lc _ _ _ _ _ | .meth _ _ _ | .dct | .srtD _ | .mkX _ _ _ | .isX _ _ _ _ | .xf _ _ _ | .mk _ _ _ | .sl _ _ _ | .pr _ _ _ | .mc _ _ _ _ | .isO _ _ _ | .eqO _ _ _ _ | .fn _ | .callv _ _ _ | .met _ _ _ => by simp only [chk]
theorem chk_shape {e : E} {x : Expr} (h : chk P N sc e x = true) : shape x = true := by
  cases x <;> first | rfl | (rw [chk_star] at h; cases h) | (rw [chk_set] at h; cases h) | (rw [chk_slice] at h; cases h)
end
theorem shape_star {x : Expr} (h : shape x = true) (es : List Expr) (env : PySem.Env) : starEach (x :: es) env = (false, PySem.eval x env) :: starEach es env := by
  cases x <;> first | rfl | cases h
theorem shape_ix {x : Expr} (h : shape x = true) : PlainIx x := fun o i => by
  cases x <;> first | rfl | cases h
theorem shape_iter {x : Expr} (h : shape x = true) (env : PySem.Env) (v : Value) : foldedSetIterable x env v = pure v := by
  cases x <;> first | rfl | cases h
theorem shape_marks {x : Expr} (h : shape x = true) (op : CmpOp) : behindInMarks op x = false := by
  cases x <;> first | rfl | cases h
theorem shapes_any : ∀ {es : List Expr} (pos : Pos) (env : PySem.Env), (∀ x ∈ es, shape x = true) → (backTo pos (starEach es env)).any (·.1) = false
  | [], _, _, _ => rfl
  | x :: es, pos, env, h => by
    rw [shape_star (h x (by simp))]
    show (false || (backTo pos (starEach es env)).any (·.1)) = false
    rw [shapes_any pos env fun y hy => h y (by simp [hy])]
    rfl
theorem chks_shape {P : PInfo} {N : List Str} {sc : Scope} : ∀ {es : List E} {xs : List Expr}, chks P N sc es xs = true → ∀ x ∈ xs, shape x = true
  | [], [], _ => by simp
  | [], _ :: _, h => by simp [chks] at h
  | _ :: _, [], h => by simp [chks] at h
  | e :: es, x :: xs, h => by
    simp only [chks, Bool.and_eq_true] at h
    intro y hy
    rcases List.mem_cons.mp hy with rfl | hy
    · exact chk_shape h.1
    · exact chks_shape h.2 y hy
theorem gloB_ok {X : Cx} {x : Str} (h : gloB X.env.scope x = true) : Gl X x ∧ (x == ("__debug__" : Str)) = false ∧ x ≠ "__name__" := by
  unfold gloB at h
  simp only [Bool.and_eq_true, decide_eq_true_eq, Bool.not_eq_true', decide_eq_false_iff_not] at h
  exact ⟨h.1.1, h.1.2, h.2⟩
theorem plainT_ok {e : Expr} (h : plainT e = true) (env : PySem.Env) (whole : Sem Value) : isTrue e env whole = (do let v ← whole; standAt e.pos; holding [v] (truthy v)) := by
  cases e with
  | UnaryOp o a p => cases o <;> first | rfl | cases h
  | BoolOp _ _ _ => cases h
  | IfExp _ _ _ _ => cases h
  | Compare _ _ _ _ => cases h
  | _ => rfl
theorem lim_line : (sizeLine : Nat) = lim := by rw [sizeLine_eq]

section
variable {K : PySem.W.Frag} {W : XK} {μ : Mu} {h : Heap} {H : Hp}
-- a sequence, read
theorem seq_of (r : HR K μ h H) {d : D} {v : V} {l : List D} (q : RD K μ h.length H d v) (e : seqOf h d = some l) :
    ∃ a vs, v = .ref a ∧ (SqL K H a vs ∨ SqT K H a vs) ∧ RDs K μ h.length H l vs := by
  cases d with
  | tup m =>
    simp only [seqOf, Option.some.injEq] at e
    subst e
    simp only [RD] at q
    obtain ⟨a, vs, rfl, s, t⟩ := q
    exact ⟨a, vs, rfl, .inr s, t⟩
  | lst m =>
    simp only [seqOf, Option.some.injEq] at e
    subst e
    simp only [RD] at q
    obtain ⟨a, vs, rfl, s, t⟩ := q
    exact ⟨a, vs, rfl, .inl s.sq, t⟩
  | scr m =>
    simp only [seqOf, Option.some.injEq] at e
    subst e
    simp only [RD] at q
    obtain ⟨a, vs, rfl, s, t⟩ := q
    exact ⟨a, vs, rfl, .inl s.sqk, t⟩
  | loc p =>
    simp only [seqOf] at e
    cases c : h[p]? with
    | none => rw [c] at e; cases e
    | some o =>
      rw [c] at e
      cases o with
      | dic _ => cases e
      | obj _ _ => cases e
      | lst m =>
        simp only [Option.some.injEq] at e
        subst e
        obtain ⟨vs, e1, t⟩ := r.ob p _ c
        simp only [RD] at q
        exact ⟨μ p, vs, q.2, .inl (.inl (.inl e1)), t⟩
  | _ => cases e
theorem RDs.length : ∀ {l : List D} {vs : List V} {n : Nat}, RDs K μ n H l vs → vs.length = l.length
  | [], vs, _, q => by
    simp only [RDs] at q
    subst q
    rfl
  | d :: l, vs, _, q => by
    simp only [RDs] at q
    obtain ⟨v, r, rfl, _, t⟩ := q
    simp [RDs.length t]
theorem RDs.get : ∀ {l : List D} {vs : List V} {n : Nat}, RDs K μ n H l vs → ∀ (i : Nat) (d : D), l[i]? = some d → ∃ v, vs[i]? = some v ∧ RD K μ n H d v
  | [], vs, _, q, i, d, e => by simp at e
  | c :: l, vs, _, q, i, d, e => by
    simp only [RDs] at q
    obtain ⟨v, r, rfl, q1, t⟩ := q
    cases i with
    | zero =>
      simp only [List.getElem?_cons_zero, Option.some.injEq] at e
      subst e
      exact ⟨v, rfl, q1⟩
    | succ i =>
      simp only [List.getElem?_cons_succ] at e ⊢
      exact RDs.get t i d e
theorem RDs.isEmpty {l : List D} {vs : List V} {n : Nat} (q : RDs K μ n H l vs) : vs.isEmpty = l.isEmpty := by
  cases l with
  | nil =>
    simp only [RDs] at q
    subst q
    rfl
  | cons d l =>
    simp only [RDs] at q
    obtain ⟨v, r, rfl, _, _⟩ := q
    rfl
-- truth
theorem tru_of (r : HR K μ h H) {d : D} {v : V} {b : Bool} (q : RD K μ h.length H d v) (e : tru h d = some b) : TruV K v H b := by
  cases d with
  | non =>
    cases q
    cases e
    rfl
  | bl c =>
    cases q
    cases e
    rfl
  | int i =>
    cases q
    cases e
    show _ = (i != 0)
    by_cases hi : i = 0 <;> simp [hi]
  | str x =>
    cases q
    simp only [tru] at e
    split at e
    · rename_i hl
      cases e
      refine ⟨by rw [lim_line]; exact hl, ?_⟩
      by_cases hx : x.length = 0 <;> simp [hx]
    · cases e
  | tup l =>
    cases e
    simp only [RD] at q
    obtain ⟨a, vs, rfl, s, t⟩ := q
    exact .inr (.inl ⟨vs, s, by rw [t.isEmpty]⟩)
  | lst l =>
    cases e
    simp only [RD] at q
    obtain ⟨a, vs, rfl, s, t⟩ := q
    exact .inl ⟨vs, s.sq, by rw [t.isEmpty]⟩
  | scr l =>
    cases e
    simp only [RD] at q
    obtain ⟨a, vs, rfl, s, t⟩ := q
    exact .inl ⟨vs, s.sqk, by rw [t.isEmpty]⟩
  | dic ks l => cases e
  | exo x fs l => cases e
  | obj x l => cases e
  | own => cases e
  | fn x => cases e
  | loc p =>
    simp only [tru] at e
    cases c : h[p]? with
    | none => rw [c] at e; cases e
    | some o =>
      rw [c] at e
      cases o with
      | dic _ => cases e
      | obj _ _ => cases e
      | lst m =>
        cases e
        obtain ⟨vs, e1, t⟩ := r.ob p _ c
        simp only [RD] at q
        rw [q.2]
        exact .inl ⟨vs, .inl (.inl e1), by rw [t.isEmpty]⟩
end

section
variable {X : Cx} {W : XK}
-- a value as a test
theorem pt_plain {e : Expr} {m : Env → Heap → Res R} (he : PE X e (rE X.K W m)) (hp : plainT e = true) : PT X e (rT X.K W (tst m)) := by
  refine PT_imp (pt_truth he fun whole => plainT_ok hp X.env whole) fun σ H Q q => ?_
  refine rd_bind (ρ := RR X.K) q back_RB fun μ1 g h1 H1 r v H0 hr er q1 F => ?_
  cases e1 : tru h1 r.frz with
  | none => rw [e1] at F; exact F.elim
  | some b =>
    rw [e1] at F
    exact ⟨b, tru_of hr q1.frz e1, Fin.ok F hr rfl⟩
end
end MP

/-! MP.Gc: what a call leaves. -/
namespace MP
open PySem PySem.Spec PyProof.Rows L2

theorem at_place {K : PySem.W.Frag} {μ : Mu} {h : Heap} {H : Hp} (hr : HR K μ h H) {p : Nat} {x : V} {l : List D} (q : RD K μ h.length H (.loc p) x) (e : h[p]? = some (.lst l)) :
    p < h.length ∧ x = .ref (μ p) ∧ ∃ vs, H (μ p) = some (.lst vs) ∧ RDs K μ h.length H l vs := by
  simp only [RD] at q
  obtain ⟨vs, e1, t⟩ := hr.ob p _ e
  exact ⟨q.1, q.2, vs, e1, t⟩
theorem at_dict {K : PySem.W.Frag} {μ : Mu} {h : Heap} {H : Hp} (hr : HR K μ h H) {p : Nat} {x : V} {l : List (Sum Int Str × D)} (q : RD K μ h.length H (.loc p) x) (e : h[p]? = some (.dic l)) :
    p < h.length ∧ x = .ref (μ p) ∧ ∃ kvs : List (Key × V), H (μ p) = some (.dK kvs) ∧ kvs.map (·.1) = l.map (·.1) ∧ RDs K μ h.length H (l.map (·.2)) (kvs.map (·.2)) := by
  simp only [RD] at q
  obtain ⟨vs, e1, t⟩ := hr.ob p _ e
  exact ⟨q.1, q.2, vs, e1, t⟩
theorem at_obj {K : PySem.W.Frag} {μ : Mu} {h : Heap} {H : Hp} (hr : HR K μ h H) {p : Nat} {x : V} {c : Str} {l : List (Option D)} (q : RD K μ h.length H (.loc p) x) (e : h[p]? = some (.obj c l)) :
    p < h.length ∧ x = .ref (μ p) ∧ ∃ (dx : Addr) (vs : List (Option V)), H (μ p) = some (SlX.SlO (μ p) (He.ga K c) dx vs) ∧ RD K μ h.length H .own (.ref dx) ∧ RS K μ h.length H l vs := by
  simp only [RD] at q
  exact ⟨q.1, q.2, hr.ob p _ e⟩
/-! ### what a call leaves -/
section
variable {K : PySem.W.Frag} {μ : Mu} {h : Heap} {H : Hp} {n : Nat}
theorem Fz.cut {m : Nat} (hn : n ≤ m) {a : Addr} {u : HO} (q : Fz μ m H a u) : Fz μ n H a u := ⟨q.1, fun p hp => q.2.1 p (Nat.lt_of_lt_of_le hp hn), q.2.2⟩
theorem RD.cut {m : Nat} (hn : n ≤ m) : (∀ (d : D) (v : V), MP.cl n d = true → RD K μ m H d v → RD K μ n H d v) ∧ ∀ (ds : List D) (us : List V), clL n ds = true → RDs K μ m H ds us → RDs K μ n H ds us :=
  ⟨fun d v c q => RD.gen (m := n) (fun _ _ z => z) (fun _ _ z => z.cut hn) (fun p _ hp => ⟨hp, rfl⟩) d v c q, fun ds us c q => RDs.gen (m := n) (fun _ _ z => z) (fun _ _ z => z.cut hn) (fun p _ hp => ⟨hp, rfl⟩) ds us c q⟩
theorem take_get {α : Type} {l : List α} {n i : Nat} {a : α} (e : (l.take n)[i]? = some a) : i < n ∧ l[i]? = some a := by
  have hi : i < n := by
    rcases Nat.lt_or_ge i n with z | z
    · exact z
    · rw [List.getElem?_eq_none (by rw [List.length_take]; omega)] at e; cases e
  rw [List.getElem?_take_of_lt hi] at e
  exact ⟨hi, e⟩
theorem HR.cut (r : HR K μ h H) (hn : n ≤ h.length) (hc : ∀ i o, i < n → h[i]? = some o → clO n o = true) : HR K μ (h.take n) H := by
  have hl : (h.take n).length = n := by rw [List.length_take]; omega
  refine ⟨r.tb, r.ts, r.sn, fun a sa p hp => r.sp a sa p (by omega), fun p q hp hq e => r.inj p q (by omega) (by omega) e, fun p o e => ?_⟩
  obtain ⟨hp, e⟩ := take_get e
  rw [hl]
  exact (r.ob p o e).mapC (hc p o hp e) (fun u z => z) (RD.cut hn).1 (RD.cut hn).2
-- a place given up: its list is nothing's
theorem RD.cutDel (r : HR K μ h H) (hn : n ≤ h.length) {p : Nat} (h1 : n ≤ p) (h2 : p < h.length) : (∀ (d : D) (v : V), MP.cl n d = true → RD K μ h.length H d v → RD K μ n (MP.del H (μ p)) d v) ∧ ∀ (ds : List D) (us : List V), clL n ds = true → RDs K μ h.length H ds us → RDs K μ n (MP.del H (μ p)) ds us := by
  have tupk : ∀ a xs, SqT K H a xs → SqT K (MP.del H (μ p)) a xs := fun a xs q => by
    rcases q with (q | ⟨o, q⟩) | q
    · exact .inl (.inl (by rw [del_ne fun z => r.ne_tup q p h2 z.symm]; exact q))
    · exact .inl (.inr ⟨o, by rw [del_ne fun z => r.ne_frz q p h2 z.symm]; exact q⟩)
    · exact .inr q
  have fzk : ∀ a u, Fz μ h.length H a u → Fz μ n (MP.del H (μ p)) a u := fun a u q => by
    obtain ⟨q, ne, ns⟩ := q
    have na : a ≠ μ p := fun z => ne p h2 z.symm
    refine ⟨?_, fun q hq => ne q (by omega), ns⟩
    rcases q with q | ⟨o, q⟩
    · exact .inl (by rw [del_ne na]; exact q)
    · exact .inr ⟨o, by rw [del_ne na]; exact q⟩
  exact ⟨fun d v c q => RD.gen (m := n) tupk fzk (fun p _ hp => ⟨hp, rfl⟩) d v c q, fun ds us c q => RDs.gen (m := n) tupk fzk (fun p _ hp => ⟨hp, rfl⟩) ds us c q⟩
theorem HR.cutDel (r : HR K μ h H) (hn : n ≤ h.length) (hc : ∀ i o, i < n → h[i]? = some o → clO n o = true) {p : Nat} (h1 : n ≤ p) (h2 : p < h.length) : HR K μ (h.take n) (MP.del H (μ p)) := by
  have hl : (h.take n).length = n := by rw [List.length_take]; omega
  refine ⟨r.tb, tabs_kept r.ts fun b o q c => by rw [del_ne fun z => r.ne_c q c p h2 z.symm]; exact q, fun a sa => ?_, fun a sa p hp => r.sp a sa p (by omega), fun p q hp hq e => r.inj p q (by omega) (by omega) e, fun q o e => ?_⟩
  · rw [del_ne fun z => r.sp a sa p h2 z.symm]
    exact r.sn a sa
  obtain ⟨hq, e⟩ := take_get e
  rw [hl]
  refine (r.ob q o e).mapC (hc q o hq e) (fun u z => ?_) (RD.cutDel r hn h1 h2).1 (RD.cutDel r hn h1 h2).2
  rw [del_ne fun w => ?_]
  · exact z
  · have := r.inj q p (by omega) h2 w
    omega
theorem HR.closed (r : HR K μ h H) {i : Nat} {o : O} (e : h[i]? = some o) : clO h.length o = true := by
  exact (r.ob i o e).cl
theorem gc_ok {W : XK} {μ1 : Mu} {h1 : Heap} {H1 : Hp} {r : R} {v : V} {Q : VK} (hr : HR K μ h H) (P : Post K μ h H μ1 h1 H1) (q : RR K μ1 h1 H H1 r v) (F : Fin K W (RR K) μ h H (gc h r h1) Q) : Q v H1 := by
  unfold gc at F
  split at F
  · rename_i ok
    have hn : h.length ≤ h1.length := P.len
    have hl : (h1.take h.length).length = h.length := by rw [List.length_take]; omega
    have hc : ∀ i o, i < h.length → h1[i]? = some o → clO h.length o = true := fun i o hi e => by
      rcases ok.2 i hi with e2 | ⟨o', e2, c⟩
      · rw [e2] at e
        exact hr.closed e
      · rw [e2] at e
        cases e
        exact c
    have Pc : ∀ {H2 : Hp}, Post K μ h H μ1 h1 H2 → Post K μ h H μ1 (h1.take h.length) H2 := fun {H2} P => ⟨by omega, P.sd1, P.sd2, P.ext, P.hr.cut hn hc, fun p a b => absurd b (by omega), P.keep⟩
    cases r with
    | newL l =>
      simp only at F
      split at F
      · rename_i c
        obtain ⟨a, vs, rfl, e1, hra, e0, t⟩ := q
        refine F _ H1 μ1 (Pc P) ⟨a, vs, rfl, e1, hra.cut hn hc, e0, ?_⟩
        rw [hl]
        exact (RD.cut hn).2 _ _ c t
      · exact F.elim
    | newD l =>
      simp only at F
      split at F
      · rename_i c
        obtain ⟨a, vs, rfl, e1, hra, e0, ek, t⟩ := q
        refine F _ H1 μ1 (Pc P) ⟨a, vs, rfl, e1, hra.cut hn hc, e0, ek, ?_⟩
        rw [hl]
        exact (RD.cut hn).2 _ _ c t
      · exact F.elim
    | newO x l =>
      simp only at F
      split at F
      · rename_i c
        obtain ⟨a, dx, vs, rfl, e1, hra, e0, t0, t⟩ := q
        refine F _ H1 μ1 (Pc P) ⟨a, dx, vs, rfl, e1, hra.cut hn hc, e0, ?_, ?_⟩
        · rw [hl]
          exact (RD.cut hn).1 _ _ rfl t0
        · rw [hl]
          exact (RD.cut hn).2 _ _ c t
      · exact F.elim
    | v d =>
      cases d with
      | loc p =>
        simp only at F
        split at F
        · rename_i hp
          refine F v H1 μ1 (Pc P) ?_
          show RD K μ1 (h1.take h.length).length H1 (.loc p) v
          have q : RD K μ1 h1.length H1 (.loc p) v := q
          simp only [RD] at q ⊢
          exact ⟨by omega, q.2⟩
        · rename_i hp
          split at F
          · rename_i l e
            split at F
            · rename_i c
              obtain ⟨hp1, rfl, vs, e1, t⟩ := at_place P.hr q e
              refine F _ H1 μ1 (Pc P) ⟨_, vs, rfl, e1, P.hr.cutDel hn hc (by omega) hp1, P.fresh p (by omega) hp1, ?_⟩
              rw [hl]
              exact (RD.cutDel P.hr hn (by omega) hp1).2 _ _ c t
            · exact F.elim
          · rename_i l e
            split at F
            · rename_i c
              obtain ⟨hp1, rfl, vs, e1, ek, t⟩ := at_dict P.hr q e
              refine F _ H1 μ1 (Pc P) ⟨_, vs, rfl, e1, P.hr.cutDel hn hc (by omega) hp1, P.fresh p (by omega) hp1, ek, ?_⟩
              rw [hl]
              exact (RD.cutDel P.hr hn (by omega) hp1).2 _ _ c t
            · exact F.elim
          · rename_i x l e
            split at F
            · rename_i l' ea
              split at F
              · rename_i c
                obtain ⟨hp1, rfl, dx, vs, e1, t0, t⟩ := at_obj P.hr q e
                obtain ⟨ws, rfl, t9⟩ := RS.all ea t
                refine F _ H1 μ1 (Pc P) ⟨_, dx, ws, rfl, e1, P.hr.cutDel hn hc (by omega) hp1, P.fresh p (by omega) hp1, ?_, ?_⟩
                · rw [hl]
                  exact (RD.cutDel P.hr hn (by omega) hp1).1 _ _ rfl t0
                · rw [hl]
                  exact (RD.cutDel P.hr hn (by omega) hp1).2 _ _ c t9
              · exact F.elim
            · exact F.elim
          · exact F.elim
      | _ =>
        simp only at F
        split at F
        · rename_i c
          refine F v H1 μ1 (Pc P) ?_
          show RD K μ1 (h1.take h.length).length H1 _ v
          rw [hl]
          exact (RD.cut hn).1 _ v c q
        · exact F.elim
  · exact F.elim
end
end MP

/-! MP.Snd2: operators by values. -/
namespace MP
open PySem PySem.Spec PyProof.Rows L2

section
variable {X : Cx} {W : XK}
-- what int operators are
theorem bin_add {d1 d2 : D} {h : Heap} {ρ : Rel R V} {K : PySem.W.Frag} {μ : Mu} {H : Hp} {Q : VK} {x y : V} {n : Nat}
    (q1 : RD K μ n H d1 x) (q2 : RD K μ n H d2 y) (F : Fin K W ρ μ h H (bin .add d1 d2 h) Q) : (∃ i j, d1 = .int i ∧ d2 = .int j ∧ x = .int i ∧ y = .int j) ∨ (∃ a b, d1 = .str a ∧ d2 = .str b ∧ x = .str a ∧ y = .str b ∧ a.length + b.length ≤ lim) ∨ (∃ l m, d1 = .tup l ∧ d2 = .tup m ∧ l.length + m.length ≤ lim) ∨
      (∃ l m, lstOf h d1 = some l ∧ lstOf h d2 = some m ∧ l.length + m.length ≤ lim ∧ bin .add d1 d2 h = some (.ok (.newL (l ++ m)) h)) := by
  have cat : ∀ (l : List D) (b : Res R), b = catL l (lstOf h d2) h → Fin K W ρ μ h H b Q → ∃ m, lstOf h d2 = some m ∧ l.length + m.length ≤ lim ∧ b = some (.ok (.newL (l ++ m)) h) := fun l b e F => by
    subst e
    unfold catL at F ⊢
    cases c : lstOf h d2 with
    | none => rw [c] at F; exact F.elim
    | some m =>
      rw [c] at F
      simp only at F
      split at F
      · rename_i hl
        exact ⟨m, rfl, hl, by simp only [hl, if_true]⟩
      · exact F.elim
  cases d1 with
  | int i =>
    cases d2 with
    | int j => exact .inl ⟨i, j, rfl, rfl, q1, q2⟩
    | _ => exact F.elim
  | str a =>
    cases d2 with
    | str b =>
      simp only [bin] at F
      split at F
      · rename_i hl
        exact .inr (.inl ⟨a, b, rfl, rfl, q1, q2, hl⟩)
      · exact F.elim
    | _ => exact F.elim
  | tup l =>
    cases d2 with
    | tup m =>
      simp only [bin] at F
      split at F
      · rename_i hl
        exact .inr (.inr (.inl ⟨l, m, rfl, rfl, hl⟩))
      · exact F.elim
    | _ => exact F.elim
  | lst l =>
    obtain ⟨m, e1, e2, e3⟩ := cat l _ (by simp only [bin]) F
    exact .inr (.inr (.inr ⟨l, m, rfl, e1, e2, e3⟩))
  | loc p =>
    cases c : h[p]? with
    | none =>
      have e : bin .add (.loc p) d2 h = none := by simp only [bin, c]
      rw [e] at F
      exact F.elim
    | some o =>
      cases o with
      | dic l =>
        have e : bin .add (.loc p) d2 h = none := by simp only [bin, c]
        rw [e] at F
        exact F.elim
      | obj _ l =>
        have e : bin .add (.loc p) d2 h = none := by simp only [bin, c]
        rw [e] at F
        exact F.elim
      | lst l =>
        obtain ⟨m, e1, e2, e3⟩ := cat l _ (by simp only [bin, c]) F
        exact .inr (.inr (.inr ⟨l, m, by simp only [lstOf, c], e1, e2, e3⟩))
  | _ => exact F.elim
-- lists of the program's own, read
theorem lst_of {K : PySem.W.Frag} {μ : Mu} {h : Heap} {H : Hp} (r : HR K μ h H) {d : D} {v : V} {l : List D} (q : RD K μ h.length H d v) (e : lstOf h d = some l) :
    ∃ a vs, v = .ref a ∧ Rd H a (.lst vs) ∧ RDs K μ h.length H l vs := by
  cases d with
  | lst m =>
    simp only [lstOf, Option.some.injEq] at e
    subst e
    simp only [RD] at q
    obtain ⟨a, vs, rfl, s, t⟩ := q
    exact ⟨a, vs, rfl, s.rd, t⟩
  | loc p =>
    simp only [lstOf] at e
    cases c : h[p]? with
    | none => rw [c] at e; cases e
    | some o =>
      rw [c] at e
      cases o with
      | dic _ => cases e
      | obj _ _ => cases e
      | lst m =>
        simp only [Option.some.injEq] at e
        subst e
        obtain ⟨vs, e1, t⟩ := r.ob p _ c
        simp only [RD] at q
        exact ⟨μ p, vs, q.2, .inl e1, t⟩
  | _ => cases e
-- list + list, one of them known perhaps
def rCatR : R2 := fun x y H Q => ∃ l b xs zs, x = .ref l ∧ y = .ref b ∧ Rd H l (.lst xs) ∧ Rd H b (.lst zs) ∧ xs.length + zs.length ≤ sizeLine ∧ ∀ p, H p = none → Q (.ref p) (upd H p (.lst (xs ++ zs)))
theorem op_catR : OpR X (binaryOp .Add) rCatR := by
  intro pins s σ H x y v u Q I rx ry h
  obtain ⟨l, b, xs, zs, rfl, rfl, hH, hB, hz, q⟩ := h
  cases rx
  cases ry
  obtain ⟨z, its, n, r, e⟩ := hH.ok I.hok
  obtain ⟨z2, its2, n2, r2, e2⟩ := hB.ok I.hok
  refine PySem.P.add_list e e2 ?_ (by rw [List.size_toArray, List.size_toArray, ← r.length, ← r2.length]; omega)
  have ea : its.toArray ++ its2.toArray = (its ++ its2).toArray := by simp
  rw [ea]
  exact ⟨.ref _, _, I.lnew (t' := s.toks) (r.append r2) (by rw [List.length_append]; omega), rfl, q _ I.fresh⟩
-- list * int, the list known perhaps
def rRepR : R2 := fun x y H Q => ∃ l k xs, x = .ref l ∧ y = .int k ∧ Rd H l (.lst xs) ∧ 0 ≤ k ∧ k < 2 ^ 63 ∧ xs.length * k.toNat ≤ sizeLine ∧ ∀ p, H p = none → Q (.ref p) (upd H p (.lst (List.replicate k.toNat xs).flatten))
theorem op_repR : OpR X (binaryOp .Mult) rRepR := by
  intro pins s σ H x y v u Q I rx ry h
  obtain ⟨l, k, xs, rfl, rfl, hH, h1, h2, hz, q⟩ := h
  cases rx
  obtain ⟨tk, rfl⟩ := ry
  obtain ⟨z, its, n, r, e⟩ := hH.ok I.hok
  have el : its.toArray.size = xs.length := by rw [List.size_toArray, r.length]
  have c1 : its.toArray.size * k.toNat ≤ sizeLine := by rw [el]; exact hz
  have c2 : ¬ its.toArray.size * k.toNat > (2 ^ 63 - 1) / 8 := fun w => by
    have : (sizeLine : Nat) ≤ (2 ^ 63 - 1) / 8 := by decide
    omega
  have c3 : ¬ (!Builtin.List.listFitsIndex k) = true := by rw [fitsIndex_both (by omega) h2]; exact Bool.false_ne_true
  have c4 : ¬ Builtin.List.listTooLong (its.toArray.size * k.toNat) = true := by rw [notLongL c1]; exact Bool.false_ne_true
  have fold : ∀ m : Nat, List.foldl (fun a b => a ++ b) #[] (List.replicate m its.toArray) = (List.replicate m its).flatten.toArray := fun m => (by
    have w := foldl_rep its m []
    rw [List.nil_append] at w
    exact w)
  have new : List.foldl (fun a b => a ++ b) #[] (List.replicate (if its.toArray.isEmpty = true then 0 else k.toNat) its.toArray) = (List.replicate k.toNat its).flatten.toArray := by
    rw [fold]
    cases its with
    | nil => simp
    | cons a m => rw [if_neg (by simp)]
  have T1 := typeIs_int s k tk
  have T2 : s.TypeIs (.ref l) "list" := ⟨_, e, rfl⟩
  have fin := call_meets (prog := X.prog) (w := X.w) F.slot_list_mul T2 F.entry_list_mul (F.args_list_mul_2 _ _) (AutoListH.list___mul___list_int_3 l its.toArray n k tk c3 c2 c4) (Q := fun v s' => EP X pins σ Q v s') (E := X.xe) (A := X.A) ⟨e, by
    rw [new]
    exact ⟨.ref _, _, I.lnew (t' := s.toks) (r.rep k.toNat) (by rw [PyProof.Rows.lm_len_rep_flat, Nat.mul_comm]; exact hz), rfl, q _ I.fresh⟩⟩
  exact wpAny_binaryOp_repeat_ref (T := "list") (U := "int") (by decide) T2 (fun s' => typeIs_int s' k tk) noFill_list_mul F.fills_int_mul F.slot_int_rmul repeat_list F.slot_int_index.lookup
    (call_meets F.slot_int_rmul T1 F.entry_int_rmul (F.args_int_rmul_2 _ _) (int___rmul___int_list k tk l its.toArray n) ⟨e, rfl, T2, fin⟩)
-- tuple * int
def rRepU (K : PySem.W.Frag) : R2 := fun x y H Q => ∃ a j vs, x = .ref a ∧ y = .int j ∧ SqT K H a vs ∧ vs ≠ [] ∧ 2 ≤ j ∧ j ≤ 10000 ∧ vs.length ≤ 1000 ∧ ∀ p, H p = none → Q (.ref p) (upd H p (.tup (List.replicate j.toNat vs).flatten))
theorem op_repU : OpR X (binaryOp .Mult) (rRepU X.K) := by
  intro pins s σ H x y v u Q I rx ry h
  obtain ⟨a, j, vs, rfl, rfl, sq, ne, b1, b2, b3, q⟩ := h
  have rx : v = Value.ref a := rx
  subst rx
  obtain ⟨t, rfl⟩ := ry
  obtain ⟨ws, r, ⟨⟨oc, od, dt, sl⟩, e1, e2, n, e3⟩, _⟩ := I.tuple sq
  have e2 : oc = Value.type "tuple" := e2
  have e3 : dt = Data.seq ws.toArray n := e3
  subst e2 e3
  have len := r.length
  have full : ws.toArray.isEmpty = false := by
    cases ws with
    | nil => exact absurd (List.eq_nil_of_length_eq_zero len) ne
    | cons _ _ => rfl
  have sz : ws.toArray.size = vs.length := by rw [List.size_toArray, len]
  have big : ((ws.toArray.size : Nat) : Int) * j ≤ 10000000 := by
    rw [sz]
    have z : ((vs.length : Nat) : Int) * j ≤ 1000 * j := Int.mul_le_mul_of_nonneg_right (by omega) (by omega)
    omega
  have long : ∀ m : Nat, m = vs.length → j.toNat * m ≤ sizeLine := fun m hm => by
    subst hm
    rw [sizeLine_eq]
    have z : j.toNat * vs.length ≤ 10000 * 1000 := Nat.mul_le_mul (by omega) b3
    omega
  have k0 : (decide (j < -(2 ^ 63)) || decide (j ≥ 2 ^ 63)) = false := Bool.or_eq_false_iff.mpr ⟨decide_eq_false (by omega), decide_eq_false (by omega)⟩
  have k1 : (ws.toArray.isEmpty || j == 1) = false := Bool.or_eq_false_iff.mpr ⟨full, beq_eq_false_iff_ne.mpr (by omega)⟩
  have k2 : (decide (j ≤ 0) || ws.toArray.isEmpty) = false := Bool.or_eq_false_iff.mpr ⟨decide_eq_false (by omega), full⟩
  have k3 : Builtin.Tuple.tupleTooMany (((ws.toArray.size : Nat) : Int) * j) = false := by
    unfold Builtin.Tuple.tupleTooMany
    rw [sizeLine_eq]
    exact decide_eq_false (by omega)
  have isT : s.TypeIs (.ref a) "tuple" := ⟨_, e1, rfl⟩
  have mul := tuple_mulW a ws.toArray n od sl j t k0 k1 k2 (by omega) k3 (by rw [size_rep, List.size_toArray, PyProof.Rows.lm_len_rep_flat]; exact long _ len.symm)
  refine wpAny_binaryOp_repeat_ref (T := "tuple") (U := "int") (by decide) isT (fun z => typeIs_int z j t) noFill_tuple_mul F.fills_int_mul F.slot_int_rmul repeat_tuple F.slot_int_index.lookup ?_
  refine call_meets F.slot_int_rmul (typeIs_int s j t) F.entry_int_rmul (F.args_int_rmul_2 _ _) (int_rmul_tuple j t a ws.toArray n od sl) ⟨e1, rfl, isT, ?_⟩
  refine call_meets F.slot_tuple_mul isT F.entry_tuple_mul (F.args_tuple_mul_2 _ _) mul ⟨e1, ?_⟩
  rw [size_rep]
  refine ⟨.ref s.heap.objs.size, _, I.laid (t' := s.toks) (o := .tup (List.replicate j.toNat vs).flatten) (fun b o w => Heap.get?_push_of_some _ w) (Nat.le_refl _) ⟨?_, _, r.rep j.toNat, IsTup.new _ _⟩, rfl, q _ (I.hok.fresh (Nat.le_refl _))⟩
  rw [PyProof.Rows.lm_len_rep_flat]
  exact long _ rfl
theorem RDs.app' {K : PySem.W.Frag} {μ : Mu} {n : Nat} {H : Hp} : ∀ {l m : List D} {us vs : List V}, RDs K μ n H l us → RDs K μ n H m vs → RDs K μ n H (l ++ m) (us ++ vs)
  | [], m, us, vs, a, b => by
    simp only [RDs] at a
    subst a
    exact b
  | d :: l, m, us, vs, a, b => by
    simp only [RDs] at a
    obtain ⟨v, r, rfl, q, t⟩ := a
    simp only [List.cons_append, RDs]
    exact ⟨v, _, rfl, q, RDs.app' t b⟩
theorem RDs.rep {K : PySem.W.Frag} {μ : Mu} {n : Nat} {H : Hp} {l : List D} {us : List V} (q : RDs K μ n H l us) : ∀ m : Nat, RDs K μ n H (List.replicate m l).flatten (List.replicate m us).flatten
  | 0 => by simp only [List.replicate_zero, List.flatten_nil, RDs]
  | m + 1 => by
    rw [List.replicate_succ, List.replicate_succ, List.flatten_cons, List.flatten_cons]
    exact RDs.app' q (RDs.rep q m)
theorem bin_ints {op : BOp} (hop : op ≠ .add) (hm : op ≠ .mul) {d1 d2 : D} {h : Heap} {ρ : Rel R V} {K : PySem.W.Frag} {μ : Mu} {H : Hp} {Q : VK} {x y : V} {n : Nat}
    (q1 : RD K μ n H d1 x) (q2 : RD K μ n H d2 y) (F : Fin K W ρ μ h H (bin op d1 d2 h) Q) : ∃ i j, d1 = .int i ∧ d2 = .int j ∧ x = .int i ∧ y = .int j := by
  cases op <;> first
    | exact absurd rfl hop
    | exact absurd rfl hm
    | (cases d1 <;> first
      | exact F.elim
      | (cases d2 <;> first
          | exact F.elim
          | exact ⟨_, _, rfl, rfl, q1, q2⟩))
theorem pow_bits {i j : Int} (h0 : 0 ≤ j) (h1 : j ≤ 10000) (h2 : i.natAbs.log2 < 10000) : (Builtin.Int.intBits i : Int) * j ≤ 2 ^ 27 := by
  have b : Builtin.Int.intBits i ≤ i.natAbs.log2 + 1 := by
    unfold Builtin.Int.intBits
    split <;> omega
  have b2 : (Builtin.Int.intBits i : Int) ≤ 10000 := by omega
  have := Int.mul_le_mul b2 h1 h0 (by omega)
  omega
theorem opr_bin (op : BOp) (o : Operator) (ho : bopB op o = true) : OpR X (binaryOp o) (r2 X.K W (bin op)) := by
  cases op <;> cases o <;> first | cases ho | skip
  · refine OpR_imp (OpR.or op_add (OpR.or op_add_str (OpR.or (op_catA) op_catR))) fun x y H Q ⟨μ, h, d1, d2, r, q1, q2, F⟩ => ?_
    rcases bin_add q1 q2 F with ⟨i, j, rfl, rfl, rfl, rfl⟩ | ⟨i, j, rfl, rfl, rfl, rfl, hl⟩ | ⟨l, m, rfl, rfl, hl⟩ | ⟨l, m, e1, e2, hl, e3⟩
    · exact .inl ⟨i, j, rfl, rfl, Fin.ok F r rfl⟩
    · simp only [bin, if_pos hl] at F
      exact .inr (.inl ⟨i, j, rfl, rfl, by rw [lim_line]; exact hl, Fin.ok F r rfl⟩)
    · simp only [bin, if_pos hl] at F
      simp only [RD] at q1 q2
      obtain ⟨a, vs, rfl, s, t⟩ := q1
      obtain ⟨b, ws, rfl, s2, t2⟩ := q2
      have nil : ∀ {z : List D} {zs : List V}, RDs X.K μ h.length H z zs → zs = [] → z = [] := fun {z zs} q e => by
        have := q.length
        rw [e] at this
        exact List.length_eq_zero_iff.mp this.symm
      refine .inr (.inr (.inl ⟨a, b, vs, ws, rfl, rfl, s, s2, by rw [t.length, t2.length, lim_line]; exact hl, fun e => ?_, fun _ e => ?_, fun _ _ p hp => ?_⟩))
      · have e' := nil t e
        subst e'
        refine Fin.ok F r ?_
        show RD X.K μ h.length H (.tup ([] ++ m)) (.ref b)
        rw [List.nil_append]
        simp only [RD]
        exact ⟨b, ws, rfl, s2, t2⟩
      · have e' := nil t2 e
        subst e'
        refine Fin.ok F r ?_
        show RD X.K μ h.length H (.tup (l ++ [])) (.ref a)
        rw [List.append_nil]
        simp only [RD]
        exact ⟨a, vs, rfl, s, t⟩
      · have Pn := Post.new (o := .tup (vs ++ ws)) r hp
        refine F.okP Pn ?_
        show RD X.K μ h.length _ (.tup (l ++ m)) (.ref p)
        simp only [RD]
        exact ⟨p, _, rfl, .inl (.inl upd_same), RDs.mono Pn r _ _ (t.app' t2)⟩
    · rw [e3] at F
      obtain ⟨a, vs, rfl, s, t⟩ := lst_of r q1 e1
      obtain ⟨b, ws, rfl, s2, t2⟩ := lst_of r q2 e2
      refine .inr (.inr (.inr ⟨a, b, vs, ws, rfl, rfl, s, s2, by rw [t.length, t2.length, lim_line]; exact hl, fun p hp => ?_⟩))
      have Pn := Post.new (o := .lst (vs ++ ws)) r hp
      exact F.okP Pn (RR.mk r hp hp (t.app' t2))
  · refine OpR_imp op_sub fun x y H Q ⟨μ, h, d1, d2, r, q1, q2, F⟩ => ?_
    obtain ⟨i, j, rfl, rfl, rfl, rfl⟩ := bin_ints (by decide) (by decide) q1 q2 F
    exact ⟨i, j, rfl, rfl, Fin.ok F r rfl⟩
  · refine OpR_imp (OpR.or op_mulW (OpR.or op_repU op_repR)) fun x y H Q ⟨μ, h, d1, d2, r, q1, q2, F⟩ => ?_
    cases d2 with
    | int j =>
      cases q2
      cases d1 with
      | int i =>
        cases q1
        simp only [bin] at F
        split at F
        · rename_i hm
          exact .inl ⟨i, j, rfl, rfl, (show CMulW i j from of_decide_eq_true (p := i.natAbs.log2 + j.natAbs.log2 < 1000000) hm), Fin.ok F r rfl⟩
        · exact F.elim
      | tup l =>
        simp only [RD] at q1
        obtain ⟨a, vs, rfl, s, t⟩ := q1
        simp only [bin] at F
        split at F
        · rename_i hm
          obtain ⟨m1, m2, m3, m4⟩ := hm
          refine .inr (.inl ⟨a, j, vs, rfl, rfl, s, fun e => m1 ?_, m2, m3, by rw [t.length]; exact m4, fun p hp => ?_⟩)
          · have := t.length
            rw [e] at this
            exact List.length_eq_zero_iff.mp this.symm
          · have Pn := Post.new (o := .tup (List.replicate j.toNat vs).flatten) r hp
            refine F.okP Pn ?_
            show RD X.K μ h.length _ (.tup (List.replicate j.toNat l).flatten) (.ref p)
            simp only [RD]
            exact ⟨p, _, rfl, .inl (.inl upd_same), RDs.mono Pn r _ _ (t.rep _)⟩
        · exact F.elim
      | lst l =>
        simp only [RD] at q1
        obtain ⟨a, vs, rfl, s, t⟩ := q1
        simp only [bin] at F
        split at F
        · rename_i hm
          obtain ⟨m1, m2, m3⟩ := hm
          have hz : vs.length * j.toNat ≤ sizeLine := by
            rw [t.length, lim_line]
            have : l.length * j.toNat ≤ 1000 * 1000 := Nat.mul_le_mul m3 (by omega)
            show _ ≤ 16777216
            omega
          refine .inr (.inr ⟨a, j, vs, rfl, rfl, s.rd, m1, by omega, hz, fun p hp => ?_⟩)
          have Pn := Post.new (o := .lst (List.replicate j.toNat vs).flatten) r hp
          exact F.okP Pn (RR.mk r hp hp (t.rep _))
        · exact F.elim
      | _ => exact F.elim
    | _ => cases d1 <;> exact F.elim
  · refine OpR_imp op_fdivW fun x y H Q ⟨μ, h, d1, d2, r, q1, q2, F⟩ => ?_
    obtain ⟨i, j, rfl, rfl, rfl, rfl⟩ := bin_ints (by decide) (by decide) q1 q2 F
    simp only [bin] at F
    split at F
    · rename_i hm
      exact ⟨i, j, rfl, rfl, (show CDivW i j from of_decide_eq_true (p := 0 < j ∧ j.natAbs.log2 < 9000) hm), Fin.ok F r rfl⟩
    · exact F.elim
  · refine OpR_imp op_modN fun x y H Q ⟨μ, h, d1, d2, r, q1, q2, F⟩ => ?_
    obtain ⟨i, j, rfl, rfl, rfl, rfl⟩ := bin_ints (by decide) (by decide) q1 q2 F
    simp only [bin] at F
    split at F
    · rename_i hm
      refine ⟨i, j, rfl, rfl, (show j ≠ 0 by omega), ?_⟩
      show Q (.int (Int.fmod i j)) H
      rw [Int.fmod_eq_emod_of_nonneg i (by omega)]
      exact Fin.ok F r rfl
    · split at F
      · rename_i hm
        exact ⟨i, j, rfl, rfl, hm, Fin.ok F r rfl⟩
      · exact F.elim
  · have pw : OpR X (binaryOp .Pow) (rI (fun i j => 0 ≤ j ∧ j ≤ 10000 ∧ i.natAbs.log2 < 10000) fun i j => .int (i ^ j.toNat)) := opI fun _ _ _ _ _ _ _ hc q => pow_int hc.1 (pow_bits hc.1 hc.2.1 hc.2.2) q
    refine OpR_imp pw fun x y H Q ⟨μ, h, d1, d2, r, q1, q2, F⟩ => ?_
    obtain ⟨i, j, rfl, rfl, rfl, rfl⟩ := bin_ints (by decide) (by decide) q1 q2 F
    simp only [bin] at F
    split at F
    · rename_i hm
      exact ⟨i, j, rfl, rfl, of_decide_eq_true hm, Fin.ok F r rfl⟩
    · exact F.elim
theorem unr_neg : UnR X (unaryOp .USub) (r1 X.K W negM) := by
  refine UnR_imp un_neg fun x H Q ⟨μ, h, d1, r, q1, F⟩ => ?_
  cases d1 <;> first | exact F.elim | skip
  cases q1
  exact ⟨_, rfl, Fin.ok F r rfl⟩

/-! ### == and != -/
mutual
def toP : D → PyData
  | .non => .none
  | .bl b => .bool b
  | .int i => .int i
  | .str x => .str x
  | .tup l => .tuple (toPs l)
  | .lst l => .list (toPs l)
  | .loc _ => .none
  | .scr _ => .none
  | .dic _ _ => .none
  | .exo _ _ _ => .none
  | .obj _ _ => .none
  | .own => .none
  | .fn _ => .none
def toPs : List D → List PyData
  | [] => []
  | d :: ds => toP d :: toPs ds
end
mutual
theorem dok_P : ∀ (n : Nat) (d : D), dok n d = true → (toP d).canLay0 = true ∧ (toP d).depth ≤ n + 1
  | n, .non, _ => by simp [toP, PyData.canLay0, PyData.depth]
  | n, .bl _, _ => by simp [toP, PyData.canLay0, PyData.depth]
  | n, .int _, _ => by simp [toP, PyData.canLay0, PyData.depth]
  | n, .str x, h => by
    refine ⟨?_, by simp [toP, PyData.depth]⟩
    simp only [dok] at h
    simp only [toP, PyData.canLay0]
    exact h
  | 0, .tup _, h => by simp [dok] at h
  | 0, .lst _, h => by simp [dok] at h
  | n + 1, .tup l, h => by
    simp only [dok] at h
    obtain ⟨a, b⟩ := dok_Ps n l h
    simp only [toP, PyData.canLay0, PyData.depth]
    exact ⟨a, by omega⟩
  | n + 1, .lst l, h => by
    simp only [dok] at h
    obtain ⟨a, b⟩ := dok_Ps n l h
    simp only [toP, PyData.canLay0, PyData.depth]
    exact ⟨a, by omega⟩
  | _, .loc _, h => by simp [dok] at h
  | _, .scr _, h => by simp [dok] at h
  | _, .dic _ _, h => by simp [dok] at h
  | _, .exo _ _ _, h => by simp [dok] at h
  | _, .obj _ _, h => by simp [dok] at h
  | _, .own, h => by simp [dok] at h
  | _, .fn _, h => by simp [dok] at h
theorem dok_Ps : ∀ (n : Nat) (l : List D), dokL n l = true → PyData.canLayAll0 (toPs l) = true ∧ PyData.depthAll (toPs l) ≤ n + 1
  | n, [], _ => by simp [toPs, PyData.canLayAll0, PyData.depthAll]
  | n, d :: ds, h => by
    simp only [dokL, Bool.and_eq_true] at h
    obtain ⟨a, b⟩ := dok_P n d h.1
    obtain ⟨c, e⟩ := dok_Ps n ds h.2
    simp only [toPs, PyData.canLayAll0, PyData.depthAll, Bool.and_eq_true]
    exact ⟨⟨a, c⟩, by omega⟩
end
theorem shaped_of {d : D} (h : dok 60 d = true) : SeqAt.shaped (toP d) = true := by
  obtain ⟨a, b⟩ := dok_P 60 d h
  unfold SeqAt.shaped
  simp only [Bool.and_eq_true, decide_eq_true_eq]
  exact ⟨a, by omega⟩
mutual
theorem eqv_D : ∀ (n m : Nat) (a b : D), dok n a = true → dok m b = true → PyData.eqv (toP a) (toP b) = eqD a b
  | _, _, .non, .non, _, _ => by simp [toP, PyData.eqv, eqD]
  | _, _, .non, .bl _, _, _ => by simp [toP, PyData.eqv, eqD]
  | _, _, .non, .int _, _, _ => by simp [toP, PyData.eqv, eqD]
  | _, _, .non, .str _, _, _ => by simp [toP, PyData.eqv, eqD]
  | _, _, .non, .tup _, _, _ => by simp [toP, PyData.eqv, eqD]
  | _, _, .non, .lst _, _, _ => by simp [toP, PyData.eqv, eqD]
  | _, _, .bl _, .non, _, _ => by simp [toP, PyData.eqv, eqD]
  | _, _, .bl _, .bl _, _, _ => by simp [toP, PyData.eqv, eqD]
  | _, _, .bl _, .int _, _, _ => by simp [toP, PyData.eqv, eqD, b2i]
  | _, _, .bl _, .str _, _, _ => by simp [toP, PyData.eqv, eqD]
  | _, _, .bl _, .tup _, _, _ => by simp [toP, PyData.eqv, eqD]
  | _, _, .bl _, .lst _, _, _ => by simp [toP, PyData.eqv, eqD]
  | _, _, .int _, .non, _, _ => by simp [toP, PyData.eqv, eqD]
  | _, _, .int _, .bl _, _, _ => by simp [toP, PyData.eqv, eqD, b2i]
  | _, _, .int _, .int _, _, _ => by simp [toP, PyData.eqv, eqD]
  | _, _, .int _, .str _, _, _ => by simp [toP, PyData.eqv, eqD]
  | _, _, .int _, .tup _, _, _ => by simp [toP, PyData.eqv, eqD]
  | _, _, .int _, .lst _, _, _ => by simp [toP, PyData.eqv, eqD]
  | _, _, .str _, .non, _, _ => by simp [toP, PyData.eqv, eqD]
  | _, _, .str _, .bl _, _, _ => by simp [toP, PyData.eqv, eqD]
  | _, _, .str _, .int _, _, _ => by simp [toP, PyData.eqv, eqD]
  | _, _, .str _, .str _, _, _ => by simp [toP, PyData.eqv, eqD]
  | _, _, .str _, .tup _, _, _ => by simp [toP, PyData.eqv, eqD]
  | _, _, .str _, .lst _, _, _ => by simp [toP, PyData.eqv, eqD]
  | _, _, .tup _, .non, _, _ => by simp [toP, PyData.eqv, eqD]
  | _, _, .tup _, .bl _, _, _ => by simp [toP, PyData.eqv, eqD]
  | _, _, .tup _, .int _, _, _ => by simp [toP, PyData.eqv, eqD]
  | _, _, .tup _, .str _, _, _ => by simp [toP, PyData.eqv, eqD]
  | n + 1, m + 1, .tup a, .tup b, h1, h2 => by
    simp only [dok] at h1 h2
    simp only [toP, PyData.eqv, eqD]
    exact eqv_Ds n m a b h1 h2
  | 0, _, .tup a, .tup b, h1, _ => by simp [dok] at h1
  | _, 0, .tup a, .tup b, _, h1 => by simp [dok] at h1
  | _, _, .tup _, .lst _, _, _ => by simp [toP, PyData.eqv, eqD]
  | _, _, .lst _, .non, _, _ => by simp [toP, PyData.eqv, eqD]
  | _, _, .lst _, .bl _, _, _ => by simp [toP, PyData.eqv, eqD]
  | _, _, .lst _, .int _, _, _ => by simp [toP, PyData.eqv, eqD]
  | _, _, .lst _, .str _, _, _ => by simp [toP, PyData.eqv, eqD]
  | _, _, .lst _, .tup _, _, _ => by simp [toP, PyData.eqv, eqD]
  | n + 1, m + 1, .lst a, .lst b, h1, h2 => by
    simp only [dok] at h1 h2
    simp only [toP, PyData.eqv, eqD]
    exact eqv_Ds n m a b h1 h2
  | 0, _, .lst a, .lst b, h1, _ => by simp [dok] at h1
  | _, 0, .lst a, .lst b, _, h1 => by simp [dok] at h1
  | _, _, .loc _, _, h1, _ => by simp [dok] at h1
  | _, _, .scr _, _, h1, _ => by simp [dok] at h1
  | _, _, .dic _ _, _, h1, _ => by simp [dok] at h1
  | _, _, .exo _ _ _, _, h1, _ => by simp [dok] at h1
  | _, _, .obj _ _, _, h1, _ => by simp [dok] at h1
  | _, _, .own, _, h1, _ => by simp [dok] at h1
  | _, _, .fn _, _, h1, _ => by simp [dok] at h1
  | _, _, _, .loc _, _, h1 => by simp [dok] at h1
  | _, _, _, .scr _, _, h1 => by simp [dok] at h1
  | _, _, _, .dic _ _, _, h1 => by simp [dok] at h1
  | _, _, _, .exo _ _ _, _, h1 => by simp [dok] at h1
  | _, _, _, .obj _ _, _, h1 => by simp [dok] at h1
  | _, _, _, .own, _, h1 => by simp [dok] at h1
  | _, _, _, .fn _, _, h1 => by simp [dok] at h1
theorem eqv_Ds : ∀ (n m : Nat) (a b : List D), dokL n a = true → dokL m b = true → PyData.eqvAll (toPs a) (toPs b) = eqDL a b
  | _, _, [], [], _, _ => by simp [toPs, PyData.eqvAll, eqDL]
  | _, _, [], _ :: _, _, _ => by simp [toPs, PyData.eqvAll, eqDL]
  | _, _, _ :: _, [], _, _ => by simp [toPs, PyData.eqvAll, eqDL]
  | n, m, x :: xs, y :: ys, h1, h2 => by
    simp only [dokL, Bool.and_eq_true] at h1 h2
    simp only [toPs, PyData.eqvAll, eqDL]
    rw [eqv_D n m x y h1.1 h2.1, eqv_Ds n m xs ys h1.2 h2.2]
end
section
variable {K : PySem.W.Frag} {μ : Mu} {n : Nat} {H : Hp}
mutual
theorem dp_of : ∀ (k : Nat) (d : D) (v : V), dok k d = true → RD K μ n H d v → Dp K H v (toP d)
  | _, .non, v, _, q => by cases q; exact .non
  | _, .bl b, v, _, q => by cases q; exact .bl b
  | _, .int b, v, _, q => by cases q; exact .int b
  | _, .str b, v, _, q => by cases q; exact .str b
  | 0, .tup _, _, h, _ => by simp [dok] at h
  | 0, .lst _, _, h, _ => by simp [dok] at h
  | k + 1, .tup l, v, h, q => by
    simp only [dok] at h
    simp only [RD] at q
    obtain ⟨a, vs, rfl, s, t⟩ := q
    exact .tup s (dp_all k l vs h t)
  | k + 1, .lst l, v, h, q => by
    simp only [dok] at h
    simp only [RD] at q
    obtain ⟨a, vs, rfl, s, t⟩ := q
    exact .lst s.sq (dp_all k l vs h t)
  | _, .loc _, _, h, _ => by simp [dok] at h
  | _, .scr _, _, h, _ => by simp [dok] at h
  | _, .dic _ _, _, h, _ => by simp [dok] at h
  | _, .exo _ _ _, _, h, _ => by simp [dok] at h
  | _, .obj _ _, _, h, _ => by simp [dok] at h
  | _, .own, _, h, _ => by simp [dok] at h
theorem dp_all : ∀ (k : Nat) (l : List D) (vs : List V), dokL k l = true → RDs K μ n H l vs → DpAll K H vs (toPs l)
  | _, [], vs, _, q => by
    simp only [RDs] at q
    subst q
    exact .nil
  | k, d :: l, vs, h, q => by
    simp only [dokL, Bool.and_eq_true] at h
    simp only [RDs] at q
    obtain ⟨v, r, rfl, q1, t⟩ := q
    exact .cons (dp_of k d v h.1 q1) (dp_all k l r h.2 t)
end
end
theorem dp_look {K : PySem.W.Frag} {μ : Mu} {h : Heap} {H : Hp} {d : D} {v : V} (r : HR K μ h H) (q : RD K μ h.length H d v) (hd : dok 60 (look h d) = true) : Dp K H v (toP (look h d)) := by
  cases d with
  | loc p =>
    simp only [look] at hd ⊢
    cases c : h[p]? with
    | none => rw [c] at hd; simp [dok] at hd
    | some o =>
      rw [c] at hd
      cases o with
      | dic _ => simp [dok] at hd
      | obj _ _ => simp [dok] at hd
      | lst m =>
        obtain ⟨vs, e1, t⟩ := r.ob p _ c
        simp only [RD] at q
        rw [q.2]
        simp only [dok] at hd
        exact .lst (.inl (.inl e1)) (dp_all 59 m vs hd t)
  | _ => exact dp_of 60 _ v hd q
theorem flat_V {K : PySem.W.Frag} {μ : Mu} {n : Nat} {H : Hp} {d : D} {v : V} (q : RD K μ n H d v) (hf : flat d = true) : flatV v = true := by
  cases d <;> first | (cases q; rfl) | cases hf
theorem eqV_D {K : PySem.W.Frag} {μ : Mu} {n : Nat} {H : Hp} {d e : D} {v w : V} (q : RD K μ n H d v) (q2 : RD K μ n H e w) (hf : flat d = true) (hg : flat e = true) : eqV v w = eqD d e := by
  cases d <;> cases e <;> first | (cases q; cases q2; first | rfl | (simp [eqV, eqD, b2i]; done)) | (cases hf; done) | (cases hg; done)
theorem flat_Vs {K : PySem.W.Frag} {μ : Mu} {n : Nat} {H : Hp} : ∀ {l : List D} {vs : List V}, RDs K μ n H l vs → l.all flat = true → vs.all flatV = true
  | [], vs, q, _ => by
    simp only [RDs] at q
    subst q
    rfl
  | d :: l, vs, q, h => by
    simp only [RDs] at q
    obtain ⟨v, r, rfl, q1, t⟩ := q
    simp only [List.all_cons, Bool.and_eq_true] at h ⊢
    exact ⟨flat_V q1 h.1, flat_Vs t h.2⟩
theorem any_Vs {K : PySem.W.Frag} {μ : Mu} {n : Nat} {H : Hp} {d : D} {v : V} (q : RD K μ n H d v) (hf : flat d = true) : ∀ {l : List D} {vs : List V}, RDs K μ n H l vs → l.all flat = true → (vs.any fun y => eqV y v) = l.any fun z => eqD z d
  | [], vs, q, _ => by
    simp only [RDs] at q
    subst q
    rfl
  | c :: l, vs, q2, h => by
    simp only [RDs] at q2
    obtain ⟨w, r, rfl, q1, t⟩ := q2
    simp only [List.all_cons, Bool.and_eq_true] at h
    simp only [List.any_cons]
    rw [eqV_D q1 q h.1 hf, any_Vs q hf t h.2]
theorem cmp_fin {K : PySem.W.Frag} {μ : Mu} {h : Heap} {H : Hp} {op : COp} {d1 d2 : D} {Q : VK} {W : XK} (F : Fin K W (RR K) μ h H (cmpM op d1 d2 h) Q) (r : HR K μ h H) : ∃ b, cmp op d1 d2 h = some b ∧ Q (.bl b) H := by
  unfold cmpM at F
  cases e : cmp op d1 d2 h with
  | none => rw [e] at F; exact F.elim
  | some b =>
    rw [e] at F
    exact ⟨b, rfl, Fin.ok F r rfl⟩
theorem cmp_ints {op : COp} {d1 d2 : D} {h : Heap} {b : Bool} (ho : op = .lt ∨ op = .le ∨ op = .gt ∨ op = .ge) (e : cmp op d1 d2 h = some b) : ∃ i j, d1 = .int i ∧ d2 = .int j := by
  rcases ho with rfl | rfl | rfl | rfl <;> cases d1 <;> first | (cases e; done) | (cases d2 <;> first | exact ⟨_, _, rfl, rfl⟩ | (cases e; done))
theorem mem_of {K : PySem.W.Frag} {μ : Mu} {h : Heap} {H : Hp} {d1 d2 : D} {x y : V} {b : Bool} (r : HR K μ h H) (q1 : RD K μ h.length H d1 x) (q2 : RD K μ h.length H d2 y) (e : mem d1 d2 h = some b) :
    ∃ p xs, y = .ref p ∧ (SqL K H p xs ∨ SqT K H p xs) ∧ flatV x = true ∧ xs.all flatV = true ∧ inV x xs = b := by
  unfold mem at e
  cases c : seqOf h d2 with
  | none => rw [c] at e; cases e
  | some l =>
    rw [c] at e
    obtain ⟨a, vs, rfl, s, t⟩ := seq_of r q2 c
    simp only at e
    split at e
    · rename_i hf
      simp only [Bool.and_eq_true] at hf
      cases e
      exact ⟨a, vs, rfl, s, flat_V q1 hf.1, flat_Vs t hf.2, any_Vs q1 hf.1 t hf.2⟩
    · cases e
theorem beq_decide (a b : Bool) : (a == b) = decide (a = b) := by cases a <;> cases b <;> rfl
theorem is_of {K : PySem.W.Frag} {μ : Mu} {n : Nat} {H : Hp} {d1 d2 : D} {x y : V} {b : Bool} (q1 : RD K μ n H d1 x) (q2 : RD K μ n H d2 y) (e : isM d1 d2 = some b) :
    (y = .non ∧ ∀ Q : Bool → Hp → Prop, Q b H → Q (decide (x = .non)) H) ∨ ∃ a c, x = .bl a ∧ y = .bl c ∧ b = (a == c) := by
  cases d2 with
  | non =>
    cases q2
    cases e
    refine .inl ⟨rfl, fun Q q => ?_⟩
    cases d1 <;> first
      | (cases q1; exact q)
      | (simp only [RD] at q1; obtain ⟨a, vs, rfl, _⟩ := q1; exact q)
      | (simp only [RD] at q1; obtain ⟨a, dd, vs, rfl, _⟩ := q1; exact q)
      | (simp only [RD] at q1; obtain ⟨a, rfl, _⟩ := q1; exact q)
      | (simp only [RD] at q1; rw [q1.2]; exact q)
  | bl c =>
    cases q2
    cases d1 with
    | bl a =>
      cases q1
      cases e
      exact .inr ⟨a, c, rfl, rfl, rfl⟩
    | _ => cases e
  | _ => cases e
theorem opr_cmp (hu : X.A.units + 64 < cLine) (op : COp) (o : CmpOp) (ho : copB op o = true) : OpR X (compareOp o) (r2 X.K W (cmpM op)) := by
  cases op <;> cases o <;> first | cases ho | skip
  · refine OpR_imp (op_eqD hu) fun x y H Q ⟨μ, h, d1, d2, r, q1, q2, F⟩ => ?_
    obtain ⟨b, e, q⟩ := cmp_fin F r
    simp only [cmp] at e
    split at e
    · rename_i hk
      simp only [Bool.and_eq_true] at hk
      cases e
      exact ⟨_, _, dp_look r q1 hk.1, dp_look r q2 hk.2, shaped_of hk.1, shaped_of hk.2, by rw [eqv_D 60 60 _ _ hk.1 hk.2]; exact q⟩
    · cases e
  · refine OpR_imp (op_neD hu) fun x y H Q ⟨μ, h, d1, d2, r, q1, q2, F⟩ => ?_
    obtain ⟨b, e, q⟩ := cmp_fin F r
    simp only [cmp] at e
    split at e
    · rename_i hk
      simp only [Bool.and_eq_true] at hk
      cases e
      exact ⟨_, _, dp_look r q1 hk.1, dp_look r q2 hk.2, shaped_of hk.1, shaped_of hk.2, by rw [eqv_D 60 60 _ _ hk.1 hk.2]; exact q⟩
    · cases e
  · refine OpR_imp op_lt fun x y H Q ⟨μ, h, d1, d2, r, q1, q2, F⟩ => ?_
    obtain ⟨b, e, q⟩ := cmp_fin F r
    obtain ⟨i, j, rfl, rfl⟩ := cmp_ints (.inl rfl) e
    cases q1
    cases q2
    cases e
    exact ⟨_, _, rfl, rfl, q⟩
  · refine OpR_imp op_le fun x y H Q ⟨μ, h, d1, d2, r, q1, q2, F⟩ => ?_
    obtain ⟨b, e, q⟩ := cmp_fin F r
    obtain ⟨i, j, rfl, rfl⟩ := cmp_ints (.inr (.inl rfl)) e
    cases q1
    cases q2
    cases e
    exact ⟨_, _, rfl, rfl, q⟩
  · refine OpR_imp op_gt fun x y H Q ⟨μ, h, d1, d2, r, q1, q2, F⟩ => ?_
    obtain ⟨b, e, q⟩ := cmp_fin F r
    obtain ⟨i, j, rfl, rfl⟩ := cmp_ints (.inr (.inr (.inl rfl))) e
    cases q1
    cases q2
    cases e
    exact ⟨_, _, rfl, rfl, q⟩
  · refine OpR_imp op_ge fun x y H Q ⟨μ, h, d1, d2, r, q1, q2, F⟩ => ?_
    obtain ⟨b, e, q⟩ := cmp_fin F r
    obtain ⟨i, j, rfl, rfl⟩ := cmp_ints (.inr (.inr (.inr rfl))) e
    cases q1
    cases q2
    cases e
    exact ⟨_, _, rfl, rfl, q⟩
  · refine OpR_imp (OpR.or op_isN op_isBl) fun x y H Q ⟨μ, h, d1, d2, r, q1, q2, F⟩ => ?_
    obtain ⟨b, e, q⟩ := cmp_fin F r
    simp only [cmp] at e
    rcases is_of q1 q2 e with ⟨rfl, e2⟩ | ⟨a, c, rfl, rfl, rfl⟩
    · exact .inl ⟨rfl, e2 (fun t H => Q (.bl t) H) q⟩
    · exact .inr ⟨a, c, rfl, rfl, by rw [beq_decide] at q; exact q⟩
  · refine OpR_imp (OpR.or op_notN op_notBl) fun x y H Q ⟨μ, h, d1, d2, r, q1, q2, F⟩ => ?_
    obtain ⟨b, e, q⟩ := cmp_fin F r
    simp only [cmp] at e
    cases c : isM d1 d2 with
    | none => rw [c] at e; cases e
    | some b' =>
      rw [c] at e
      cases e
      rcases is_of q1 q2 c with ⟨rfl, e2⟩ | ⟨a, a2, rfl, rfl, rfl⟩
      · exact .inl ⟨rfl, e2 (fun t H => Q (.bl (!t)) H) q⟩
      · exact .inr ⟨a, a2, rfl, rfl, by rw [beq_decide] at q; exact q⟩
  · refine OpR_imp op_in_seq fun x y H Q ⟨μ, h, d1, d2, r, q1, q2, F⟩ => ?_
    obtain ⟨b, e, q⟩ := cmp_fin F r
    obtain ⟨p, xs, rfl, s, f1, f2, e2⟩ := mem_of r q1 q2 e
    exact ⟨p, xs, rfl, s, f1, f2, by simp only [e2]; exact q⟩
  · refine OpR_imp op_notIn_seq fun x y H Q ⟨μ, h, d1, d2, r, q1, q2, F⟩ => ?_
    obtain ⟨b, e, q⟩ := cmp_fin F r
    simp only [cmp] at e
    cases c : mem d1 d2 h with
    | none => rw [c] at e; cases e
    | some b' =>
      rw [c] at e
      cases e
      obtain ⟨p, xs, rfl, s, f1, f2, e2⟩ := mem_of r q1 q2 c
      exact ⟨p, xs, rfl, s, f1, f2, by simp only [e2]; exact q⟩
end
end MP

/-! MP.Snd3: expressions. -/
namespace MP
open PySem PySem.Spec PyProof.Rows L2

theorem bd_assoc {α β γ : Type} (m : Res α) (k : α → Heap → Res β) (k' : β → Heap → Res γ) : bd (bd m k) k' = bd m fun a h => bd (k a h) k' := by
  cases m with
  | none => rfl
  | some o => cases o <;> rfl
theorem boolR_bl {o : Option Bool} {h h' : Heap} {r : R} (e : boolR o h = some (.ok r h')) : ∃ b, r = .v (.bl b) := by
  cases o with
  | none => cases e
  | some b =>
    cases e
    exact ⟨b, rfl⟩
section
variable {K : PySem.W.Frag} {W : XK} {σ : L2.St} {H : Hp}
theorem rd_tst {m : Env → Heap → Res R} {Q : Bool → Hp → Prop} (q : rT K W (tst m) σ H Q) (hb : ∀ g h r h', m g h = some (.ok r h') → ∃ b, r = .v (.bl b)) : rE K W m σ H (fun x H' => ∃ k, x = .bl k ∧ Q k H') := by
  obtain ⟨μ, g, h, r, er, F⟩ := q
  refine ⟨μ, g, h, r, er, ?_⟩
  unfold tst at F
  cases e : m g h with
  | none => rw [e] at F; exact F
  | some o =>
    rw [e] at F
    cases o with
    | exc x h' => exact F
    | ok r h' =>
      obtain ⟨b, rfl⟩ := hb _ _ _ _ e
      intro v H' μ' P rv
      cases rv
      exact ⟨b, rfl, F b H' μ' P rfl⟩
end

section
variable (P : PInfo) (Φ : Nat → List D → Heap → Res R) (G : Nat → Option D) (k : Nat)
def SE (e : E) : Prop := ∀ (X : Cx) (W : XK) (x : Expr), Good P Φ G k X W → chk P X.N X.env.scope e x = true → PE X x (rE X.K W (eval Φ G e)) ∧ PT X x (rT X.K W (tst (eval Φ G e)))
def SEs (es : List E) : Prop := ∀ (X : Cx) (W : XK) (xs : List Expr), Good P Φ G k X W → chks P X.N X.env.scope es xs = true → PA X xs (rA X.K W (evals Φ G es))
end
section
variable {P : PInfo} {Φ : Nat → List D → Heap → Res R} {G : Nat → Option D} {k : Nat}
theorem Good.un {X : Cx} {W : XK} (g : Good P Φ G k X W) : X.A.units + 64 < cLine := g.room.units

theorem se_var (i : Nat) : SE P Φ G k (.var i) := fun X W x gd hc => by
  cases x with
  | Name n pos =>
    simp only [chk, Bool.and_eq_true, decide_eq_true_eq, Bool.not_eq_true'] at hc
    obtain ⟨h1, h2, h3, h4⟩ := hc
    have pe : PE X (.Name n pos) (rE X.K W (eval Φ G (.var i))) := by
      refine PE_imp (pe_var h1 (visB_ok h2) h3 h4) fun σ H Q ⟨μ, g, h, r, er, F⟩ => ?_
      simp only [eval] at F
      split at F
      · rename_i d e
        obtain ⟨v, e1, e2⟩ := er.2 i d e
        exact ⟨v, e1, Fin.ok F r e2⟩
      · exact F.elim
    exact ⟨pe, pt_plain pe rfl⟩
  | _ => simp [chk] at hc
theorem se_c (d : D) : SE P Φ G k (.c d) := fun X W x gd hc => by
  cases x with
  | Constant c j pos =>
    simp only [chk] at hc
    have fin : ∀ v, (∀ (μ : Mu) (n : Nat) (H : Hp), RD X.K μ n H d v) → ∀ (σ : L2.St) (H : Hp) (Q : VK), rE X.K W (eval Φ G (.c d)) σ H Q → tC v σ H Q := fun v hv σ H Q ⟨μ, g, h, r, er, F⟩ => by
      simp only [eval] at F
      exact Fin.ok F r (hv _ _ _)
    have pe : PE X (.Constant c j pos) (rE X.K W (eval Φ G (.c d))) := by
      cases d <;> cases c <;> first
        | (cases hc; done)
        | exact PE_imp pe_non (fin _ fun _ _ _ => rfl)
        | (simp only [constB, beq_iff_eq] at hc; subst hc; exact PE_imp pe_bl (fin _ fun _ _ _ => rfl))
        | (simp only [constB, decide_eq_true_eq] at hc; subst hc; first | exact PE_imp pe_int (fin _ fun _ _ _ => rfl) | exact PE_imp pe_str (fin _ fun _ _ _ => rfl))
    exact ⟨pe, pt_plain pe rfl⟩
  | _ => simp [chk] at hc
theorem se_glob (i : Nat) : SE P Φ G k (.glob i) := fun X W x gd hc => by
  cases x with
  | Name n pos =>
    simp only [chk, Bool.and_eq_true, decide_eq_true_eq] at hc
    obtain ⟨h1, h2⟩ := hc
    obtain ⟨hg, hdb, hn⟩ := gloB_ok h2
    cases e : P.globs[i]? with
    | none => rw [e] at h1; cases h1
    | some p =>
      obtain ⟨y, d⟩ := p
      rw [e] at h1
      simp only [Option.map_some, Option.some.injEq] at h1
      subst h1
      obtain ⟨e1, v, u, e2, ru, rg⟩ := gd.glob i y d e
      have pe : PE X (.Name y pos) (rE X.K W (eval Φ G (.glob i))) := by
        refine PE_imp (pe_glob hg e2 ru hdb) fun σ H Q ⟨μ, g, h, r, er, F⟩ => ?_
        simp only [eval, e1] at F
        exact Fin.ok F r (rg.rd _ _ _ _)
      exact ⟨pe, pt_plain pe rfl⟩
  | _ => simp [chk] at hc
theorem se_bin (op : BOp) (a b : E) (ha : SE P Φ G k a) (hb : SE P Φ G k b) : SE P Φ G k (.bin op a b) := fun X W x gd hc => by
  cases x with
  | BinOp a' o b' pos =>
    simp only [chk, Bool.and_eq_true] at hc
    obtain ⟨h1, h2, h3⟩ := hc
    have pe : PE X (.BinOp a' o b' pos) (rE X.K W (eval Φ G (.bin op a b))) := by
      refine PE_imp (pe_op (opr_bin (W := W) op o h1) (ha X W a' gd h2).1 (hb X W b' gd h3).1) fun σ H Q q => rd_two (f := bin op) ?_
      simpa only [eval] using q
    exact ⟨pe, pt_plain pe rfl⟩
  | _ => simp [chk] at hc
theorem se_neg (a : E) (ha : SE P Φ G k a) : SE P Φ G k (.neg a) := fun X W x gd hc => by
  cases x with
  | UnaryOp o a' pos =>
    cases o <;> simp only [chk] at hc <;> first | (cases hc; done) | skip
    have pe : PE X (.UnaryOp .USub a' pos) (rE X.K W (eval Φ G (.neg a))) := by
      refine PE_imp (pe_un (unr_neg (W := W)) (ha X W a' gd hc).1) fun σ H Q q => rd_one (f := negM) ?_
      simpa only [eval] using q
    exact ⟨pe, pt_plain pe rfl⟩
  | _ => simp [chk] at hc
theorem se_not (a : E) (ha : SE P Φ G k a) : SE P Φ G k (.not a) := fun X W x gd hc => by
  cases x with
  | UnaryOp o a' pos =>
    cases o <;> simp only [chk] at hc <;> first | (cases hc; done) | skip
    have ih := ha X W a' gd hc
    refine ⟨PE_imp (pe_notT ih.1) fun σ H Q q => ?_, PT_imp (pt_not ih.2) fun σ H Q q => ?_⟩
    · simp only [eval] at q
      refine rd_bind (ρ := RR X.K) q back_RR fun μ1 g h1 H1 r v H0 hr er q1 F => ?_
      cases e1 : tru h1 r.frz with
      | none => rw [e1] at F; exact F.elim
      | some b =>
        rw [e1] at F
        exact ⟨b, tru_of hr q1.frz e1, Fin.ok F hr rfl⟩
    · have e : tst (eval Φ G (.not a)) = fun g h => bd (tst (eval Φ G a) g h) fun b h => some (.ok (!b) h) := by
        funext g h
        simp only [tst, eval, bd_assoc]
        congr 1
        funext r h1
        cases tru h1 r.frz <;> rfl
      rw [e] at q
      refine rd_bind (ρ := RB) q back_RB fun μ1 g h1 H1 r v H0 hr er q1 F => ?_
      cases q1
      exact Fin.ok F hr rfl
  | _ => simp [chk] at hc
theorem se_cmp (op : COp) (a b : E) (ha : SE P Φ G k a) (hb : SE P Φ G k b) : SE P Φ G k (.cmp op a b) := fun X W x gd hc => by
  cases x with
  | Compare a' os bs pos =>
    match os, bs, hc with
    | [o], [b'], hc =>
      simp only [chk, Bool.and_eq_true] at hc
      obtain ⟨h1, h2, h3⟩ := hc
      have hm := shape_marks (chk_shape h3) o
      have e : eval Φ G (.cmp op a b) = fun g h => bd (eval Φ G a g h) fun x h => bd (eval Φ G b g h) fun y h => cmpM op x.frz y.frz h := by
        funext g h
        simp only [eval]
      refine ⟨PE_imp (pe_cmpR (opr_cmp (W := W) gd.un op o h1) (ha X W a' gd h2).1 (hb X W b' gd h3).1 hm) fun σ H Q q => rd_two (f := cmpM op) ?_,
        PT_imp (pt_cmpR (opr_cmp (W := W) gd.un op o h1) (ha X W a' gd h2).1 (hb X W b' gd h3).1 hm) fun σ H Q q => rd_two (f := cmpM op) (rd_tst ?_ fun g h r h' er => ?_)⟩
      · rw [e] at q; exact q
      · rw [e] at q; exact q
      · cases c1 : eval Φ G a g h with
        | none => rw [c1] at er; cases er
        | some o1 =>
          rw [c1] at er
          cases o1 with
          | exc _ _ => cases er
          | ok r1 h1 =>
            simp only [bd_ok] at er
            cases c2 : eval Φ G b g h1 with
            | none => rw [c2] at er; cases er
            | some o2 =>
              rw [c2] at er
              cases o2 with
              | exc _ _ => cases er
              | ok r2 h2 =>
                simp only [bd_ok, cmpM] at er
                exact boolR_bl er
    | [], _, hc => simp [chk] at hc
    | [_], [], hc => simp [chk] at hc
    | [_], _ :: _ :: _, hc => simp [chk] at hc
    | _ :: _ :: _, _, hc => simp [chk] at hc
  | _ => simp [chk] at hc
end
end MP

/-! MP.Snd4: expressions: chains, and, or, choices, displays, subscripts. -/
namespace MP
open PySem PySem.Spec PyProof.Rows L2

section
variable {P : PInfo} {Φ : Nat → List D → Heap → Res R} {G : Nat → Option D} {k : Nat}

def cmp2K (o1 o2 : COp) (mc : Env → Heap → Res R) (x y : D) (g : Env) (h : Heap) : Res R := match cmp o1 x y h with
  | some false => some (.ok (.v (.bl false)) h)
  | some true => bd (mc g h) fun z h => cmpM o2 y z.frz h
  | none => none
theorem rd_chain {K : PySem.W.Frag} {W : XK} {σ : L2.St} {H : Hp} {Q : VK} {o1 o2 : COp} {ma mb mc : Env → Heap → Res R}
    (q : rE K W (fun g h => bd (ma g h) fun x h => bd (mb g h) fun y h => cmp2K o1 o2 mc x.frz y.frz g h) σ H Q) :
    tChain (r2 K W (cmpM o1)) (r2 K W (cmpM o2)) (rE K W ma) (rE K W mb) (rE K W mc) σ H Q := by
  refine rd_bind (ρ := RR K) q back_RR fun μ1 g h1 H1 r1 v1 H0 hr er q1 F => ?_
  refine ⟨μ1, g, h1, hr, er, F.bind fun r2 h2 v2 H2 μ2 P q2 F2 => ?_⟩
  have q1' := RD.mono P hr _ _ q1.frz
  have q2' := q2.frz
  have F3 := F2.from P back_RR
  refine ⟨μ2, h2, _, _, P.hr, q1', q2', ?_⟩
  unfold cmp2K at F3
  unfold cmpM
  cases e : cmp o1 r1.frz r2.frz h2 with
  | none => rw [e] at F3; exact F3.elim
  | some t =>
    rw [e] at F3
    intro v H' μ' P' rv
    cases rv
    refine ⟨t, rfl, ?_⟩
    cases t with
    | false => exact F3 _ H' μ' P' rfl
    | true =>
      have er' := (er.mono P hr).mono P' P.hr
      refine ⟨μ', g, h2, P'.hr, er', (F3.from P' back_RR).bind fun r3 h3 v3 H3 μ3 P3 q3 F4 => ?_⟩
      exact ⟨μ3, h3, _, _, P3.hr, RD.mono P3 P'.hr _ _ (RD.mono P' P.hr _ _ q2'), q3.frz, F4.from P3 back_RR⟩
theorem se_cmp2 (o1 o2 : COp) (a b c : E) (ha : SE P Φ G k a) (hb : SE P Φ G k b) (hcc : SE P Φ G k c) : SE P Φ G k (.cmp2 o1 o2 a b c) := fun X W x gd hc => by
  cases x with
  | Compare a' os bs pos =>
    match os, bs, hc with
    | [p1, p2], [b', c'], hc =>
      simp only [chk, Bool.and_eq_true] at hc
      obtain ⟨⟨h1, h2⟩, h3, h4, h5⟩ := hc
      have hm : lastMarks [p1, p2] [b', c'] = false := by
        show behindInMarks p2 c' = false
        exact shape_marks (chk_shape h5) p2
      have e : eval Φ G (.cmp2 o1 o2 a b c) = fun g h => bd (eval Φ G a g h) fun x h => bd (eval Φ G b g h) fun y h => cmp2K o1 o2 (eval Φ G c) x.frz y.frz g h := by
        funext g h
        simp only [eval]
        rfl
      have isb : ∀ g h r h', eval Φ G (.cmp2 o1 o2 a b c) g h = some (.ok r h') → ∃ b, r = .v (.bl b) := fun g h r h' er => by
        rw [e] at er
        simp only at er
        cases c1 : eval Φ G a g h with
        | none => rw [c1] at er; cases er
        | some o1 =>
          rw [c1] at er
          cases o1 with
          | exc _ _ => cases er
          | ok r1 h1 =>
            simp only [bd_ok] at er
            cases c2 : eval Φ G b g h1 with
            | none => rw [c2] at er; cases er
            | some o2 =>
              rw [c2] at er
              cases o2 with
              | exc _ _ => cases er
              | ok r2 h2 =>
                simp only [bd_ok, cmp2K] at er
                split at er
                · cases er
                  exact ⟨_, rfl⟩
                · cases c3 : eval Φ G c g h2 with
                  | none => rw [c3] at er; cases er
                  | some o3 =>
                    rw [c3] at er
                    cases o3 with
                    | exc _ _ => cases er
                    | ok r3 h3 => exact boolR_bl er
                · cases er
      have A1 := (ha X W a' gd h3).1
      have A2 := (hb X W b' gd h4).1
      have A3 := (hcc X W c' gd h5).1
      refine ⟨PE_imp (pe_chain (opr_cmp (W := W) gd.un o1 p1 h1) (opr_cmp (W := W) gd.un o2 p2 h2) A1 A2 A3 hm) fun σ H Q q => rd_chain ?_,
        PT_imp (pt_chain (opr_cmp (W := W) gd.un o1 p1 h1) (opr_cmp (W := W) gd.un o2 p2 h2) A1 A2 A3 hm) fun σ H Q q => rd_chain ?_⟩
      · rw [e] at q; exact q
      · have q2 := rd_tst q isb
        rw [e] at q2
        exact q2
    | [], _, hc => simp [chk] at hc
    | [_], _, hc => simp [chk] at hc
    | [_, _], [], hc => simp [chk] at hc
    | [_, _], [_], hc => simp [chk] at hc
    | [_, _], _ :: _ :: _ :: _, hc => simp [chk] at hc
    | _ :: _ :: _ :: _, _, hc => simp [chk] at hc
  | _ => simp [chk] at hc

theorem tst_and (a b : E) : tst (eval Φ G (.and a b)) = fun g h => bd (tst (eval Φ G a) g h) fun c h => if c = true then tst (eval Φ G b) g h else some (.ok false h) := by
  funext g h
  simp only [tst, eval, bd_assoc]
  congr 1
  funext r h1
  cases e : tru h1 r.frz with
  | none => rfl
  | some c => cases c <;> simp [ofO, bd_assoc, e]
theorem tst_or (a b : E) : tst (eval Φ G (.or a b)) = fun g h => bd (tst (eval Φ G a) g h) fun c h => if c = true then some (.ok true h) else tst (eval Φ G b) g h := by
  funext g h
  simp only [tst, eval, bd_assoc]
  congr 1
  funext r h1
  cases e : tru h1 r.frz with
  | none => rfl
  | some c => cases c <;> simp [ofO, bd_assoc, e]
theorem tst_ite (c a b : E) : tst (eval Φ G (.ite c a b)) = fun g h => bd (tst (eval Φ G c) g h) fun t h => if t = true then tst (eval Φ G a) g h else tst (eval Φ G b) g h := by
  funext g h
  simp only [tst, eval, bd_assoc]
  congr 1
  funext r h1
  cases e : tru h1 r.frz with
  | none => rfl
  | some c => cases c <;> simp [ofO, bd_assoc, e]
theorem eval_ite (c a b : E) : eval Φ G (.ite c a b) = fun g h => bd (tst (eval Φ G c) g h) fun t h => if t = true then eval Φ G a g h else eval Φ G b g h := by
  funext g h
  simp only [tst, eval, bd_assoc]
  congr 1
  funext r h1
  cases e : tru h1 r.frz with
  | none => rfl
  | some c => cases c <;> simp [ofO]
-- a test, whatever its whole is
theorem pw_of {X : Cx} {op : PySem.BoolOp} {es : List Expr} {pos : Pos} {t : TT} (h : PT X (.BoolOp op es pos) t) : PW X (.BoolOp op es pos) t := ⟨fun whole => h.run⟩
theorem rdT_if {K : PySem.W.Frag} {W : XK} {σ : L2.St} {H : Hp} {Q : Bool → Hp → Prop} {ma : Env → Heap → Res Bool} {mb mc : Env → Heap → Res Bool} {T1 T2 : L2.St → Hp → Prop}
    (q : rT K W (fun g h => bd (ma g h) fun c h => if c = true then mb g h else mc g h) σ H Q)
    (h1 : ∀ H1, rT K W mb σ H1 Q → T1 σ H1) (h2 : ∀ H1, rT K W mc σ H1 Q → T2 σ H1) : rT K W ma σ H (fun c H1 => if c = true then T1 σ H1 else T2 σ H1) := by
  refine rd_bind (ρ := RB) q back_RB fun μ1 g h1' H1 c c' H0 hr er q1 F => ?_
  cases q1
  cases c with
  | true => exact iteT (h1 H1 ⟨μ1, g, h1', hr, er, F⟩)
  | false => exact iteF (h2 H1 ⟨μ1, g, h1', hr, er, F⟩)
theorem rT_ret {K : PySem.W.Frag} {W : XK} {σ : L2.St} {H : Hp} {Q : Bool → Hp → Prop} {b : Bool} (q : rT K W (fun _ h => some (.ok b h)) σ H Q) : Q b H := by
  obtain ⟨μ, g, h, r, er, F⟩ := q
  exact Fin.ok F r rfl
theorem se_and (a b : E) (ha : SE P Φ G k a) (hb : SE P Φ G k b) : SE P Φ G k (.and a b) := fun X W x gd hc => by
  cases x with
  | BoolOp o es pos =>
    match o, es, hc with
    | .And, [], hc => simp [chk] at hc
    | .Or, _, hc => simp [chk] at hc
    | .And, [_], hc => simp [chk] at hc
    | .And, a' :: b' :: rest, hc =>
      have h12 : chk P X.N X.env.scope a a' = true ∧ PE X (.BoolOp .And (b' :: rest) pos) (rE X.K W (eval Φ G b)) ∧ PW X (.BoolOp .And (b' :: rest) pos) (rT X.K W (tst (eval Φ G b))) := by
        cases rest with
        | nil =>
          simp only [chk, Bool.and_eq_true] at hc
          have ih := hb X W b' gd hc.2
          exact ⟨hc.1, pe_one ih.1, pw_and1 ih.2⟩
        | cons c' r' =>
          simp only [chk, Bool.and_eq_true] at hc
          have ih := hb X W _ gd hc.2
          exact ⟨hc.1, ih.1, pw_of ih.2⟩
      obtain ⟨h1, h2, h3⟩ := h12
      have ih := ha X W a' gd h1
      refine ⟨PE_imp (pe_andT ih.1 h2) fun σ H Q q => ?_, PT_imp (pw_and ih.2 h3).pt fun σ H Q q => ?_⟩
      · simp only [eval] at q
        refine rd_bind (ρ := RR X.K) q back_RR fun μ1 g h1 H1 r v H0 hr er q1 F => ?_
        cases e1 : tru h1 r.frz with
        | none => rw [e1] at F; exact F.elim
        | some c =>
          rw [e1] at F
          refine ⟨c, tru_of hr q1.frz e1, ?_⟩
          cases c with
          | false => exact iteF (Fin.ok F hr q1.frz)
          | true =>
            refine iteT ⟨μ1, g, h1, hr, er, F.bind fun r2 h2 v2 H2 μ2 P2 q2 F2 => ?_⟩
            exact (F2.from P2 back_RR).ok P2.hr q2.frz
      · rw [tst_and] at q
        exact rdT_if (T1 := fun σ H1 => rT X.K W (tst (eval Φ G b)) σ H1 Q) (T2 := fun _ H1 => Q false H1) q (fun H1 q => q) fun H1 q => rT_ret q
  | _ => simp [chk] at hc
theorem se_or (a b : E) (ha : SE P Φ G k a) (hb : SE P Φ G k b) : SE P Φ G k (.or a b) := fun X W x gd hc => by
  cases x with
  | BoolOp o es pos =>
    match o, es, hc with
    | .Or, [], hc => simp [chk] at hc
    | .And, _, hc => simp [chk] at hc
    | .Or, [_], hc => simp [chk] at hc
    | .Or, a' :: b' :: rest, hc =>
      have h12 : chk P X.N X.env.scope a a' = true ∧ PE X (.BoolOp .Or (b' :: rest) pos) (rE X.K W (eval Φ G b)) ∧ PW X (.BoolOp .Or (b' :: rest) pos) (rT X.K W (tst (eval Φ G b))) := by
        cases rest with
        | nil =>
          simp only [chk, Bool.and_eq_true] at hc
          have ih := hb X W b' gd hc.2
          exact ⟨hc.1, pe_one ih.1, pw_or1 ih.2⟩
        | cons c' r' =>
          simp only [chk, Bool.and_eq_true] at hc
          have ih := hb X W _ gd hc.2
          exact ⟨hc.1, ih.1, pw_of ih.2⟩
      obtain ⟨h1, h2, h3⟩ := h12
      have ih := ha X W a' gd h1
      refine ⟨PE_imp (pe_orT ih.1 h2) fun σ H Q q => ?_, PT_imp (pw_or ih.2 h3).pt fun σ H Q q => ?_⟩
      · simp only [eval] at q
        refine rd_bind (ρ := RR X.K) q back_RR fun μ1 g h1 H1 r v H0 hr er q1 F => ?_
        cases e1 : tru h1 r.frz with
        | none => rw [e1] at F; exact F.elim
        | some c =>
          rw [e1] at F
          refine ⟨c, tru_of hr q1.frz e1, ?_⟩
          cases c with
          | true => exact iteT (Fin.ok F hr q1.frz)
          | false =>
            refine iteF ⟨μ1, g, h1, hr, er, F.bind fun r2 h2 v2 H2 μ2 P2 q2 F2 => ?_⟩
            exact (F2.from P2 back_RR).ok P2.hr q2.frz
      · rw [tst_or] at q
        exact rdT_if (T1 := fun _ H1 => Q true H1) (T2 := fun σ H1 => rT X.K W (tst (eval Φ G b)) σ H1 Q) q (fun H1 q => rT_ret q) fun H1 q => q
  | _ => simp [chk] at hc
-- a if c else b as a test
theorem pt_ifExp {X : Cx} {c a b : Expr} {pos : Pos} {tc ta tb : TT} (hc : PT X c tc) (ha : PT X a ta) (hb : PT X b tb) : PT X (.IfExp c a b pos) (fun σ H Q => tc σ H fun d H1 => if d = true then ta σ H1 Q else tb σ H1 Q) := by
  refine ⟨fun pins s σ H Q I h => ?_⟩
  have e : isTrue (.IfExp c a b pos) X.env (PySem.eval (.IfExp c a b pos) X.env) = (do if ← isTrue c X.env (PySem.eval c X.env) then isTrue a X.env (PySem.eval a X.env) else isTrue b X.env (PySem.eval b X.env)) := rfl
  rw [e]
  refine wpAny_bind (thn (hc.run pins s σ H _ I h) fun d s1 ⟨H1, I1, q1⟩ => ?_)
  cases d with
  | true => exact ha.run pins s1 σ H1 Q I1 q1
  | false => exact hb.run pins s1 σ H1 Q I1 q1
theorem se_ite (c a b : E) (hcc : SE P Φ G k c) (ha : SE P Φ G k a) (hb : SE P Φ G k b) : SE P Φ G k (.ite c a b) := fun X W x gd hc => by
  cases x with
  | IfExp c' a' b' pos =>
    simp only [chk, Bool.and_eq_true] at hc
    obtain ⟨h1, h2, h3⟩ := hc
    have ic := hcc X W c' gd h1
    have ia := ha X W a' gd h2
    have ib := hb X W b' gd h3
    refine ⟨PE_imp (pe_ifExp ic.2 ia.1 ib.1) fun σ H Q q => ?_, PT_imp (pt_ifExp ic.2 ia.2 ib.2) fun σ H Q q => ?_⟩
    · rw [eval_ite] at q
      refine rd_bind (ρ := RB) q back_RR fun μ1 g h1' H1 c c' H0 hr er q1 F => ?_
      cases q1
      cases c with
      | true => exact iteT ⟨μ1, g, h1', hr, er, F⟩
      | false => exact iteF ⟨μ1, g, h1', hr, er, F⟩
    · rw [tst_ite] at q
      exact rdT_if (T1 := fun σ H1 => rT X.K W (tst (eval Φ G a)) σ H1 Q) (T2 := fun σ H1 => rT X.K W (tst (eval Φ G b)) σ H1 Q) q (fun H1 q => q) fun H1 q => q
  | _ => simp [chk] at hc
theorem ses_nil : SEs P Φ G k [] := fun X W xs gd hc => by
  cases xs with
  | nil =>
    refine PA_imp pa_nil fun σ H Q ⟨μ, g, h, r, er, F⟩ => ?_
    simp only [evals] at F
    exact Fin.ok F r (by simp [RA, RDs])
  | cons _ _ => simp [chks] at hc
theorem ses_cons (e : E) (es : List E) (he : SE P Φ G k e) (hes : SEs P Φ G k es) : SEs P Φ G k (e :: es) := fun X W xs gd hc => by
  cases xs with
  | nil => simp [chks] at hc
  | cons x xs =>
    simp only [chks, Bool.and_eq_true] at hc
    obtain ⟨h1, h2⟩ := hc
    refine PA_imp (pa_cons (he X W x gd h1).1 (hes X W xs gd h2) (shape_star (chk_shape h1) _ _)) fun σ H Q q => ?_
    simp only [evals] at q
    refine rd_bind (ρ := RR X.K) q back_RA fun μ1 g h1 H1 r v H0 hr er q1 F => ?_
    refine ⟨μ1, g, h1, hr, er, F.bind fun ds h2 vs H2 μ2 P2 q2 F2 => ?_⟩
    refine (F2.from P2 back_RA).ok P2.hr ?_
    simp only [RA, RDs]
    exact ⟨v, vs, rfl, RD.mono P2 hr _ _ q1.frz, q2⟩
theorem fz_new {K : PySem.W.Frag} {μ : Mu} {h : Heap} {H : Hp} (r : HR K μ h H) {p : Addr} (hp : H p = none) : ∀ q, q < h.length → μ q ≠ p := r.ne_none hp
theorem fz_s {K : PySem.W.Frag} {μ : Mu} {h : Heap} {H : Hp} (r : HR K μ h H) {p : Addr} (hp : H p = none) : ¬ μ.s p := fun z => r.sn p z hp
theorem se_tup (es : List E) (hes : SEs P Φ G k es) : SE P Φ G k (.tup es) := fun X W x gd hc => by
  cases x with
  | Tuple es' j pos =>
    simp only [chk] at hc
    have pe : PE X (.Tuple es' j pos) (rE X.K W (eval Φ G (.tup es))) := by
      refine PE_imp (pe_tup (hes X W es' gd hc)) fun σ H Q q => ?_
      simp only [eval] at q
      refine rd_bind (ρ := RA X.K) q back_RR fun μ1 g h1 H1 ds vs H0 hr er q1 F => ?_
      unfold tupM at F
      split at F
      · rename_i hl
        refine ⟨by rw [RDs.length q1, lim_line]; exact hl, fun p hp => ?_⟩
        have Pn := Post.new (o := .tup vs) hr hp
        refine F.okP Pn ?_
        show RD X.K μ1 h1.length _ (.tup ds) (.ref p)
        simp only [RD]
        exact ⟨p, vs, rfl, .inl (.inl upd_same), RDs.mono Pn hr _ _ q1⟩
      · exact F.elim
    exact ⟨pe, pt_plain pe rfl⟩
  | _ => simp [chk] at hc
theorem se_lst (es : List E) (hes : SEs P Φ G k es) : SE P Φ G k (.lst es) := fun X W x gd hc => by
  cases x with
  | List es' pos =>
    simp only [chk] at hc
    have pe : PE X (.List es' pos) (rE X.K W (eval Φ G (.lst es))) := by
      refine PE_imp (pe_lst (hes X W es' gd hc)) fun σ H Q ⟨μ, g, h, r, er, F⟩ => ?_
      simp only [eval] at F
      refine ⟨μ, g, h, r, er, F.bind fun ds h1 vs H1 μ1 P1 q1 F1 => ?_⟩
      unfold lstM at F1
      split at F1
      · rename_i hl
        refine ⟨by rw [RDs.length q1, lim_line]; exact hl, fun p hp => ?_⟩
        have Pn := Post.new (o := .lst vs) P1.hr hp
        exact F1 (.ref p) _ μ1 (P1.trans Pn) (RR.mk P1.hr hp (P1.none_back hp) q1)
      · exact F1.elim
    exact ⟨pe, pt_plain pe rfl⟩
  | _ => simp [chk] at hc
theorem atZ_I {α : Type} (l : List α) (i : Int) : atI l i = atZ l i := by
  unfold atI ixN atZ
  by_cases h0 : 0 ≤ i
  · rw [if_pos h0, if_pos h0]
    by_cases h1 : i < l.length
    · rw [if_pos h1]
      rfl
    · rw [if_neg h1]
      show none = _
      rw [List.getElem?_eq_none]
      omega
  · rw [if_neg h0, if_neg h0]
    split <;> rfl
-- a dict, read by a key
theorem ix_dget {X : Cx} (hu : X.A.units + 1 < cLine) : IxR X (fun x y H Q => ∃ a v, x = .ref a ∧ DGet H a y (some v) ∧ Q v H) := by
  intro value slice pins s σ H x y v u Q I rx ry h hs
  obtain ⟨a, z, rfl, g, q⟩ := h
  obtain rfl : v = Value.ref a := rx
  exact tail_any (dict_typeIs I g) PySem.F.slot_dict_getitem.lookup (d_getItem hu I g ry fun w' s3 I3 rw' => ⟨z, H, I3, rw', q⟩) hs
theorem get_rel {K : PySem.W.Frag} {μ : Mu} {n : Nat} {H : Hp} {k : Sum Int Str} {d : D} : ∀ {l : List (Sum Int Str × D)} {kvs : List (Key × V)}, kvs.map (·.1) = l.map (·.1) → RDs K μ n H (l.map (·.2)) (kvs.map (·.2)) → getD l k = some d → ∃ v, valV kvs k = some v ∧ RD K μ n H d v
  | [], kvs, e, t, q => by
    simp [getD] at q
  | (k0, d0) :: l, [], e, t, q => by simp at e
  | (k0, d0) :: l, (k1, v1) :: kvs, e, t, q => by
    simp only [List.map_cons, List.cons.injEq] at e
    obtain ⟨rfl, e⟩ := e
    simp only [List.map_cons, RDs] at t
    obtain ⟨v', r', ee, q1, q2⟩ := t
    cases ee
    unfold getD at q
    unfold valV
    simp only [List.find?_cons] at q ⊢
    by_cases hk : k1 = k
    · simp only [hk, decide_true, Option.map_some, Option.some.injEq] at q ⊢
      subst q
      exact ⟨v1, rfl, q1⟩
    · simp only [hk, decide_false] at q ⊢
      exact get_rel e q2 q
theorem key_of {K : PySem.W.Frag} {μ : Mu} {n : Nat} {H : Hp} {d : D} {v : V} {k : Sum Int Str} (q : RD K μ n H d v) (e : keyOf d = some k) : v = kV k := by
  cases d <;> first | (cases e; cases q; rfl) | cases e
theorem dic_of' {K : PySem.W.Frag} {μ : Mu} {h : Heap} {H : Hp} {d : D} {v : V} {l : List (Sum Int Str × D)} (r : HR K μ h H) (q : RD K μ h.length H d v) (e : dicOf h d = some l) :
    ∃ (a : Addr) (kvs : List (Key × V)), v = .ref a ∧ Rd H a (.dK kvs) ∧ kvs.map (·.1) = l.map (·.1) ∧ RDs K μ h.length H (l.map (·.2)) (kvs.map (·.2)) := by
  have zipl : ∀ (ks : List (Sum Int Str)) (vs : List D), ks.length = vs.length → (ks.zip vs).map (·.1) = ks ∧ (ks.zip vs).map (·.2) = vs := by
    intro ks
    induction ks with
    | nil =>
      intro vs e
      have : vs = [] := List.length_eq_zero_iff.mp e.symm
      subst this
      exact ⟨rfl, rfl⟩
    | cons k ks ih =>
      intro vs e
      cases vs with
      | nil => cases e
      | cons v vs =>
        obtain ⟨a, b⟩ := ih vs (by simpa using e)
        simp only [List.zip_cons_cons, List.map_cons, a, b, and_self]
  cases d with
  | dic ks vs =>
    cases e
    simp only [RD] at q
    obtain ⟨a, kvs, rfl, s, ek, t⟩ := q
    have hl := t.length
    have hk := congrArg List.length ek
    simp only [List.length_map] at hl hk
    obtain ⟨z1, z2⟩ := zipl ks vs (by omega)
    exact ⟨a, kvs, rfl, s.1, by rw [z1, ek], by rw [z2]; exact t⟩
  | loc p =>
    simp only [dicOf] at e
    cases c : h[p]? with
    | none => rw [c] at e; cases e
    | some o =>
      rw [c] at e
      cases o with
      | lst _ => cases e
      | obj _ _ => cases e
      | dic m =>
        cases e
        obtain ⟨kvs, e1, ek, t⟩ := r.ob p _ c
        simp only [RD] at q
        exact ⟨_, kvs, q.2, .inl e1, ek, t⟩
  | _ => cases e
theorem ix_rel {K : PySem.W.Frag} {W : XK} {μ : Mu} {h : Heap} {H : Hp} {d1 d2 : D} {x y : V} {Q : VK} (r : HR K μ h H) (q1 : RD K μ h.length H d1 x) (q2 : RD K μ h.length H d2 y) (F : Fin K W (RR K) μ h H (ixM d1 d2 h) Q) :
    (rIxL K x y H Q ∨ rIxT K x y H Q) ∨ ∃ a v, x = .ref a ∧ DGet H a y (some v) ∧ Q v H := by
  unfold ixM at F
  cases e : ixD h d1 d2 with
  | none =>
    rw [e] at F
    simp only at F
    refine .inr ?_
    unfold dixD at F
    cases c1 : dicOf h d1 with
    | none => rw [c1] at F; exact F.elim
    | some l =>
      cases c2 : keyOf d2 with
      | none => rw [c1, c2] at F; exact F.elim
      | some k =>
        rw [c1, c2] at F
        simp only at F
        cases c3 : getD l k with
        | none => rw [c3] at F; exact F.elim
        | some d =>
          rw [c3] at F
          obtain ⟨a, kvs, rfl, s, ek, t⟩ := dic_of' r q1 c1
          obtain ⟨v, e1, e2⟩ := get_rel ek t c3
          exact ⟨a, v, rfl, .inl ⟨kvs, k, s, key_of q2 c2, e1.symm⟩, Fin.ok F r e2⟩
  | some d =>
    rw [e] at F
    unfold ixD at e
    cases c : seqOf h d1 with
    | none => rw [c] at e; cases e
    | some l =>
      rw [c] at e
      cases d2 with
      | int i =>
        simp only at e
        cases q2
        obtain ⟨a, vs, rfl, s, t⟩ := seq_of r q1 c
        rw [← atZ_I] at e
        have hv : ∃ v, atI vs i = some v ∧ RD K μ h.length H d v := by
          unfold atI at e ⊢
          rw [t.length]
          cases e3 : ixN l.length i with
          | none => rw [e3] at e; cases e
          | some j =>
            rw [e3] at e
            exact t.get j d e
        obtain ⟨v, e4, q4⟩ := hv
        rcases s with s | s
        · exact .inl (.inl ⟨a, vs, i, v, rfl, rfl, s, e4, Fin.ok F r q4⟩)
        · exact .inl (.inr ⟨a, vs, i, v, rfl, rfl, s, e4, Fin.ok F r q4⟩)
      | _ => cases e
theorem se_ix (a b : E) (ha : SE P Φ G k a) (hb : SE P Φ G k b) : SE P Φ G k (.ix a b) := fun X W x gd hc => by
  cases x with
  | Subscript a' b' pos =>
    simp only [chk, Bool.and_eq_true] at hc
    obtain ⟨h1, h2⟩ := hc
    have pe : PE X (.Subscript a' b' pos) (rE X.K W (eval Φ G (.ix a b))) := by
      have hr : IxR X (r2 X.K W ixM) := IxR_imp (IxR.or (IxR.or ix_list ix_tup) (ix_dget (by have := gd.un; omega))) fun x y H Q ⟨μ, h, d1, d2, r, q1, q2, F⟩ => ix_rel r q1 q2 F
      refine PE_imp (pe_ix hr (ha X W a' gd h1).1 (hb X W b' gd h2).1 (shape_ix (chk_shape h2))) fun σ H Q q => rd_two (f := ixM) ?_
      simpa only [eval] using q
    exact ⟨pe, pt_plain pe rfl⟩
  | _ => simp [chk] at hc
end
end MP

/-! MP.Snd5: what is walked. -/
namespace MP
open PySem PySem.Spec PyProof.Rows L2

/-! ### enumerate(tuple) -/
theorem meets_enum1 {v : Value} {o : Obj} {H : PySem.Heap → Prop} (B : Begins v o H) :
    Meets (Builtin.«enumerate.__new__» ⟨[.type "enumerate", v], []⟩) (fun _ R s => H s.heap ∧
      R (.ok (.ret (.ref (s.heap.push o).objs.size))) { s with heap := (s.heap.push o).push { cls := .type "enumerate", data := .fields #[.none, .bool false, .ref s.heap.objs.size, rawInt 0, .none, .none] } }) :=
  .of_wp fun prog w A R s h => by
    obtain ⟨hp, g, d, tk, os⟩ := s
    obtain ⟨h1, h⟩ := h
    have hsub := PySem.sub_enumerate
    have q1 : ∀ {A' : Around} {E : Value → Shared → Prop} {Q : Value → Shared → Prop}, Q (.ref hp.objs.size) ⟨hp.push o, g, d, tk, os⟩ → wpAny (model prog w) A' (pyIter v) Q E ⟨hp, g, d, tk, os⟩ :=
      fun q => B.iter prog w _ _ ⟨hp, g, d, tk, os⟩ _ h1 q
    wp_walk using q1
    refine wpAny_stack_any fun st => wpAny_pure ?_
    split
    · rename_i c _ _ _ _ _
      cases (c == Value.type "enumerate")
      · wp_walk using q1
        exact ⟨_, rfl, h⟩
      · wp_walk using q1
        exact ⟨_, rfl, h⟩
    · wp_walk using q1
      exact ⟨_, rfl, h⟩
section
variable {prog : Program} {w : World} {A : Around} {E : Value → Shared → Prop} {s : Shared}
theorem call_enum1 {v : Value} {o : Obj} {H : PySem.Heap → Prop} {Q : Value → Shared → Prop} (B : Begins v o H) (h1 : H s.heap)
    (h : ∀ h', IsEnum h' (s.heap.objs.size + 1) s.heap.objs.size 0 .none → h'.get? s.heap.objs.size = some o → h'.objs.size = s.heap.objs.size + 2 →
      (∀ b o, s.heap.get? b = some o → h'.get? b = some o) → Q (.ref (s.heap.objs.size + 1)) { s with heap := h' }) :
    wpAny (model prog w) A (call (.type "enumerate") [v]) Q E s := by
  refine callType_new F.called_enumerate (by decide) (F.typeCall_enumerate_1 _) (F.newCall_enumerate_1 _) (fun obj => F.args_object_init_2 obj _) F.entry_enumerate_new
    (meets_enum1 B) ⟨h1, ?_⟩
  have hz : (s.heap.push o).objs.size = s.heap.objs.size + 1 := Heap.size_push ..
  show _ ∧ _
  rw [hz]
  have he : IsEnum ((s.heap.push o).push { cls := .type "enumerate", data := .fields #[.none, .bool false, .ref s.heap.objs.size, rawInt 0, .none, .none] }) (s.heap.objs.size + 1) s.heap.objs.size 0 .none := by
    have := Heap.get?_push_size (s.heap.push o) (o := { cls := .type "enumerate", data := .fields #[.none, .bool false, .ref s.heap.objs.size, rawInt 0, .none, .none] }) rfl
    rw [hz] at this
    exact this
  refine ⟨⟨_, he, rfl⟩, h _ he (Heap.get?_push_of_some _ (Heap.get?_push_size _ B.free)) (by rw [Heap.size_push, hz]) fun b o x => Heap.get?_push_of_some _ (Heap.get?_push_of_some _ x)⟩
end
-- the tuple at a, each item in a new pair
def Iet (K : PySem.W.Frag) (a : Addr) : It :=
  ⟨fun i H => ∃ (xs : List V) (x : V), SqT K H a xs ∧ xs[i]? = some x, fun i H v H' => ∃ T x, v = .ref T ∧ H T = none ∧ H' = upd H T (.tup [.int (i : Nat), x]) ∧ ∀ xs, SqT K H a xs → xs[i]? = some x, fun i H => ∃ xs : List V, SqT K H a xs ∧ xs.length ≤ i⟩
theorem turn_enumT {P : Program} {w : World} {K : PySem.W.Frag} {elts : List Expr} {kk : Nat} {tpos : Pos} (a e it : Addr) :
    Turn P w K (.Tuple elts kk tpos) (Iet K a) [e, it] e (fun i h => (∃ old, IsEnum h e it ((i : Nat) : Int) old) ∧ h.IsTupleIter it a i ∧ e ≠ it ∧ a ≠ it ∧ a ≠ e) where
  mem := by simp
  obj := fun i h st b hb => by
    obtain ⟨⟨old, he⟩, ⟨o, ho, hc, hd⟩, _⟩ := st
    have e' : b = e ∨ b = it := by simpa using hb
    rcases e' with z | z
    · rw [z]; exact ⟨_, he, fun v q => nomatch q⟩
    · rw [z]; exact ⟨o, ho, fun v q => by rw [hd] at q; cases q⟩
  keep := fun i h h' st k => let ⟨⟨old, he⟩, hi, hne⟩ := st; ⟨⟨old, k e (by simp) _ he⟩, hi.at fun o q => k it (by simp) o q, hne⟩
  item := by
    intro X hP hw hK hc i pins s σ H E I hf st hg
    subst hP hw hK
    obtain ⟨⟨old, he⟩, hit, hne, hai, hae⟩ := st
    obtain ⟨xs, x, hq, hx⟩ := hg
    obtain ⟨its, rv, p, hz⟩ := I.tuple hq
    obtain ⟨u, hu, ru⟩ := rv.get hx
    have hel : e < s.heap.objs.size := Heap.lt_size he
    have hil : it < s.heap.objs.size := by obtain ⟨_, q, _⟩ := hit; exact Heap.lt_size q
    have D := Draws.tuple (prog := X.prog) (w := X.w) (A := X.A.in1) (I.ok.hd hc) it a hai its.toArray
    have hlt : i < its.toArray.size := by
      rcases Nat.lt_or_ge i its.length with q | q
      · simpa using q
      · rw [List.getElem?_eq_none q] at hu; cases hu
    refine wpAny_pyNext_enum_itemD D he ⟨hit, show s.heap.IsTuple a its.toArray from p⟩ hlt hne (by simp; exact ⟨hne, Ne.symm hae⟩) fun y h' tk hy ho hit' hT hsz hk => ?_
    have hyu : y = u := by
      have h2 : its.toArray[i]? = some u := by simpa using hu
      rw [h2] at hy
      exact (Option.some.inj hy).symm
    subst hyu
    refine ⟨_, rfl, wpAny_letOwnedTupleGo_enum (s := { s with heap := h', toks := tk + 1 }) ho fun h'' he' sb => ?_⟩
    have hT2 : h''.get? s.heap.objs.size = some { cls := .type "tuple", data := .seq #[.int i tk, y] } := (sb.2 _ (Nat.ne_of_gt hel)).trans hT
    have new : ObjOk X.prog X.w (upd H s.heap.objs.size (.tup [.int (i : Nat), x])) h'' s.heap.objs.size (.tup [.int (i : Nat), x]) :=
      ⟨by show 2 ≤ sizeLine; decide, [.int i tk, y], .cons ⟨_, rfl⟩ (.cons ru .nil), ⟨_, hT2, rfl, _, rfl⟩⟩
    have I1 : Inv X pins σ (upd H s.heap.objs.size (.tup [.int (i : Nat), x])) { s with heap := h'', toks := tk + 1 } :=
      I.turnedNew (ch := [e, it]) (fun b ob hb q => (sb.2 b (fun z => hb (by simp [z]))).trans (hk b ob (fun z => hb (by simp [z])) (fun z => hb (by simp [z])) q)) hf (Nat.le_refl _) new
    refine ⟨.ref s.heap.objs.size, _, I1, rfl, ⟨_, x, rfl, I.hok.fresh (Nat.le_refl _), rfl, fun ys hy => by rw [I.tuple_inj hy hq]; exact hx⟩, ⟨⟨y, ?_⟩, hit'.1.at fun o q => (sb.2 it (Ne.symm hne)).trans q, hne, hai, hae⟩, fun b hb => ?_⟩
    · have e1 : ((i + 1 : Nat) : Int) = (i : Int) + 1 := by omega
      rw [e1]; exact he'
    · have hb' : b < s.heap.objs.size := by
        have e' : b = e ∨ b = it := by simpa using hb
        rcases e' with z | z
        · rw [z]; exact hel
        · rw [z]; exact hil
      rw [upd_ne (Nat.ne_of_lt hb')]
      exact (hf b hb).1
  done := by
    intro X hP hw hK hc i pins s σ H E I hf st hg
    subst hP hw hK
    obtain ⟨⟨old, he⟩, hit, hne, hai, hae⟩ := st
    obtain ⟨xs, hq, hx⟩ := hg
    obtain ⟨its, rv, p, hz⟩ := I.tuple hq
    obtain ⟨f0, f1, f2, f3, f4, f5⟩ := hf it (by simp)
    have hl := rv.length
    have pT : s.heap.IsTuple a its.toArray := p
    have hh : X.A.in1.handled = none := I.ok.hd hc
    have hT : s.TypeIs (.ref e) "enumerate" := ⟨_, he, rfl⟩
    unfold pyNext
    refine wpAny_bind (wpAny_attempt (wpAny_callSpecial?_slot (name := Str.ofString "__next__") hT F.slot_enumerate_next
      (wpAny_call_entry F.slot_enumerate_next hT F.entry_enumerate_next ?_ (F.args_enumerate_next_1 _))))
    show wpAny _ _ (field (.ref e) 2 >>= _) _ _ _
    refine wpAny_bind (wpAny_field he rfl (x := .ref it) rfl ?_)
    refine wpAny_bind (wpAny_nextOf_tuple_end hh hit pT (by simp; omega) fun h' x he' hx' => ?_)
    obtain ⟨o, ho, hc2⟩ := hx'
    refine wpAny_bind (wpAny_isInstance (T := "StopIteration") (b := true) ⟨o, ho, hc2⟩ isSubtype_stop ?_)
    exact wpAny_pure ⟨rfl, I.turned (t' := s.toks) (fun b o hb q => he' b o hb q) f0 f1 f3 f4 f5⟩
  self := fun A i s Q E st h => let ⟨⟨_, he⟩, _⟩ := st; wpAny_pyIter_enum he h
-- enumerate of a list or of a tuple
def iEnumA (K : PySem.W.Frag) (ta : TA) : TI := fun σ H R => ta σ H fun vs H1 => ∃ a xs, vs = [.ref a] ∧ ((SqL K H1 a xs ∧ R (Ite K a) H1) ∨ (SqT K H1 a xs ∧ R (Iet K a) H1))
theorem pi_enumA {X : Cx} {e : Expr} {ta : TA} {p pos tpos : Pos} {elts : List Expr} {kk : Nat} (hg : Gl X "enumerate") (hm : X.mg "enumerate" = none) (ha : PA X [e] ta) (hs : starEach [e] X.env = [(false, PySem.eval e X.env)]) :
    PI X (.Tuple elts kk tpos) (.Call (.Name "enumerate" p) [e] [] pos) (iEnumA X.K ta) := by
  refine ⟨fun pins s σ H R I h => ?_⟩
  refine Call_ (ld_blt I hg hm boot_enumerate (PyProof.Rows.callWith_type1 (thn (ha.run pos pins s σ H _ I h) fun us s1 ⟨vs, H1, I1, r1, q1⟩ => ?_) hs rfl))
  obtain ⟨a, xs, ex, q⟩ := q1
  subst ex
  cases r1 with
  | cons r rr =>
    cases rr
    cases r
    have fr : ∀ b ∈ [s1.heap.objs.size + 1, s1.heap.objs.size], FpOk X pins H1 b := fun b hb => by
      have e' : b = s1.heap.objs.size + 1 ∨ b = s1.heap.objs.size := by simpa using hb
      have hle : s1.heap.objs.size ≤ b := by
        rcases e' with z | z
        · rw [z]; exact Nat.le_add_right _ _
        · rw [z]; exact Nat.le_refl _
      exact I1.fpOk hle (I1.hok.fresh hle)
    rcases q with ⟨hq, q⟩ | ⟨hq, q⟩
    · obtain ⟨its, rv, p', hz⟩ := I1.list hq
      refine call_enumerate_list p'.isList fun h' he hit hsz hk => wpAny_pyIter_enum he ?_
      have I2 : Inv X pins σ H1 { s1 with heap := h' } := I1.kept (t' := s1.toks) hk
      exact ⟨s1.heap.objs.size + 1, [s1.heap.objs.size + 1, s1.heap.objs.size], _, _, H1, rfl, I2, turn_enum a (s1.heap.objs.size + 1) s1.heap.objs.size, ⟨⟨.none, he⟩, hit, Nat.succ_ne_self _⟩, fr, q⟩
    · obtain ⟨its, rv, p', hz⟩ := I1.tuple hq
      have pT : s1.heap.IsTuple a its.toArray := p'
      have hal : a < s1.heap.objs.size := by obtain ⟨_, e1, _⟩ := p'; exact Heap.lt_size e1
      refine call_enum1 (begins_tuple a its.toArray) pT fun h' he hit hsz hk => wpAny_pyIter_enum he ?_
      have I2 : Inv X pins σ H1 { s1 with heap := h' } := I1.kept (t' := s1.toks) hk
      exact ⟨s1.heap.objs.size + 1, [s1.heap.objs.size + 1, s1.heap.objs.size], _, _, H1, rfl, I2, turn_enumT a (s1.heap.objs.size + 1) s1.heap.objs.size, ⟨⟨.none, he⟩, ⟨_, hit, rfl, rfl⟩, Nat.succ_ne_self _, Nat.ne_of_lt hal, Nat.ne_of_lt (Nat.lt_succ_of_lt hal)⟩, fr, q⟩
-- a list or a tuple
theorem pi_seq {X : Cx} {tg l : Expr} {tl : TE} (hl : PE X l tl) :
    PI X tg l (fun σ H R => tl σ H fun x H1 => ∃ a, x = .ref a ∧ (((∃ xs, SqL X.K H1 a xs) ∧ R (Itl X.K a) H1) ∨ ((∃ xs, SqT X.K H1 a xs) ∧ R (Itt X.K a) H1))) := by
  refine ⟨fun pins s σ H R I h => ?_⟩
  refine thn (hl.run pins s σ H _ I h) fun v s1 ⟨x, H1, I1, r1, q1⟩ => ?_
  obtain ⟨a, e, q⟩ := q1
  subst e
  cases r1
  have fr : ∀ b ∈ [s1.heap.objs.size], FpOk X pins H1 b := fun b hb => by
    have e : b = s1.heap.objs.size := by simpa using hb
    subst e
    exact I1.fpOk (Nat.le_refl _) (I1.hok.fresh (Nat.le_refl _))
  rcases q with ⟨⟨xs, hq⟩, q⟩ | ⟨⟨xs, hq⟩, q⟩
  · obtain ⟨its, rv, p, hz⟩ := I1.list hq
    refine wpAny_pyIter_list p.isList ?_
    exact ⟨s1.heap.objs.size, [s1.heap.objs.size], _, _, H1, rfl, I1.kept (t' := s1.toks) fun b o e => Heap.get?_push_of_some _ e, turn_list a _, ⟨_, Heap.get?_push_size _ rfl, rfl, rfl⟩, fr, q⟩
  · obtain ⟨its, rv, p, hz⟩ := I1.tuple hq
    refine wpAny_pyIter_tuple (show s1.heap.IsTuple a its.toArray from p) ?_
    exact ⟨s1.heap.objs.size, [s1.heap.objs.size], _, _, H1, rfl, I1.kept (t' := s1.toks) fun b o e => Heap.get?_push_of_some _ e, turn_tuple a _, ⟨_, Heap.get?_push_size _ rfl, rfl, rfl⟩, fr, q⟩
end MP

/-! MP.Snd6: items of a walk. -/
namespace MP
open PySem PySem.Spec PyProof.Rows L2

-- a walk over known items, whatever is done as long as its source stays
def WalkD (K : PySem.W.Frag) (its : Items) (J : It) (μ1 : Mu) (h1 : Heap) (H1 : Hp) : Prop :=
  ∀ μ2 h2 H2, Post K μ1 h1 H1 μ2 h2 H2 → still its h2 = true →
    (∀ i, i < its.1.length → J.go i H2) ∧ J.stop its.1.length H2 ∧
      ∀ i x H3, i < its.1.length → J.yld i H2 x H3 → ∃ d, its.1[i]? = some d ∧ Post K μ2 h2 H2 μ2 h2 H3 ∧ RD K μ2 h2.length H3 d x
def RI (K : PySem.W.Frag) : Rel Items It := fun μ h _ H its J => WalkD K its J μ h H ∧ still its h = true
theorem back_RI {K : PySem.W.Frag} : Back K (RI K) := fun _ q => q
section
variable {K : PySem.W.Frag} {μ : Mu} {h : Heap} {H : Hp}
theorem RDs.none_of {l : List D} {vs : List V} {n : Nat} (q : RDs K μ n H l vs) {i : Nat} {v : V} (e : vs[i]? = some v) : ∃ d, l[i]? = some d ∧ RD K μ n H d v := by
  have hl : i < vs.length := by
    rcases Nat.lt_or_ge i vs.length with q' | q'
    · exact q'
    · rw [List.getElem?_eq_none q'] at e; cases e
  have hl2 : i < l.length := by rw [← q.length]; exact hl
  obtain ⟨v', e1, e2⟩ := q.get i l[i] (List.getElem?_eq_getElem hl2)
  rw [e] at e1
  cases e1
  exact ⟨_, List.getElem?_eq_getElem hl2, e2⟩
-- a list, as it stands in each later state
theorem walkd_list {its : Items} {a : Addr} (hs : ∀ μ2 h2 H2, Post K μ h H μ2 h2 H2 → still its h2 = true → ∃ vs, SqL K H2 a vs ∧ RDs K μ2 h2.length H2 its.1 vs) : WalkD K its (Itl K a) μ h H := fun μ2 h2 H2 P st => by
  obtain ⟨vs, sq, q⟩ := hs μ2 h2 H2 P st
  refine ⟨fun i hi => ?_, ⟨vs, sq, by rw [q.length]; exact Nat.le_refl _⟩, fun i x H3 hi y => ?_⟩
  · obtain ⟨v, e, _⟩ := q.get i _ (List.getElem?_eq_getElem hi)
    exact ⟨vs, v, sq, e⟩
  · obtain ⟨e, y⟩ := y
    subst e
    obtain ⟨d, e1, e2⟩ := q.none_of (y vs sq)
    exact ⟨d, e1, Post.refl P.hr, e2⟩
theorem walkd_tup {l : List D} {a : Addr} {vs : List V} (r : HR K μ h H) (s : SqT K H a vs) (t : RDs K μ h.length H l vs) : WalkD K (l, none) (Itt K a) μ h H := fun μ2 h2 H2 P st => by
  have sq := P.rdT r s
  have q := RDs.mono P r _ _ t
  refine ⟨fun i hi => ?_, ⟨vs, sq, by rw [q.length]; exact Nat.le_refl _⟩, fun i x H3 hi y => ?_⟩
  · obtain ⟨v, e, _⟩ := q.get i _ (List.getElem?_eq_getElem hi)
    exact ⟨vs, v, sq, e⟩
  · obtain ⟨e, y⟩ := y
    subst e
    obtain ⟨d, e1, e2⟩ := q.none_of (y vs sq)
    exact ⟨d, e1, Post.refl P.hr, e2⟩
theorem walkd_fz {l : List D} {a : Addr} {vs : List V} (r : HR K μ h H) (s : FzL K μ h.length H a vs) (t : RDs K μ h.length H l vs) : WalkD K (l, none) (Itl K a) μ h H :=
  walkd_list fun μ2 h2 H2 P st => ⟨vs, (P.fz r s).sqk, RDs.mono P r _ _ t⟩
theorem walkd_fz0 {l : List D} {a : Addr} {vs : List V} (r : HR K μ h H) (s : FzL [] μ h.length H a vs) (t : RDs K μ h.length H l vs) : WalkD K (l, none) (Itl K a) μ h H :=
  walkd_list fun μ2 h2 H2 P st => ⟨vs, (P.fz r s).sq, RDs.mono P r _ _ t⟩
theorem walkd_loc {l : List D} {p : Nat} (hp : p < h.length) : WalkD K (l, some p) (Itl K (μ p)) μ h H :=
  walkd_list fun μ2 h2 H2 P st => by
    have e : h2[p]? = some (.lst l) := by
      unfold still at st
      simpa using st
    obtain ⟨vs, e1, e2⟩ := P.hr.ob p _ e
    rw [P.ext p hp] at e1
    exact ⟨vs, .inl (.inl e1), e2⟩
theorem walkd_range (lo hi : Int) : WalkD K (rangeD lo hi, none) (Itr lo (hi - lo).toNat) μ h H := fun μ2 h2 H2 P st => by
  have hl : (rangeD lo hi).length = (hi - lo).toNat := by simp [rangeD]
  refine ⟨fun i hi => by rw [hl] at hi; exact hi, by rw [hl]; exact Nat.le_refl _, fun i x H3 hi' y => ?_⟩
  obtain ⟨e, e2⟩ := y
  subst e e2
  rw [hl] at hi'
  refine ⟨.int (lo + (i : Int)), ?_, Post.refl P.hr, rfl⟩
  simp [rangeD, hi']
-- a new pair of plain parts
theorem pair_new {μ2 : Mu} {h2 : Heap} {H2 : Hp} (r : HR K μ2 h2 H2) {T : Addr} {d e : D} {x y : V} (hT : H2 T = none) (q1 : RD K μ2 h2.length H2 d x) (q2 : RD K μ2 h2.length H2 e y) :
    Post K μ2 h2 H2 μ2 h2 (upd H2 T (.tup [x, y])) ∧ RD K μ2 h2.length (upd H2 T (.tup [x, y])) (.tup [d, e]) (.ref T) := by
  have Pn := Post.new (o := .tup [x, y]) r hT
  refine ⟨Pn, ?_⟩
  simp only [RD]
  refine ⟨T, [x, y], rfl, .inl (.inl upd_same), ?_⟩
  simp only [RDs]
  exact ⟨x, [y], rfl, RD.mono Pn r _ _ q1, y, [], rfl, RD.mono Pn r _ _ q2, rfl⟩
theorem enumD_get (l : List D) (i : Nat) : (enumD l)[i]? = (l[i]?).map fun d => D.tup [.int (i : Int), d] := by
  unfold enumD
  rw [List.getElem?_zipWith]
  by_cases hi : i < l.length
  · simp [hi]
  · simp [hi]
theorem enumD_length (l : List D) : (enumD l).length = l.length := by simp [enumD]
theorem walkd_enumL {l : List D} {a : Addr} {vs : List V} (r : HR K μ h H) (s : FzL [] μ h.length H a vs) (t : RDs K μ h.length H l vs) : WalkD K (enumD l, none) (Ite K a) μ h H := fun μ2 h2 H2 P st => by
  have sq : SqL K H2 a vs := (P.fz r s).sq
  have q := RDs.mono P r _ _ t
  refine ⟨fun i hi => ?_, ⟨vs, sq, by rw [q.length, enumD_length]; exact Nat.le_refl _⟩, fun i x H3 hi y => ?_⟩
  · rw [enumD_length] at hi
    obtain ⟨v, e, _⟩ := q.get i _ (List.getElem?_eq_getElem hi)
    exact ⟨vs, v, sq, e⟩
  · obtain ⟨T, x', rfl, hT, rfl, y⟩ := y
    obtain ⟨d, e1, e2⟩ := q.none_of (y vs sq)
    obtain ⟨p1, p2⟩ := pair_new P.hr hT (show RD K μ2 h2.length H2 (.int (i : Int)) (.int (i : Nat)) from rfl) e2
    exact ⟨_, by rw [enumD_get, e1]; rfl, p1, p2⟩
theorem walkd_enumT {l : List D} {a : Addr} {vs : List V} (r : HR K μ h H) (s : SqT K H a vs) (t : RDs K μ h.length H l vs) : WalkD K (enumD l, none) (Iet K a) μ h H := fun μ2 h2 H2 P st => by
  have sq := P.rdT r s
  have q := RDs.mono P r _ _ t
  refine ⟨fun i hi => ?_, ⟨vs, sq, by rw [q.length, enumD_length]; exact Nat.le_refl _⟩, fun i x H3 hi y => ?_⟩
  · rw [enumD_length] at hi
    obtain ⟨v, e, _⟩ := q.get i _ (List.getElem?_eq_getElem hi)
    exact ⟨vs, v, sq, e⟩
  · obtain ⟨T, x', rfl, hT, rfl, y⟩ := y
    obtain ⟨d, e1, e2⟩ := q.none_of (y vs sq)
    obtain ⟨p1, p2⟩ := pair_new P.hr hT (show RD K μ2 h2.length H2 (.int (i : Int)) (.int (i : Nat)) from rfl) e2
    exact ⟨_, by rw [enumD_get, e1]; rfl, p1, p2⟩
theorem walkd_zipL {l m : List D} {a b : Addr} {vs ws : List V} (r : HR K μ h H) (s : FzL [] μ h.length H a vs) (t : RDs K μ h.length H l vs) (s2 : FzL [] μ h.length H b ws) (t2 : RDs K μ h.length H m ws) :
    WalkD K (l.zipWith (fun x y => D.tup [x, y]) m, none) (Itz K a b) μ h H := fun μ2 h2 H2 P st => by
  have sq : SqL K H2 a vs := (P.fz r s).sq
  have sq2 : SqL K H2 b ws := (P.fz r s2).sq
  have q := RDs.mono P r _ _ t
  have q2 := RDs.mono P r _ _ t2
  have hl : (l.zipWith (fun x y => D.tup [x, y]) m).length = min l.length m.length := List.length_zipWith
  refine ⟨fun i hi => ?_, ⟨vs, ws, sq, sq2, by rw [q.length, q2.length]; simp only [hl]; omega⟩, fun i x H3 hi y => ?_⟩
  · simp only [hl] at hi
    obtain ⟨v, e, _⟩ := q.get i _ (List.getElem?_eq_getElem (show i < l.length by omega))
    obtain ⟨v2, e2, _⟩ := q2.get i _ (List.getElem?_eq_getElem (show i < m.length by omega))
    exact ⟨vs, ws, v, v2, sq, sq2, e, e2⟩
  · obtain ⟨T, x', y', rfl, hT, rfl, y1, y2⟩ := y
    obtain ⟨d, e1, e2⟩ := q.none_of (y1 vs sq)
    obtain ⟨d', e3, e4⟩ := q2.none_of (y2 ws sq2)
    obtain ⟨p1, p2⟩ := pair_new P.hr hT e2 e4
    exact ⟨_, by simp [List.getElem?_zipWith, e1, e3], p1, p2⟩
theorem walkd_zipT {l m : List D} {a b : Addr} {vs ws : List V} (r : HR K μ h H) (s : SqT K H a vs) (t : RDs K μ h.length H l vs) (s2 : SqT K H b ws) (t2 : RDs K μ h.length H m ws) :
    WalkD K (l.zipWith (fun x y => D.tup [x, y]) m, none) (RZ.ItzT K a b) μ h H := fun μ2 h2 H2 P st => by
  have sq := P.rdT r s
  have sq2 := P.rdT r s2
  have q := RDs.mono P r _ _ t
  have q2 := RDs.mono P r _ _ t2
  have hl : (l.zipWith (fun x y => D.tup [x, y]) m).length = min l.length m.length := List.length_zipWith
  refine ⟨fun i hi => ?_, ⟨vs, ws, sq, sq2, by rw [q.length, q2.length]; simp only [hl]; omega⟩, fun i x H3 hi y => ?_⟩
  · simp only [hl] at hi
    obtain ⟨v, e, _⟩ := q.get i _ (List.getElem?_eq_getElem (show i < l.length by omega))
    obtain ⟨v2, e2, _⟩ := q2.get i _ (List.getElem?_eq_getElem (show i < m.length by omega))
    exact ⟨vs, ws, v, v2, sq, sq2, e, e2⟩
  · obtain ⟨T, x', y', rfl, hT, rfl, y1, y2⟩ := y
    obtain ⟨d, e1, e2⟩ := q.none_of (y1 vs sq)
    obtain ⟨d', e3, e4⟩ := q2.none_of (y2 ws sq2)
    obtain ⟨p1, p2⟩ := pair_new P.hr hT e2 e4
    exact ⟨_, by simp [List.getElem?_zipWith, e1, e3], p1, p2⟩
end

section
variable (P : PInfo) (Φ : Nat → List D → Heap → Res R) (G : Nat → Option D) (k : Nat)
def SI (i : I) : Prop := ∀ (X : Cx) (W : XK) (tg x : Expr), Good P Φ G k X W → chkI P X.N X.env.scope i x = true → (tupI i = true → isTupE tg = true) → PI X tg x (rd X.K W (RI X.K) (items Φ G i))
end
theorem PI_imp {X : Cx} {tg e : Expr} {t t' : TI} (p : PI X tg e t) (i : ∀ σ H Q, t' σ H Q → t σ H Q) : PI X tg e t' := ⟨fun pins s σ H Q I q => p.run pins s σ H Q I (i σ H Q q)⟩
section
variable {P : PInfo} {Φ : Nat → List D → Heap → Res R} {G : Nat → Option D} {k : Nat}
theorem rd_it {K : PySem.W.Frag} {W : XK} {σ : L2.St} {H : Hp} {R : It → Hp → Prop} {ma : Env → Heap → Res MP.R} {f : D → Heap → Res Items} {T : V → Hp → Prop}
    (q : rd K W (RI K) (fun g h => bd (ma g h) fun r h => f r.frz h) σ H R) (hT : ∀ μ h H d v, HR K μ h H → RD K μ h.length H d v → Fin K W (RI K) μ h H (f d h) R → T v H) : rE K W ma σ H T :=
  rd_bind (ρ := RR K) (ρ' := RI K) (k := fun g r h => f r.frz h) q back_RI fun μ1 g h1 H1 r v H0 hr er q1 F => hT μ1 h1 H1 _ v hr q1.frz F
theorem si_of (e : E) (he : SE P Φ G k e) : SI P Φ G k (.of e) := fun X W tg x gd hc _ => by
  simp only [chkI] at hc
  refine PI_imp (pi_seq (he X W x gd hc).1) fun σ H Q q => ?_
  refine rd_it (f := seqIt) (by simpa only [items] using q) fun μ h H d v hr q2 F => ?_
  cases d with
  | tup l =>
    simp only [RD] at q2
    obtain ⟨a, vs, rfl, s, t⟩ := q2
    exact ⟨a, rfl, .inr ⟨⟨vs, s⟩, Fin.ok F hr ⟨walkd_tup hr s t, rfl⟩⟩⟩
  | lst l =>
    simp only [RD] at q2
    obtain ⟨a, vs, rfl, s, t⟩ := q2
    exact ⟨a, rfl, .inl ⟨⟨vs, s.sq⟩, Fin.ok F hr ⟨walkd_fz0 hr s t, rfl⟩⟩⟩
  | scr l =>
    simp only [RD] at q2
    obtain ⟨a, vs, rfl, s, t⟩ := q2
    exact ⟨a, rfl, .inl ⟨⟨vs, s.sqk⟩, Fin.ok F hr ⟨walkd_fz hr s t, rfl⟩⟩⟩
  | loc p =>
    simp only [RD] at q2
    obtain ⟨hp, rfl⟩ := q2
    simp only [seqIt] at F
    cases c : h[p]? with
    | none => rw [c] at F; exact F.elim
    | some o =>
      rw [c] at F
      cases o with
      | dic _ => exact F.elim
      | obj _ _ => exact F.elim
      | lst l =>
        obtain ⟨vs, e2, t⟩ := hr.ob p _ c
        exact ⟨μ p, rfl, .inl ⟨⟨vs, .inl (.inl e2)⟩, Fin.ok F hr ⟨walkd_loc hp, by simp [still, c]⟩⟩⟩
  | _ => exact F.elim
theorem small_ok {i : Int} (h : small i = true) : -(2 ^ 62) ≤ i ∧ i < 2 ^ 62 := of_decide_eq_true h
theorem si_range1 (e : E) (he : SE P Φ G k e) : SI P Φ G k (.range1 e) := fun X W tg x gd hc _ => by
  simp only [chkI] at hc
  split at hc
  · rename_i n p a' pos
    simp only [Bool.and_eq_true, decide_eq_true_eq] at hc
    obtain ⟨rfl, h2, h3⟩ := hc
    obtain ⟨hg, hdb, hn⟩ := gloB_ok h2
    have hs := chk_shape h3
    refine PI_imp (pi_range1 hg (gd.blt _ (by decide)) (pa_cons (he X W a' gd h3).1 pa_nil (shape_star hs _ _)) (shape_star hs _ _)) fun σ H Q q => ?_
    refine rd_it (f := range1It) (by simpa only [items] using q) fun μ h H d v hr q2 F => ?_
    cases d with
    | int i =>
      cases q2
      simp only [range1It] at F
      split at F
      · rename_i hsm
        obtain ⟨b1, b2⟩ := small_ok hsm
        have e0 : (i - 0).toNat = i.toNat := by rw [Int.sub_zero]
        exact ⟨i, rfl, b1, b2, by rw [← e0]; exact Fin.ok F hr ⟨walkd_range 0 i, rfl⟩⟩
      · exact F.elim
    | _ => exact F.elim
  · cases hc
theorem rd_it2 {K : PySem.W.Frag} {W : XK} {σ : L2.St} {H : Hp} {R : It → Hp → Prop} {ma mb : Env → Heap → Res MP.R} {f : D → D → Heap → Res Items} {T : V → V → Hp → Prop}
    (q : rd K W (RI K) (fun g h => bd (ma g h) fun r h => bd (mb g h) fun q h => f r.frz q.frz h) σ H R) (hT : ∀ μ h H d e v w, HR K μ h H → RD K μ h.length H d v → RD K μ h.length H e w → Fin K W (RI K) μ h H (f d e h) R → T v w H) :
    rE K W ma σ H (fun v H1 => rE K W mb σ H1 (fun w H2 => T v w H2)) := by
  refine rd_bind (ρ := RR K) (ρ' := RI K) (k := fun g r h => bd (mb g h) fun q h => f r.frz q.frz h) q back_RI fun μ1 g h1 H1 r v H0 hr er q1 F => ?_
  refine ⟨μ1, g, h1, hr, er, F.bind fun r2 h2 v2 H2 μ2 P q2 F2 => ?_⟩
  exact hT μ2 h2 H2 _ _ _ _ P.hr (RD.mono P hr _ _ q1.frz) q2.frz (F2.from P back_RI)
theorem si_range2 (a b : E) (ha : SE P Φ G k a) (hb : SE P Φ G k b) : SI P Φ G k (.range2 a b) := fun X W tg x gd hc _ => by
  simp only [chkI] at hc
  split at hc
  · rename_i n p a' b' pos
    simp only [Bool.and_eq_true, decide_eq_true_eq] at hc
    obtain ⟨rfl, h2, h3, h4⟩ := hc
    obtain ⟨hg, hdb, hn⟩ := gloB_ok h2
    have hs := chk_shape h3
    have hs2 := chk_shape h4
    refine PI_imp (pi_range2 hg (gd.blt _ (by decide)) (pa_cons (ha X W a' gd h3).1 (pa_cons (hb X W b' gd h4).1 pa_nil (shape_star hs2 _ _)) (shape_star hs _ _)) (by rw [shape_star hs, shape_star hs2]; rfl) (shape_star hs2 _ _)) fun σ H Q q => ?_
    refine rd_it2 (f := range2It) (by simpa only [items] using q) fun μ h H d e v w hr q2 q3 F => ?_
    cases d with
    | int i =>
      cases e with
      | int j =>
        cases q2
        cases q3
        simp only [range2It, Bool.and_eq_true] at F
        split at F
        · rename_i hsm
          obtain ⟨b1, b2⟩ := small_ok hsm.1
          obtain ⟨b3, b4⟩ := small_ok hsm.2
          exact ⟨i, j, rfl, ⟨b1, b2, b3, b4⟩, Fin.ok F hr ⟨walkd_range i j, rfl⟩⟩
        · exact F.elim
      | _ => exact F.elim
    | _ => exact F.elim
  · cases hc
theorem isTupE_ok {e : Expr} (h : isTupE e = true) : ∃ es kk p, e = .Tuple es kk p := by
  cases e <;> first | exact ⟨_, _, _, rfl⟩ | cases h
theorem si_enum (e : E) (he : SE P Φ G k e) : SI P Φ G k (.enum e) := fun X W tg x gd hc hT => by
  obtain ⟨es, kk, tp, rfl⟩ := isTupE_ok (hT rfl)
  simp only [chkI] at hc
  split at hc
  · rename_i n p a' pos
    simp only [Bool.and_eq_true, decide_eq_true_eq] at hc
    obtain ⟨rfl, h2, h3⟩ := hc
    obtain ⟨hg, hdb, hn⟩ := gloB_ok h2
    have hs := chk_shape h3
    refine PI_imp (pi_enumA hg (gd.blt _ (by decide)) (pa_cons (he X W a' gd h3).1 pa_nil (shape_star hs _ _)) (shape_star hs _ _)) fun σ H Q q => ?_
    refine rd_it (f := enumIt) (by simpa only [items] using q) fun μ h H d v hr q2 F => ?_
    cases d with
    | tup l =>
      simp only [RD] at q2
      obtain ⟨a, vs, rfl, s, t⟩ := q2
      exact ⟨a, vs, rfl, .inr ⟨s, Fin.ok F hr ⟨walkd_enumT hr s t, rfl⟩⟩⟩
    | lst l =>
      simp only [RD] at q2
      obtain ⟨a, vs, rfl, s, t⟩ := q2
      exact ⟨a, vs, rfl, .inl ⟨s.sq, Fin.ok F hr ⟨walkd_enumL hr s t, rfl⟩⟩⟩
    | _ => exact F.elim
  · cases hc
theorem si_zip (a b : E) (ha : SE P Φ G k a) (hb : SE P Φ G k b) : SI P Φ G k (.zip a b) := fun X W tg x gd hc hT => by
  obtain ⟨es, kk, tp, rfl⟩ := isTupE_ok (hT rfl)
  simp only [chkI] at hc
  split at hc
  · rename_i n p a' b' pos
    simp only [Bool.and_eq_true, decide_eq_true_eq] at hc
    obtain ⟨rfl, h2, h3, h4⟩ := hc
    obtain ⟨hg, hdb, hn⟩ := gloB_ok h2
    have hs := chk_shape h3
    have hs2 := chk_shape h4
    refine PI_imp (RZ.pi_zipA hg (gd.blt _ (by decide)) (pa_cons (ha X W a' gd h3).1 (pa_cons (hb X W b' gd h4).1 pa_nil (shape_star hs2 _ _)) (shape_star hs _ _)) (shape_star hs _ _) (by rw [shape_star hs2]; rfl)) fun σ H Q q => ?_
    refine rd_it2 (f := zipIt) (by simpa only [items] using q) fun μ h H d e v w hr q2 q3 F => ?_
    cases d with
    | tup l =>
      cases e with
      | tup m =>
        simp only [RD] at q2 q3
        obtain ⟨a, vs, rfl, s, t⟩ := q2
        obtain ⟨b, ws, rfl, s2, t2⟩ := q3
        exact ⟨a, b, vs, ws, rfl, .inr ⟨s, s2, Fin.ok F hr ⟨walkd_zipT hr s t s2 t2, rfl⟩⟩⟩
      | _ => exact F.elim
    | lst l =>
      cases e with
      | lst m =>
        simp only [RD] at q2 q3
        obtain ⟨a, vs, rfl, s, t⟩ := q2
        obtain ⟨b, ws, rfl, s2, t2⟩ := q3
        exact ⟨a, b, vs, ws, rfl, .inl ⟨s.sq, s2.sq, Fin.ok F hr ⟨walkd_zipL hr s t s2 t2, rfl⟩⟩⟩
      | _ => exact F.elim
    | _ => exact F.elim
  · cases hc
end
end MP

/-! MP.Snd7: targets, comprehensions. -/
namespace MP
open PySem PySem.Spec PyProof.Rows L2

/-! ### targets -/
def rG (K : PySem.W.Frag) (t : Tg) : TG := fun v σ H Q => ∃ μ h g d g', HR K μ h H ∧ ER K μ h.length H g σ ∧ RD K μ h.length H d v ∧ MP.assign t d g = some g' ∧
  ∀ σ', ER K μ h.length H g' σ' → (∀ j, j ∉ slots t → σ'[j]? = σ[j]?) → σ'.length = σ.length → Q σ' H
def rGs (K : PySem.W.Frag) (ts : List Tg) : TGs := fun vs σ H Q => ∃ μ h g ds g', HR K μ h H ∧ ER K μ h.length H g σ ∧ RDs K μ h.length H ds vs ∧ assigns ts ds g = some g' ∧
  ∀ σ', ER K μ h.length H g' σ' → (∀ j, j ∉ slotsL ts → σ'[j]? = σ[j]?) → σ'.length = σ.length → Q σ' H
theorem PG_imp {X : Cx} {e : Expr} {t t' : TG} (p : PG X e t) (i : ∀ v σ H Q, t' v σ H Q → t v σ H Q) : PG X e t' := ⟨fun pins s σ H v u Q I r q => p.run pins s σ H v u Q I r (i v σ H Q q)⟩
theorem PGs_imp {X : Cx} {e : List Expr} {t t' : TGs} (p : PGs X e t) (i : ∀ v σ H Q, t' v σ H Q → t v σ H Q) : PGs X e t' := ⟨fun pins s σ H v u Q I r q => p.run pins s σ H v u Q I r (i v σ H Q q)⟩
-- what targets ask of the context
structure GoodT (X : Cx) (ck : Bool) : Prop where
  nd : X.N.Nodup
  calm : X.calm = true
  fnc : ck = true → ∀ x, X.fn x = true
theorem loc_fn {X : Cx} {ck : Bool} (gd : GoodT X ck) {x : Str} (h : (decide (X.env.scope.names.lookup x = some .local) || (ck && decide (X.env.scope.names.lookup x = some .cell))) = true) :
    L2.Loc X.env.scope x ∧ (X.fn x = true ∨ X.env.scope.names.lookup x = some .local) := by
  simp only [Bool.or_eq_true, Bool.and_eq_true, decide_eq_true_eq] at h
  rcases h with h | ⟨h, h2⟩
  · exact ⟨.inl h, .inr h⟩
  · exact ⟨.inr h2, .inl (gd.fnc h x)⟩
theorem chkT_star {ck : Bool} {N : List Str} {sc : Scope} {y : Expr} {p : Pos} : ∀ t : Tg, chkT ck N sc t (.Starred y p) = false
  | .slot _ => rfl
  | .tup _ => rfl
theorem assignEach_cons {x : Expr} {ck : Bool} {N : List Str} {sc : Scope} {t : Tg} (h : chkT ck N sc t x = true) (es : List Expr) (env : PySem.Env) : assignEach (x :: es) env = (false, PySem.assign x env) :: assignEach es env := by
  cases x <;> first | rfl | (rw [chkT_star] at h; cases h)
theorem chkTs_each {ck : Bool} {N : List Str} {sc : Scope} (env : PySem.Env) : ∀ {ts : List Tg} {es : List Expr}, chkTs ck N sc ts es = true → (assignEach es env).length = ts.length ∧ (assignEach es env).findIdx? (·.1) = none
  | [], [], _ => ⟨rfl, rfl⟩
  | [], _ :: _, h => by simp [chkTs] at h
  | _ :: _, [], h => by simp [chkTs] at h
  | t :: ts, e :: es, h => by
    simp only [chkTs, Bool.and_eq_true] at h
    obtain ⟨a, b⟩ := chkTs_each env h.2
    rw [assignEach_cons h.1]
    refine ⟨by simp [a], ?_⟩
    simp only [List.findIdx?_cons, Bool.false_eq_true, if_false]
    rw [b]
    rfl
theorem assigns_len : ∀ (ts : List Tg) (ds : List D) (g g' : Env), assigns ts ds g = some g' → ds.length = ts.length
  | [], [], _, _, _ => rfl
  | [], _ :: _, _, _, h => by simp [assigns] at h
  | _ :: _, [], _, _, h => by simp [assigns] at h
  | t :: ts, d :: ds, g, g', h => by
    simp only [assigns] at h
    split at h
    · simp [assigns_len ts ds _ _ h]
    · cases h
mutual
theorem pg_of {X : Cx} {ck : Bool} (gd : GoodT X ck) : ∀ (t : Tg) (e : Expr), chkT ck X.N X.env.scope t e = true → PG X e (rG X.K t)
  | .slot i, e, h => by
    cases e with
    | Name n pos =>
      simp only [chkT] at h
      have h' := Bool.and_eq_true_iff.mp h
      have hl := loc_fn gd h'.2
      refine PG_imp (pg_name gd.nd (of_decide_eq_true h'.1) hl.1 hl.2) fun v σ H Q ⟨μ, hp, g, d, g', hr, er, q, ea, k⟩ => ?_
      simp only [MP.assign, Option.some.injEq] at ea
      subst ea
      refine k _ (er.set q) (fun j hj => ?_) (by simp)
      simp only [slots, List.mem_singleton] at hj
      rw [List.getElem?_set_ne (Ne.symm hj)]
    | _ => simp [chkT] at h
  | .tup ts, e, h => by
    cases e with
    | Tuple es kk pos =>
      simp only [chkT] at h
      obtain ⟨a, b⟩ := chkTs_each X.env h
      refine PG_imp (pg_tup gd.calm (pgs_of gd ts es h) a b) fun v σ H Q ⟨μ, hp, g, d, g', hr, er, q, ea, k⟩ => ?_
      cases d with
      | tup l =>
        simp only [MP.assign] at ea
        simp only [RD] at q
        obtain ⟨c, vs, rfl, s, t⟩ := q
        exact ⟨c, vs, rfl, s, by rw [t.length, assigns_len _ _ _ _ ea], ⟨μ, hp, g, l, g', hr, er, t, ea, by simpa only [slots] using k⟩⟩
      | _ => simp [MP.assign] at ea
    | _ => simp [chkT] at h
theorem pgs_of {X : Cx} {ck : Bool} (gd : GoodT X ck) : ∀ (ts : List Tg) (es : List Expr), chkTs ck X.N X.env.scope ts es = true → PGs X es (rGs X.K ts)
  | [], [], _ => by
    refine PGs_imp pgs_nil fun v σ H Q ⟨μ, hp, g, ds, g', hr, er, q, ea, k⟩ => ?_
    cases ds with
    | nil =>
      simp only [assigns, Option.some.injEq] at ea
      subst ea
      simp only [RDs] at q
      subst q
      exact ⟨rfl, k σ er (fun _ _ => rfl) rfl⟩
    | cons _ _ => simp [assigns] at ea
  | [], _ :: _, h => by simp [chkTs] at h
  | _ :: _, [], h => by simp [chkTs] at h
  | t :: ts, e :: es, h => by
    simp only [chkTs, Bool.and_eq_true] at h
    refine PGs_imp (pgs_cons (pg_of gd t e h.1) (pgs_of gd ts es h.2) (by rw [assignEach_cons h.1]; rfl)) fun v σ H Q ⟨μ, hp, g, ds, g', hr, er, q, ea, k⟩ => ?_
    cases ds with
    | nil => simp [assigns] at ea
    | cons d ds =>
      simp only [RDs] at q
      obtain ⟨w, r, rfl, q1, q2⟩ := q
      simp only [assigns] at ea
      cases e1 : MP.assign t d g with
      | none => rw [e1] at ea; cases ea
      | some g1 =>
        rw [e1] at ea
        simp only at ea
        refine ⟨w, r, rfl, μ, hp, g, d, g1, hr, er, q1, e1, fun σ1 er1 a1 l1 => ⟨μ, hp, g1, ds, g', hr, er1, q2, ea, fun σ2 er2 a2 l2 => ?_⟩⟩
        refine k σ2 er2 (fun j hj => ?_) (l2.trans l1)
        simp only [slotsL, List.mem_append, not_or] at hj
        rw [a2 j hj.2, a1 j hj.1]
end
theorem wipe_same {σ σ' : L2.St} (hl : σ'.length = σ.length) : ∀ ws : List Nat, (∀ j, j ∉ ws → σ'[j]? = σ[j]?) → wipe σ' ws = wipe σ ws
  | [], h => by
    simp only [wipe]
    exact List.ext_getElem? fun j => h j (by simp)
  | w :: ws, h => by
    apply List.ext_getElem?
    intro j
    have gen : ∀ (τ : L2.St) (vs : List Nat), (wipe τ vs).length = τ.length := wipe_length
    have get : ∀ (τ : L2.St) (vs : List Nat), (wipe τ vs)[j]? = if j ∈ vs then (τ[j]?).map fun _ => none else τ[j]? := by
      intro τ vs
      induction vs with
      | nil => simp [wipe]
      | cons v vs ih =>
        simp only [wipe]
        by_cases hv : v = j
        · subst hv
          rw [List.getElem?_set]
          simp only [if_true, List.mem_cons, true_or, gen]
          by_cases hl : v < τ.length
          · simp [hl]
          · simp [hl]
        · rw [List.getElem?_set_ne hv, ih]
          have : (j ∈ v :: vs) ↔ j ∈ vs := by simp [Ne.symm hv]
          simp only [this]
    rw [get, get]
    by_cases hj : j ∈ w :: ws
    · rw [if_pos hj, if_pos hj]
      by_cases hlt : j < σ.length
      · rw [List.getElem?_eq_getElem hlt, List.getElem?_eq_getElem (by omega)]
        rfl
      · rw [List.getElem?_eq_none (by omega), List.getElem?_eq_none (by omega)]
    · rw [if_neg hj, if_neg hj]
      exact h j hj
theorem wipe_twice (σ : L2.St) (ws : List Nat) : wipe (wipe σ ws) ws = wipe σ ws := by
  refine List.ext_getElem? fun j => ?_
  have get : ∀ (τ : L2.St) (vs : List Nat), (wipe τ vs)[j]? = if j ∈ vs then (τ[j]?).map fun _ => none else τ[j]? := by
    intro τ vs
    induction vs with
    | nil => simp [wipe]
    | cons v vs ih =>
      simp only [wipe]
      by_cases hv : v = j
      · subst hv
        rw [List.getElem?_set]
        simp only [if_true, List.mem_cons, true_or, wipe_length]
        by_cases hl : v < τ.length
        · simp [hl]
        · simp [hl]
      · rw [List.getElem?_set_ne hv, ih]
        have : (j ∈ v :: vs) ↔ j ∈ vs := by simp [Ne.symm hv]
        simp only [this]
  rw [get, get]
  split
  · cases σ[j]? <;> rfl
  · rfl

/-! ### comprehensions -/
section
variable {K : PySem.W.Frag} {W : XK}
def xk0 : XK := fun _ _ _ => False
theorem rd_lc {σ : L2.St} {H : Hp} {Q : VK} {mi : Env → Heap → Res Items} {tg : Tg} {ws : List Nat} {mt : Env → Heap → Res Bool} {me : Env → Heap → Res R} (hsl : (slots tg).all (ws.contains ·) = true)
    (q : rE K W (fun g h => bd (mi g h) fun its h => bd (lcGo (lcF its tg (wipes g ws) mt me) its.1 h) fun l h => if l.length ≤ lim then some (.ok (.newL l) h) else none) σ H Q) :
    tLc (rd K W (RI K) mi) (rG K tg) (rT K xk0 mt) (rE K xk0 me) ws σ H Q := by
  obtain ⟨μ, g, h, hr, er, F⟩ := q
  refine ⟨μ, g, h, hr, er, F.bind fun its h1 J H1 μ1 P1 wd F1 => fun D0 hD => ?_⟩
  cases eL : lcGo (lcF its tg (wipes g ws) mt me) its.1 h1 with
  | none => rw [eL] at F1; exact F1.elim
  | some ol =>
    rw [eL] at F1
    cases ol with
    | exc x hN =>
      exfalso
      -- a comprehension lets nothing out
      have : ∀ (xs : List D) (h : Heap) (x : Ex) (h' : Heap), lcGo (lcF its tg (wipes g ws) mt me) xs h ≠ some (.exc x h') := by
        intro xs
        induction xs with
        | nil => intro h x h' e; cases e
        | cons y ys ih =>
          intro h x h' e
          simp only [lcGo] at e
          split at e
          · split at e
            · cases e
            · cases e
          · exact ih _ _ _ e
          · cases e
      exact this _ _ _ _ eL
    | ok l hN =>
      simp only [bd_ok] at F1
      split at F1
      · rename_i hlim
        have er1 := er.mono P1 hr
        have P0 : Post K μ1 h1 H1 (μ1.add D0) h1 (upd H1 D0 (.lst [])) := Post.startS P1.hr hD
        have er0 : ER K (μ1.add D0) h1.length (upd H1 D0 (.lst [])) g σ := er1.mono P0 P1.hr
        refine ⟨fun i m Hc => m = its.1.length - i ∧ i ≤ its.1.length ∧ ∃ μ2 h2 acc vs rest, Post K μ1 h1 H1 μ2 h2 Hc ∧ μ2.s D0 ∧ ER K μ2 h2.length Hc g σ ∧ still its h2 = true ∧ Hc D0 = some (.lst vs) ∧ RDs K μ2 h2.length Hc acc vs ∧
          lcGo (lcF its tg (wipes g ws) mt me) (its.1.drop i) h2 = some (.ok rest hN) ∧ acc ++ rest = l, ⟨its.1.length, by simp, Nat.zero_le _, _, _, [], [], l, P0, .inr rfl, er0, wd.2, upd_same, by simp only [RDs], by simpa using eL, rfl⟩, ?_⟩
        rintro i m Hc ⟨rfl, hi, μ2, h2, acc, vs, rest, P2, sD, er2, st2, eD, q2, eR, eA⟩
        obtain ⟨wgo, wstop, wyld⟩ := wd.1 μ2 h2 Hc P2 st2
        by_cases hlt : i < its.1.length
        · right
          refine ⟨wgo i hlt, fun Hc => i + 1 ≤ its.1.length ∧ ∃ μ2 h2 acc vs rest, Post K μ1 h1 H1 μ2 h2 Hc ∧ μ2.s D0 ∧ ER K μ2 h2.length Hc g σ ∧ still its h2 = true ∧ Hc D0 = some (.lst vs) ∧ RDs K μ2 h2.length Hc acc vs ∧
            lcGo (lcF its tg (wipes g ws) mt me) (its.1.drop (i + 1)) h2 = some (.ok rest hN) ∧ acc ++ rest = l, fun H' q => ⟨its.1.length - (i + 1), by omega, rfl, q⟩, fun x H3 y => ?_⟩
          obtain ⟨d, e1, P3, qd⟩ := wyld i x H3 hlt y
          have P13 := P2.trans P3
          have er3 := er2.mono P3 P2.hr
          have eD3 : H3 D0 = some (.lst vs) := P3.keep _ _ eD (fun p hp => P2.hr.sp D0 sD p hp) (P2.hr.ntab eD)
          have q3 := RDs.mono P3 P2.hr _ _ q2
          have edrop : its.1.drop i = d :: its.1.drop (i + 1) := by
            rw [List.drop_eq_getElem_cons hlt]
            congr 1
            rw [List.getElem?_eq_getElem hlt] at e1
            exact Option.some.inj e1
          rw [edrop] at eR
          simp only [lcGo] at eR
          -- the target
          have asg : ∃ g', MP.assign tg d (wipes g ws) = some g' := by
            cases e4 : MP.assign tg d (wipes g ws) with
            | some g' => exact ⟨g', rfl⟩
            | none =>
              have : lcF its tg (wipes g ws) mt me d h2 = none := by simp only [lcF, e4]
              rw [this] at eR
              cases eR
          obtain ⟨g', eg⟩ := asg
          refine ⟨μ2, h2, _, d, g', P3.hr, er3.wipe ws, qd, eg, fun σ2 er4 same len => ⟨?_, ?_⟩⟩
          · rw [wipe_same len ws fun j hj => same j fun hm => hj ?_, wipe_twice]
            have := List.all_eq_true.mp hsl j hm
            simpa using this
          · -- the test
            have eF : lcF its tg (wipes g ws) mt me d h2 = bd (mt g' h2) fun b h => if b && still its h then bd (me g' h) fun r h => if still its h then some (.ok (some r.frz) h) else none else if still its h then some (.ok none h) else none := by
              simp only [lcF, eg]
            refine ⟨μ2, g', h2, P3.hr, er4, ?_⟩
            cases et : mt g' h2 with
            | none =>
              rw [et] at eF
              rw [eF] at eR
              cases eR
            | some ot =>
              rw [et] at eF
              cases ot with
              | exc _ _ =>
                rw [eF] at eR
                cases eR
              | ok b h4 =>
                intro b' H4 μ4 P4 eb
                cases eb
                simp only [bd_ok] at eF
                have er5 := er4.mono P4 P3.hr
                have eD4 : H4 D0 = some (.lst vs) := P4.keep _ _ eD3 (fun p hp => P3.hr.sp D0 sD p hp) (P3.hr.ntab eD3)
                have sD4 := P4.sd1 _ sD
                have q4 := RDs.mono P4 P3.hr _ _ q3
                have er3g := er3.mono P4 P3.hr
                cases b with
                | false =>
                  refine iteF ⟨hlt, ?_⟩
                  simp only [Bool.false_and, Bool.false_eq_true, if_false] at eF
                  split at eF
                  · rename_i st4
                    rw [eF] at eR
                    exact ⟨μ4, h4, acc, vs, rest, P13.trans P4, sD4, er3g, st4, eD4, q4, eR, eA⟩
                  · rw [eF] at eR
                    cases eR
                | true =>
                  refine iteT ⟨μ4, g', h4, P4.hr, er5, ?_⟩
                  simp only [Bool.true_and] at eF
                  split at eF
                  · cases ee : me g' h4 with
                    | none =>
                      rw [ee] at eF
                      rw [eF] at eR
                      cases eR
                    | some oe =>
                      rw [ee] at eF
                      cases oe with
                      | exc _ _ =>
                        rw [eF] at eR
                        cases eR
                      | ok r h5 =>
                        intro v H5 μ5 P5 qv
                        simp only [bd_ok] at eF
                        split at eF
                        · rename_i st5
                          rw [eF] at eR
                          simp only at eR
                          have eD5 : H5 D0 = some (.lst vs) := P5.keep _ _ eD4 (fun p hp => P4.hr.sp D0 sD4 p hp) (P4.hr.ntab eD4)
                          have sD5 := P5.sd1 _ sD4
                          have q5 := RDs.mono P5 P4.hr _ _ q4
                          have er6 := er3g.mono P5 P4.hr
                          cases er' : lcGo (lcF its tg (wipes g ws) mt me) (its.1.drop (i + 1)) h5 with
                          | none => rw [er'] at eR; cases eR
                          | some oo =>
                            rw [er'] at eR
                            cases oo with
                            | exc _ _ => cases eR
                            | ok ys h6 =>
                              cases eR
                              have qv' := qv.frz
                              have hl2 : acc.length < lim := by
                                have e7 : (acc ++ r.frz :: ys).length ≤ lim := by rw [eA]; exact hlim
                                simp at e7
                                omega
                              refine ⟨vs, eD5, by rw [q5.length, lim_line]; exact hl2, hlt, μ5, h5, acc ++ [r.frz], vs ++ [v], ys, ((P13.trans P4).trans P5).updS hD sD5 eD5, sD5, ?_, st5, upd_same, ?_, er', by simpa using eA⟩
                              · exact ⟨er6.1, fun j d e => by
                                  obtain ⟨w, e8, e9⟩ := er6.2 j d e
                                  exact ⟨w, e8, (RD.updS sD5 eD5).1 _ _ e9⟩⟩
                              · refine (RD.updS sD5 eD5).2 _ _ ?_
                                clear eA hl2 er' eF
                                have app : ∀ (l : List D) (us : List V), RDs K μ5 h5.length H5 l us → RDs K μ5 h5.length H5 (l ++ [r.frz]) (us ++ [v]) := by
                                  intro l
                                  induction l with
                                  | nil =>
                                    intro us e
                                    simp only [RDs] at e
                                    subst e
                                    simp only [List.nil_append, RDs]
                                    exact ⟨v, [], rfl, qv', rfl⟩
                                  | cons c l ih =>
                                    intro us e
                                    simp only [RDs] at e
                                    obtain ⟨w, r', rfl, a1, a2⟩ := e
                                    simp only [List.cons_append, RDs]
                                    exact ⟨w, r' ++ [v], rfl, a1, ih _ a2⟩
                                exact app _ _ q5
                        · rw [eF] at eR
                          cases eR
                  · rw [eF] at eR
                    cases eR
        · left
          have e0 : i = its.1.length := by omega
          subst e0
          rw [List.drop_length] at eR
          cases eR
          rw [List.append_nil] at eA
          subst eA
          exact ⟨wstop, F1 (.ref D0) Hc ⟨μ2.f, μ1.s⟩ (P1.trans (P2.endS P1.hr)) ⟨D0, vs, rfl, eD, P2.hr.delS sD eD (fun _ _ => rfl) P2.sd1 (fz_s P1.hr hD) P1.hr.tb, P1.none_back hD, (RD.delS (μ := μ2) (μ0 := ⟨μ2.f, μ1.s⟩) sD eD (fun _ _ => rfl) P2.sd1).2 _ _ q2⟩⟩
      · exact F1.elim
end
end MP

/-! MP.Snd8: comprehensions, calls, built-in functions. -/
namespace MP
open PySem PySem.Spec PyProof.Rows L2

section
variable {P : PInfo} {Φ : Nat → List D → Heap → Res R} {G : Nat → Option D} {k : Nat}
theorem Good.T {X : Cx} {W : XK} (g : Good P Φ G k X W) : GoodT X false := ⟨g.nd, g.calm, fun z => nomatch z⟩
theorem Good.blk {X : Cx} {W : XK} (g : Good P Φ G k X W) (s : Shared) (H : Hp) (scope : Scope) (C : Addr) (cl : List (Str × Addr)) (fp : List Addr) :
    Good P Φ G k (X.blk s H scope (compEnvC scope cl C X.env) fp) xk0 where
  nd := g.nd
  calm := g.calm
  room := g.room
  room2 := g.room2
  pos := g.pos
  xs := g.xs
  os := g.os
  mths := g.mths
  mets := g.mets
  lam := g.lam
  tk := takes0
  blt := g.blt
  glob := g.glob
  fns := g.fns
theorem tests_nil : tests Φ G [] = fun _ h => some (.ok true h) := by
  funext g h
  simp only [tests]
theorem tests_one (e : E) : tests Φ G [e] = tst (eval Φ G e) := by
  funext g h
  simp only [tests, tst]
  congr 1
  funext r h1
  cases tru h1 r.frz with
  | none => rfl
  | some b => cases b <;> rfl
theorem PTs_imp {X : Cx} {es : List Expr} {t t' : TT} (p : PTs X es t) (i : ∀ σ H Q, t' σ H Q → t σ H Q) : PTs X es t' := ⟨fun pins s σ H Q I q => p.run pins s σ H Q I (i σ H Q q)⟩
theorem se_lc (elt : E) (tg : Tg) (it : I) (cond : List E) (ws : List Nat) (he : SE P Φ G k elt) (hi : SI P Φ G k it) (hcd : ∀ c ∈ cond, SE P Φ G k c) : SE P Φ G k (.lc elt tg it cond ws) := fun X W x gd hc => by
  simp only [chk] at hc
  split at hc
  · rename_i elt' tg' it' ifs' scope pos
    simp only [Bool.and_eq_true, decide_eq_true_eq] at hc
    obtain ⟨h1, h2, h3, h4, h5, h6, h7, h8⟩ := hc
    have hT : tupI it = true → isTupE tg' = true := fun z => by
      rw [z] at h8
      simpa using h8
    have hts : ∀ (s : Shared) (H : Hp) (C : Addr) (cl : List (Str × Addr)) (fp : List Addr), PTs (X.blk s H scope (compEnvC scope cl C X.env) fp) ifs' (rT X.K xk0 (tests Φ G cond)) := fun s H C cl fp => by
      match cond, ifs', h4, h6, hcd with
      | [], [], _, _, _ =>
        refine PTs_imp pts_nil fun σ H Q ⟨μ, g, h, r, er, F⟩ => ?_
        rw [tests_nil] at F
        exact Fin.ok F r rfl
      | [c], [c'], h4, _, hcd =>
        simp only [chks, Bool.and_eq_true] at h4
        rw [tests_one]
        exact pts_one (hcd c (by simp) (X.blk s H scope (compEnvC scope cl C X.env) fp) xk0 c' (gd.blk s H scope C cl fp) h4.1).2
      | _ :: _ :: _, _, _, h6, _ =>
        simp only [List.length_cons] at h6
        omega
      | [], _ :: _, h4, _, _ => simp [chks] at h4
      | [_], [], h4, _, _ => simp [chks] at h4
      | [_], _ :: _ :: _, h4, _, _ => simp [chks] at h4
    have pe : PE X (.ListComp elt' [⟨tg', it', ifs', 0⟩] scope pos) (rE X.K W (eval Φ G (.lc elt tg it cond ws))) := by
      have ews : (ws.map fun i => (X.N.getD i ⟨#[]⟩, i)).map (·.2) = ws := by
        rw [List.map_map]
        exact List.map_id ws
      have base := pe_lc (pos := pos) (g := rG X.K tg) (te := rE X.K xk0 (eval Φ G elt)) gd.calm gd.nd (hi X W tg' it' gd h2 hT) (blkOk_by h1) (fun s H C cl fp => pg_of (gd.blk s H scope C cl fp).T tg tg' h3) hts
        (fun s H C cl fp => (he (X.blk s H scope (compEnvC scope cl C X.env) fp) xk0 elt' (gd.blk s H scope C cl fp) h5).1) (fun x => by
          cases it with
          | of e => exact shape_iter (chk_shape (by simpa only [chkI] using h2)) _ _
          | _ =>
            simp only [chkI] at h2
            split at h2
            · rfl
            · cases h2)
      rw [ews] at base
      refine PE_imp base fun σ H Q q => rd_lc h7 ?_
      have e : eval Φ G (.lc elt tg it cond ws) = fun g h => bd (items Φ G it g h) fun its h => bd (lcGo (lcF its tg (wipes g ws) (tests Φ G cond) (eval Φ G elt)) its.1 h) fun l h => if l.length ≤ lim then some (.ok (.newL l) h) else none := by
        funext g h
        simp only [eval]
      rw [e] at q
      exact q
    exact ⟨pe, pt_plain pe rfl⟩
  · cases hc
theorem se_call (f : Nat) (es : List E) (hes : SEs P Φ G k es) : SE P Φ G k (.call f es) := fun X W x gd hc => by
  simp only [chk] at hc
  split at hc
  · rename_i n p e' es' pos
    simp only [Bool.and_eq_true, decide_eq_true_eq] at hc
    obtain ⟨h1, h2, h3⟩ := hc
    obtain ⟨hg, hdb, hn⟩ := gloB_ok h2
    obtain ⟨np, hm, hk, F, hlen⟩ := gd.fns f n h1
    have hsh := chks_shape h3
    have pe : PE X (.Call (.Name n p) (e' :: es') [] pos) (rE X.K W (eval Φ G (.call f es))) := by
      refine PE_imp (pe_callG (E := W) F gd.room hg hm hk (passes_call gd.tk fun cls d σ H h => h) (hes X W _ gd h3) hdb (shape_star (hsh e' (by simp)) _ _) (shapes_any pos X.env fun x hx => hsh x (by simp [hx]))) fun σ H Q q => ?_
      have e : eval Φ G (.call f es) = fun g h => bd (evals Φ G es g h) fun ds h => Φ f ds h := by
        funext g h
        simp only [eval]
      rw [e] at q
      refine rd_bind (ρ := RA X.K) (k := fun g ds h => Φ f ds h) q back_RR fun μ1 g h1 H1 ds vs H0 hr er q1 Fz => ?_
      refine ⟨?_, μ1, h1, ds, hr, q1, Fz⟩
      rw [q1.length]
      exact hlen ds h1 fun z => by
        rw [z] at Fz
        exact Fz
    exact ⟨pe, pt_plain pe rfl⟩
  · cases hc

/-! ### slices -/
def RO' : Rel (Option Int) (Option Int) := fun _ _ _ _ a b => a = b
theorem back_RO {K : PySem.W.Frag} : Back K RO' := fun _ q => q
theorem po_of {X : Cx} {W : XK} (gd : Good P Φ G k X W) (e : E) (b : Bool) (he : SE P Φ G k e) (o : Option Expr) (h : (match o with
      | none => !b
      | some y => b && chk P X.N X.env.scope e y) = true) : PO X o (rd X.K W RO' fun g h => partM b (eval Φ G e g) h) := by
  cases o with
  | none =>
    cases b with
    | true => cases h
    | false =>
      refine ⟨fun pins s σ H Q I q => po_none.run pins s σ H Q I ?_⟩
      obtain ⟨μ, g, h, r, er, F⟩ := q
      exact Fin.ok F r rfl
  | some y =>
    simp only [Bool.and_eq_true] at h
    obtain ⟨rfl, h⟩ := h
    refine ⟨fun pins s σ H Q I q => (po_some (he X W y gd h).1).run pins s σ H Q I ?_⟩
    obtain ⟨μ, g, h, r, er, F⟩ := q
    refine ⟨μ, g, h, r, er, ?_⟩
    simp only [partM, if_true] at F
    refine F.bind fun r1 h1 v H1 μ1 P1 q1 F1 => ?_
    have q2 := q1.frz
    cases e1 : r1.frz with
    | int i =>
      rw [e1] at q2
      simp only [e1] at F1
      cases q2
      exact ⟨i, rfl, F1 _ H1 μ1 P1 rfl⟩
    | _ => simp only [e1] at F1; exact F1.elim
def rS (K : PySem.W.Frag) (W : XK) : V → Option Int → Option Int → Hp → VK → Prop := fun x lo hi H Q => ∃ μ h d, HR K μ h H ∧ RD K μ h.length H d x ∧ Fin K W (RR K) μ h H (sliceM d lo hi h) Q
theorem RDs.drop {K : PySem.W.Frag} {μ : Mu} {n : Nat} {H : Hp} : ∀ (m : Nat) {l : List D} {vs : List V}, RDs K μ n H l vs → RDs K μ n H (l.drop m) (vs.drop m)
  | 0, _, _, q => q
  | m + 1, [], vs, q => by
    simp only [RDs] at q
    subst q
    simp only [List.drop_nil, RDs]
  | m + 1, d :: l, vs, q => by
    simp only [RDs] at q
    obtain ⟨v, r, rfl, _, t⟩ := q
    exact RDs.drop m t
theorem RDs.take {K : PySem.W.Frag} {μ : Mu} {n : Nat} {H : Hp} : ∀ (m : Nat) {l : List D} {vs : List V}, RDs K μ n H l vs → RDs K μ n H (l.take m) (vs.take m)
  | 0, _, _, q => by simp only [List.take_zero, RDs]
  | m + 1, [], vs, q => by
    simp only [RDs] at q
    subst q
    simp only [List.take_nil, RDs]
  | m + 1, d :: l, vs, q => by
    simp only [RDs] at q
    obtain ⟨v, r, rfl, q1, t⟩ := q
    simp only [List.take_succ_cons, RDs]
    exact ⟨v, _, rfl, q1, RDs.take m t⟩
theorem cut_same (n d : Nat) (o : Option Int) : HT.sIx n d o = cutAt n d o := by
  cases o <;> rfl
theorem seq_loc {K : PySem.W.Frag} {μ : Mu} {h : Heap} {H : Hp} (r : HR K μ h H) {p : Nat} {v : V} {l : List D} (q : RD K μ h.length H (.loc p) v) (c : seqOf h (.loc p) = some l) :
    ∃ vs, v = .ref (μ p) ∧ H (μ p) = some (.lst vs) ∧ RDs K μ h.length H l vs := by
  simp only [seqOf] at c
  cases c2 : h[p]? with
  | none => rw [c2] at c; cases c
  | some o =>
    rw [c2] at c
    cases o with
    | dic _ => cases c
    | obj _ _ => cases c
    | lst m =>
      cases c
      obtain ⟨us, e1, t1⟩ := r.ob p _ c2
      simp only [RD] at q
      exact ⟨us, q.2, e1, t1⟩
theorem slr {X : Cx} {W : XK} : L2.SlR X (rS X.K W) := by
  refine SlR_imp (L2.SlR.or sl_list sl_tupA) fun x lo hi H Q ⟨μ, h, d, r, q, F⟩ => ?_
  have lists : ∀ (l : List D) (a : Addr) (vs : List V), RDs X.K μ h.length H l vs → Fin X.K W (RR X.K) μ h H (some (.ok (.newL (cutZ l lo hi)) h)) Q → ∀ p, H p = none → Q (.ref p) (upd H p (.lst (cutV vs lo hi))) := fun l a vs t F p hp => by
    have Pn := Post.new (o := .lst (cutV vs lo hi)) r hp
    have ns : ¬ μ.s p := fz_s r hp
    refine F.okP Pn (RR.mk r hp hp ?_)
    unfold cutV cutZ
    rw [cut_same, cut_same, t.length]
    exact (t.drop _).take _
  cases d with
  | tup l =>
    simp only [RD] at q
    obtain ⟨a, vs, rfl, s, t⟩ := q
    simp only [sliceM] at F
    refine .inr ⟨a, vs, rfl, s, fun hw => ?_, fun _ p hp => ?_⟩
    · refine Fin.ok F r ?_
      show RD X.K μ h.length H (.tup (cutZ l lo hi)) (.ref a)
      have e : cutZ l lo hi = l := by
        unfold cutZ
        rw [cut_same, cut_same, t.length] at hw
        rw [hw.1, hw.2]
        simp
      rw [e]
      simp only [RD]
      exact ⟨a, vs, rfl, s, t⟩
    · have Pn := Post.new (o := .tup (cutV vs lo hi)) r hp
      refine F.okP Pn ?_
      show RD X.K μ h.length _ (.tup (cutZ l lo hi)) (.ref p)
      simp only [RD]
      refine ⟨p, _, rfl, .inl (.inl upd_same), RDs.mono Pn r _ _ ?_⟩
      unfold cutV cutZ
      rw [cut_same, cut_same, t.length]
      exact (t.drop _).take _
  | lst l =>
    simp only [RD] at q
    obtain ⟨a, vs, rfl, s, t⟩ := q
    simp only [sliceM, seqOf] at F
    exact .inl ⟨a, vs, rfl, s.sq, lists l a vs t F⟩
  | scr l =>
    simp only [RD] at q
    obtain ⟨a, vs, rfl, s, t⟩ := q
    simp only [sliceM, seqOf] at F
    exact .inl ⟨a, vs, rfl, s.sqk, lists l a vs t F⟩
  | loc p =>
    simp only [sliceM] at F
    cases c : seqOf h (.loc p) with
    | none => rw [c] at F; exact F.elim
    | some l =>
      rw [c] at F
      obtain ⟨vs, rfl, s, t⟩ := seq_loc r q c
      exact .inl ⟨_, vs, rfl, .inl (.inl s), lists l (μ p) vs t F⟩
  | _ => exact F.elim
theorem se_slice (a : E) (bl bh : Bool) (lo hi : E) (ha : SE P Φ G k a) (hl : SE P Φ G k lo) (hh : SE P Φ G k hi) : SE P Φ G k (.slice a bl bh lo hi) := fun X W x gd hc => by
  simp only [chk] at hc
  split at hc
  · rename_i a' lo' hi' p2 pos
    simp only [Bool.and_eq_true] at hc
    obtain ⟨h1, h2, h3⟩ := hc
    have pe : PE X (.Subscript a' (.Slice lo' hi' none p2) pos) (rE X.K W (eval Φ G (.slice a bl bh lo hi))) := by
      refine PE_imp (pe_slice (slr (W := W)) (ha X W a' gd h1).1 (po_of gd lo bl hl lo' h2) (po_of gd hi bh hh hi' h3)) fun σ H Q q => ?_
      have e : eval Φ G (.slice a bl bh lo hi) = fun g h => bd (eval Φ G a g h) fun x h => bd (partM bl (eval Φ G lo g) h) fun l h => bd (partM bh (eval Φ G hi g) h) fun u h => sliceM x.frz l u h := by
        funext g h
        simp only [eval]
      rw [e] at q
      obtain ⟨μ, g, h, hr, er, F⟩ := q
      refine ⟨μ, g, h, hr, er, F.bind fun r h1 v H1 μ1 P1 q1 F1 => ?_⟩
      have er1 := er.mono P1 hr
      refine ⟨μ1, g, h1, P1.hr, er1, (F1.from P1 back_RR).bind fun l h2 l' H2 μ2 P2 q2 F2 => ?_⟩
      cases q2
      refine ⟨μ2, g, h2, P2.hr, er1.mono P2 P1.hr, (F2.from P2 back_RR).bind fun u h3 u' H3 μ3 P3 q3 F3 => ?_⟩
      cases q3
      exact ⟨μ3, h3, _, P3.hr, RD.mono P3 P2.hr _ _ (RD.mono P2 P1.hr _ _ q1.frz), F3.from P3 back_RR⟩
    exact ⟨pe, pt_plain pe rfl⟩
  · cases hc

/-! ### built-in functions -/
def LenOk (K : PySem.W.Frag) (H : Hp) (v : V) (n : Nat) : Prop := ∃ p ys, v = .ref p ∧ (SqL K H p ys ∨ SqT K H p ys) ∧ ys.length = n
theorem valR_fin {K : PySem.W.Frag} {W : XK} {μ : Mu} {h : Heap} {H : Hp} {o : Option D} {Q : VK} (F : Fin K W (RR K) μ h H (valR o h) Q) (r : HR K μ h H) : ∃ d, o = some d ∧ ∀ v, RD K μ h.length H d v → Q v H := by
  cases o with
  | none => exact F.elim
  | some d => exact ⟨d, rfl, fun v q => Fin.ok F r q⟩
theorem boolR_fin {K : PySem.W.Frag} {W : XK} {μ : Mu} {h : Heap} {H : Hp} {o : Option Bool} {Q : VK} (F : Fin K W (RR K) μ h H (boolR o h) Q) (r : HR K μ h H) : ∃ b, o = some b ∧ Q (.bl b) H := by
  cases o with
  | none => exact F.elim
  | some b => exact ⟨b, rfl, Fin.ok F r rfl⟩
-- one argument as a list of arguments
theorem rd_arg1 {K : PySem.W.Frag} {W : XK} {σ : L2.St} {H : Hp} {Q : VK} {ma : Env → Heap → Res R} {f : D → Heap → Res R} {T : List V → Hp → VK → Prop}
    (q : rE K W (fun g h => bd (ma g h) fun r h => f r.frz h) σ H Q) (hT : ∀ μ h H d v, HR K μ h H → RD K μ h.length H d v → Fin K W (RR K) μ h H (f d h) Q → T [v] H Q) : tCB T (tCons (rE K W ma) tNil) σ H Q :=
  rd_bind (ρ := RR K) (ρ' := RR K) (k := fun g r h => f r.frz h) q back_RR fun μ1 g h1 H1 r v H0 hr er q1 F => hT μ1 h1 H1 _ v hr q1.frz F
theorem rd_arg2 {K : PySem.W.Frag} {W : XK} {σ : L2.St} {H : Hp} {Q : VK} {ma mb : Env → Heap → Res R} {f : D → D → Heap → Res R} {T : List V → Hp → VK → Prop}
    (q : rE K W (fun g h => bd (ma g h) fun r h => bd (mb g h) fun q h => f r.frz q.frz h) σ H Q) (hT : ∀ μ h H d e v w, HR K μ h H → RD K μ h.length H d v → RD K μ h.length H e w → Fin K W (RR K) μ h H (f d e h) Q → T [v, w] H Q) :
    tCB T (tCons (rE K W ma) (tCons (rE K W mb) tNil)) σ H Q := by
  refine rd_bind (ρ := RR K) (ρ' := RR K) (k := fun g r h => bd (mb g h) fun q h => f r.frz q.frz h) q back_RR fun μ1 g h1 H1 r v H0 hr er q1 F => ?_
  refine ⟨μ1, g, h1, hr, er, F.bind fun r2 h2 v2 H2 μ2 P q2 F2 => ?_⟩
  exact hT μ2 h2 H2 _ _ _ _ P.hr (RD.mono P hr _ _ q1.frz) q2.frz (F2.from P back_RR)
theorem boot_len' : bootBuiltins "len" = some (.builtin "len") := PySem.boot_len
theorem boot_abs' : bootBuiltins "abs" = some (.builtin "abs") := by decide +kernel
theorem boot_int' : bootBuiltins "int" = some (.type "int") := by decide +kernel
theorem boot_min' : bootBuiltins "min" = some (.builtin "min") := by decide +kernel
theorem boot_max' : bootBuiltins "max" = some (.builtin "max") := by decide +kernel
theorem boot_isi' : bootBuiltins "isinstance" = some (.builtin "isinstance") := by decide +kernel
theorem boot_bool' : bootBuiltins "bool" = some (.type "bool") := by decide +kernel
theorem boot_tuple' : bootBuiltins "tuple" = some (.type "tuple") := by decide +kernel
theorem boot_list' : bootBuiltins "list" = some (.type "list") := by decide +kernel
theorem boot_str' : bootBuiltins "str" = some (.type "str") := by decide +kernel
theorem boot_sum' : bootBuiltins "sum" = some (.builtin "sum") := by decide +kernel
theorem boot_all' : bootBuiltins "all" = some (.builtin "all") := by decide +kernel
theorem boot_any' : bootBuiltins "any" = some (.builtin "any") := by decide +kernel
theorem boot_sorted' : bootBuiltins "sorted" = some (.builtin "sorted") := by decide +kernel
mutual
theorem pyD_rep {K : PySem.W.Frag} {μ : Mu} {n : Nat} {H : Hp} : ∀ (d : D) (p : PyData) (v : V), pyD d = some p → RD K μ n H d v → RepP K H p v
  | .non, p, v, e, q => by
    cases e
    cases q
    simp only [RepP]
  | .bl b, p, v, e, q => by
    cases e
    cases q
    simp only [RepP]
  | .int i, p, v, e, q => by
    cases e
    cases q
    simp only [RepP]
  | .str x, p, v, e, q => by
    cases e
    cases q
    simp only [RepP]
  | .tup l, p, v, e, q => by
    simp only [pyD] at e
    simp only [RD] at q
    obtain ⟨a, vs, rfl, s, t⟩ := q
    cases c : pyDL l with
    | none => rw [c] at e; cases e
    | some ps =>
      rw [c] at e
      cases e
      simp only [RepP]
      exact ⟨a, vs, rfl, s, pyDL_rep l ps vs c t⟩
  | .lst l, p, v, e, q => by
    simp only [pyD] at e
    simp only [RD] at q
    obtain ⟨a, vs, rfl, s, t⟩ := q
    cases c : pyDL l with
    | none => rw [c] at e; cases e
    | some ps =>
      rw [c] at e
      cases e
      simp only [RepP]
      exact ⟨a, vs, rfl, s.sq, pyDL_rep l ps vs c t⟩
  | .loc _, _, _, e, _ | .scr _, _, _, e, _ | .dic _ _, _, _, e, _ | .exo _ _ _, _, _, e, _ | .obj _ _, _, _, e, _ | .own, _, _, e, _ | .fn _, _, _, e, _ => by simp [pyD] at e
theorem pyDL_rep {K : PySem.W.Frag} {μ : Mu} {n : Nat} {H : Hp} : ∀ (l : List D) (ps : List PyData) (vs : List V), pyDL l = some ps → RDs K μ n H l vs → RepPs K H ps vs
  | [], ps, vs, e, q => by
    cases e
    simp only [RDs] at q
    simp only [RepPs]
    exact q
  | d :: l, ps, vs, e, q => by
    simp only [pyDL] at e
    simp only [RDs] at q
    obtain ⟨v, r, rfl, q1, q2⟩ := q
    cases c : pyD d with
    | none => rw [c] at e; cases e
    | some p =>
      rw [c] at e
      dsimp only at e
      cases c2 : pyDL l with
      | none => rw [c2] at e; cases e
      | some ps2 =>
        rw [c2] at e
        cases e
        simp only [RepPs]
        exact ⟨v, r, rfl, pyD_rep d p v c q1, pyDL_rep l ps2 r c2 q2⟩
end
theorem reprD_rep {K : PySem.W.Frag} {μ : Mu} {n : Nat} {H : Hp} {d : D} {v : V} {x : Str} (e : reprD d = some x) (q : RD K μ n H d v) : ∃ p : PyData, RepP K H p v ∧ p.showable = true ∧ p.depth ≤ 20 ∧ p.shown.length ≤ lim ∧ x = p.shown := by
  unfold reprD at e
  cases c : pyD d with
  | none => rw [c] at e; cases e
  | some p =>
    rw [c] at e
    dsimp only at e
    split at e
    · rename_i h
      cases e
      exact ⟨p, pyD_rep d p v c q, h.1, h.2.1, h.2.2, rfl⟩
    · cases e
theorem se_b1 (f : B1) (a : E) (ha : SE P Φ G k a) : SE P Φ G k (.b1 f a) := fun X W x gd hc => by
  simp only [chk] at hc
  split at hc
  · rename_i n p a' pos
    simp only [Bool.and_eq_true, decide_eq_true_eq] at hc
    obtain ⟨rfl, h2, h3⟩ := hc
    obtain ⟨hg, hdb, hn⟩ := gloB_ok h2
    have hs := chk_shape h3
    have hpa := pa_cons (ha X W a' gd h3).1 pa_nil (shape_star hs _ _)
    have e : eval Φ G (.b1 f a) = fun g h => bd (eval Φ G a g h) fun r h => b1M f r.frz h := by
      funext g h
      simp only [eval]
    have pe : PE X (.Call (.Name (b1N f) p) [a'] [] pos) (rE X.K W (eval Φ G (.b1 f a))) := by
      rw [e]
      cases f with
      | len =>
        refine PE_imp (pe_callB call_len_seq hg (gd.blt _ (by decide)) boot_len' hpa hn hdb (shape_star hs _ _) rfl) fun σ H Q q => rd_arg1 q fun μ h H d v hr q1 F => ?_
        obtain ⟨d', e1, k1⟩ := valR_fin F hr
        simp only [b1] at e1
        cases c : seqOf h d with
        | none => rw [c] at e1; cases e1
        | some l =>
          rw [c] at e1
          cases e1
          obtain ⟨p', vs, rfl, s, t⟩ := seq_of hr q1 c
          exact ⟨p', vs, rfl, s, k1 _ (by rw [t.length]; rfl)⟩
      | abs =>
        refine PE_imp (pe_callB call_abs hg (gd.blt _ (by decide)) boot_abs' hpa hn hdb (shape_star hs _ _) rfl) fun σ H Q q => rd_arg1 q fun μ h H d v hr q1 F => ?_
        obtain ⟨d', e1, k1⟩ := valR_fin F hr
        cases d with
        | int i =>
          cases e1
          cases q1
          exact ⟨i, rfl, k1 _ rfl⟩
        | _ => cases e1
      | int =>
        refine PE_imp (pe_callTy call_int1 hg (gd.blt _ (by decide)) boot_int' hpa hn hdb (shape_star hs _ _) rfl) fun σ H Q q => rd_arg1 q fun μ h H d v hr q1 F => ?_
        obtain ⟨d', e1, k1⟩ := valR_fin F hr
        cases d with
        | int i =>
          cases e1
          cases q1
          exact .inl ⟨i, rfl, k1 _ rfl⟩
        | bl b =>
          cases e1
          cases q1
          exact .inr ⟨b, rfl, k1 _ rfl⟩
        | _ => cases e1
      | str =>
        refine PE_imp (pe_callTy call_str_int hg (gd.blt _ (by decide)) boot_str' hpa hn hdb (shape_star hs _ _) rfl) fun σ H Q q => rd_arg1 q fun μ h H d v hr q1 F => ?_
        obtain ⟨d', e1, k1⟩ := valR_fin F hr
        cases d with
        | int i =>
          simp only [b1] at e1
          split at e1
          · rename_i hl
            cases e1
            cases q1
            exact ⟨i, rfl, hl, k1 _ rfl⟩
          · cases e1
        | _ => cases e1
      | repr =>
        refine PE_imp (pe_callB (call_repr gd.room.gd gd.room.units) hg (gd.blt _ (by decide)) boot_repr hpa hn hdb (shape_star hs _ _) rfl) fun σ H Q q => rd_arg1 q fun μ h H d v hr q1 F => ?_
        obtain ⟨d', e1, k1⟩ := valR_fin F hr
        simp only [b1] at e1
        cases c : reprD d with
        | none => rw [c] at e1; cases e1
        | some x =>
          rw [c] at e1
          cases e1
          obtain ⟨p, y1, y2, y3, y4, rfl⟩ := reprD_rep c q1
          exact ⟨v, p, rfl, y1, y2, y3, by rw [lim_line]; exact y4, k1 _ rfl⟩
    exact ⟨pe, pt_plain pe rfl⟩
  · cases hc
theorem se_b2 (f : B2) (a b : E) (ha : SE P Φ G k a) (hb : SE P Φ G k b) : SE P Φ G k (.b2 f a b) := fun X W x gd hc => by
  simp only [chk] at hc
  split at hc
  · rename_i n p a' b' pos
    simp only [Bool.and_eq_true, decide_eq_true_eq] at hc
    obtain ⟨rfl, h2, h3, h4⟩ := hc
    obtain ⟨hg, hdb, hn⟩ := gloB_ok h2
    have hs := chk_shape h3
    have hs2 := chk_shape h4
    have hpa := pa_cons (ha X W a' gd h3).1 (pa_cons (hb X W b' gd h4).1 pa_nil (shape_star hs2 _ _)) (shape_star hs _ _)
    have hany : (backTo pos (starEach [b'] X.env)).any (·.1) = false := by rw [shape_star hs2]; rfl
    have e : eval Φ G (.b2 f a b) = fun g h => bd (eval Φ G a g h) fun r h => bd (eval Φ G b g h) fun q h => b2M f r.frz q.frz h := by
      funext g h
      simp only [eval]
    have pe : PE X (.Call (.Name (b2N f) p) [a', b'] [] pos) (rE X.K W (eval Φ G (.b2 f a b))) := by
      rw [e]
      have two : ∀ {μ : Mu} {h : Heap} {H : Hp} {d1 d2 : D} {v w : V} {d' : D}, RD X.K μ h.length H d1 v → RD X.K μ h.length H d2 w → b2 f d1 d2 = some d' → ∃ i j, d1 = .int i ∧ d2 = .int j ∧ v = .int i ∧ w = .int j := by
        intro μ h H d1 d2 v w d' q1 q2 e1
        cases d1 with
        | int i =>
          cases d2 with
          | int j => exact ⟨i, j, rfl, rfl, q1, q2⟩
          | _ => cases f <;> cases e1
        | _ => cases f <;> cases e1
      cases f with
      | min =>
        refine PE_imp (pe_callB (call_min2 gd.calm) hg (gd.blt _ (by decide)) boot_min' hpa hn hdb (shape_star hs _ _) hany) fun σ H Q q => rd_arg2 q fun μ h H d e v w hr q1 q2 F => ?_
        obtain ⟨d', e1, k1⟩ := valR_fin F hr
        obtain ⟨i, j, rfl, rfl, rfl, rfl⟩ := two q1 q2 e1
        cases e1
        exact ⟨i, j, rfl, k1 _ rfl⟩
      | max =>
        refine PE_imp (pe_callB (call_max2 gd.calm) hg (gd.blt _ (by decide)) boot_max' hpa hn hdb (shape_star hs _ _) hany) fun σ H Q q => rd_arg2 q fun μ h H d e v w hr q1 q2 F => ?_
        obtain ⟨d', e1, k1⟩ := valR_fin F hr
        obtain ⟨i, j, rfl, rfl, rfl, rfl⟩ := two q1 q2 e1
        cases e1
        exact ⟨i, j, rfl, k1 _ rfl⟩
    exact ⟨pe, pt_plain pe rfl⟩
  · cases hc

/-! ### isinstance -/
theorem isTy_of {K : PySem.W.Frag} {μ : Mu} {h : Heap} {H : Hp} {d : D} {v : V} {t : Ty} {b : Bool} (r : HR K μ h H) (q : RD K μ h.length H d v) (e : isTy h t d = some b) : ∃ u, TyX K H v (.type u) ∧ kitB u (tyN t) = some b := by
  have lst : ∀ (o : Option Bool), o = some (decide (t = .list)) → o = some b → kitB "list" (tyN t) = some b := by
    intro o e1 e2
    rw [e1] at e2
    cases e2
    cases t <;> decide +kernel
  have tup : some (decide (t = .tuple)) = some b → kitB "tuple" (tyN t) = some b := by
    intro e2
    cases e2
    cases t <;> decide +kernel
  cases d with
  | non => cases q; cases e; exact ⟨_, .base .non, by cases t <;> decide +kernel⟩
  | bl c => cases q; cases e; exact ⟨_, .base (.bl c), by cases t <;> decide +kernel⟩
  | int c => cases q; cases e; exact ⟨_, .base (.int c), by cases t <;> decide +kernel⟩
  | str c => cases q; cases e; exact ⟨_, .base (.str c), by cases t <;> decide +kernel⟩
  | exo _ _ _ => cases e
  | obj _ _ => cases e
  | own => cases e
  | fn _ => cases e
  | tup l =>
    simp only [RD] at q
    obtain ⟨a, vs, rfl, s, _⟩ := q
    refine ⟨"tuple", ?_, tup e⟩
    rcases s with (s | ⟨o, s⟩) | ⟨o, its, n, hk, hc, _⟩
    · exact .base (.tup s)
    · exact .fTuple s
    · exact .kTuple hk hc
  | lst l =>
    simp only [RD] at q
    obtain ⟨a, vs, rfl, s, _⟩ := q
    refine ⟨"list", ?_, lst _ rfl e⟩
    rcases (show SqL K H a vs from s.sq) with (s | ⟨o, s⟩) | ⟨o, its, n, hk, hc, _⟩
    · exact .base (.lst s)
    · exact .base (.frz s)
    · exact .kList hk hc
  | scr l =>
    simp only [RD] at q
    obtain ⟨a, vs, rfl, s, _⟩ := q
    refine ⟨"list", ?_, lst _ rfl e⟩
    rcases s.sqk with (s | ⟨o, s⟩) | ⟨o, its, n, hk, hc, _⟩
    · exact .base (.lst s)
    · exact .base (.frz s)
    · exact .kList hk hc
  | dic ks l =>
    cases e
    simp only [RD] at q
    obtain ⟨a, kvs, rfl, ⟨s, _⟩, _⟩ := q
    refine ⟨"dict", ?_, by cases t <;> decide +kernel⟩
    rcases s with s | ⟨o, s⟩
    · exact .base (.dK s)
    · exact .fDict s
  | loc p =>
    simp only [isTy] at e
    cases c : h[p]? with
    | none => rw [c] at e; cases e
    | some o =>
      rw [c] at e
      cases o with
      | obj _ _ => cases e
      | dic _ =>
        cases e
        obtain ⟨kvs, e1, _⟩ := r.ob p _ c
        simp only [RD] at q
        rw [q.2]
        exact ⟨"dict", .base (.dK e1), by cases t <;> decide +kernel⟩
      | lst m =>
        obtain ⟨vs, e1, _⟩ := r.ob p _ c
        simp only [RD] at q
        rw [q.2]
        exact ⟨"list", .base (.lst e1), lst _ rfl e⟩
theorem boot_ty (t : Ty) : bootBuiltins (Str.ofString (tyN t)) = some (.type (tyN t)) := by
  cases t <;> decide +kernel
theorem se_isinst (a : E) (t : Ty) (ha : SE P Φ G k a) : SE P Φ G k (.isinst a t) := fun X W x gd hc => by
  simp only [chk] at hc
  split at hc
  · rename_i n p a' m pm pos
    simp only [Bool.and_eq_true, decide_eq_true_eq] at hc
    obtain ⟨rfl, h2, rfl, h3, h4⟩ := hc
    obtain ⟨hg, hdb, hn⟩ := gloB_ok h2
    obtain ⟨hg2, hdb2, hn2⟩ := gloB_ok h3
    have hs := chk_shape h4
    have hm2 : X.mg (Str.ofString (tyN t)) = none := gd.blt _ (by cases t <;> decide)
    have hty : PE X (.Name (Str.ofString (tyN t)) pm) (tC (.ty (tyN t))) := pe_bltn hg2 hm2 (boot_ty t) rfl hn2 hdb2
    have e : eval Φ G (.isinst a t) = fun g h => bd (eval Φ G a g h) fun r h => tyM t r.frz h := by
      funext g h
      simp only [eval]
    have pe : PE X (.Call (.Name "isinstance" p) [a', .Name (Str.ofString (tyN t)) pm] [] pos) (rE X.K W (eval Φ G (.isinst a t))) := by
      rw [e]
      refine PE_imp (pe_callB call_isi hg (gd.blt _ (by decide)) boot_isi' (pa_cons (ha X W a' gd h4).1 (pa_cons hty pa_nil rfl) (shape_star hs _ _)) hn hdb (shape_star hs _ _) rfl) fun σ H Q q => ?_
      refine rd_bind (ρ := RR X.K) (ρ' := RR X.K) (k := fun g r h => tyM t r.frz h) q back_RR fun μ1 g h1 H1 r v H0 hr er q1 F => ?_
      obtain ⟨b, e1, k1⟩ := boolR_fin F hr
      obtain ⟨u, ty, kb⟩ := isTy_of hr q1.frz e1
      exact ⟨v, .ty (tyN t), _, _, b, rfl, .ty _, ty, kit_ty kb, k1⟩
    exact ⟨pe, pt_plain pe rfl⟩
  · cases hc
end
end MP

/-! MP.Snd9: built-in functions over sequences; methods of lists; new places. -/
namespace MP
open PySem PySem.Spec PyProof.Rows L2

/-! ### what the library has for lists, for tuples -/
section
variable {prog : Program} {w : World} {A : Around} {E : Value → Shared → Prop} {s : Shared}
theorem iter_tup {l : Addr} {items : Array Value} {Q : Value → Shared → Prop} (hl : s.heap.IsTuple l items)
    (h : ∀ s₂ : Shared, s₂ = { s with heap := s.heap.push { cls := .type "tuple_iterator", data := .fields #[.ref l, .int 0 0] } } →
      (s₂.heap.IsTupleIter s.heap.objs.size l 0 ∧ s₂.heap.IsTuple l items) → l ≠ s.heap.objs.size → Q (.ref s.heap.objs.size) s₂) : wpAny (model prog w) A (pyIter (.ref l)) Q E s := by
  have hlt : l < s.heap.objs.size := by obtain ⟨_, e, _⟩ := hl; exact Heap.lt_size e
  exact wpAny_pyIter_tuple hl (h _ rfl ⟨⟨_, Heap.get?_push_size _ rfl, rfl, rfl⟩, hl.push _⟩ (Nat.ne_of_lt hlt))
theorem sum_tup {l : Addr} {xs : Array (Int × Tok)} {Q : Value → Shared → Prop} (hh : A.handled = none) (hl : s.heap.IsTuple l (intItems xs))
    (h : ∀ h' tk t', (∀ b o, s.heap.get? b = some o → h'.get? b = some o) → Q (.int (preSum (numAt xs) xs.size) t') { s with heap := h', toks := tk }) :
    wpAny (model prog w) A (call (.builtin "sum") [.ref l]) Q E s := by
  refine call_sum_walkG (iter_tup hl fun s₂ e st hne => ?_)
  subst e
  have hlt : l < s.heap.objs.size := by obtain ⟨_, e, _⟩ := hl; exact Heap.lt_size e
  refine ⟨_, _, _, _, _, _, numAt xs, rfl, Walks.tuple (A := A.in1) hh _ l hne (intItems xs), st, fun b hb => ?_, (fun _ _ => intItems_at), fun h' tk t' hk => ?_⟩
  · show b < (s.heap.push _).objs.size
    rw [Heap.size_push]
    have e' : b = s.heap.objs.size ∨ b = l := by simpa using hb
    rcases e' with e | e
    · rw [e]; exact Nat.lt_succ_self _
    · rw [e]; exact Nat.lt_succ_of_lt hlt
  · have := h h' tk t' fun b o eo => hk b o (fun hmem => by
      have e1 : b = s.heap.objs.size := by simpa using hmem
      exact absurd (e1 ▸ Heap.lt_size eo) (Nat.lt_irrefl _)) (Heap.get?_push_of_some _ eo)
    simpa [intItems] using this
end
section
variable {X : Cx}
theorem cr_sumT (hc : X.calm = true) : CallR X (.builtin "sum") (fun vs H Q => ∃ (a : Addr) (ns : List Int), vs = [V.ref a] ∧ SqT X.K H a (ns.map V.int) ∧ Q (.int ns.sum) H) := by
  intro pins s σ H vs us Q I r h
  obtain ⟨a, ns, rfl, hs, q⟩ := h
  obtain ⟨its, rv, hl, _⟩ := I.tuple hs
  rw [Vals.ref1 r]
  have hi := rv.ints
  obtain ⟨xs, e⟩ := hi.allInts.items
  have hn : numsOf (intItems xs).toList = ns := by rw [← e]; exact hi.numsOf
  rw [nums_intItems] at hn
  rw [e] at hl
  have hl' : s.heap.IsTuple a (intItems xs) := hl
  refine sum_tup (I.ok.hd hc) hl' fun h' tk t' hk => ?_
  refine ⟨.int _, H, I.kept hk, ⟨_, rfl⟩, ?_⟩
  rw [preSum_eq, List.take_of_length_le (by simp), hn]
  exact q
theorem cr_anyT (hc : X.calm = true) : CallR X (.builtin "any") (fun vs H Q => ∃ (a : Addr) (bs : List Bool), vs = [V.ref a] ∧ SqT X.K H a (bs.map V.bl) ∧ Q (.bl (bs.any id)) H) := by
  intro pins s σ H vs us Q I r h
  obtain ⟨a, bs, rfl, hs, q⟩ := h
  obtain ⟨its, rv, hl, _⟩ := I.tuple hs
  have hl' : s.heap.IsTuple a its.toArray := hl
  rw [Vals.ref1 r]
  have hb := rv.bls
  refine call_any_walk (iter_tup hl' fun s₂ e2 st hne => ?_)
  subst e2
  refine ⟨_, _, _, _, _, _, _, rfl, Walks.tuple (A := X.A.in1) (I.ok.hd hc) _ a hne its.toArray, st, truth_bools hb, fun h' tk hk => ?_⟩
  refine ⟨.bl _, H, I.kept fun b o eo => hk b o (fun hmem => ?_) (Heap.get?_push_of_some _ eo), ?_, q⟩
  · have e1 : b = s.heap.objs.size := by simpa using hmem
    exact absurd (e1 ▸ Heap.lt_size eo) (Nat.lt_irrefl _)
  · show Value.bool _ = Value.bool _
    rw [← L2.any_range, hb, List.size_toArray, List.length_map]
theorem cr_allT (hc : X.calm = true) : CallR X (.builtin "all") (fun vs H Q => ∃ (a : Addr) (bs : List Bool), vs = [V.ref a] ∧ SqT X.K H a (bs.map V.bl) ∧ Q (.bl (bs.all id)) H) := by
  intro pins s σ H vs us Q I r h
  obtain ⟨a, bs, rfl, hs, q⟩ := h
  obtain ⟨its, rv, hl, _⟩ := I.tuple hs
  have hl' : s.heap.IsTuple a its.toArray := hl
  rw [Vals.ref1 r]
  have hb := rv.bls
  refine call_all_walk (iter_tup hl' fun s₂ e2 st hne => ?_)
  subst e2
  refine ⟨_, _, _, _, _, _, _, rfl, Walks.tuple (A := X.A.in1) (I.ok.hd hc) _ a hne its.toArray, st, truth_bools hb, fun h' tk hk => ?_⟩
  refine ⟨.bl _, H, I.kept fun b o eo => hk b o (fun hmem => ?_) (Heap.get?_push_of_some _ eo), ?_, q⟩
  · have e1 : b = s.heap.objs.size := by simpa using hmem
    exact absurd (e1 ▸ Heap.lt_size eo) (Nat.lt_irrefl _)
  · show Value.bool _ = Value.bool _
    rw [← L2.all_range, hb, List.size_toArray, List.length_map]
end
/-! ### sorted of a tuple -/
section
open PyProof.Rows Srt SrtO
variable {prog : Program} {w : World} {A : Around} {E : Value → Shared → Prop} {s : Shared}
theorem collect_tup {l : Addr} {vs : List Value} {Q : List Value → Shared → Prop} (hl : s.heap.IsTuple l vs.toArray)
    (h : Q vs { s with heap := (s.heap.push (seqObj "list" #[] 0)).update s.heap.objs.size (Obj.mapSeq (· ++ vs.toArray)) }) (hsz : vs.length ≤ sizeLine) :
    wpAny (model prog w) A (collect (.ref l)) Q E s := by
  obtain ⟨o, ho, hc, n, hd⟩ := id hl
  unfold collect
  refine wpAny_bind (wpAny_runValue (codeAny_builtin entry_proto_collect' ?_))
  show wpAny _ _ (do again (.builtin "list.__iadd__" ⟨[← newList [], .ref l], []⟩)) _ _ s
  refine wpAny_bind (wpAny_newList (wpAny_pure ⟨Code.quiet_builtin _ (by decide +kernel), codeAny_builtin entry_list_iadd' ?_⟩))
  show wpAny _ _ (Builtin.List.listExtendWith (.ref s.heap.objs.size) (.ref l) (.ref s.heap.objs.size)) _ _ { s with heap := s.heap.push (seqObj "list" #[] 0) }
  unfold Builtin.List.listExtendWith
  have ho' : (s.heap.push (seqObj "list" #[] 0)).get? l = some o := Heap.get?_push_of_some _ ho
  refine wpAny_bind (wpAny_typeOf (T := "tuple") ⟨o, ho', hc⟩ ?_)
  have ht : (Value.type "tuple" == Value.type "tuple") = true := by rfl
  rw [if_pos (by rw [ht]; simp)]
  refine wpAny_bind (listItems_at ho' hd ?_)
  refine wpAny_bind (listItems_at (xs := #[]) (n := 0) (Heap.get?_push_size _ rfl) rfl ?_)
  rw [if_neg (by simp)]
  refine wpAny_bind (listUpdate_at (xs := #[]) (n := 0) (Heap.get?_push_size _ rfl) rfl ?_ (Nat.zero_le _) (by show (#[] ++ vs.toArray).size ≤ sizeLine + 1; simp only [Array.size_append, List.size_toArray, List.length_nil]; omega))
  refine wpAny_pure ?_
  show wpAny (model prog w) A (do
      let o ← load s.heap.objs.size
      match o.data with
      | .seq xs _ => pure xs.toList
      | _ => unsupported "internal:collect") Q E { s with heap := (s.heap.push (seqObj "list" #[] 0)).update s.heap.objs.size (Obj.mapSeq (· ++ vs.toArray)) }
  refine wpAny_bind (wpAny_load (get?_update_seq (Heap.get?_push_size _ rfl) _) ?_)
  show wpAny _ _ (pure ((#[] : Array Value) ++ vs.toArray).toList) Q E _
  rw [show ((#[] : Array Value) ++ vs.toArray).toList = vs by simp]
  exact wpAny_pure h
theorem sorted_ordT {l : Addr} {vs : List Value} {ltv : Value → Value → Bool} {Q : Value → Shared → Prop} (O : Swo ltv) (hl : s.heap.IsTuple l vs.toArray) (hz : vs.length ≤ sizeLine)
    (hS : 2 ≤ vs.length → ∀ (h₁ : PySem.Heap) (a : Addr), h₁.get? a = some (seqObj "list" vs.toArray 0) → (∀ b o, s.heap.get? b = some o → b ≠ a ∧ h₁.get? b = some o) → SortableO prog w A.in1.in1 { s with heap := h₁ } a vs ltv)
    (h : ∀ out : List Value, Srtd ltv out → Stb ltv out vs → Q (.ref (s.heap.objs.size + 1)) { s with heap := sortedAll s.heap vs out.toArray }) :
    wpAny (model prog w) A (call (.builtin "sorted") [.ref l]) Q E s := by
  refine Calls.call_function_entry kind_sorted plain_sorted entry_sorted (args_sorted1 _) ?_
  unfold Builtin.«sorted»
  refine wpAny_bind (m := checkCount "sorted" 1 1 _) (wpAny_pure ?_)
  refine wpAny_bind (collect_tup hl ?_ hz)
  refine wpAny_bind (wpAny_newList ?_ hz)
  have hsz : ((s.heap.push (seqObj "list" #[] 0)).update s.heap.objs.size (Obj.mapSeq (· ++ vs.toArray))).objs.size = s.heap.objs.size + 1 := by
    rw [Heap.size_update, size_push']
  have hoL : (((s.heap.push (seqObj "list" #[] 0)).update s.heap.objs.size (Obj.mapSeq (· ++ vs.toArray))).push (seqObj "list" vs.toArray 0)).get? (s.heap.objs.size + 1) = some (seqObj "list" vs.toArray 0) := by
    rw [← hsz]
    exact Heap.get?_push_size _ rfl
  have keep : ∀ b o, s.heap.get? b = some o → b ≠ s.heap.objs.size + 1 ∧ (((s.heap.push (seqObj "list" #[] 0)).update s.heap.objs.size (Obj.mapSeq (· ++ vs.toArray))).push (seqObj "list" vs.toArray 0)).get? b = some o := fun b o q => by
    have hlt : b < s.heap.objs.size := Heap.lt_size q
    refine ⟨Nat.ne_of_lt (Nat.lt_succ_of_lt hlt), Heap.get?_push_of_some _ ?_⟩
    rw [Heap.get?_update_ne _ _ _ _ (Nat.ne_of_lt hlt)]
    exact Heap.get?_push_of_some _ q
  show wpAny _ _ _ _ _ { s with heap := ((s.heap.push (seqObj "list" #[] 0)).update s.heap.objs.size (Obj.mapSeq (· ++ vs.toArray))).push (seqObj "list" vs.toArray 0) }
  rw [hsz]
  refine wpAny_bind (wpAny_holding (wpAny_call_entry slot_list_sort ⟨_, hoL, rfl⟩ entry_list_sort (list_sort_ord O hoL hz (fun h2 => hS h2 _ _ hoL keep) fun out hs hb => ⟨_, rfl, ?_⟩) (args_list_sort _)))
  exact wpAny_pure ⟨_, rfl, h out hs hb⟩
theorem sorted_pairsT {l : Addr} {vs : List Value} {k : Value → Int × Int} {Q : Value → Shared → Prop} (hl : s.heap.IsTuple l vs.toArray) (hz : vs.length ≤ sizeLine) (hp : ∀ v ∈ vs, IsPair s.heap v (k v).1 (k v).2)
    (h : ∀ (h' : PySem.Heap) (d : Addr) (out : List Value), Srtd (fun v u => lexB (k v) (k u)) out → Stb (fun v u => lexB (k v) (k u)) out vs → (∀ b o, s.heap.get? b = some o → h'.get? b = some o) → s.heap.objs.size ≤ d → (∃ n, h'.get? d = some (seqObj "list" out.toArray n)) → Q (.ref d) { s with heap := h' }) :
    wpAny (model prog w) A (call (.builtin "sorted") [.ref l]) Q E s := by
  refine sorted_ordT (swo_lex k) hl hz (fun h2 h₁ a ha kk => ?_) fun out hs hb => ?_
  · refine pairs_sortableO (s := { s with heap := h₁ }) (by omega) (fun v hm => (hp v hm).keeps fun b o e _ => (kk b o e).2) fun o e => ?_
    have e' : some o = some (seqObj "list" vs.toArray 0) := e.symm.trans ha
    cases e'
    intro c
    exact absurd (Value.type.inj c) (by decide)
  · exact h _ _ out hs hb (fun b o e => sortedAll_old e) (Nat.le_succ _) (sortedAll_at s.heap vs out.toArray)
end
section
variable {X : Cx}
-- sorted of a list or a tuple of ints, of pairs of ints
def rSrtI (K : PySem.W.Frag) : List V → Hp → VK → Prop := fun vs H Q => ∃ (a : Addr) (ns : List Int), vs = [V.ref a] ∧ (SqL K H a (ns.map V.int) ∨ SqT K H a (ns.map V.int)) ∧
  ∀ (ns' : List Int) (p : Addr), ns'.Perm ns → ns'.Pairwise (· ≤ ·) → H p = none → Q (.ref p) (upd H p (.lst (ns'.map V.int)))
theorem cr_srtI : CallR X (.builtin "sorted") (rSrtI X.K) := by
  intro pins s σ H vs us Q I r h
  obtain ⟨a, ns, rfl, hs, q⟩ := h
  rcases hs with hs | hs
  · exact cr_sortedI pins s σ H _ us Q I r ⟨a, ns, rfl, hs, q⟩
  · obtain ⟨its, rv, hl, hz⟩ := I.tuple hs
    have hl' : s.heap.IsTuple a its.toArray := hl
    rw [Vals.ref1 r]
    have hi := rv.ints
    refine sorted_ordT SrtO.swo_int hl' (by rw [← rv.length]; exact hz) (fun h2 h₁ a' _ _ => SrtO.ints_sortable hi h2) fun out h1 h2 => ?_
    obtain ⟨k1, k2, k3⟩ := SrtO.ints_out hi h1 h2
    obtain ⟨ep, he'⟩ := PyProof.Rows.sortedAll_at s.heap its out.toArray
    have hlen : ((out.map SrtO.iv).map V.int).length ≤ sizeLine := by
      rw [List.length_map, k2.length_eq]
      rw [List.length_map] at hz
      exact hz
    exact ⟨.ref _, upd H (s.heap.objs.size + 1) (.lst ((out.map SrtO.iv).map V.int)), I.laid (t' := s.toks) (fun _ _ => PyProof.Rows.sortedAll_old) (Nat.le_succ _) ⟨hlen, out, ep, vals_of_ints k1, he'⟩, rfl, q _ _ k2 k3 (I.hok.fresh (Nat.le_succ _))⟩
def rSrtP (K : PySem.W.Frag) : List V → Hp → VK → Prop := fun vs H Q => ∃ (a : Addr) (xs : List V) (k : V → Int × Int), vs = [V.ref a] ∧ (SqL K H a xs ∨ SqT K H a xs) ∧ (∀ x ∈ xs, ∃ t, x = V.ref t ∧ SqT K H t [.int (k x).1, .int (k x).2]) ∧
  ∀ ys p, SrtO.Srtd (ltP k) ys → SrtO.Stb (ltP k) ys xs → H p = none → Q (.ref p) (upd H p (.lst ys))
theorem cr_srtP : CallR X (.builtin "sorted") (rSrtP X.K) := by
  intro pins s σ H vs us Q I r h
  obtain ⟨a, xs, k, rfl, hs, hx, q⟩ := h
  rw [Vals.ref1 r]
  have main : ∀ (its : List Value), Vals xs its → xs.length ≤ sizeLine → (s.heap.IsList a its.toArray ∨ s.heap.IsTuple a its.toArray) → wpAny (model X.prog X.w) X.A (call (.builtin "sorted") [.ref a]) (EP X pins σ Q) X.xe s := fun its rv hz hl => by
    obtain ⟨e1, e2⟩ := refs_back rv fun x m => by
      obtain ⟨t, e, _⟩ := hx x m
      exact ⟨t, e⟩
    have hp : ∀ v ∈ its, Srt.IsPair s.heap v (k (backV v)).1 (k (backV v)).2 := fun v hv => by
      obtain ⟨t, rfl⟩ := e2 v hv
      have hm : V.ref t ∈ xs := by rw [e1]; exact List.mem_map.mpr ⟨_, hv, rfl⟩
      obtain ⟨t', e, ht⟩ := hx _ hm
      cases e
      obtain ⟨its2, r2, ⟨o, ho, hc, n, hd⟩, _⟩ := I.tuple ht
      obtain ⟨u1, u2, rfl, ri, rj⟩ := vals2 r2
      obtain ⟨t1, rfl⟩ := ri
      obtain ⟨t2, rfl⟩ := rj
      exact ⟨t, o, t1, t2, n, rfl, ho, hc, hd⟩
    have fin : ∀ (h' : PySem.Heap) (d : Addr) (out : List Value), SrtO.Srtd (fun v u => SrtO.lexB (k (backV v)) (k (backV u))) out → SrtO.Stb (fun v u => SrtO.lexB (k (backV v)) (k (backV u))) out its → (∀ b o, s.heap.get? b = some o → h'.get? b = some o) → s.heap.objs.size ≤ d → (∃ n, h'.get? d = some (seqObj "list" out.toArray n)) → EP X pins σ Q (.ref d) { s with heap := h' } := fun h' d out h1 h2 kp hd hn => by
      have h3 : ∀ u ∈ out, ∃ a, u = Value.ref a := fun u hu => e2 u (h2.perm.mem_iff.mp hu)
      obtain ⟨n, hn⟩ := hn
      have hb : SrtO.Stb (ltP k) (out.map backV) xs := by
        rw [e1]
        exact SrtO.Stb.map (ltP_swo k) backV h2
      refine ⟨.ref d, upd H d (.lst (out.map backV)), I.laid (t' := s.toks) kp hd ⟨?_, out, n, vals_back h3, hn⟩, rfl, q _ d (SrtO.srtd_map h1) hb (I.hok.fresh hd)⟩
      rw [hb.len]
      exact hz
    rcases hl with hl | hl
    · exact SrtO.sorted_pairsO (k := fun u => k (backV u)) hl (by rw [← rv.length]; exact hz) hp fin
    · exact sorted_pairsT (k := fun u => k (backV u)) hl (by rw [← rv.length]; exact hz) hp fin
  rcases hs with hs | hs
  · obtain ⟨its, rv, hl, hz⟩ := I.list hs
    exact main its rv hz (.inl hl.isList)
  · obtain ⟨its, rv, hl, hz⟩ := I.tuple hs
    exact main its rv hz (.inr hl)
end
/-! ### there is just one such list -/
theorem sorted_uniq {α : Type} {r : α → α → Prop} (anti : ∀ a b, r a b → r b a → a = b) : ∀ {l m : List α}, l.Perm m → l.Pairwise r → m.Pairwise r → l = m
  | [], m, p, _, _ => (List.Perm.nil_eq p)
  | a :: l, [], p, _, _ => absurd p.length_eq (by simp)
  | a :: l, b :: m, p, hl, hm => by
    have h1 : a = b := by
      have ha : a ∈ b :: m := p.subset (List.mem_cons_self)
      have hb : b ∈ a :: l := p.symm.subset (List.mem_cons_self)
      rcases List.mem_cons.mp ha with e | ha
      · exact e
      · rcases List.mem_cons.mp hb with e | hb
        · exact e.symm
        · exact anti a b ((List.pairwise_cons.mp hl).1 b hb) ((List.pairwise_cons.mp hm).1 a ha)
    subst h1
    rw [sorted_uniq anti p.cons_inv (List.pairwise_cons.mp hl).2 (List.pairwise_cons.mp hm).2]
theorem insBy_perm {α : Type} (le : α → α → Bool) (x : α) : ∀ l : List α, (insBy le x l).Perm (x :: l)
  | [] => .refl _
  | y :: r => by
    unfold insBy
    split
    · exact .refl _
    · exact ((insBy_perm le x r).cons y).trans (.swap x y r)
theorem sortBy_perm {α : Type} (le : α → α → Bool) : ∀ l : List α, (sortBy le l).Perm l
  | [] => .refl _
  | x :: r => (insBy_perm le x (sortBy le r)).trans ((sortBy_perm le r).cons x)
theorem insBy_sorted {α : Type} {le : α → α → Bool} (tot : ∀ a b, le a b = false → le b a = true) (tr : ∀ a b c, le a b = true → le b c = true → le a c = true) (x : α) :
    ∀ l : List α, l.Pairwise (fun a b => le a b = true) → (insBy le x l).Pairwise (fun a b => le a b = true)
  | [], _ => by simp [insBy]
  | y :: r, h => by
    obtain ⟨h1, h2⟩ := List.pairwise_cons.mp h
    unfold insBy
    split
    · rename_i hxy
      refine List.pairwise_cons.mpr ⟨fun z hz => ?_, h⟩
      rcases List.mem_cons.mp hz with rfl | hz
      · exact hxy
      · exact tr x y z hxy (h1 z hz)
    · rename_i hxy
      refine List.pairwise_cons.mpr ⟨fun z hz => ?_, insBy_sorted tot tr x r h2⟩
      rcases List.mem_cons.mp ((insBy_perm le x r).subset hz) with rfl | hz
      · exact tot z y (by simpa using hxy)
      · exact h1 z hz
theorem sortBy_sorted {α : Type} {le : α → α → Bool} (tot : ∀ a b, le a b = false → le b a = true) (tr : ∀ a b c, le a b = true → le b c = true → le a c = true) : ∀ l : List α, (sortBy le l).Pairwise (fun a b => le a b = true)
  | [] => .nil
  | x :: r => insBy_sorted tot tr x _ (sortBy_sorted tot tr r)
theorem leI_tot (a b : Int) (h : leI a b = false) : leI b a = true := by
  simp only [leI, decide_eq_false_iff_not, decide_eq_true_eq] at h ⊢
  omega
theorem leI_tr (a b c : Int) (h : leI a b = true) (h2 : leI b c = true) : leI a c = true := by
  simp only [leI, decide_eq_true_eq] at h h2 ⊢
  omega
theorem leP_iff (a b : Int × Int) : leP a b = true ↔ a.1 < b.1 ∨ (a.1 = b.1 ∧ a.2 ≤ b.2) := by
  simp only [leP, Bool.or_eq_true, Bool.and_eq_true, decide_eq_true_eq]
theorem leP_tot (a b : Int × Int) (h : leP a b = false) : leP b a = true := by
  rw [leP_iff]
  have : ¬ (a.1 < b.1 ∨ (a.1 = b.1 ∧ a.2 ≤ b.2)) := by
    rw [← leP_iff, h]
    exact Bool.false_ne_true
  omega
theorem leP_tr (a b c : Int × Int) (h : leP a b = true) (h2 : leP b c = true) : leP a c = true := by
  rw [leP_iff] at *
  omega
theorem leP_anti (a b : Int × Int) (h : leP a b = true) (h2 : leP b a = true) : a = b := by
  rw [leP_iff] at *
  exact Prod.ext (by omega) (by omega)
theorem sorted_ints {ns ns' : List Int} (p : ns'.Perm ns) (s : ns'.Pairwise (· ≤ ·)) : ns' = sortBy leI ns :=
  sorted_uniq (r := fun a b => a ≤ b) (fun a b h1 h2 => Int.le_antisymm h1 h2) (p.trans (sortBy_perm leI ns).symm) s ((sortBy_sorted leI_tot leI_tr ns).imp fun h => by simpa [leI] using h)
-- a pair of ints at v
def PairV (K : PySem.W.Frag) (H : Hp) (v : V) (p : Int × Int) : Prop := ∃ t, v = .ref t ∧ SqT K H t [.int p.1, .int p.2]
def PairsV (K : PySem.W.Frag) (H : Hp) : List V → List (Int × Int) → Prop
  | [], ps => ps = []
  | v :: vs, ps => ∃ p r, ps = p :: r ∧ PairV K H v p ∧ PairsV K H vs r
theorem PairsV.mem {K : PySem.W.Frag} {H : Hp} : ∀ {vs : List V} {ps : List (Int × Int)}, PairsV K H vs ps → ∀ v ∈ vs, ∃ p, PairV K H v p
  | [], _, _, v, h => absurd h (by simp)
  | w :: vs, _, q, v, h => by
    obtain ⟨p, r, rfl, q1, q2⟩ := q
    rcases List.mem_cons.mp h with rfl | h
    · exact ⟨p, q1⟩
    · exact PairsV.mem q2 v h
section
variable {X : Cx}
def rSrtQ (K : PySem.W.Frag) : List V → Hp → VK → Prop := fun vs H Q => ∃ (a : Addr) (xs : List V) (ps : List (Int × Int)), vs = [V.ref a] ∧ (SqL K H a xs ∨ SqT K H a xs) ∧ PairsV K H xs ps ∧
  ∀ ys p, PairsV K H ys (sortBy leP ps) → H p = none → Q (.ref p) (upd H p (.lst ys))
open Classical in
theorem cr_srtQ : CallR X (.builtin "sorted") (rSrtQ X.K) := by
  intro pins s σ H vs us Q I r h
  obtain ⟨a, xs, ps, rfl, hs, hp, q⟩ := h
  let k : V → Int × Int := fun v => if z : ∃ p, PairV X.K H v p then z.choose else (0, 0)
  have kp : ∀ v p, PairV X.K H v p → k v = p := fun v p hv => by
    have z : ∃ p, PairV X.K H v p := ⟨p, hv⟩
    have e : k v = z.choose := dif_pos z
    obtain ⟨t, e1, s1⟩ := z.choose_spec
    obtain ⟨t2, e2, s2⟩ := hv
    rw [e1] at e2
    cases e2
    have e3 := I.tuple_inj s1 s2
    simp only [List.cons.injEq, V.int.injEq, and_true] at e3
    rw [e]
    exact Prod.ext e3.1 e3.2
  have kps : ∀ {vs : List V} {ps : List (Int × Int)}, PairsV X.K H vs ps → vs.map k = ps := by
    intro vs
    induction vs with
    | nil => intro ps e; exact e.symm
    | cons v vs ih =>
      intro ps e
      obtain ⟨p, r, rfl, q1, q2⟩ := e
      rw [List.map_cons, kp v p q1, ih q2]
  refine cr_srtP pins s σ H _ us Q I r ⟨a, xs, k, rfl, hs, fun x hx => ?_, fun ys p h1 h2 hpn => q ys p ?_ hpn⟩
  · obtain ⟨p, hv⟩ := hp.mem x hx
    rw [kp x p hv]
    exact hv
  · have e1 : ys.map k = sortBy leP ps := by
      refine sorted_uniq (r := fun a b => leP a b = true) leP_anti ?_ ?_ (sortBy_sorted leP_tot leP_tr ps)
      · rw [← kps hp]
        exact (h2.perm.map k).trans (sortBy_perm leP _).symm
      · rw [List.pairwise_map]
        refine List.Pairwise.imp (fun {v w} z => ?_) h1
        have z' : SrtO.lexB (k w) (k v) = false := z
        rw [SrtO.lexB_no] at z'
        rw [leP_iff]
        omega
    rw [← e1]
    have all : ∀ v ∈ ys, PairV X.K H v (k v) := fun v hv => by
      obtain ⟨p, hp'⟩ := hp.mem v (h2.perm.mem_iff.mp hv)
      rw [kp v p hp']
      exact hp'
    clear e1 h1 h2 hpn
    induction ys with
    | nil => rfl
    | cons v vs ih => exact ⟨k v, _, rfl, all v (by simp), ih fun w hw => all w (by simp [hw])⟩
end
end MP

/-! MP.Snd10: built-in functions over sequences, methods, new places; all expressions. -/
namespace MP
open PySem PySem.Spec PyProof.Rows L2

section
variable {K : PySem.W.Frag} {μ : Mu} {n : Nat} {H : Hp}
theorem ints_V : ∀ {l : List D} {vs : List V} {ns : List Int}, RDs K μ n H l vs → MP.intsD l = some ns → vs = ns.map V.int
  | [], vs, ns, q, e => by
    simp only [RDs] at q
    subst q
    cases e
    rfl
  | d :: l, vs, ns, q, e => by
    simp only [RDs] at q
    obtain ⟨v, r, rfl, q1, q2⟩ := q
    cases d with
    | int i =>
      simp only [MP.intsD] at e
      cases c : MP.intsD l with
      | none => rw [c] at e; cases e
      | some ms =>
        rw [c] at e
        cases e
        cases q1
        rw [ints_V q2 c]
        rfl
    | _ => cases e
theorem bools_V : ∀ {l : List D} {vs : List V} {ns : List Bool}, RDs K μ n H l vs → bools l = some ns → vs = ns.map V.bl
  | [], vs, ns, q, e => by
    simp only [RDs] at q
    subst q
    cases e
    rfl
  | d :: l, vs, ns, q, e => by
    simp only [RDs] at q
    obtain ⟨v, r, rfl, q1, q2⟩ := q
    cases d with
    | bl i =>
      simp only [bools] at e
      cases c : bools l with
      | none => rw [c] at e; cases e
      | some ms =>
        rw [c] at e
        cases e
        cases q1
        rw [bools_V q2 c]
        rfl
    | _ => cases e
theorem ints_D (ns : List Int) : RDs K μ n H (ns.map D.int) (ns.map V.int) := by
  induction ns with
  | nil => simp only [List.map_nil, RDs]
  | cons i ns ih =>
    simp only [List.map_cons, RDs]
    exact ⟨_, _, rfl, rfl, ih⟩
theorem pairs_V : ∀ {l : List D} {vs : List V} {ps : List (Int × Int)}, RDs K μ n H l vs → pairs l = some ps → PairsV K H vs ps
  | [], vs, ns, q, e => by
    simp only [RDs] at q
    subst q
    cases e
    rfl
  | d :: l, vs, ns, q, e => by
    simp only [RDs] at q
    obtain ⟨v, r, rfl, q1, q2⟩ := q
    unfold pairs at e
    split at e
    · rename_i hq
      cases hq
    · rename_i i j r' hq
      cases hq
      cases c : pairs l with
      | none => rw [c] at e; cases e
      | some ms =>
        rw [c] at e
        cases e
        simp only [RD] at q1
        obtain ⟨a, us, rfl, s, t⟩ := q1
        simp only [RDs] at t
        obtain ⟨x, _, rfl, e1, y, _, rfl, e2, rfl⟩ := t
        cases e1
        cases e2
        exact ⟨_, _, rfl, ⟨a, rfl, s⟩, pairs_V q2 c⟩
    · cases e
theorem pairs_D : ∀ {vs : List V} {ps : List (Int × Int)}, PairsV K H vs ps → RDs K μ n H (ps.map pairD) vs
  | [], ps, q => by
    cases q
    simp only [List.map_nil, RDs]
  | v :: vs, ps, q => by
    obtain ⟨p, r, rfl, ⟨t, rfl, s⟩, q2⟩ := q
    simp only [List.map_cons, RDs, pairD, RD]
    refine ⟨_, _, rfl, ⟨t, _, rfl, s, _, _, rfl, rfl, _, _, rfl, rfl, rfl⟩, ?_⟩
    exact pairs_D q2
end
section
variable {P : PInfo} {Φ : Nat → List D → Heap → Res R} {G : Nat → Option D} {k : Nat}
-- a sequence, read: the items and where they stand
theorem intKs_V : ∀ {ks : List (Sum Int Str)} {ns : List Int}, intKs ks = some ns → ks = ns.map Sum.inl
  | [], ns, e => by cases e; rfl
  | .inl i :: r, ns, e => by
    simp only [intKs] at e
    cases c : intKs r with
    | none => rw [c] at e; cases e
    | some m =>
      rw [c] at e
      cases e
      rw [intKs_V c]
      rfl
  | .inr _ :: _, ns, e => by cases e
theorem RDs.zipl {K : PySem.W.Frag} {μ : Mu} {n : Nat} {H : Hp} : ∀ {ks : List (Sum Int Str)} {vs : List D} {us : List V}, RDs K μ n H vs us → ks.length = us.length → (ks.zip vs).map (·.1) = ks ∧ (ks.zip vs).map (·.2) = vs
  | [], [], us, q, e => ⟨rfl, rfl⟩
  | [], d :: vs, us, q, e => by
    have := q.length
    simp only [List.length_cons, List.length_nil] at this e
    omega
  | k :: ks, [], us, q, e => by
    have := q.length
    simp only [List.length_cons, List.length_nil] at this e
    omega
  | k :: ks, d :: vs, us, q, e => by
    simp only [RDs] at q
    obtain ⟨v, r, rfl, _, q2⟩ := q
    obtain ⟨a, b⟩ := RDs.zipl (ks := ks) q2 (by simpa using e)
    simp only [List.zip_cons_cons, List.map_cons, a, b, and_self]
theorem dic_of {K : PySem.W.Frag} {μ : Mu} {h : Heap} {H : Hp} {d : D} {v : V} {l : List (Sum Int Str × D)} (r : HR K μ h H) (q : RD K μ h.length H d v) (e : dicOf h d = some l) :
    ∃ (a : Addr) (kvs : List (Key × V)), v = .ref a ∧ Rd H a (.dK kvs) ∧ kvs.map (·.1) = l.map (·.1) ∧ RDs K μ h.length H (l.map (·.2)) (kvs.map (·.2)) := by
  cases d with
  | dic ks vs =>
    cases e
    simp only [RD] at q
    obtain ⟨a, kvs, rfl, s, ek, t⟩ := q
    obtain ⟨z1, z2⟩ := RDs.zipl (ks := ks) t (by rw [← ek]; simp)
    exact ⟨a, kvs, rfl, s.1, by rw [z1, ek], by rw [z2]; exact t⟩
  | loc p =>
    simp only [dicOf] at e
    cases c : h[p]? with
    | none => rw [c] at e; cases e
    | some o =>
      rw [c] at e
      cases o with
      | lst _ => cases e
      | obj _ _ => cases e
      | dic m =>
        cases e
        obtain ⟨kvs, e1, ek, t⟩ := r.ob p _ c
        simp only [RD] at q
        exact ⟨_, kvs, q.2, .inl e1, ek, t⟩
  | _ => cases e
theorem seqIt_of {K : PySem.W.Frag} {μ : Mu} {h : Heap} {H : Hp} {d : D} {v : V} {its : Items} {h' : Heap} (r : HR K μ h H) (q : RD K μ h.length H d v) (e : seqIt d h = some (.ok its h')) :
    h' = h ∧ ∃ a vs, v = .ref a ∧ RDs K μ h.length H its.1 vs ∧ ((SqL K H a vs) ∨ (SqT K H a vs ∧ d = .tup its.1)) := by
  cases d with
  | tup l =>
    cases e
    simp only [RD] at q
    obtain ⟨a, vs, rfl, s, t⟩ := q
    exact ⟨rfl, a, vs, rfl, t, .inr ⟨s, rfl⟩⟩
  | lst l =>
    cases e
    simp only [RD] at q
    obtain ⟨a, vs, rfl, s, t⟩ := q
    exact ⟨rfl, a, vs, rfl, t, .inl s.sq⟩
  | scr l =>
    cases e
    simp only [RD] at q
    obtain ⟨a, vs, rfl, s, t⟩ := q
    exact ⟨rfl, a, vs, rfl, t, .inl s.sqk⟩
  | loc p =>
    simp only [seqIt] at e
    cases c : h[p]? with
    | none => rw [c] at e; cases e
    | some o =>
      rw [c] at e
      cases o with
      | dic _ => cases e
      | obj _ _ => cases e
      | lst m =>
        cases e
        obtain ⟨vs, e1, t⟩ := r.ob p _ c
        simp only [RD] at q
        exact ⟨rfl, _, vs, q.2, t, .inl (.inl (.inl e1))⟩
  | _ => cases e
def seqB (f : BI) (d : D) (h : Heap) : Res R := bd (seqIt d h) fun it h => ofO (bi f it.1) h
theorem bi_args {K : PySem.W.Frag} {W : XK} {μ : Mu} {h : Heap} {H : Hp} {f : BI} {d : D} {v : V} {Q : VK} (hr : HR K μ h H) (q : RD K μ h.length H d v) (F : Fin K W (RR K) μ h H (seqB f d h) Q) :
    ∃ a vs l, v = .ref a ∧ RDs K μ h.length H l vs ∧ (SqL K H a vs ∨ (SqT K H a vs ∧ d = .tup l)) ∧ ∃ r, bi f l = some r ∧ ∀ v' H' μ', Post K μ h H μ' h H' → RR K μ' h H H' r v' → Q v' H' := by
  unfold seqB at F
  cases c : seqIt d h with
  | none => rw [c] at F; exact F.elim
  | some o =>
    rw [c] at F
    cases o with
    | exc x h' =>
      exfalso
      cases d <;> first | (cases c; done) | (simp only [seqIt] at c; split at c <;> cases c)
    | ok its h' =>
      obtain ⟨rfl, a, vs, rfl, t, s⟩ := seqIt_of hr q c
      simp only [bd_ok, ofO] at F
      cases e : bi f its.1 with
      | none => rw [e] at F; exact F.elim
      | some r =>
        rw [e] at F
        exact ⟨a, vs, its.1, rfl, t, s, r, e, F⟩
theorem callR_seq {X : Cx} {W : XK} (gd : Good P Φ G k X W) (f : BI) : CallR X (match f with
    | .tuple => .type "tuple"
    | .list => .type "list"
    | .sum => .builtin "sum"
    | .all => .builtin "all"
    | .any => .builtin "any"
    | .sorted => .builtin "sorted") (fun xs H Q => ∃ v, xs = [v] ∧ r1 X.K W (seqB f) v H Q) := by
  cases f with
  | tuple =>
    refine CallR_imp call_tuple_of fun xs H Q ⟨v, e, μ, h, d, hr, q, F⟩ => ?_
    subst e
    obtain ⟨a, vs, l, rfl, t, s, r, e, kf⟩ := bi_args hr q F
    simp only [bi] at e
    split at e <;> first | (cases e; done) | skip
    cases e
    rcases s with s | ⟨s, rfl⟩
    · refine ⟨a, vs, rfl, .inl ⟨s, fun p hp => ?_⟩⟩
      have Pn := Post.new (o := .tup vs) hr hp
      refine kf _ _ μ Pn ?_
      show RD X.K μ h.length _ (.tup l) (.ref p)
      simp only [RD]
      exact ⟨p, vs, rfl, .inl (.inl upd_same), RDs.mono Pn hr _ _ t⟩
    · exact ⟨a, vs, rfl, .inr ⟨s, kf _ _ μ (Post.refl hr) q⟩⟩
  | list =>
    refine CallR_imp call_list_of fun xs H Q ⟨v, e, μ, h, d, hr, q, F⟩ => ?_
    subst e
    obtain ⟨a, vs, l, rfl, t, s, r, e, kf⟩ := bi_args hr q F
    simp only [bi] at e
    split at e <;> first | (cases e; done) | skip
    cases e
    refine ⟨a, vs, rfl, s.imp id (·.1), fun p hp => ?_⟩
    have Pn := Post.new (o := .lst vs) hr hp
    exact kf _ _ μ Pn (RR.mk hr hp hp t)
  | sum =>
    refine CallR_imp (CallR.or (cr_sum gd.calm) (cr_sumT gd.calm)) fun xs H Q ⟨v, e, μ, h, d, hr, q, F⟩ => ?_
    subst e
    obtain ⟨a, vs, l, rfl, t, s, r, e, kf⟩ := bi_args hr q F
    simp only [bi] at e
    cases c : MP.intsD l with
    | none => rw [c] at e; cases e
    | some ns =>
      rw [c] at e
      cases e
      have ev := ints_V t c
      subst ev
      rcases s with s | ⟨s, _⟩
      · exact .inl ⟨a, ns, rfl, s, kf _ _ μ (Post.refl hr) rfl⟩
      · exact .inr ⟨a, ns, rfl, s, kf _ _ μ (Post.refl hr) rfl⟩
  | all =>
    refine CallR_imp (CallR.or (cr_all gd.calm) (cr_allT gd.calm)) fun xs H Q ⟨v, e, μ, h, d, hr, q, F⟩ => ?_
    subst e
    obtain ⟨a, vs, l, rfl, t, s, r, e, kf⟩ := bi_args hr q F
    simp only [bi] at e
    cases c : bools l with
    | none => rw [c] at e; cases e
    | some ns =>
      rw [c] at e
      cases e
      have ev := bools_V t c
      subst ev
      rcases s with s | ⟨s, _⟩
      · exact .inl ⟨a, ns, rfl, s, kf _ _ μ (Post.refl hr) rfl⟩
      · exact .inr ⟨a, ns, rfl, s, kf _ _ μ (Post.refl hr) rfl⟩
  | any =>
    refine CallR_imp (CallR.or (cr_any gd.calm) (cr_anyT gd.calm)) fun xs H Q ⟨v, e, μ, h, d, hr, q, F⟩ => ?_
    subst e
    obtain ⟨a, vs, l, rfl, t, s, r, e, kf⟩ := bi_args hr q F
    simp only [bi] at e
    cases c : bools l with
    | none => rw [c] at e; cases e
    | some ns =>
      rw [c] at e
      cases e
      have ev := bools_V t c
      subst ev
      rcases s with s | ⟨s, _⟩
      · exact .inl ⟨a, ns, rfl, s, kf _ _ μ (Post.refl hr) rfl⟩
      · exact .inr ⟨a, ns, rfl, s, kf _ _ μ (Post.refl hr) rfl⟩
  | sorted =>
    refine CallR_imp (CallR.or cr_srtI cr_srtQ) fun xs H Q ⟨v, e, μ, h, d, hr, q, F⟩ => ?_
    subst e
    obtain ⟨a, vs, l, rfl, t, s, r, e, kf⟩ := bi_args hr q F
    simp only [bi, sortD] at e
    cases c : MP.intsD l with
    | some ns =>
      rw [c] at e
      cases e
      have ev := ints_V t c
      subst ev
      refine .inl ⟨a, ns, rfl, s.imp id (·.1), fun ns' p h1 h2 hp => ?_⟩
      rw [sorted_ints h1 h2]
      have Pn := Post.new (o := .lst ((sortBy leI ns).map V.int)) hr hp
      exact kf _ _ μ Pn (RR.mk hr hp hp (ints_D _))
    | none =>
      rw [c] at e
      cases c2 : pairs l with
      | none => rw [c2] at e; cases e
      | some ps =>
        rw [c2] at e
        cases e
        refine .inr ⟨a, vs, ps, rfl, s.imp id (·.1), pairs_V t c2, fun ys p hy hp => ?_⟩
        have Pn := Post.new (o := .lst ys) hr hp
        exact kf _ _ μ Pn (RR.mk hr hp hp (pairs_D hy))
theorem callR_srtD {X : Cx} {W : XK} (gd : Good P Φ G k X W) : CallR X (.builtin "sorted") (fun xs H Q => ∃ v, xs = [v] ∧ r1 X.K W srtDM v H Q) := by
  refine CallR_imp (call_sortedDI gd.calm) fun xs H Q ⟨v, e, μ, h, d, hr, q, F⟩ => ?_
  subst e
  unfold srtDM at F
  cases c : dicOf h d with
  | none => rw [c] at F; exact F.elim
  | some l =>
    rw [c] at F
    cases c2 : intKs (l.map (·.1)) with
    | none => simp only [c2] at F; exact F.elim
    | some ks =>
      simp only [c2] at F
      split at F
      · rename_i h64
        obtain ⟨a, kvs, rfl, s, ek, t⟩ := dic_of hr q c
        refine ⟨a, kvs, ks, rfl, s, by rw [ek, intKs_V c2], h64, fun ys p h1 h2 hp => ?_⟩
        rw [sorted_ints h1 h2]
        have Pn := Post.new (o := .lst ((sortBy leI ks).map V.int)) hr hp
        exact F.okP Pn (RR.mk hr hp hp (ints_D _))
      · exact F.elim
theorem se_srtD (a : E) (ha : SE P Φ G k a) : SE P Φ G k (.srtD a) := fun X W x gd hc => by
  simp only [chk] at hc
  split at hc
  · rename_i n p a' pos
    simp only [Bool.and_eq_true, decide_eq_true_eq] at hc
    obtain ⟨rfl, h2, h3⟩ := hc
    obtain ⟨hg, hdb, hn⟩ := gloB_ok h2
    have hs := chk_shape h3
    have hpa := pa_cons (ha X W a' gd h3).1 pa_nil (shape_star hs _ _)
    have e : eval Φ G (.srtD a) = fun g h => bd (eval Φ G a g h) fun r h => srtDM r.frz h := by
      funext g h
      simp only [eval]
    have pe : PE X (.Call (.Name "sorted" p) [a'] [] pos) (rE X.K W (eval Φ G (.srtD a))) := by
      rw [e]
      exact PE_imp (pe_callB (callR_srtD gd) hg (gd.blt _ (by decide)) boot_sorted' hpa hn hdb (shape_star hs _ _) rfl) fun σ H Q q => rd_arg1 q fun μ h H d v hr q1 F => ⟨v, rfl, μ, h, d, hr, q1, F⟩
    exact ⟨pe, pt_plain pe rfl⟩
  · cases hc
theorem se_dct : SE P Φ G k .dct := fun X W x gd hc => by
  simp only [chk] at hc
  split at hc
  · rename_i pos
    have pe : PE X (.Dict [] [] pos) (rE X.K W (eval Φ G .dct)) := by
      refine PE_imp pe_dnewK fun σ H Q ⟨μ, g, h, r, er, F⟩ p hp => ?_
      simp only [eval] at F
      have Pn := Post.new (o := .dK []) r hp
      exact F (.ref p) _ μ Pn (RR.mkD r hp hp rfl (by simp only [List.map_nil, RDs]))
    exact ⟨pe, pt_plain pe rfl⟩
  · cases hc
theorem boot_bi (f : BI) : bootBuiltins (biN f) = some (match f with
    | .tuple => .type "tuple"
    | .list => .type "list"
    | .sum => .builtin "sum"
    | .all => .builtin "all"
    | .any => .builtin "any"
    | .sorted => .builtin "sorted") := by cases f <;> decide +kernel
theorem se_bi_of (f : BI) (a : E) (ha : SE P Φ G k a) : SE P Φ G k (.bi f (.of a)) := fun X W x gd hc => by
  simp only [chk, chkI] at hc
  split at hc
  · rename_i n p a' pos
    simp only [Bool.and_eq_true, decide_eq_true_eq] at hc
    obtain ⟨rfl, _, h2, h3⟩ := hc
    obtain ⟨hg, hdb, hn⟩ := gloB_ok h2
    have hs := chk_shape h3
    have hpa := pa_cons (ha X W a' gd h3).1 pa_nil (shape_star hs _ _)
    have e : eval Φ G (.bi f (.of a)) = fun g h => bd (eval Φ G a g h) fun r h => seqB f r.frz h := by
      funext g h
      simp only [eval, items, bd_assoc, seqB]
    have hm : X.mg (biN f) = none := gd.blt _ (by cases f <;> decide)
    have hc := callR_seq gd f
    have hb := boot_bi f
    have pe : PE X (.Call (.Name (biN f) p) [a'] [] pos) (rE X.K W (eval Φ G (.bi f (.of a)))) := by
      rw [e]
      have fin : ∀ σ H Q, rE X.K W (fun g h => bd (eval Φ G a g h) fun r h => seqB f r.frz h) σ H Q → tCB (fun xs H Q => ∃ v, xs = [v] ∧ r1 X.K W (seqB f) v H Q) (tCons (rE X.K W (eval Φ G a)) tNil) σ H Q :=
        fun σ H Q q => rd_arg1 q fun μ h H d v hr q1 F => ⟨v, rfl, μ, h, d, hr, q1, F⟩
      cases f with
      | tuple => exact PE_imp (pe_callTy hc hg hm hb hpa hn hdb (shape_star hs _ _) rfl) fin
      | list => exact PE_imp (pe_callTy hc hg hm hb hpa hn hdb (shape_star hs _ _) rfl) fin
      | sum => exact PE_imp (pe_callB hc hg hm hb hpa hn hdb (shape_star hs _ _) rfl) fin
      | all => exact PE_imp (pe_callB hc hg hm hb hpa hn hdb (shape_star hs _ _) rfl) fin
      | any => exact PE_imp (pe_callB hc hg hm hb hpa hn hdb (shape_star hs _ _) rfl) fin
      | sorted => exact PE_imp (pe_callB hc hg hm hb hpa hn hdb (shape_star hs _ _) rfl) fin
    exact ⟨pe, pt_plain pe rfl⟩
  · cases hc
end
end MP

/-! MP.Snd11: ranges made lists, methods of lists, new places; all expressions. -/
namespace MP
open PySem PySem.Spec PyProof.Rows L2

theorem atN_same (n : Nat) (i : Int) : L2.ixN n i = atN n i := by
  unfold L2.ixN atN
  by_cases h0 : 0 ≤ i
  · rw [if_pos h0, if_pos h0]
    by_cases h1 : i < n
    · rw [if_pos h1, if_pos (by omega)]
    · rw [if_neg h1, if_neg (by omega)]
  · rw [if_neg h0, if_neg h0]
section
variable {P : PInfo} {Φ : Nat → List D → Heap → Res R} {G : Nat → Option D} {k : Nat}

/-! ### ranges -/
theorem rg_D {K : PySem.W.Frag} {μ : Mu} {n : Nat} {H : Hp} (a b : Int) : RDs K μ n H (rangeD a b) (rgV a b) := by
  have gen : ∀ l : List Nat, RDs K μ n H (l.map fun (k : Nat) => D.int (a + (k : Int))) (l.map fun i => V.int (a + (i : Nat))) := by
    intro l
    induction l with
    | nil => simp only [List.map_nil, RDs]
    | cons i l ih =>
      simp only [List.map_cons, RDs]
      exact ⟨_, _, rfl, rfl, ih⟩
  exact gen _
theorem rangeD_len (a b : Int) : (rangeD a b).length = (b - a).toNat := by
  unfold rangeD
  rw [List.length_map, List.length_range]
def rgB (f : BI) (a b : Int) (h : Heap) : Res R := if small a && small b then ofO (bi f (rangeD a b)) h else none
theorem prg_imp {X : Cx} {e : Expr} {t t' : L2.St → Hp → (Int → Int → Hp → Prop) → Prop} (p : PRg X e t) (i : ∀ σ H Q, t' σ H Q → t σ H Q) : PRg X e t' := fun pins s σ H Q I q => p pins s σ H Q I (i σ H Q q)
theorem rg_fin {K : PySem.W.Frag} {W : XK} {μ : Mu} {h : Heap} {H : Hp} {f : BI} {a b : Int} {Q : VK} (hf : f = .tuple ∨ f = .list) (hr : HR K μ h H) (F : Fin K W (RR K) μ h H (rgB f a b h) Q) :
    RgOk a b ∧ ∀ q, H q = none → Q (.ref q) (upd H q (if f = .tuple then .tup (rgV a b) else .lst (rgV a b))) := by
  unfold rgB at F
  split at F
  · rename_i hs
    simp only [Bool.and_eq_true] at hs
    obtain ⟨b1, b2⟩ := small_ok hs.1
    obtain ⟨b3, b4⟩ := small_ok hs.2
    rcases hf with rfl | rfl
    · simp only [bi] at F
      split at F
      · rename_i hl
        rw [rangeD_len] at hl
        refine ⟨⟨b1, b2, b3, b4, by simpa using hl⟩, fun q hq => ?_⟩
        simp only [if_true]
        have Pn := Post.new (o := .tup (rgV a b)) hr hq
        refine F.okP Pn ?_
        show RD K μ h.length _ (.tup (rangeD a b)) (.ref q)
        simp only [RD]
        exact ⟨q, _, rfl, .inl (.inl upd_same), rg_D a b⟩
      · exact F.elim
    · simp only [bi] at F
      split at F
      · rename_i hl
        rw [rangeD_len] at hl
        refine ⟨⟨b1, b2, b3, b4, by simpa using hl⟩, fun q hq => ?_⟩
        simp only [reduceCtorEq, if_false]
        have Pn := Post.new (o := .lst (rgV a b)) hr hq
        exact F.okP Pn (RR.mk hr hq hq (rg_D a b))
      · exact F.elim
  · exact F.elim
theorem se_bi_rg {X : Cx} {W : XK} {f : BI} (gd : Good P Φ G k X W) (hf : f = .tuple ∨ f = .list) {p pos : Pos} {x : Expr} {t : L2.St → Hp → (Int → Int → Hp → Prop) → Prop} {m : Env → Heap → Res R} (h2 : gloB X.env.scope (biN f) = true) (hs : shape x = true) (hp : PRg X x t)
    (ht : ∀ σ H Q, rE X.K W m σ H Q → t σ H fun a b H1 => RgOk a b ∧ ∀ q, H1 q = none → Q (.ref q) (upd H1 q (if f = .tuple then .tup (rgV a b) else .lst (rgV a b)))) :
    PE X (.Call (.Name (biN f) p) [x] [] pos) (rE X.K W m) := by
  obtain ⟨hg, _, _⟩ := gloB_ok h2
  rcases hf with rfl | rfl
  · refine PE_imp (pe_tupRg gd.calm hg (gd.blt _ (by decide)) hp (shape_star hs _ _)) fun σ H Q q => ?_
    have z := ht σ H Q q
    simp only [if_true] at z
    exact z
  · refine PE_imp (pe_listRg gd.calm hg (gd.blt _ (by decide)) hp (shape_star hs _ _)) fun σ H Q q => ?_
    have z := ht σ H Q q
    simp only [reduceCtorEq, if_false] at z
    exact z
theorem biOk_rg {f : BI} {a : E} (h : biOk f (.range1 a) = true) : f = .tuple ∨ f = .list := by
  cases f <;> first | exact .inl rfl | exact .inr rfl | cases h
theorem biOk_rg2 {f : BI} {a b : E} (h : biOk f (.range2 a b) = true) : f = .tuple ∨ f = .list := by
  cases f <;> first | exact .inl rfl | exact .inr rfl | cases h
theorem se_bi_r1 (f : BI) (a : E) (ha : SE P Φ G k a) : SE P Φ G k (.bi f (.range1 a)) := fun X W x gd hc => by
  simp only [chk, chkI] at hc
  split at hc
  · rename_i n p x' pos
    simp only [Bool.and_eq_true, decide_eq_true_eq] at hc
    obtain ⟨rfl, hb, h2, h3⟩ := hc
    split at h3
    · rename_i n2 p2 a' pos2
      simp only [Bool.and_eq_true, decide_eq_true_eq] at h3
      obtain ⟨rfl, h4, h5⟩ := h3
      obtain ⟨hg, hdb, hn⟩ := gloB_ok h4
      have hs := chk_shape h5
      have pe : PE X (.Call (.Name (biN f) p) [.Call (.Name "range" p2) [a'] [] pos2] [] pos) (rE X.K W (eval Φ G (.bi f (.range1 a)))) := by
        refine se_bi_rg gd (biOk_rg hb) h2 rfl (prg_1 hg (gd.blt _ (by decide)) (ha X W a' gd h5).1 (shape_star hs _ _)) fun σ H Q q => ?_
        have e : eval Φ G (.bi f (.range1 a)) = fun g h => bd (eval Φ G a g h) fun r h => bd (range1It r.frz h) fun it h => ofO (bi f it.1) h := by
          funext g h
          simp only [eval, items, bd_assoc]
        rw [e] at q
        refine rd_bind (ρ := RR X.K) q back_RR fun μ1 g h1 H1 r v H0 hr er q1 F => ?_
        have q2 := q1.frz
        cases e1 : r.frz with
        | int i =>
          rw [e1] at q2 F
          cases q2
          have e2 : (bd (range1It (.int i) h1) fun it h => ofO (bi f it.1) h) = rgB f 0 i h1 := by
            have s0 : small 0 = true := by decide
            unfold rgB
            simp only [range1It, s0, Bool.true_and]
            split <;> rfl
          rw [e2] at F
          exact ⟨i, rfl, rg_fin (biOk_rg hb) hr F⟩
        | _ => rw [e1] at F; exact F.elim
      exact ⟨pe, pt_plain pe rfl⟩
    · cases h3
  · cases hc
theorem se_bi_r2 (f : BI) (a b : E) (ha : SE P Φ G k a) (hb' : SE P Φ G k b) : SE P Φ G k (.bi f (.range2 a b)) := fun X W x gd hc => by
  simp only [chk, chkI] at hc
  split at hc
  · rename_i n p x' pos
    simp only [Bool.and_eq_true, decide_eq_true_eq] at hc
    obtain ⟨rfl, hb, h2, h3⟩ := hc
    split at h3
    · rename_i n2 p2 a' b' pos2
      simp only [Bool.and_eq_true, decide_eq_true_eq] at h3
      obtain ⟨rfl, h4, h5, h6⟩ := h3
      obtain ⟨hg, hdb, hn⟩ := gloB_ok h4
      have hs := chk_shape h5
      have hs2 := chk_shape h6
      have pe : PE X (.Call (.Name (biN f) p) [.Call (.Name "range" p2) [a', b'] [] pos2] [] pos) (rE X.K W (eval Φ G (.bi f (.range2 a b)))) := by
        refine se_bi_rg gd (biOk_rg2 hb) h2 rfl (prg_2 hg (gd.blt _ (by decide)) (ha X W a' gd h5).1 (hb' X W b' gd h6).1 (shape_star hs _ _) (shape_star hs2 _ _) (by rw [shape_star hs2]; rfl)) fun σ H Q q => ?_
        have e : eval Φ G (.bi f (.range2 a b)) = fun g h => bd (eval Φ G a g h) fun r h => bd (eval Φ G b g h) fun q h => bd (range2It r.frz q.frz h) fun it h => ofO (bi f it.1) h := by
          funext g h
          simp only [eval, items, bd_assoc]
        rw [e] at q
        refine rd_bind (ρ := RR X.K) (ρ' := RR X.K) (k := fun g r h => bd (eval Φ G b g h) fun q h => bd (range2It r.frz q.frz h) fun it h => ofO (bi f it.1) h) q back_RR fun μ1 g h1 H1 r v H0 hr er q1 F => ?_
        refine ⟨μ1, g, h1, hr, er, F.bind fun r2 h2 v2 H2 μ2 P2 q2 F2 => ?_⟩
        have q3 := RD.mono P2 hr _ _ q1.frz
        have q4 := q2.frz
        have F3 := F2.from P2 back_RR
        cases e1 : r.frz with
        | int i =>
          cases e3 : r2.frz with
          | int j =>
            rw [e1] at q3 F3
            rw [e3] at q4 F3
            cases q3
            cases q4
            have e2 : (bd (range2It (.int i) (.int j) h2) fun it h => ofO (bi f it.1) h) = rgB f i j h2 := by
              unfold rgB
              simp only [range2It]
              split <;> rfl
            rw [e2] at F3
            exact ⟨i, j, rfl, rfl, rg_fin (biOk_rg2 hb) P2.hr F3⟩
          | _ => rw [e1, e3] at F3; exact F3.elim
        | _ => rw [e1] at F3; cases r2.frz <;> exact F3.elim
      exact ⟨pe, pt_plain pe rfl⟩
    · cases h3
  · cases hc

/-! ### methods of lists -/
theorem noCall0 {N : List Str} {sc : Scope} (n : Str) (p pos : Pos) : ∀ e : E, chk P N sc e (.Call (.Name n p) [] [] pos) = false
  | .alloc e => by
    have := noCall0 (N := N) (sc := sc) n p pos e
    simp only [chk, this, Bool.and_false]
  | .var _ | .c _ | .glob _ | .bin _ _ _ | .neg _ | .not _ | .cmp _ _ _ | .cmp2 _ _ _ _ _ | .and _ _ | .or _ _ | .ite _ _ _ | .tup _ | .lst _ | .ix _ _ | .slice _ _ _ _ _ | .call _ _ | .b1 _ _ | .b2 _ _ _ | .isinst _ _ | .bi _ _ | .lc _ _ _ _ _ | .meth _ _ _ | .dct | .srtD _ | .mkX _ _ _ | .isX _ _ _ _ | .xf _ _ _ | .mk _ _ _ | .sl _ _ _ | .pr _ _ _ | .mc _ _ _ _ | .isO _ _ _ | .eqO _ _ _ _ | .fn _ | .callv _ _ _ | .met _ _ _ => by simp only [chk]
theorem chk_base {N : List Str} {sc : Scope} {e : E} {o : Expr} (h : chk P N sc e o = true) (n : Str) (env : PySem.Env) (w : Sem Value) : attributeBase o n env w = w := by
  unfold attributeBase
  split
  · rename_i id p pos
    rw [noCall0] at h
    cases h
  · rfl
-- writing a place of the store
theorem RD.setm {K : PySem.W.Frag} {μ : Mu} {h : Heap} {H : Hp} (r : HR K μ h H) {p : Nat} (hp : p < h.length) {u : HO} :
    (∀ (d : D) (v : V), RD K μ h.length H d v → RD K μ h.length (upd H (μ p) u) d v) ∧ ∀ (ds : List D) (us : List V), RDs K μ h.length H ds us → RDs K μ h.length (upd H (μ p) u) ds us := by
  have tupk : ∀ a xs, SqT K H a xs → SqT K (upd H (μ p) u) a xs := fun a xs q => by
    rcases q with (q | ⟨o, q⟩) | q
    · exact .inl (.inl (by rw [upd_ne fun z => r.ne_tup q p hp z.symm]; exact q))
    · exact .inl (.inr ⟨o, by rw [upd_ne fun z => r.ne_frz q p hp z.symm]; exact q⟩)
    · exact .inr q
  have fzk : ∀ a w, Fz μ h.length H a w → Fz μ h.length (upd H (μ p) u) a w := fun a w q => by
    obtain ⟨q, ne, ns⟩ := q
    have na : a ≠ μ p := fun z => ne p hp z.symm
    refine ⟨?_, ne, ns⟩
    rcases q with q | ⟨o, q⟩
    · exact .inl (by rw [upd_ne na]; exact q)
    · exact .inr ⟨o, by rw [upd_ne na]; exact q⟩
  exact ⟨fun d v q => RD.gen tupk fzk (fun p hp _ => ⟨hp, rfl⟩) d v (RD.cl d v q) q, fun ds us q => RDs.gen tupk fzk (fun p hp _ => ⟨hp, rfl⟩) ds us (RDs.cl ds us q) q⟩
theorem Post.setO {K : PySem.W.Frag} {μ : Mu} {h : Heap} {H : Hp} (r : HR K μ h H) {p : Nat} (hp : p < h.length) {o : O} {u : HO} (t : RO K μ h.length (upd H (μ p) u) (μ p) o) :
    Post K μ h H μ (h.set p o) (upd H (μ p) u) := by
  have hl : (h.set p o).length = h.length := List.length_set
  refine ⟨by rw [hl]; exact Nat.le_refl _, fun _ z => z, fun _ z => .inl z, fun _ _ => rfl, ⟨r.tb, tabs_kept r.ts fun b o q c => by rw [upd_ne fun z => r.ne_c q c p hp z.symm]; exact q, fun a sa => ?_, fun a sa q hq => r.sp a sa q (by rwa [hl] at hq), fun a b ha hb => r.inj a b (by rwa [hl] at ha) (by rwa [hl] at hb), fun q o' e2 => ?_⟩, fun q h1 h2 => ?_, fun b o e2 ne _ => ?_⟩
  · by_cases ha : a = μ p
    · rw [ha, upd_same]; exact fun z => nomatch z
    · rw [upd_ne ha]; exact r.sn a sa
  · rw [hl]
    by_cases hq : p = q
    · subst hq
      rw [List.getElem?_set] at e2
      simp only [if_true, hp] at e2
      cases e2
      exact t
    · rw [List.getElem?_set_ne hq] at e2
      have hq2 : q < h.length := by
        rcases Nat.lt_or_ge q h.length with z | z
        · exact z
        · rw [List.getElem?_eq_none z] at e2; cases e2
      exact (r.ob q o' e2).map (fun u z => by rw [upd_ne fun w => hq (r.inj q p hq2 hp w).symm]; exact z) (RD.setm r hp).1 (RD.setm r hp).2
  · rw [hl] at h2
    omega
  · rw [upd_ne fun z => ne p hp z.symm]
    exact e2
theorem Post.set {K : PySem.W.Frag} {μ : Mu} {h : Heap} {H : Hp} (r : HR K μ h H) {p : Nat} (hp : p < h.length) {l : List D} {vs : List V} (t : RDs K μ h.length H l vs) :
    Post K μ h H μ (h.set p (.lst l)) (upd H (μ p) (.lst vs)) := Post.setO r hp ⟨vs, upd_same, (RD.setm r hp).2 _ _ t⟩
theorem Post.setD {K : PySem.W.Frag} {μ : Mu} {h : Heap} {H : Hp} (r : HR K μ h H) {p : Nat} (hp : p < h.length) {l : List (Sum Int Str × D)} {kvs : List (Key × V)} (ek : kvs.map (·.1) = l.map (·.1)) (t : RDs K μ h.length H (l.map (·.2)) (kvs.map (·.2))) :
    Post K μ h H μ (h.set p (.dic l)) (upd H (μ p) (.dK kvs)) := Post.setO r hp ⟨kvs, upd_same, ek, (RD.setm r hp).2 _ _ t⟩
theorem RDs.app {K : PySem.W.Frag} {μ : Mu} {n : Nat} {H : Hp} : ∀ {l m : List D} {us vs : List V}, RDs K μ n H l us → RDs K μ n H m vs → RDs K μ n H (l ++ m) (us ++ vs)
  | [], m, us, vs, a, b => by
    simp only [RDs] at a
    subst a
    exact b
  | d :: l, m, us, vs, a, b => by
    simp only [RDs] at a
    obtain ⟨v, r, rfl, q, t⟩ := a
    simp only [List.cons_append, RDs]
    exact ⟨v, _, rfl, q, RDs.app t b⟩
theorem RDs.dropLast {K : PySem.W.Frag} {μ : Mu} {n : Nat} {H : Hp} {l : List D} {us : List V} (q : RDs K μ n H l us) : RDs K μ n H l.dropLast us.dropLast := by
  rw [List.dropLast_eq_take, List.dropLast_eq_take, q.length]
  exact q.take _
theorem RDs.erase {K : PySem.W.Frag} {μ : Mu} {n : Nat} {H : Hp} {l : List D} {us : List V} (j : Nat) (q : RDs K μ n H l us) : RDs K μ n H (l.eraseIdx j) (us.eraseIdx j) := by
  rw [List.eraseIdx_eq_take_drop_succ, List.eraseIdx_eq_take_drop_succ]
  exact (q.take _).app (q.drop _)
-- the method's promise
def rM (K : PySem.W.Frag) (W : XK) (m : M) : V → List V → Hp → VK → Prop := fun x xs H Q => ∃ μ h d ds, HR K μ h H ∧ RD K μ h.length H d x ∧ RDs K μ h.length H ds xs ∧ Fin K W (RR K) μ h H (meth m d ds h) Q
theorem meth_ty {K : PySem.W.Frag} {W : XK} {μ : Mu} {h : Heap} {H : Hp} {m : M} {d : D} {ds : List D} {x : V} {xs : List V} {Q : VK} (hr : HR K μ h H) (q1 : RD K μ h.length H d x) (q2 : RDs K μ h.length H ds xs) (F : Fin K W (RR K) μ h H (meth m d ds h) Q) (hm : m ≠ .index) :
    (m = .append ∧ rAppend x xs H Q) ∨ (m = .pop ∧ (rPop x xs H Q ∨ rPopAt x xs H Q)) := by
  unfold meth at F
  split at F
  · -- append
    rename_i p d
    split at F
    · rename_i l e
      split at F
      · rename_i hl
        obtain ⟨hp, rfl, vs, e1, t⟩ := at_place hr q1 e
        simp only [RDs] at q2
        obtain ⟨y, _, rfl, qy, rfl⟩ := q2
        refine .inl ⟨rfl, _, vs, y, rfl, rfl, e1, by rw [t.length, lim_line]; exact hl, ?_⟩
        exact F.okP (Post.set hr hp (t.app (m := [d]) (vs := [y]) (by simp only [RDs]; exact ⟨y, [], rfl, qy, rfl⟩))) rfl
      · exact F.elim
    · exact F.elim
  · -- pop()
    rename_i p
    split at F
    · rename_i l e
      split at F
      · rename_i d e2
        obtain ⟨hp, rfl, vs, e1, t⟩ := at_place hr q1 e
        simp only [RDs] at q2
        subst q2
        rw [List.getLast?_eq_getElem?] at e2
        obtain ⟨v, e3, q3⟩ := t.get _ d e2
        rw [← t.length] at e3
        have P := Post.set hr hp t.dropLast
        exact .inr ⟨rfl, .inl ⟨_, vs, v, rfl, rfl, e1, e3, F.okP P (RD.mono P hr _ _ q3)⟩⟩
      · exact F.elim
    · exact F.elim
  · -- pop(i)
    rename_i p i
    split at F
    · rename_i l e
      split at F
      · rename_i j e4
        split at F
        · rename_i d e2
          obtain ⟨hp, rfl, vs, e1, t⟩ := at_place hr q1 e
          simp only [RDs] at q2
          obtain ⟨y, _, rfl, qy, rfl⟩ := q2
          cases qy
          obtain ⟨v, e3, q3⟩ := t.get _ d e2
          rw [← atN_same, ← t.length] at e4
          obtain ⟨e5, hj, b1, b2⟩ := ixN_seq e4
          have P := Post.set hr hp (t.erase j)
          split at F
          · rename_i hsm
            obtain ⟨c1, c2⟩ := small_ok hsm
            exact .inr ⟨rfl, .inr ⟨_, vs, i, j, v, rfl, rfl, e1, by omega, by omega, e5, e3, F.okP P (RD.mono P hr _ _ q3)⟩⟩
          · exact F.elim
        · exact F.elim
      · exact F.elim
    · exact F.elim
  · exact absurd rfl hm
  · exact absurd rfl hm
  · exact F.elim
theorem meth_ix {K : PySem.W.Frag} {W : XK} {μ : Mu} {h : Heap} {H : Hp} {d : D} {ds : List D} {Q : VK} (F : Fin K W (RR K) μ h H (meth .index d ds h) Q) : ∃ l x, lstOf h d = some l ∧ ds = [x] ∧ Fin K W (RR K) μ h H (idxM x l h) Q := by
  cases d with
  | lst l =>
    cases ds with
    | nil => exact F.elim
    | cons x r =>
      cases r with
      | nil => exact ⟨l, x, rfl, rfl, F⟩
      | cons _ _ => exact F.elim
  | loc p =>
    cases ds with
    | nil => exact F.elim
    | cons x r =>
      cases r with
      | cons _ _ => exact F.elim
      | nil =>
        cases c : h[p]? with
        | none => simp only [meth, c] at F; exact F.elim
        | some o =>
          cases o with
          | lst l =>
            simp only [meth, c] at F
            exact ⟨l, x, by simp only [lstOf, c], rfl, F⟩
          | dic _ => simp only [meth, c] at F; exact F.elim
          | obj _ _ => simp only [meth, c] at F; exact F.elim
  | _ => exact F.elim
theorem mt_of {X : Cx} {W : XK} (m : M) : MtR X (match m with
    | .append => "list.append"
    | .pop => "list.pop"
    | .index => "list.index") (rM X.K W m) := by
  cases m with
  | append =>
    intro pins s σ H x xs v us Q I rx rv ⟨μ, h, d, ds, hr, q1, q2, F⟩
    rcases meth_ty hr q1 q2 F (by decide) with ⟨_, q⟩ | ⟨z, _⟩
    · exact mt_append pins s σ H x xs v us Q I rx rv q
    · cases z
  | pop =>
    intro pins s σ H x xs v us Q I rx rv ⟨μ, h, d, ds, hr, q1, q2, F⟩
    rcases meth_ty hr q1 q2 F (by decide) with ⟨z, _⟩ | ⟨_, q | q⟩
    · cases z
    · exact mt_pop pins s σ H x xs v us Q I rx rv q
    · exact mt_popAt pins s σ H x xs v us Q I rx rv q
  | index =>
    intro pins s σ H x xs v us Q I rx rv ⟨μ, h, d, ds, hr, q1, q2, F⟩
    obtain ⟨l, dd, e1, rfl, F2⟩ := meth_ix F
    obtain ⟨a, vs, rfl, s1, t⟩ := lst_of hr q1 e1
    simp only [RDs] at q2
    obtain ⟨w, r, rfl, q3, rfl⟩ := q2
    unfold idxM at F2
    split at F2
    · rename_i hf
      simp only [Bool.and_eq_true] at hf
      split at F2
      · rename_i j ej
        obtain ⟨hj, hz, hno⟩ := List.findIdx?_eq_some_iff_getElem.mp ej
        obtain ⟨z, z1, z2⟩ := t.get j l[j] (List.getElem?_eq_getElem hj)
        refine mt_index pins s σ H _ _ v us Q I rx rv ⟨a, vs, w, j, z, rfl, rfl, .inl s1, flat_V q3 hf.1, flat_Vs t hf.2, z1, ?_, fun m z' hm hz' => ?_, Fin.ok F2 hr rfl⟩
        · rw [eqV_D z2 q3 (List.all_eq_true.mp hf.2 _ (List.getElem_mem hj)) hf.1]
          exact hz
        · have hl : m < l.length := by omega
          obtain ⟨y, y1, y2⟩ := t.get m l[m] (List.getElem?_eq_getElem hl)
          rw [hz'] at y1
          cases y1
          rw [eqV_D y2 q3 (List.all_eq_true.mp hf.2 _ (List.getElem_mem hl)) hf.1]
          simpa using hno m hm
      · exact F2.elim
    · exact F2.elim
theorem recv_of {K : PySem.W.Frag} {μ : Mu} {h : Heap} {H : Hp} {m : M} {d : D} {x : V} (hr : HR K μ h H) (q : RD K μ h.length H d x) (e : recv m d h = true) : tyV K "list" x H := by
  unfold recv at e
  split at e
  · split at e
    · rename_i l e1
      obtain ⟨_, rfl, vs, e2, _⟩ := at_place hr q e1
      exact .inl ⟨rfl, vs, .inl (.inl e2)⟩
    · cases e
  · simp only [RD] at q
    obtain ⟨a, vs, rfl, s, t⟩ := q
    exact .inl ⟨rfl, vs, s.sq⟩
  · cases e
theorem chks_few {N : List Str} {sc : Scope} {es : List E} {xs : List Expr} (h : chks P N sc es xs = true) (pos : Pos) (env : PySem.Env) (hl : xs.length < 29) :
    ((backTo pos (starEach xs env)).all (fun x => !x.1) && (backToKw pos (keywordEach [] env)).all (fun x => x.1.isSome)
      && decide (xs.length + ([] : List Keyword).length + (if ([] : List Keyword).isEmpty then 0 else 1) < 30)) = true := by
  have a := shapes_any pos env (chks_shape h)
  have b : (backTo pos (starEach xs env)).all (fun x => !x.1) = true := by
    rw [List.any_eq_false] at a
    rw [List.all_eq_true]
    intro x hx
    have := a x hx
    simpa using this
  rw [b]
  simp only [Bool.true_and]
  have c : (backToKw pos (keywordEach [] env)).all (fun x => x.1.isSome) = true := rfl
  rw [c]
  simp
  omega
theorem slot_me (m : M) : PySem.Slot "list" (meN m) (match m with
    | .append => "list.append"
    | .pop => "list.pop"
    | .index => "list.index") := by
  cases m
  · exact PySem.F.slot_list_append
  · exact PySem.F.slot_list_pop
  · exact PySem.F.slot_list_index
theorem type_me (m : M) : typeOf (.builtin (match m with
    | .append => "list.append"
    | .pop => "list.pop"
    | .index => "list.index")) = pure (.type "method_descriptor") := by
  cases m
  · exact PySem.F.type_list_append
  · exact PySem.F.type_list_pop
  · exact PySem.F.type_list_index
theorem se_meth (m : M) (o : E) (es : List E) (ho : SE P Φ G k o) (hes : SEs P Φ G k es) : SE P Φ G k (.meth m o es) := fun X W x gd hc => by
  simp only [chk] at hc
  split at hc
  · rename_i o' n p es' pos
    simp only [Bool.and_eq_true, decide_eq_true_eq] at hc
    obtain ⟨rfl, hline, hl, h1, h2⟩ := hc
    have hbase := chk_base h1 (meN m) X.env (PySem.eval o' X.env)
    have e : eval Φ G (.meth m o es) = fun g h => bd (eval Φ G o g h) fun x h => if recv m x.frz h then bd (evals Φ G es g h) fun ds h => meth m x.frz ds h else none := by
      funext g h
      simp only [eval]
    have pe : PE X (.Call (.Attribute o' (meN m) p) es' [] pos) (rE X.K W (eval Φ G (.meth m o es))) := by
      rw [e]
      cases es' with
      | nil =>
        have hnil : es = [] := by
          cases es with
          | nil => rfl
          | cons _ _ => simp [chks] at h2
        subst hnil
        refine PE_imp (pe_bm0 PySem.F.plainAttrs_list (slot_me m) (type_me m) (mt_of (W := W) m) (ho X W o' gd h1).1 hbase hline) fun σ H Q q => ?_
        refine rd_bind (ρ := RR X.K) (k := fun g x h => if recv m x.frz h then bd (evals Φ G [] g h) fun ds h => meth m x.frz ds h else none) q back_RR fun μ1 g h1 H1 r v H0 hr er q1 F => ?_
        split at F
        · rename_i hrv
          refine ⟨recv_of hr q1.frz hrv, μ1, h1, _, [], hr, q1.frz, by simp only [RDs], ?_⟩
          simp only [evals, bd_ok] at F
          exact F
        · exact F.elim
      | cons e' es' =>
        have hsh := chks_shape h2
        refine PE_imp (pe_bm PySem.F.plainAttrs_list (slot_me m) (type_me m) (mt_of (W := W) m) (ho X W o' gd h1).1 (hes X W _ gd h2) hbase (chks_few h2 pos X.env hl) hline (shape_star (hsh e' (by simp)) _ _) (shapes_any pos X.env fun x hx => hsh x (by simp [hx]))) fun σ H Q q => ?_
        refine rd_bind (ρ := RR X.K) (k := fun g x h => if recv m x.frz h then bd (evals Φ G es g h) fun ds h => meth m x.frz ds h else none) q back_RR fun μ1 g h1 H1 r v H0 hr er q1 F => ?_
        split at F
        · rename_i hrv
          refine ⟨recv_of hr q1.frz hrv, μ1, g, h1, hr, er, F.bind fun ds h2 vs H2 μ2 P2 q2 F2 => ?_⟩
          exact ⟨μ2, h2, _, ds, P2.hr, RD.mono P2 hr _ _ q1.frz, q2, F2.from P2 back_RR⟩
        · exact F.elim
    exact ⟨pe, pt_plain pe rfl⟩
  · cases hc

/-! ### a new place -/
-- a list that nothing else holds gets a place of its own
theorem rd_alloc {K : PySem.W.Frag} {W : XK} {σ : L2.St} {H : Hp} {Q : VK} {m : Env → Heap → Res R} (q : rE K W (fun g h => bd (m g h) fun r h => allocM r h) σ H Q) : rE K W m σ H Q := by
  obtain ⟨μ, g, h, hr, er, F⟩ := q
  refine ⟨μ, g, h, hr, er, F.bind fun r h1 v H1 μ1 P1 q1 F1 => ?_⟩
  cases r with
  | v d => exact F1.elim
  | newL l =>
    obtain ⟨a, vs, rfl, e1, hr1, e0, t⟩ := q1
    have P2 := P1.del hr1 e0
    have P3 := Post.put hr1 (del_same H1 a) t
    rw [upd_del e1] at P3
    refine F1 _ H1 _ (P2.trans P3) ?_
    show RD K _ _ H1 (.loc h1.length) (.ref a)
    simp only [RD]
    exact ⟨by simp, by rw [Mu.put_same]⟩
  | newD l =>
    obtain ⟨a, vs, rfl, e1, hr1, e0, ek, t⟩ := q1
    have P2 := P1.del hr1 e0
    have P3 := Post.putD hr1 (del_same H1 a) ek t
    rw [upd_del e1] at P3
    refine F1 _ H1 _ (P2.trans P3) ?_
    show RD K _ _ H1 (.loc h1.length) (.ref a)
    simp only [RD]
    exact ⟨by simp, by rw [Mu.put_same]⟩
  | newO x l =>
    obtain ⟨a, dx, vs, rfl, e1, hr1, e0, t0, t⟩ := q1
    have P2 := P1.del hr1 e0
    have P3 := Post.putO hr1 (del_same H1 a) (o := .obj x (l.map some)) (u := SlX.SlO a (He.ga K x) dx (vs.map some)) ⟨dx, _, upd_same, (RD.put (del_same H1 a)).1 _ _ t0, RDs.toS ((RD.put (del_same H1 a)).2 _ _ t)⟩
    rw [upd_del e1] at P3
    refine F1 _ H1 _ (P2.trans P3) ?_
    show RD K _ _ H1 (.loc h1.length) (.ref a)
    simp only [RD]
    exact ⟨by simp, by rw [Mu.put_same]⟩
theorem se_alloc (e : E) (he : SE P Φ G k e) : SE P Φ G k (.alloc e) := fun X W x gd hc => by
  simp only [chk, Bool.and_eq_true] at hc
  have ih := he X W x gd hc.2
  have e1 : eval Φ G (.alloc e) = fun g h => bd (eval Φ G e g h) fun r h => allocM r h := by
    funext g h
    simp only [eval]
  have pe : PE X x (rE X.K W (eval Φ G (.alloc e))) := PE_imp ih.1 fun σ H Q q => rd_alloc (by rw [e1] at q; exact q)
  exact ⟨pe, pt_plain pe hc.1⟩

/-! ### all expressions -/
end
def AllSE (P : PInfo) (Φ : Nat → List D → Heap → Res R) (G : Nat → Option D) (k : Nat) : List E → Prop
  | [] => True
  | e :: es => SE P Φ G k e ∧ AllSE P Φ G k es
section
variable {P : PInfo} {Φ : Nat → List D → Heap → Res R} {G : Nat → Option D} {k : Nat}
theorem AllSE.mem : ∀ {es : List E}, AllSE P Φ G k es → ∀ c ∈ es, SE P Φ G k c
  | [], _, c, h => by cases h
  | e :: es, q, c, h => by
    rcases List.mem_cons.mp h with rfl | h
    · exact q.1
    · exact AllSE.mem q.2 c h
/-! ### exceptions as values -/
theorem se_mkX (y : Str) (f : Option Str) (a : E) (ha : SE P Φ G k a) : SE P Φ G k (.mkX y f a) := fun X W x gd hc => by
  simp only [chk] at hc
  split at hc
  · rename_i n p a' pos
    simp only [Bool.and_eq_true, decide_eq_true_eq, List.contains_iff_mem] at hc
    obtain ⟨rfl, h1, h2, h3⟩ := hc
    obtain ⟨hg, hdb, hn⟩ := gloB_ok h2
    have hs := shape_star (chk_shape h3) [] X.env
    have hk := gd.pos
    have e : eval Φ G (.mkX n f a) = fun g h => bd (eval Φ G a g h) fun r h => mkXM n f r.frz h := by
      funext g h
      simp only [eval]
    have pe : PE X (.Call (.Name n p) [a'] [] pos) (rE X.K W (eval Φ G (.mkX n f a))) := by
      rw [e]
      cases f with
      | some f =>
        obtain ⟨own, ⟨b, T⟩, _, _⟩ := gd.xs.mx n f h1
        refine PE_imp (pe_mkX (k := k - 1) T own.mga own.kp hg (by rw [Nat.sub_add_cancel hk]; exact gd.room.rm) (ha X W a' gd h3).1 hs hdb) fun σ H Q q => ?_
        refine rd_bind (ρ := RR X.K) (ρ' := RR X.K) (k := fun g r h => mkXM n (some f) r.frz h) q back_RR fun μ1 g h1 H1 r v H0 hr er q1 F => ?_
        intro p dx e1 e2 ne
        have P1 := Post.new (o := .xd [(f, v)]) hr e2
        have e1' : upd H1 dx (.xd [(f, v)]) p = none := by rw [upd_ne (Ne.symm ne)]; exact e1
        have P2 := Post.new (o := exo p (He.ga X.K n) (some dx)) P1.hr e1'
        have PP := P1.trans P2
        refine F.okP PP ?_
        show RD X.K μ1 h1.length _ (.exo n [f] [r.frz]) (.ref p)
        simp only [RD, RDs]
        refine ⟨p, some dx, [(f, v)], rfl, ⟨.inl upd_same, hr.ne_none e1, fun z => hr.sn p z e1⟩, fun dx' z => ?_, (fun z => nomatch z), rfl, v, [], rfl, RD.mono PP hr _ _ q1.frz, rfl⟩
        cases z
        exact ⟨.inl (by rw [upd_ne ne]; exact upd_same), hr.ne_none e2, fun z => hr.sn dx z e2⟩
      | none =>
        obtain ⟨own, T⟩ := gd.xs.mm n h1
        refine PE_imp (pe_mkM PySem.F.excBase_ValueError T own.mga own.kp hg (ha X W a' gd h3).1 hs hdb) fun σ H Q q => ?_
        refine rd_bind (ρ := RR X.K) (ρ' := RR X.K) (k := fun g r h => mkXM n none r.frz h) q back_RR fun μ1 g h1 H1 r v H0 hr er q1 F => ?_
        intro p e1
        have P2 := Post.new (o := exo p (He.ga X.K n) none) hr e1
        refine F.okP P2 ?_
        show RD X.K μ1 h1.length _ (.exo n [] []) (.ref p)
        simp only [RD, RDs]
        exact ⟨p, none, [], rfl, ⟨.inl upd_same, hr.ne_none e1, fun z => hr.sn p z e1⟩, (fun dx z => nomatch z), fun _ => trivial, rfl, rfl⟩
    exact ⟨pe, pt_plain pe rfl⟩
  · cases hc
theorem exo_V {K : PySem.W.Frag} {μ : Mu} {n : Nat} {H : Hp} {x : Str} {fs : List Str} {l : List D} {v : V} (q : RD K μ n H (.exo x fs l) v) :
    ∃ (a : Addr) (dd : Option Addr) (vfs : List (Str × V)), v = .ref a ∧ Rd H a (exo a (He.ga K x) dd) ∧ (∀ dx, dd = some dx → Rd H dx (.xd vfs)) ∧ (dd = none → fs = []) ∧ vfs.map (·.1) = fs ∧ RDs K μ n H l (vfs.map (·.2)) := by
  simp only [RD] at q
  obtain ⟨a, dd, vfs, e, s1, s2, z, ek, t⟩ := q
  exact ⟨a, dd, vfs, e, s1.1, fun dx w => (s2 dx w).1, z, ek, t⟩
theorem se_isX (a : E) (t : Str) (yes no : List Str) (ha : SE P Φ G k a) : SE P Φ G k (.isX a t yes no) := fun X W x gd hc => by
  simp only [chk] at hc
  split at hc
  · rename_i n p a' m pm pos
    simp only [Bool.and_eq_true, decide_eq_true_eq, List.all_eq_true, List.contains_iff_mem] at hc
    obtain ⟨⟨rfl, rfl⟩, ⟨hy, hno⟩, hne, h2, h3, h4⟩ := hc
    obtain ⟨hg, hdb, hn⟩ := gloB_ok h2
    obtain ⟨hg2, hdb2, hn2⟩ := gloB_ok h3
    have hs := chk_shape h4
    have e : eval Φ G (.isX a m yes no) = fun g h => bd (eval Φ G a g h) fun r h => isXM yes no r.frz h := by
      funext g h
      simp only [eval]
    have pe : PE X (.Call (.Name "isinstance" p) [a', .Name m pm] [] pos) (rE X.K W (eval Φ G (.isX a m yes no))) := by
      rw [e]
      -- what is read for the class's name
      have key : ∀ (c : V) (cv : Value), PE X (.Name m pm) (tC c) → (∀ u, RelV c u → u = cv) → (∀ y b, (y, m, b) ∈ P.sub → ExcC X.K (He.ga X.K y) ∧ PySem.W.kitOne X.K (.ref (He.ga X.K y)) cv = some b) →
          PE X (.Call (.Name "isinstance" p) [a', .Name m pm] [] pos) (rE X.K W fun g h => bd (eval Φ G a g h) fun r h => isXM yes no r.frz h) := fun c cv hty hcv hb => by
        refine PE_imp (pe_callB call_isX hg (gd.blt _ (by decide)) boot_isi' (pa_cons (ha X W a' gd h4).1 (pa_cons hty pa_nil rfl) (shape_star hs _ _)) hn hdb (shape_star hs _ _) rfl) fun σ H Q q => ?_
        refine rd_bind (ρ := RR X.K) (ρ' := RR X.K) (k := fun g r h => isXM yes no r.frz h) q back_RR fun μ1 g h1 H1 r v H0 hr er q1 F => ?_
        have q2 := q1.frz
        cases c2 : r.frz with
        | exo y fs l =>
          rw [c2] at F q2
          obtain ⟨p', dd, vfs, rfl, s1, s2, _⟩ := exo_V q2
          simp only [isXM] at F
          split at F
          · rename_i hm
            obtain ⟨C, kb⟩ := hb y true (hy y hm)
            exact ⟨p', _, dd, c, cv, true, rfl, s1, fun dx w => ⟨vfs, s2 dx w⟩, C, hcv, kb, Fin.ok F hr rfl⟩
          · split at F
            · rename_i hm
              obtain ⟨C, kb⟩ := hb y false (hno y hm)
              exact ⟨p', _, dd, c, cv, false, rfl, s1, fun dx w => ⟨vfs, s2 dx w⟩, C, hcv, kb, Fin.ok F hr rfl⟩
            · exact F.elim
        | _ => rw [c2] at F; exact F.elim
      -- is it told at all?
      have ht : ∃ y b, (y, m, b) ∈ P.sub := by
        cases yes with
        | cons y r => exact ⟨y, true, hy y List.mem_cons_self⟩
        | nil =>
          cases no with
          | cons y r => exact ⟨y, false, hno y List.mem_cons_self⟩
          | nil => cases hne
      obtain ⟨y0, b0, hm0⟩ := ht
      rcases (gd.xs.is_ y0 m b0 hm0).ans with ⟨ts, e1, e2, e3, _⟩ | ⟨e2, _⟩
      · refine key (.ty ts) (.type ts) (pe_bltn hg2 e2 e3 rfl hn2 hdb2) (fun u h => h) fun y b hm => ⟨(gd.xs.is_ y m b hm).cls, ?_⟩
        rcases (gd.xs.is_ y m b hm).ans with ⟨ts', e1', _, e3', kb⟩ | ⟨e2', _⟩
        · rw [e3] at e3'
          cases e3'
          exact kb
        · rw [e2] at e2'
          cases e2'
      · refine key (.ref (He.ga X.K m)) (.ref (He.ga X.K m)) (pe_glob hg2 e2 rfl hdb2) (fun u h => h) fun y b hm => ⟨(gd.xs.is_ y m b hm).cls, ?_⟩
        rcases (gd.xs.is_ y m b hm).ans with ⟨ts', e1', e2', _⟩ | ⟨_, kb⟩
        · rw [e2] at e2'
          cases e2'
        · exact kb
    exact ⟨pe, pt_plain pe rfl⟩
  · cases hc
theorem zip_look {K : PySem.W.Frag} {μ : Mu} {n : Nat} {H : Hp} {f : Str} {d : D} : ∀ {fs : List Str} {l : List D} {vfs : List (Str × V)}, vfs.map (·.1) = fs → RDs K μ n H l (vfs.map (·.2)) → (fs.zip l).lookup f = some d → ∃ v, vfs.lookup f = some v ∧ RD K μ n H d v
  | fs, l, [], e, t, q => by
    subst e
    simp at q
  | fs, l, (g, v) :: vfs, e, t, q => by
    subst e
    simp only [List.map_cons] at t q
    cases l with
    | nil => simp at q
    | cons d' l =>
      simp only [RDs] at t
      obtain ⟨v', r', ee, q1, q2⟩ := t
      cases ee
      simp only [List.zip_cons_cons, List.lookup_cons] at q ⊢
      cases c : (f == g) with
      | true =>
        rw [c] at q
        cases q
        exact ⟨v, rfl, q1⟩
      | false =>
        rw [c] at q
        exact zip_look rfl q2 q
theorem se_xf (a : E) (f : Str) (cs : List Str) (ha : SE P Φ G k a) : SE P Φ G k (.xf a f cs) := fun X W x gd hc => by
  simp only [chk] at hc
  split at hc
  · rename_i a' n pos
    simp only [Bool.and_eq_true, decide_eq_true_eq, List.all_eq_true, List.contains_iff_mem] at hc
    obtain ⟨rfl, h1, h2⟩ := hc
    have e : eval Φ G (.xf a n cs) = fun g h => bd (eval Φ G a g h) fun r h => xfM n cs r.frz h := by
      funext g h
      simp only [eval]
    have pe : PE X (.Attribute a' n pos) (rE X.K W (eval Φ G (.xf a n cs))) := by
      rw [e]
      refine ⟨fun pins s σ H Q I q => ?_⟩
      refine attr_of (chk_base h2 n X.env _) (thn ((ha X W a' gd h2).1.run pins s σ H (fun v H1 => ∃ (y : Str) (fs : List Str) (l : List D) (μ1 : Mu) (h1 : Heap), HR X.K μ1 h1 H1 ∧ RD X.K μ1 h1.length H1 (.exo y fs l) v ∧ Fin X.K W (RR X.K) μ1 h1 H1 (xfM n cs (.exo y fs l) h1) Q) I ?_) fun u s1 hh => ?_)
      · refine rd_bind (ρ := RR X.K) (ρ' := RR X.K) (k := fun g r h => xfM n cs r.frz h) q back_RR fun μ1 g h1 H1 r v H0 hr er q1 F => ?_
        have q2 := q1.frz
        cases c2 : r.frz with
        | exo y fs l =>
          rw [c2] at F q2
          exact ⟨y, fs, l, μ1, h1, hr, q2, F⟩
        | _ => rw [c2] at F; exact F.elim
      · obtain ⟨v, H1, I1, rv, y, fs, l, μ1, h1', hr, q2, F⟩ := hh
        obtain ⟨p', dd, vfs, rfl, s1', s2, z, ek, t⟩ := exo_V q2
        obtain rfl : u = Value.ref p' := rv
        simp only [xfM] at F
        split at F
        · rename_i hm
          obtain ⟨hm, hl⟩ := hm
          obtain ⟨own, ⟨b, T⟩, T2, hno⟩ := gd.xs.mx y n (h1 y hm)
          cases c3 : (fs.zip l).lookup n with
          | none => rw [c3] at F; exact F.elim
          | some d =>
            rw [c3] at F
            obtain ⟨v, lv, qv⟩ := zip_look ek t c3
            cases dd with
            | none =>
              have := z rfl
              subst this
              simp at c3
            | some dx =>
              obtain ⟨ox, od, J, kk⟩ := exo_inst I1.hok s1' (fun dx' w => ⟨vfs, s2 dx' w⟩)
              obtain ⟨o, mA, rfl, hl', hr'⟩ := kk dx vfs rfl (s2 dx rfl)
              obtain ⟨u, hu, ru⟩ := RelO.some_of (v := v) (o := mA n) (by rw [← lv]; exact hr' n)
              exact PySem.HandSPX.exc_get I1.kIn J T2.ga T2.gg T2.exC (PySem.W.findObj_own T2.hdC hno rfl (by rw [hl', hu])) (handed_of ru) ⟨v, H1, I1.tok _, ru, Fin.ok F hr qv⟩
        · exact F.elim
    exact ⟨pe, pt_plain pe rfl⟩
  · cases hc
/-! ### instances with slots -/
theorem exc_none {P : Program} {w : PySem.World} {o : List PySem.Env} {H : Hp} {s : Shared} {e : Value} {s' : Shared} (c : L2.CX P w o H s (fun _ _ _ => False) e s') : False := by
  obtain ⟨_, _, _, _, _, _, _, _, _, _, _, _, q⟩ := c
  exact q
-- what is known of a thing of a class
theorem obj_V {K : PySem.W.Frag} {μ : Mu} {h : Heap} {H : Hp} (r : HR K μ h H) {d : D} {v : V} {c : Str} (q : RD K μ h.length H d v) (e : clsOf h d = some c) :
    ∃ (a dx : Addr) (vs : List (Option V)), v = .ref a ∧ Sx H a (He.ga K c) dx vs ∧ ∀ (i : Nat) (x : D) (h' : Heap), slM c i d h = some (.ok (.v x) h') → h' = h ∧ ∃ w, vs[i]? = some (some w) ∧ RD K μ h.length H x w := by
  cases d with
  | obj c' l =>
    simp only [clsOf, Option.some.injEq] at e
    subst e
    simp only [RD] at q
    obtain ⟨a, dx, vs, rfl, s1, s2, t⟩ := q
    refine ⟨a, dx, vs.map some, rfl, ⟨s1.1, s2.1⟩, fun i x h' e => ?_⟩
    simp only [slM, if_true, slM_valR'] at e
    cases c2 : l[i]? with
    | none => rw [c2] at e; cases e
    | some y =>
      rw [c2] at e
      cases e
      obtain ⟨w, e1, e2⟩ := t.get i _ c2
      exact ⟨rfl, w, by rw [List.getElem?_map, e1]; rfl, e2⟩
  | loc p =>
    simp only [clsOf] at e
    cases c1 : h[p]? with
    | none => rw [c1] at e; cases e
    | some o =>
      rw [c1] at e
      cases o with
      | lst _ => cases e
      | dic _ => cases e
      | obj c' l =>
        simp only [Option.some.injEq] at e
        subst e
        simp only [RD] at q
        obtain ⟨dx, vs, e1, e2, e3, e4⟩ := r.ob p _ c1
        refine ⟨_, dx, vs, q.2, ⟨.inl e1, (own_fz (v := v) e2).1⟩, fun i x h' e => ?_⟩
        simp only [slM, c1, if_true, slM_valR'] at e
        cases c2 : (l[i]?).join with
        | none => rw [c2] at e; cases e
        | some y =>
          rw [c2] at e
          cases e
          have c3 : l[i]? = some (some x) := by
            cases c4 : l[i]? with
            | none => rw [c4] at c2; cases c2
            | some z => rw [c4] at c2; simp only [Option.join_some] at c2; rw [c2]
          obtain ⟨w, z1, z2⟩ := e4 i x c3
          exact ⟨rfl, w, z1, z2⟩
  | _ => cases e
theorem slM_cls {h : Heap} {d : D} {c : Str} {i : Nat} (e : slM c i d h ≠ none) : clsOf h d = some c := by
  cases d with
  | obj c' l =>
    by_cases hc : c' = c
    · simp [hc]
    · simp [hc] at e
  | loc p =>
    cases c1 : h[p]? with
    | none => simp [c1] at e
    | some o =>
      cases o with
      | obj c' l =>
        by_cases hc : c' = c
        · simp [c1, hc]
        · simp [c1, hc] at e
      | _ => simp [c1] at e
  | _ => simp at e
theorem slM_val {h : Heap} {d : D} {c : Str} {i : Nat} {res : Out R} (e : slM c i d h = some res) : ∃ x, res = .ok (.v x) h := by
  have val : ∀ o : Option D, slM.valR' o h = some res → ∃ x, res = .ok (.v x) h := fun o e => by
    cases o with
    | none => cases e
    | some x => cases e; exact ⟨x, rfl⟩
  cases d with
  | obj c' l =>
    simp only [slM] at e
    split at e
    · exact val _ e
    · cases e
  | loc p =>
    simp only [slM] at e
    split at e
    · split at e
      · exact val _ e
      · cases e
    · cases e
  | _ => cases e
theorem se_sl (c : Str) (i : Nat) (a : E) (ha : SE P Φ G k a) : SE P Φ G k (.sl c i a) := fun X W x gd hc => by
  simp only [chk] at hc
  split at hc
  · rename_i a' n pos
    simp only [Bool.and_eq_true] at hc
    obtain ⟨h1, h2⟩ := hc
    obtain ⟨p, S1⟩ := gd.os.sl c n i h1
    have hC : P.hasC c = true := by
      obtain ⟨q, hq, e⟩ := List.any_eq_true.mp h1
      simp only [Bool.and_eq_true] at e
      exact List.any_eq_true.mpr ⟨q, hq, e.1⟩
    have xc := gd.os.cl c hC
    have e : eval Φ G (.sl c i a) = fun g h => bd (eval Φ G a g h) fun r h => slM c i r.frz h := by
      funext g h
      simp only [eval]
    have pe : PE X (.Attribute a' n pos) (rE X.K W (eval Φ G (.sl c i a))) := by
      rw [e]
      refine PE_imp (pe_sg (ha X W a' gd h2).1 xc.sc S1 (chk_base h2 n X.env _)) fun σ H Q q => ?_
      refine rd_bind (ρ := RR X.K) (ρ' := RR X.K) (k := fun g r h => slM c i r.frz h) q back_RR fun μ1 g h1 H1 r v H0 hr er q1 F => ?_
      cases c2 : slM c i r.frz h1 with
      | none => rw [c2] at F; exact F.elim
      | some res =>
        have hcl := slM_cls (c := c) (i := i) (h := h1) (d := r.frz) (by rw [c2]; exact fun z => nomatch z)
        obtain ⟨aa, dx, vs, rfl, S, hv⟩ := obj_V hr q1.frz hcl
        obtain ⟨x, rfl⟩ := slM_val c2
        obtain ⟨_, w, e1, e2⟩ := hv i x h1 c2
        rw [c2] at F
        exact ⟨aa, dx, vs, w, rfl, S, e1, Fin.ok F hr e2⟩
    exact ⟨pe, pt_plain pe rfl⟩
  · cases hc
theorem noExc_fin {K : PySem.W.Frag} {W : XK} {μ : Mu} {h : Heap} {H : Hp} {m : Res R} {Q : VK} (F : Fin K W (RR K) μ h H (noExc m) Q) : Fin K (fun _ _ _ => False) (RR K) μ h H m Q := by
  cases m with
  | none => exact F
  | some o =>
    cases o with
    | ok r h2 => exact F
    | exc x h2 => exact F.elim
theorem fin_ne {K : PySem.W.Frag} {W : XK} {μ : Mu} {h : Heap} {H : Hp} {m : Res R} {Q : VK} (F : Fin K W (RR K) μ h H m Q) : m ≠ none := fun z => by
  rw [z] at F
  exact F
theorem se_pr (c : Str) (f : Nat) (a : E) (ha : SE P Φ G k a) : SE P Φ G k (.pr c f a) := fun X W x gd hc => by
  simp only [chk] at hc
  split at hc
  · rename_i a' n pos
    simp only [Bool.and_eq_true] at hc
    obtain ⟨h1, h2⟩ := hc
    obtain ⟨ad, np, hm, F, hlen⟩ := gd.mths f c n true h1
    simp only [if_true] at hm
    have xc := gd.os.cl c (gd.os.mc c n true f h1)
    have e : eval Φ G (.pr c f a) = fun g h => bd (eval Φ G a g h) fun r h => if clsOf h r.frz = some c then noExc (Φ f [r.frz] h) else none := by
      funext g h
      simp only [eval]
    have pe : PE X (.Attribute a' n pos) (rE X.K W (eval Φ G (.pr c f a))) := by
      rw [e]
      refine PE_imp (pe_pg (E := fun _ _ _ => False) (ha X W a' gd h2).1 xc.sc hm F gd.room2 (fun H s e s' c => exc_none c) (chk_base h2 n X.env _)) fun σ H Q q => ?_
      refine rd_bind (ρ := RR X.K) (ρ' := RR X.K) (k := fun g r h => if clsOf h r.frz = some c then noExc (Φ f [r.frz] h) else none) q back_RR fun μ1 g h1 H1 r v H0 hr er q1 F1 => ?_
      split at F1
      · rename_i hcl
        obtain ⟨aa, dx, vs, rfl, S, _⟩ := obj_V hr q1.frz hcl
        have F2 := noExc_fin F1
        refine ⟨aa, dx, vs, rfl, S, ?_⟩
        show spI X.K np (Φ f) ([.ref aa]) H1 Q _
        exact ⟨hlen [r.frz] h1 (fin_ne F2), μ1, h1, [r.frz], hr, by simp only [RDs]; exact ⟨_, _, rfl, q1.frz, rfl⟩, F2⟩
      · exact F1.elim
    exact ⟨pe, pt_plain pe rfl⟩
  · cases hc
theorem few_form {N : List Str} {sc : Scope} {es : List E} {xs : List Expr} (h : chks P N sc es xs = true) (pos : Pos) (env : PySem.Env) (hl : xs.length < 29) : methodCallForm (xs.length + ([] : List Keyword).length) (backTo pos (starEach xs env)) (backToKw pos (keywordEach [] env)) = true := chks_few h pos env hl
theorem se_mc (c : Str) (f : Nat) (a : E) (es : List E) (ha : SE P Φ G k a) (hes : SEs P Φ G k es) : SE P Φ G k (.mc c f a es) := fun X W x gd hc => by
  simp only [chk] at hc
  split at hc
  · rename_i o' n p es' q
    simp only [Bool.and_eq_true, decide_eq_true_eq] at hc
    obtain ⟨h1, hline, hl, h2, h3⟩ := hc
    obtain ⟨ad, np, hm, F, hlen⟩ := gd.mths f c n false h1
    simp only [if_neg Bool.false_ne_true] at hm
    have xc := gd.os.cl c (gd.os.mc c n false f h1)
    have hx := passes_call gd.tk fun cls d σ H h => h
    have hbase := chk_base h2 n X.env (PySem.eval o' X.env)
    have e : eval Φ G (.mc c f a es) = fun g h => bd (eval Φ G a g h) fun r h => if clsOf h r.frz = some c then bd (evals Φ G es g h) fun ds h => Φ f (r.frz :: ds) h else none := by
      funext g h
      simp only [eval]
    have pe : PE X (.Call (.Attribute o' n p) es' [] q) (rE X.K W (eval Φ G (.mc c f a es))) := by
      rw [e]
      cases es' with
      | nil =>
        have hnil : es = [] := by
          cases es with
          | nil => rfl
          | cons _ _ => simp [chks] at h3
        subst hnil
        refine PE_imp (pe_ms0 (E := W) (ha X W o' gd h2).1 xc.sc hm F gd.room hx hbase hline) fun σ H Q q => ?_
        refine rd_bind (ρ := RR X.K) (ρ' := RR X.K) (k := fun g r h => if clsOf h r.frz = some c then bd (evals Φ G [] g h) fun ds h => Φ f (r.frz :: ds) h else none) q back_RR fun μ1 g h1 H1 r v H0 hr er q1 F1 => ?_
        split at F1
        · rename_i hcl
          simp only [evals, bd_ok] at F1
          obtain ⟨aa, dx, vs, rfl, S, _⟩ := obj_V hr q1.frz hcl
          refine ⟨aa, dx, vs, rfl, S, ?_⟩
          show spI X.K np (Φ f) ([.ref aa]) H1 Q W
          exact ⟨hlen [r.frz] h1 (fin_ne F1), μ1, h1, [r.frz], hr, by simp only [RDs]; exact ⟨_, _, rfl, q1.frz, rfl⟩, F1⟩
        · exact F1.elim
      | cons e' es' =>
        have hsh := chks_shape h3
        refine PE_imp (pe_ms (E := W) (ha X W o' gd h2).1 xc.sc hm F gd.room hx (hes X W _ gd h3) (shape_star (hsh e' (by simp)) _ _) (shapes_any q X.env fun x hx => hsh x (by simp [hx])) hbase hline (few_form h3 q X.env hl)) fun σ H Q q => ?_
        refine rd_bind (ρ := RR X.K) (ρ' := RR X.K) (k := fun g r h => if clsOf h r.frz = some c then bd (evals Φ G es g h) fun ds h => Φ f (r.frz :: ds) h else none) q back_RR fun μ1 g h1 H1 r v H0 hr er q1 F1 => ?_
        split at F1
        · rename_i hcl
          obtain ⟨aa, dx, vs, rfl, S, _⟩ := obj_V hr q1.frz hcl
          refine ⟨aa, dx, vs, rfl, S, μ1, g, h1, hr, er, F1.bind fun ds h2 ws H2 μ2 P2 q2 F2 => ?_⟩
          show spI X.K np (Φ f) ((.ref aa :: ws)) H2 Q W
          have q3 := RD.mono P2 hr _ _ q1.frz
          have F3 := F2.from P2 back_RR
          have hlen2 := hlen (r.frz :: ds) h2 (fin_ne F3)
          refine ⟨?_, μ2, h2, r.frz :: ds, P2.hr, by simp only [RDs]; exact ⟨_, _, rfl, q3, q2⟩, F3⟩
          rw [← hlen2]
          simp only [List.length_cons]
          rw [show ws.length = ds.length from RDs.length q2]
        · exact F1.elim
    exact ⟨pe, pt_plain pe rfl⟩
  · cases hc
theorem se_mk (c : Str) (f : Nat) (es : List E) (hes : SEs P Φ G k es) : SE P Φ G k (.mk c f es) := fun X W x gd hc => by
  simp only [chk] at hc
  split at hc
  · rename_i n p e' es' pos
    simp only [Bool.and_eq_true, decide_eq_true_eq] at hc
    obtain ⟨rfl, h1, h2, h3⟩ := hc
    obtain ⟨hg, hdb, hn⟩ := gloB_ok h2
    obtain ⟨ad, np, hm, F, hlen⟩ := gd.mths f n "__init__" false h1
    simp only [if_neg Bool.false_ne_true] at hm
    have xc := gd.os.cl n (gd.os.mc n _ false f h1)
    have hsh := chks_shape h3
    have M : Mk X.K (He.ga X.K n) ad := ⟨xc.mkI, hm.at_, hm.fn, xc.own.kp⟩
    have e : eval Φ G (.mk n f es) = fun g h => bd (evals Φ G es g h) fun ds h => bd (Φ f (.loc h.length :: ds) (h ++ [.obj n []])) fun r h2 => mkM h r h2 := by
      funext g h
      simp only [eval]
    have pe : PE X (.Call (.Name n p) (e' :: es') [] pos) (rE X.K W (eval Φ G (.mk n f es))) := by
      rw [e]
      refine PE_imp (pe_mk (E := W) M F gd.room2 hg xc.own.mga (passes_call gd.tk fun cls d σ H h => h) (hes X W _ gd h3) hdb (shape_star (hsh e' (by simp)) _ _) (shapes_any pos X.env fun x hx => hsh x (by simp [hx]))) fun σ H Q q => ?_
      refine rd_bind (ρ := RA X.K) (ρ' := RR X.K) (k := fun g ds h => bd (Φ f (.loc h.length :: ds) (h ++ [.obj n []])) fun r h2 => mkM h r h2) q back_RR fun μ1 g h1 H1 ds vs H0 hr er q1 F1 => ?_
      intro aa dx e1 e2 ne
      show spI X.K np (Φ f) ((.ref aa :: vs)) _ _ W
      have P1 := Post.new (o := .xd []) hr e2
      have e1' : upd H1 dx (.xd []) aa = none := by rw [upd_ne (Ne.symm ne)]; exact e1
      have ow : RD X.K μ1 h1.length (upd H1 dx (.xd [])) .own (.ref dx) := by
        simp only [RD]
        exact ⟨dx, rfl, .inl upd_same, hr.ne_none e2, fun z => hr.sn dx z e2⟩
      have P2 := Post.putO P1.hr e1' (o := .obj n []) (u := SlX.SlO aa (He.ga X.K n) dx []) ⟨dx, [], upd_same, (RD.put e1').1 _ _ ow, rfl, fun i d z => by simp at z⟩
      have PP := P1.trans P2
      have ne0 : Φ f (.loc h1.length :: ds) (h1 ++ [.obj n []]) ≠ none := fun z => by
        rw [z] at F1
        exact F1
      have hlen2 := hlen _ _ ne0
      refine ⟨?_, μ1.put h1.length aa, h1 ++ [.obj n []], .loc h1.length :: ds, PP.hr, ?_, ?_⟩
      · rw [← hlen2]
        simp only [List.length_cons]
        rw [show vs.length = ds.length from RDs.length q1]
      · simp only [RDs]
        refine ⟨_, _, rfl, ?_, RDs.mono PP hr _ _ q1⟩
        simp only [RD]
        exact ⟨by simp, by rw [Mu.put_same]⟩
      · cases c1 : Φ f (.loc h1.length :: ds) (h1 ++ [.obj n []]) with
        | none => exact absurd c1 ne0
        | some o =>
          rw [c1] at F1
          cases o with
          | exc y h2 => exact fun cv dv H2 μ2 P3 q3 => F1 cv dv H2 μ2 (PP.trans P3) q3
          | ok r h2 =>
            intro v H2 μ2 P3 q3
            have F2 : Fin X.K W (RR X.K) μ1 h1 H1 (mkM h1 r h2) Q := F1
            unfold mkM at F2
            split at F2
            · cases q3
              refine ⟨rfl, gc_ok hr (PP.trans P3) (r := .v (.loc h1.length)) ?_ F2⟩
              show RD X.K μ2 h2.length H2 (.loc h1.length) (.ref aa)
              simp only [RD]
              have l1 := P3.len
              simp only [List.length_append, List.length_cons, List.length_nil] at l1
              refine ⟨by omega, ?_⟩
              rw [P3.ext _ (by simp), Mu.put_same]
            · exact F2.elim
    exact ⟨pe, pt_plain pe rfl⟩
  · cases hc
theorem se_isO (a : E) (c : Str) (cs : List Str) (ha : SE P Φ G k a) : SE P Φ G k (.isO a c cs) := fun X W x gd hc => by
  simp only [chk] at hc
  split at hc
  · rename_i n p a' m pm pos
    simp only [Bool.and_eq_true, decide_eq_true_eq, List.all_eq_true] at hc
    obtain ⟨⟨rfl, rfl⟩, ⟨hC, hcs⟩, h2, h3, h4⟩ := hc
    obtain ⟨hg, hdb, hn⟩ := gloB_ok h2
    obtain ⟨hg2, hdb2, hn2⟩ := gloB_ok h3
    have hs := chk_shape h4
    have xc := gd.os.cl m hC
    have e : eval Φ G (.isO a m cs) = fun g h => bd (eval Φ G a g h) fun r h => isOM m cs r.frz h := by
      funext g h
      simp only [eval]
    have pe : PE X (.Call (.Name "isinstance" p) [a', .Name m pm] [] pos) (rE X.K W (eval Φ G (.isO a m cs))) := by
      rw [e]
      refine PE_imp (pe_callB call_isS hg (gd.blt _ (by decide)) boot_isi' (pa_cons (ha X W a' gd h4).1 (pa_cons (pe_glob (v := .ref (He.ga X.K m)) hg2 xc.own.mga rfl hdb2) pa_nil rfl) (shape_star hs _ _)) hn hdb (shape_star hs _ _) rfl) fun σ H Q q => ?_
      refine rd_bind (ρ := RR X.K) (ρ' := RR X.K) (k := fun g r h => isOM m cs r.frz h) q back_RR fun μ1 g h1 H1 r v H0 hr er q1 F => ?_
      unfold isOM at F
      cases c2 : clsOf h1 r.frz with
      | none => rw [c2] at F; exact F.elim
      | some c' =>
        rw [c2] at F
        simp only at F
        split at F
        · rename_i hm
          obtain ⟨aa, dx, vs, rfl, S, _⟩ := obj_V hr q1.frz c2
          have xc' := gd.os.cl c' (hcs c' hm)
          exact ⟨aa, _, dx, vs, .ref (He.ga X.K m), .ref (He.ga X.K m), decide (c' = m), rfl, S, xc'.sc, xc'.si, (fun u h => h), gd.os.is_ m c' hC (hcs c' hm), Fin.ok F hr rfl⟩
        · exact F.elim
    exact ⟨pe, pt_plain pe rfl⟩
  · cases hc
theorem eqM_fin {K : PySem.W.Frag} {W : XK} {μ : Mu} {h : Heap} {H : Hp} {m : Res R} {Q : VK} (F : Fin K W (RR K) μ h H (eqM m) Q) : Fin K (fun _ _ _ => False) (RR K) μ h H m Q := by
  unfold eqM at F
  split at F
  · exact F
  · exact F.elim
theorem eqM_bl {m : Res R} {r : R} {h : Heap} (e : eqM m = some (.ok r h)) : ∃ b, r = .v (.bl b) := by
  unfold eqM at e
  split at e
  · cases e
    exact ⟨_, rfl⟩
  · cases e
theorem se_eqO (c : Str) (f : Nat) (a b : E) (ha : SE P Φ G k a) (hb : SE P Φ G k b) : SE P Φ G k (.eqO c f a b) := fun X W x gd hc => by
  simp only [chk] at hc
  split at hc
  · rename_i a' o b' pos
    simp only [Bool.and_eq_true] at hc
    obtain ⟨h0, h1, h2, h3⟩ := hc
    obtain rfl : o = .Eq := by cases o <;> first | rfl | cases h0
    obtain ⟨ad, np, hm, F, hlen⟩ := gd.mths f c "__eq__" false h1
    simp only [if_neg Bool.false_ne_true] at hm
    have e : eval Φ G (.eqO c f a b) = fun g h => bd (eval Φ G a g h) fun x h => bd (eval Φ G b g h) fun y h => if clsOf h x.frz = some c ∧ clsOf h y.frz = some c then eqM (Φ f [x.frz, y.frz] h) else none := by
      funext g h
      simp only [eval]
    have nf : PySem.W.notFirst X.K (He.ga X.K c) (.ref (He.ga X.K c)) = true := by
      unfold PySem.W.notFirst
      simp
    have hop : ∀ a b : Value, compareOp .Eq a b = richCompare .Eq a b := fun a b => by first | rfl | (unfold compareOp; rfl)
    have op : OpR X (compareOp .Eq) (r2 X.K W fun x y h => if clsOf h x = some c ∧ clsOf h y = some c then eqM (Φ f [x, y] h) else none) := by
      refine OpR_imp (op_eqS (op := .Eq) (E := fun _ _ _ => False) hop hm.at_ hm.fn F gd.room (fun pins σ H s e s' I q => (exc_none q).elim)) fun x y H Q q => ?_
      obtain ⟨μ, h, d1, d2, r, q1, q2, F1⟩ := q
      dsimp only at F1
      split at F1
      · rename_i hcl
        obtain ⟨a1, dx1, vs1, rfl, S1, _⟩ := obj_V r q1 hcl.1
        obtain ⟨a2, dx2, vs2, rfl, S2, _⟩ := obj_V r q2 hcl.2
        have F2 := eqM_fin F1
        refine ⟨a1, dx1, vs1, a2, _, dx2, vs2, rfl, rfl, S1, S2, nf, ?_⟩
        show spI X.K np (Φ f) ([.ref a1, .ref a2]) H Q _
        exact ⟨hlen [d1, d2] h (fin_ne F2), μ, h, [d1, d2], r, by simp only [RDs]; exact ⟨_, _, rfl, q1, _, _, rfl, q2, rfl⟩, F2⟩
      · exact F1.elim
    have hmk := shape_marks (chk_shape h3) CmpOp.Eq
    refine ⟨PE_imp (pe_cmpR op (ha X W a' gd h2).1 (hb X W b' gd h3).1 hmk) fun σ H Q q => rd_two (f := fun x y h => if clsOf h x = some c ∧ clsOf h y = some c then eqM (Φ f [x, y] h) else none) ?_,
      PT_imp (pt_cmpR op (ha X W a' gd h2).1 (hb X W b' gd h3).1 hmk) fun σ H Q q => rd_two (f := fun x y h => if clsOf h x = some c ∧ clsOf h y = some c then eqM (Φ f [x, y] h) else none) (rd_tst ?_ fun g h r h' er => ?_)⟩
    · rw [e] at q; exact q
    · rw [e] at q; exact q
    · cases c1 : eval Φ G a g h with
      | none => rw [c1] at er; cases er
      | some o1 =>
        rw [c1] at er
        cases o1 with
        | exc _ _ => cases er
        | ok r1 h1 =>
          simp only [bd_ok] at er
          cases c2 : eval Φ G b g h1 with
          | none => rw [c2] at er; cases er
          | some o2 =>
            rw [c2] at er
            cases o2 with
            | exc _ _ => cases er
            | ok r2 h2 =>
              simp only [bd_ok] at er
              split at er
              · exact eqM_bl er
              · cases er
  · cases hc
/-! ### defs as values, defs that call what they get -/
theorem se_fn (y : Str) : SE P Φ G k (.fn y) := fun X W x gd hc => by
  cases x with
  | Name n pos =>
    simp only [chk, Bool.and_eq_true, decide_eq_true_eq] at hc
    obtain ⟨rfl, h1, h2⟩ := hc
    obtain ⟨hg, hdb, hn⟩ := gloB_ok h2
    have hm : X.mg n = some (.ref (He.ga X.K n)) := by
      obtain ⟨i, hi, e⟩ := List.mem_iff_getElem.mp (List.contains_iff_mem.mp h1)
      obtain ⟨np, e2, _⟩ := gd.fns i n (by rw [List.getElem?_eq_getElem hi, e])
      exact e2
    have pe : PE X (.Name n pos) (rE X.K W (eval Φ G (.fn n))) := by
      refine ⟨fun pins s σ H Q I q => ?_⟩
      obtain ⟨μ, g, h, r, er, F⟩ := q
      simp only [eval] at F
      exact ld_glob I hg hm ⟨.ref (He.ga X.K n), H, I, rfl, Fin.ok F r (by show RD X.K μ h.length H (.fn n) _; simp only [RD])⟩ hdb
    exact ⟨pe, pt_plain pe rfl⟩
  | _ => simp [chk] at hc
theorem se_callv (fs : List (Str × Nat)) (i : Nat) (es : List E) (hes : SEs P Φ G k es) : SE P Φ G k (.callv fs i es) := fun X W x gd hc => by
  simp only [chk] at hc
  split at hc
  · rename_i n p e' es' pos
    simp only [Bool.and_eq_true, decide_eq_true_eq, Bool.not_eq_true', List.all_eq_true] at hc
    obtain ⟨h1, ⟨h2, h3, h4, h5⟩, h6⟩ := hc
    have hsh := chks_shape h6
    have pe : PE X (.Call (.Name n p) (e' :: es') [] pos) (rE X.K W (eval Φ G (.callv fs i es))) := by
      refine ⟨fun pins s σ H Q I q => ?_⟩
      obtain ⟨μ, g, h, r, er, F⟩ := q
      simp only [eval] at F
      cases e1 : g[i]? with
      | none => rw [e1] at F; exact F.elim
      | some o =>
        rw [e1] at F
        cases o with
        | none => exact F.elim
        | some d =>
          obtain ⟨v, e2, rd⟩ := er.2 i d e1
          dsimp only at F
          cases d with
          | fn y =>
            simp only [RD] at rd
            subst rd
            simp only [fnM] at F
            cases e3 : fs.lookup y with
            | none => rw [e3] at F; exact F.elim
            | some f =>
              rw [e3] at F
              dsimp only at F
              have e4 := h1 (y, f) (PySem.mem_of_lookup e3)
              obtain ⟨np, hm, hk, Fn, hlen⟩ := gd.fns f y e4
              refine wpAny_Call_Name_kw (thn ((pe_var (pos := p) h2 (visB_ok h3) h4 h5).run pins s σ H (fun v H1 => v = .ref (He.ga X.K y) ∧ H1 = H) I ⟨_, e2, rfl, rfl⟩) fun u s1 z => ?_)
              obtain ⟨v, H1, I1, rv, rfl, rfl⟩ := z
              have rv : u = Value.ref (He.ga X.K y) := rv
              subst rv
              refine PySem.W.callWith_K (h₀ := X.base) I1.ok.mod.kin hk (thn ((hes X W _ gd h6).run pos pins s1 σ H1 (fun vs H2 => spI X.K np (Φ f) vs H2 Q W) I1 ?_) fun us s2 z => ?_) (shape_star (hsh e' (by simp)) _ _) (shapes_any pos X.env fun x hx => hsh x (by simp [hx]))
              · refine ⟨μ, g, h, r, er, F.bind fun ds h2 vs H2 μ2 P2 q2 F2 => ?_⟩
                have F3 := F2.from P2 back_RR
                refine ⟨?_, μ2, h2, ds, P2.hr, q2, F3⟩
                rw [show vs.length = ds.length from RDs.length q2]
                exact hlen ds h2 (fin_ne F3)
              · obtain ⟨vs, H2, I2, rvs, q⟩ := z
                exact ⟨I2.kIn, wpAny_call (run_fnG Fn gd.room (passes_call gd.tk fun cls d σ H h => h) I2 rvs q)⟩
          | _ => exact F.elim
    exact ⟨pe, pt_plain pe rfl⟩
  · cases hc
-- only tables change
theorem Post.tabs {K : PySem.W.Frag} {μ : Mu} {h : Heap} {H H1 : Hp} (r : HR K μ h H) {Pt : Addr} {y : Str} (mem : (Pt, y) ∈ MP.tabs K) (st : ∀ b o, H b = some o → b ≠ Pt → H1 b = some o) (T : LamX.Tabs (MP.tabs K) H1) : Post K μ h H μ h H1 := by
  obtain ⟨l, e, _⟩ := r.ts _ mem
  have e : H Pt = some (.tbl l) := e
  have ne : ∀ {b : Addr} {o : HO}, H b = some o → noT o → b ≠ Pt := fun {b o} q n z => by
    rw [z, e] at q
    exact n l (Option.some.inj q).symm
  have tupk : ∀ a xs, SqT K H a xs → SqT K H1 a xs := fun a xs q => by
    rcases q with (q | ⟨o, q⟩) | q
    · exact .inl (.inl (st _ _ q (ne q fun _ z => by cases z)))
    · exact .inl (.inr ⟨o, st _ _ q (ne q fun _ z => by cases z)⟩)
    · exact .inr q
  have fzk : ∀ a u, Fz μ h.length H a u → Fz μ h.length H1 a u := fun a u q => by
    obtain ⟨q, np, ns⟩ := q
    have na : a ≠ Pt := fun z => ns (z ▸ r.tb _ mem)
    refine ⟨?_, np, ns⟩
    rcases q with q | ⟨o, q⟩
    · exact .inl (st _ _ q na)
    · exact .inr ⟨o, st _ _ q na⟩
  refine ⟨Nat.le_refl _, fun _ z => z, fun _ z => .inl z, fun _ _ => rfl, ⟨r.tb, T, fun a sa => ?_, r.sp, r.inj, fun p o q => ?_⟩, fun p h1 h2 => absurd h2 (by omega), fun b o q _ nt => st b o q fun z => nt y (z ▸ mem)⟩
  · by_cases ha : a = Pt
    · obtain ⟨l2, e2, _⟩ := T _ mem
      have e2 : H1 Pt = some (.tbl l2) := e2
      rw [ha, e2]
      exact fun z => nomatch z
    · cases q : H a with
      | none => exact absurd q (r.sn a sa)
      | some o =>
        rw [st _ _ q ha]
        exact fun z => nomatch z
  · have hp : p < h.length := by
      rcases Nat.lt_or_ge p h.length with z | z
      · exact z
      · rw [List.getElem?_eq_none z] at q; cases q
    exact (r.ob p o q).map (fun u z => st _ _ z (r.ne_tbl e p hp)) (fun d v w => RD.gen tupk fzk (fun p hp _ => ⟨hp, rfl⟩) d v (RD.cl d v w) w) (fun d v w => RDs.gen tupk fzk (fun p hp _ => ⟨hp, rfl⟩) d v (RDs.cl d v w) w)
theorem cst_rd {K : PySem.W.Frag} {μ : Mu} {n : Nat} {H : Hp} (c : Cst) : RD K μ n H c.d (cstV c) := by
  cases c <;> simp only [Cst.d, cstV, RD]
theorem lookup_mem {α : Type} {l : List (Str × α)} {x : Str} {a : α} (e : l.lookup x = some a) : (x, a) ∈ l := PySem.mem_of_lookup e
theorem wish_of {K : PySem.W.Frag} {mg : Str → Option Value} {W : XK} {m : Met} {y : Str} (M : MetOk K mg y m) {μ μ1 : Mu} {h h1 : Heap} {H H1 : Hp} {Q : VK} {x : Ex} {c : Value} {d : Option Addr} (Po : Post K μ h H μ1 h1 H1) (rx : RX K μ1 h1.length H1 x c d) :
    ∀ l : List (Str × Hr), Fin K W (RR K) μ h H (hdsM m x h1 l) Q → hWish K Q (l.map fun q : Str × Hr => (He.ga K q.1, q.2)) c d H1
  | [], F => F.elim
  | (n, r) :: l, F => by
    obtain ⟨C, e1, rfl, e2⟩ := rx
    have eC : C = He.ga K x.cls := by
      unfold He.ga
      rw [e1]
    simp only [hdsM] at F
    split at F
    · rename_i hm
      refine ⟨true, by rw [eC]; exact M.ex _ hm, fun _ => ?_, fun z => nomatch z⟩
      cases r with
      | c w => exact F _ _ μ1 Po (cst_rd w)
      | rp t f =>
        simp only [hrM] at F
        split at F
        · rename_i hx
          cases c1 : x.fs.lookup f with
          | none => rw [c1] at F; exact F.elim
          | some dv =>
            rw [c1] at F
            dsimp only at F
            cases c2 : reprD dv with
            | none => rw [c2] at F; exact F.elim
            | some z =>
              rw [c2] at F
              dsimp only at F
              split at F
              · rename_i hl
                rcases e2 with e2 | ⟨dx, vfs, rfl, e3, e4⟩
                · rw [e2] at c1
                  cases c1
                · obtain ⟨v, l1, rd⟩ := e4 f dv (lookup_mem c1)
                  obtain ⟨p, y1, y2, y3, y4, rfl⟩ := reprD_rep c2 rd
                  obtain ⟨x1, x2⟩ := M.xs _ hx
                  rw [eC]
                  exact ⟨_, dx, vfs, v, p, rfl, x1, x2, rfl, e3, l1, y1, y2, y3, by rw [lim_line]; exact hl, F _ _ μ1 Po (by show RD K μ1 h1.length H1 (.str _) _; simp only [RD])⟩
              · exact F.elim
        · exact F.elim
    · split at F
      · rename_i hm
        refine ⟨false, by rw [eC]; exact M.ex _ hm, fun z => (nomatch z), fun _ => wish_of M Po ⟨C, e1, rfl, e2⟩ l F⟩
      · exact F.elim
theorem noPar_ok {ps : Arguments} (h : noPar ps = true) : ps = ⟨[], [], none, [], [], none, []⟩ := by
  unfold noPar at h
  split at h
  · rfl
  · cases h
theorem se_met (y : Str) (m : Met) (e : E) (he : SE P.nolam Φ G k e) : SE P Φ G k (.met y m e) := fun X W x gd hc => by
  simp only [chk] at hc
  split at hc
  · rename_i n p ps b lsc lpos pos
    simp only [Bool.and_eq_true, decide_eq_true_eq] at hc
    obtain ⟨⟨h1, rfl, h2⟩, h3, h4, h5, h6⟩ := hc
    obtain ⟨hg, hdb, hn⟩ := gloB_ok h3
    obtain ⟨c, Pt, hcode, TB, hmT, hu, r4⟩ := gd.lam h1
    have M := gd.mets n m h2
    obtain ⟨oc, od, pg, bg, sg, dV, kV, doc, pm, an, cdv, ct, osl, N, a, lk, hcg, hb, Sg, hN, hva, hmt, hd, hcd⟩ := M.fn
    have eps := noPar_ok h5
    have L := LamX.lamS_by h4
    have pe : PE X (.Call (.Name n p) [.Lambda ps b lsc lpos] [] pos) (rE X.K W (eval Φ G (.met n m e))) := by
      refine PE_imp (pe_met (k := k + 1) (t := fun E => rE X.K E (eval Φ G e)) (T := MP.tabs X.K) (ga := He.ga X.K) hg M.mga M.kp lk hcg hb Sg hN hva hmt M.hs (gd.blt _ (by decide)) TB hcode hmT hu r4 L (by rw [eps]; rfl) (fun q cl pm cv ctv => by rw [eps]; rfl)
        (fun A outer s H E f c' r2 => ?_) hdb hd hcd) fun σ H Q q => ?_
      · have gd' : Good P.nolam Φ G k (LamX.lamCx X A outer s H E lsc f c') E :=
          { nd := gd.nd, calm := rfl, room := r2.mono (Nat.le_succ _), room2 := r2, pos := gd.pos, tk := takes_of rfl rfl rfl rfl, blt := gd.blt, glob := gd.glob, xs := ⟨gd.xs.mx, gd.xs.mm, gd.xs.is_, gd.xs.rs⟩, os := ⟨gd.os.cl, gd.os.sl, gd.os.is_, gd.os.mc⟩, mths := gd.mths, fns := gd.fns, mets := gd.mets, lam := fun z => nomatch z }
        exact (he _ E b gd' h6).1
      · obtain ⟨μ, g, h, r, er, F⟩ := q
        simp only [eval] at F
        refine ⟨r.ts, fun H1 st T1 => ?_⟩
        have P1 := Post.tabs r hmT st T1
        refine ⟨μ, g, h, P1.hr, er.mono P1 r, ?_⟩
        cases c1 : eval Φ G e g h with
        | none => rw [c1] at F; exact F.elim
        | some o =>
          rw [c1] at F
          cases o with
          | ok r1 h2 =>
            simp only [metM] at F
            unfold metQ
            cases em : m.ret with
            | some w =>
              rw [em] at F
              exact fun b H' μ' P2 q2 => F _ _ μ' (P1.trans P2) (cst_rd w)
            | none =>
              rw [em] at F
              exact fun b H' μ' P2 q2 => F _ _ μ' (P1.trans P2) (back_RR P1 q2)
          | exc x h2 =>
            simp only [metM] at F
            exact fun cv dv H' μ' P2 q2 => wish_of M (P1.trans P2) q2 m.hs F
    exact ⟨pe, pt_plain pe rfl⟩
  · cases hc
mutual
theorem sound_eP : ∀ (e : E) (P : PInfo), SE P Φ G k e
  | .var i, P => se_var i
  | .c d, P => se_c d
  | .glob i, P => se_glob i
  | .bin op a b, P => se_bin op a b (sound_eP a P) (sound_eP b P)
  | .neg a, P => se_neg a (sound_eP a P)
  | .not a, P => se_not a (sound_eP a P)
  | .cmp op a b, P => se_cmp op a b (sound_eP a P) (sound_eP b P)
  | .cmp2 o1 o2 a b c, P => se_cmp2 o1 o2 a b c (sound_eP a P) (sound_eP b P) (sound_eP c P)
  | .and a b, P => se_and a b (sound_eP a P) (sound_eP b P)
  | .or a b, P => se_or a b (sound_eP a P) (sound_eP b P)
  | .ite c a b, P => se_ite c a b (sound_eP c P) (sound_eP a P) (sound_eP b P)
  | .tup es, P => se_tup es (sound_esP es P)
  | .lst es, P => se_lst es (sound_esP es P)
  | .ix a b, P => se_ix a b (sound_eP a P) (sound_eP b P)
  | .slice a bl bh lo hi, P => se_slice a bl bh lo hi (sound_eP a P) (sound_eP lo P) (sound_eP hi P)
  | .call f es, P => se_call f es (sound_esP es P)
  | .b1 f a, P => se_b1 f a (sound_eP a P)
  | .b2 f a b, P => se_b2 f a b (sound_eP a P) (sound_eP b P)
  | .isinst a t, P => se_isinst a t (sound_eP a P)
  | .bi f (.of a), P => se_bi_of f a (sound_eP a P)
  | .bi f (.range1 a), P => se_bi_r1 f a (sound_eP a P)
  | .bi f (.range2 a b), P => se_bi_r2 f a b (sound_eP a P) (sound_eP b P)
  | .bi f (.enum a), P => fun X W x gd hc => by
    simp only [chk] at hc
    split at hc
    · simp only [Bool.and_eq_true] at hc
      cases f <;> cases hc.2.1
    · cases hc
  | .bi f (.zip a b), P => fun X W x gd hc => by
    simp only [chk] at hc
    split at hc
    · simp only [Bool.and_eq_true] at hc
      cases f <;> cases hc.2.1
    · cases hc
  | .lc elt tg it cond ws, P => se_lc elt tg it cond ws (sound_eP elt P) (sound_iP it P) (AllSE.mem (sound_allP cond P))
  | .meth m o es, P => se_meth m o es (sound_eP o P) (sound_esP es P)
  | .alloc e, P => se_alloc e (sound_eP e P)
  | .dct, P => se_dct
  | .srtD a, P => se_srtD a (sound_eP a P)
  | .mkX y f a, P => se_mkX y f a (sound_eP a P)
  | .isX a t yes no, P => se_isX a t yes no (sound_eP a P)
  | .xf a f cs, P => se_xf a f cs (sound_eP a P)
  | .mk c f es, P => se_mk c f es (sound_esP es P)
  | .sl c i a, P => se_sl c i a (sound_eP a P)
  | .pr c f a, P => se_pr c f a (sound_eP a P)
  | .mc c f a es, P => se_mc c f a es (sound_eP a P) (sound_esP es P)
  | .isO a c cs, P => se_isO a c cs (sound_eP a P)
  | .eqO c f a b, P => se_eqO c f a b (sound_eP a P) (sound_eP b P)
  | .fn y, P => se_fn y
  | .callv fs i es, P => se_callv fs i es (sound_esP es P)
  | .met y m e, P => se_met y m e (sound_eP e P.nolam)
theorem sound_esP : ∀ (es : List E) (P : PInfo), SEs P Φ G k es
  | [], P => ses_nil
  | e :: es, P => ses_cons e es (sound_eP e P) (sound_esP es P)
theorem sound_allP : ∀ (es : List E) (P : PInfo), AllSE P Φ G k es
  | [], P => trivial
  | e :: es, P => ⟨sound_eP e P, sound_allP es P⟩
theorem sound_iP : ∀ (i : I) (P : PInfo), SI P Φ G k i
  | .of e, P => si_of e (sound_eP e P)
  | .range1 a, P => si_range1 a (sound_eP a P)
  | .range2 a b, P => si_range2 a b (sound_eP a P) (sound_eP b P)
  | .enum a, P => si_enum a (sound_eP a P)
  | .zip a b, P => si_zip a b (sound_eP a P) (sound_eP b P)
end
theorem sound_e (e : E) : SE P Φ G k e := sound_eP e P
theorem sound_es (es : List E) : SEs P Φ G k es := sound_esP es P
theorem sound_all (es : List E) : AllSE P Φ G k es := sound_allP es P
theorem sound_i (i : I) : SI P Φ G k i := sound_iP i P
end
end MP

/-! MP.Snd12: statements. -/
namespace MP
open PySem PySem.Spec PyProof.Rows L2

/-! ### readings of statements -/
def FinF (K : PySem.W.Frag) (W : XK) (μ : Mu) (h : Heap) (H : Hp) (res : Res Fl) (D : Ends) : Prop := match res with
  | some (.ok (.nx g) h') => ∀ σ H' μ', Post K μ h H μ' h' H' → ER K μ' h'.length H' g σ → D.nx σ H'
  | some (.ok (.bk g) h') => ∀ σ H' μ', Post K μ h H μ' h' H' → ER K μ' h'.length H' g σ → D.bk σ H'
  | some (.ok (.ct g) h') => ∀ σ H' μ', Post K μ h H μ' h' H' → ER K μ' h'.length H' g σ → D.ct σ H'
  | some (.ok (.rt r) h') => ∀ v H' μ', Post K μ h H μ' h' H' → RR K μ' h' H H' r v → D.rt v H'
  | some (.exc x h') => ∀ c d H' μ', Post K μ h H μ' h' H' → RX K μ' h'.length H' x c d → W c d H'
  | none => False
def rF (K : PySem.W.Frag) (W : XK) (m : Env → Heap → Res Fl) : TS := fun D σ H => ∃ μ g h, HR K μ h H ∧ ER K μ h.length H g σ ∧ FinF K W μ h H (m g h) D
section
variable {α β : Type} {K : PySem.W.Frag} {W : XK} {ρ : Rel α β} {μ μ1 : Mu} {h h1 : Heap} {H H1 : Hp} {D : Ends}
theorem FinF.from {res : Res Fl} (F : FinF K W μ h H res D) (P : Post K μ h H μ1 h1 H1) : FinF K W μ1 h1 H1 res D := by
  cases res with
  | none => exact F
  | some o =>
    cases o with
    | exc x h2 => exact fun c d H2 μ2 P2 q => F c d H2 μ2 (P.trans P2) q
    | ok a h2 =>
      cases a with
      | nx g => exact fun σ H2 μ2 P2 q => F σ H2 μ2 (P.trans P2) q
      | bk g => exact fun σ H2 μ2 P2 q => F σ H2 μ2 (P.trans P2) q
      | ct g => exact fun σ H2 μ2 P2 q => F σ H2 μ2 (P.trans P2) q
      | rt r => exact fun v H2 μ2 P2 q => F v H2 μ2 (P.trans P2) (back_RR P q)
-- first m, then what follows
theorem FinF.bind {m : Res α} {k : α → Heap → Res Fl} {Q1 : β → Hp → Prop} (F : FinF K W μ h H (bd m k) D)
    (hk : ∀ a h1 b H1 μ1, Post K μ h H μ1 h1 H1 → ρ μ1 h1 H H1 a b → FinF K W μ1 h1 H1 (k a h1) D → Q1 b H1) : Fin K W ρ μ h H m Q1 := by
  cases m with
  | none => exact F
  | some o =>
    cases o with
    | ok a h2 => exact fun b H2 μ2 P2 q => hk a h2 b H2 μ2 P2 q (FinF.from (h1 := h2) (show FinF K W μ h H (k a h2) D from F) P2)
    | exc x h2 => exact F
theorem FinF.next {g : Env} {σ : L2.St} (F : FinF K W μ h H (some (.ok (.nx g) h)) D) (r : HR K μ h H) (e : ER K μ h.length H g σ) : D.nx σ H := F σ H μ (Post.refl r) e
theorem FinF.nextP {h' : Heap} {H' : Hp} {μ' : Mu} {g : Env} {σ : L2.St} (F : FinF K W μ h H (some (.ok (.nx g) h')) D) (P : Post K μ h H μ' h' H') (e : ER K μ' h'.length H' g σ) : D.nx σ H' := F σ H' μ' P e
theorem rF_bind {m : Env → Heap → Res α} {k : Env → α → Heap → Res Fl} {Q1 : β → Hp → Prop} {σ : L2.St} (q : rF K W (fun g h => bd (m g h) (k g)) D σ H)
    (hk : ∀ μ1 g h1 H1 a b H0, HR K μ1 h1 H1 → ER K μ1 h1.length H1 g σ → ρ μ1 h1 H0 H1 a b → FinF K W μ1 h1 H1 (k g a h1) D → Q1 b H1) : rd K W ρ m σ H Q1 := by
  obtain ⟨μ, g, h, r, er, F⟩ := q
  exact ⟨μ, g, h, r, er, F.bind fun a h1 b H1 μ1 P q F1 => hk μ1 g h1 H1 a b H P.hr (er.mono P r) q F1⟩
end

section
variable (P : PInfo) (Φ : Nat → List D → Heap → Res R) (G : Nat → Option D) (k : Nat)
structure GoodF (X : Cx) (W : XK) : Prop extends Good P Φ G k X W where
  kind : X.env.scope.kind = .function
  fnc : ∀ x, X.fn x = true
  own : PassesOwn (model X.prog X.w) X.A X.env X.xe
def SS (s : St) : Prop := ∀ (X : Cx) (W : XK) (x : Stmt), GoodF P Φ G k X W → chkS P X.N X.env.scope s x = true → PS X x (rF X.K W (exec Φ G s))
def SSs (s : List St) : Prop := ∀ (X : Cx) (W : XK) (x : List Stmt), GoodF P Φ G k X W → chkSs P X.N X.env.scope s x = true → PSs X x (rF X.K W (execs Φ G s))
end
section
variable {P : PInfo} {Φ : Nat → List D → Heap → Res R} {G : Nat → Option D} {k : Nat}
theorem GoodF.T {X : Cx} {W : XK} (g : GoodF P Φ G k X W) : GoodT X true := ⟨g.nd, g.calm, fun _ => g.fnc⟩
theorem GoodF.bk {X : Cx} {W : XK} (g : GoodF P Φ G k X W) : X.env.blockKind = .function := by
  unfold PySem.Env.blockKind
  rw [g.kind]
  rfl

/-! ### one after another -/
theorem sss_nil : SSs P Φ G k [] := fun X W x gd hc => by
  cases x with
  | cons _ _ => simp [chkSs] at hc
  | nil =>
    refine PSs_imp pss_nil fun D σ H ⟨μ, g, h, r, er, F⟩ => ?_
    simp only [execs] at F
    exact FinF.next F r er
theorem sss_cons (s : St) (ss : List St) (hs : SS P Φ G k s) (hss : SSs P Φ G k ss) : SSs P Φ G k (s :: ss) := fun X W x gd hc => by
  cases x with
  | nil => simp [chkSs] at hc
  | cons x xs =>
    simp only [chkSs, Bool.and_eq_true] at hc
    refine PSs_imp (pss_cons (hs X W x gd hc.1) (hss X W xs gd hc.2)) fun D σ H ⟨μ, g, h, r, er, F⟩ => ?_
    refine ⟨μ, g, h, r, er, ?_⟩
    simp only [execs] at F
    cases e : exec Φ G s g h with
    | none => rw [e] at F; exact F
    | some o =>
      rw [e] at F
      cases o with
      | exc x h2 => exact F
      | ok fl h2 =>
        simp only [bd_ok] at F
        cases fl with
        | nx g' => exact fun σ' H' μ' P' er' => ⟨μ', g', h2, P'.hr, er', FinF.from (h1 := h2) F P'⟩
        | rt r => exact F
        | bk g' => exact F
        | ct g' => exact F

/-! ### small statements -/
theorem ss_pass : SS P Φ G k .pass := fun X W x gd hc => by
  have fin : ∀ D σ H, rF X.K W (exec Φ G .pass) D σ H → tNext D σ H := fun D σ H ⟨μ, g, h, r, er, F⟩ => by
    simp only [exec] at F
    exact F.next r er
  simp only [chkS] at hc
  split at hc
  · exact PS_imp ps_pass fin
  · exact PS_imp ps_doc fin
  · cases hc
theorem ss_brk : SS P Φ G k .brk := fun X W x gd hc => by
  simp only [chkS] at hc
  split at hc
  · refine PS_imp ps_break fun D σ H ⟨μ, g, h, r, er, F⟩ => ?_
    simp only [exec] at F
    exact F σ H μ (Post.refl r) er
  · cases hc
theorem ss_cont : SS P Φ G k .cont := fun X W x gd hc => by
  simp only [chkS] at hc
  split at hc
  · refine PS_imp ps_continue fun D σ H ⟨μ, g, h, r, er, F⟩ => ?_
    simp only [exec] at F
    exact F σ H μ (Post.refl r) er
  · cases hc
theorem noComp_sw {e : Expr} (h : noComp e = true) (t : Option Expr) (l : Nat) (env : PySem.Env) : swapsWith e t l env = pure false := by
  cases e <;> first | rfl | cases h
theorem ss_expr (e : E) : SS P Φ G k (.expr e) := fun X W x gd hc => by
  simp only [chkS] at hc
  split at hc
  · rename_i e' pos
    simp only [Bool.and_eq_true] at hc
    refine PS_imp (ps_expr (sound_e e X W e' gd.toGood hc.1).1 (noComp_sw hc.2 _ _ _)) fun D σ H q => ?_
    simp only [exec] at q
    refine rF_bind (ρ := RR X.K) (k := fun g _ h => some (.ok (.nx g) h)) q fun μ1 g h1 H1 r v H0 hr er q1 F => ?_
    exact F.next hr er
  · cases hc
theorem ss_ret (e : E) : SS P Φ G k (.ret e) := fun X W x gd hc => by
  simp only [chkS] at hc
  split at hc
  · rename_i e' pos
    refine PS_imp (ps_ret (sound_e e X W e' gd.toGood hc).1) fun D σ H ⟨μ, g, h, hr, er, F⟩ => ?_
    refine ⟨μ, g, h, hr, er, ?_⟩
    simp only [exec] at F
    cases c : eval Φ G e g h with
    | none => rw [c] at F; exact F
    | some o =>
      rw [c] at F
      cases o with
      | exc _ _ => exact F
      | ok r h1 => exact F
  · cases hc
theorem ss_ret0 : SS P Φ G k .ret0 := fun X W x gd hc => by
  simp only [chkS] at hc
  split at hc
  · refine PS_imp ps_retN fun D σ H ⟨μ, g, h, hr, er, F⟩ => ?_
    simp only [exec] at F
    exact F .non H μ (Post.refl hr) rfl
  · cases hc
theorem ss_if (c : E) (a b : List St) (ha : SSs P Φ G k a) (hb : SSs P Φ G k b) : SS P Φ G k (.if_ c a b) := fun X W x gd hc => by
  simp only [chkS] at hc
  split at hc
  · rename_i c' a' b' pos
    simp only [Bool.and_eq_true] at hc
    obtain ⟨h1, h2, h3⟩ := hc
    refine PS_imp (ps_if (sound_e c X W c' gd.toGood h1).2 (ha X W a' gd h2) (hb X W b' gd h3)) fun D σ H q => ?_
    have e : exec Φ G (.if_ c a b) = fun g h => bd (tst (eval Φ G c) g h) fun t h => if t = true then execs Φ G a g h else execs Φ G b g h := by
      funext g h
      simp only [tst, exec, bd_assoc]
      congr 1
      funext r h1
      cases e : tru h1 r.frz with
      | none => rfl
      | some c => cases c <;> simp [ofO]
    rw [e] at q
    refine rF_bind (ρ := RB) (k := fun g t h => if t = true then execs Φ G a g h else execs Φ G b g h) q fun μ1 g h1 H1 t t' H0 hr er q1 F => ?_
    cases q1
    cases t with
    | true => exact iteT ⟨μ1, g, h1, hr, er, F⟩
    | false => exact iteF ⟨μ1, g, h1, hr, er, F⟩
  · cases hc
end
end MP

/-! MP.Snd13: stores and loops; all statements. -/
namespace MP
open PySem PySem.Spec PyProof.Rows L2

/-! ### which stores are swapped -/
theorem swB_ok {sc : Scope} {env : PySem.Env} (hk : env.blockKind = .function) (hs : env.scope = sc) {e t : Expr} (hn : noComp e = true ∨ isLc e = true) (l : Nat) : swapsWithSole [t] e l env = pure (swB sc e t) := by
  show swapsWith e (some t) l env = _
  cases e with
  | ListComp elt gs s p =>
    cases t with
    | Name y py =>
      unfold swapsWith swB
      subst hs
      have q : (env.kindOf y == some NameKind.local) = decide (env.scope.names.lookup y = some .local) := by
        show (env.scope.names.lookup y == some NameKind.local) = _
        by_cases h : env.scope.names.lookup y = some .local
        · rw [h]; decide
        · simp only [h, decide_false]
          exact beq_eq_false_iff_ne.mpr h
      simp only [hk, q]
      rfl
    | _ => rfl
  | SetComp _ _ _ _ => rcases hn with h | h <;> cases h
  | DictComp _ _ _ _ _ => rcases hn with h | h <;> cases h
  | _ => cases t <;> rfl
theorem nmS_ok {env : PySem.Env} {sc : Scope} (hs : env.scope = sc) (ts : List Expr) : (ts.filterMap fun
    | .Name id pos => if env.kindOf id == some .local && pos.line == (ts.head?.map (·.pos.line)).getD 0 then some id else none
    | _ => none) = nmS sc ts := by
  subst hs
  rfl
theorem swN_ok {sc : Scope} {env : PySem.Env} (hk : env.blockKind = .function) (hs : env.scope = sc) {e t : Expr} (h : swN sc t e = true) : swappedStores [t] e env = pure none := by
  unfold swN at h
  split at h
  · rename_i ts _ _ vs _ _
    unfold swappedStores
    simp only [hk]
    split
    · rfl
    · rename_i c1
      split
      · rfl
      · split
        · rfl
        · rename_i c2
          split
          · rfl
          · rename_i c3
            exfalso
            subst hs
            have c2' : ¬ (((nmS env.scope ts).length != ts.length || (nmS env.scope ts).eraseDups.length != (nmS env.scope ts).length) = true) := c2
            simp only [Bool.or_eq_true, not_or] at c1 c2' h
            rcases h with ((h | h) | h) | h
            · exact c1.1.1 h
            · exact c1.1.2 h
            · exact c2'.1 h
            · exact c3 h
  · cases h
  · rename_i h1 h2
    unfold swappedStores
    split
    · rename_i ts vs heq
      exfalso
      split at heq
      · rename_i e1
        cases e1
        exact h2 _ _ _ _ _ _ rfl rfl
      · rename_i e1
        cases e1
        exact h1 _ _ rfl
      · cases heq
    · rfl
theorem swY_ok {sc : Scope} {env : PySem.Env} (hk : env.blockKind = .function) (hs : env.scope = sc) {ts vs : List Expr} {k1 k2 : Nat} {p1 p2 : Pos} {ns : List Str} (h : swY sc ts vs = some ns) (hv : ∀ x ∈ vs, shape x = true) :
    swappedStores [.Tuple ts k1 p1] (.Tuple vs k2 p2) env = pure (some ns) := by
  unfold swY at h
  split at h
  · rename_i c
    cases h
    simp only [Bool.and_eq_true, Bool.not_eq_true'] at c
    obtain ⟨⟨⟨⟨⟨a1, a2⟩, a3⟩, a4⟩, a5⟩, a6⟩ := c
    unfold swappedStores
    simp only [hk]
    have b2 : (vs.length != ts.length) = false := by
      simp only [bne, a2, Bool.not_true]
    have b3 : ((nmS sc ts).length != ts.length) = false := by
      simp only [bne, a3, Bool.not_true]
    have b4 : ((nmS sc ts).eraseDups.length != (nmS sc ts).length) = false := by
      simp only [bne, a4, Bool.not_true]
    have st : (vs.any fun x => match x with
        | .Starred _ _ => true
        | _ => false) = false := by
      rw [List.any_eq_false]
      intro x hx
      have := hv x hx
      cases x <;> first | (simp; done) | cases this
    subst hs
    rw [if_neg (by rw [a1, b2]; decide)]
    have c2 : ¬ (((nmS env.scope ts).length != ts.length || (nmS env.scope ts).eraseDups.length != (nmS env.scope ts).length) = true) := by
      rw [b3, b4]
      decide
    split
    · rename_i z
      exact absurd (st.symm.trans z) Bool.false_ne_true
    split
    · rename_i c3
      exact absurd c3 c2
    · rw [if_neg (by rw [a5]; decide), if_neg (by rw [a6]; decide)]
      rfl
  · cases h

section
variable {P : PInfo} {Φ : Nat → List D → Heap → Res R} {G : Nat → Option D} {k : Nat}
/-! ### target = value -/
-- a comprehension stored in place
theorem ps_lcIn (elt : E) (tg : Tg) (it : I) (cond : List E) (ws : List Nat) {X : Cx} {W : XK} (gd : GoodF P Φ G k X W) {x : Expr} (hc : chk P X.N X.env.scope (.lc elt tg it cond ws) x = true) {y : Str} {py pos' : Pos} {i : Nat}
    (hy : X.N[i]? = some y) (hs : swB X.env.scope x (.Name y py) = true) : PS X (.Assign [.Name y py] x pos') (tAsg (rE X.K W (eval Φ G (.lc elt tg it cond ws))) (gName i)) := by
  have he := sound_e (P := P) (Φ := Φ) (G := G) (k := k) elt
  have hi := sound_i (P := P) (Φ := Φ) (G := G) (k := k) it
  have hcd := AllSE.mem (sound_all (P := P) (Φ := Φ) (G := G) (k := k) cond)
  have gd' := gd.toGood
  simp only [chk] at hc
  split at hc
  · rename_i elt' tg' it' ifs' scope pos
    simp only [Bool.and_eq_true, decide_eq_true_eq] at hc
    obtain ⟨h1, h2, h3, h4, h5, h6, h7, h8⟩ := hc
    have hT : tupI it = true → isTupE tg' = true := fun z => by
      rw [z] at h8
      simpa using h8
    have hts : ∀ (s : Shared) (H : Hp) (C : Addr) (cl : List (Str × Addr)) (fp : List Addr), PTs (X.blk s H scope (compEnvC scope cl C X.env) fp) ifs' (rT X.K xk0 (tests Φ G cond)) := fun s H C cl fp => by
      match cond, ifs', h4, h6, hcd with
      | [], [], _, _, _ =>
        refine PTs_imp pts_nil fun σ H Q ⟨μ, g, h, r, er, F⟩ => ?_
        rw [tests_nil] at F
        exact Fin.ok F r rfl
      | [c], [c'], h4, _, hcd =>
        simp only [chks, Bool.and_eq_true] at h4
        rw [tests_one]
        exact pts_one (hcd c (by simp) (X.blk s H scope (compEnvC scope cl C X.env) fp) xk0 c' (gd'.blk s H scope C cl fp) h4.1).2
      | _ :: _ :: _, _, _, h6, _ =>
        simp only [List.length_cons] at h6
        omega
      | [], _ :: _, h4, _, _ => simp [chks] at h4
      | [_], [], h4, _, _ => simp [chks] at h4
      | [_], _ :: _ :: _, h4, _, _ => simp [chks] at h4
    have ews : (ws.map fun i => (X.N.getD i ⟨#[]⟩, i)).map (·.2) = ws := by
      rw [List.map_map]
      exact List.map_id ws
    unfold swB at hs
    simp only [Bool.and_eq_true, decide_eq_true_eq, Bool.not_eq_true'] at hs
    obtain ⟨⟨s1, s2⟩, s3⟩ := hs
    have base := ps_setLc (py := py) (pos := pos) (spos := pos') (g := rG X.K tg) (te := rE X.K xk0 (eval Φ G elt)) gd.calm gd.nd hy s1 (sw_true gd.kind s1 s2 s3) (hi X W tg' it' gd' h2 hT) (blkOk_by h1) (fun s H C cl fp => pg_of (gd'.blk s H scope C cl fp).T tg tg' h3) hts
      (fun s H C cl fp => (he (X.blk s H scope (compEnvC scope cl C X.env) fp) xk0 elt' (gd'.blk s H scope C cl fp) h5).1) (fun x => by
        cases it with
        | of e => exact shape_iter (chk_shape (by simpa only [chkI] using h2)) _ _
        | _ =>
          simp only [chkI] at h2
          split at h2
          · rfl
          · cases h2)
    rw [ews] at base
    refine PS_imp base fun D σ H q => rd_lc h7 ?_
    have e : eval Φ G (.lc elt tg it cond ws) = fun g h => bd (items Φ G it g h) fun its h => bd (lcGo (lcF its tg (wipes g ws) (tests Φ G cond) (eval Φ G elt)) its.1 h) fun l h => if l.length ≤ lim then some (.ok (.newL l) h) else none := by
      funext g h
      simp only [eval]
    have q : rE X.K W (eval Φ G (.lc elt tg it cond ws)) σ H (fun x H1 => gName i x σ H1 D.nx) := q
    rw [e] at q
    exact q
  · cases hc
theorem lc_only {N : List Str} {sc : Scope} {e : E} {elt : Expr} {gs : List Comprehension} {s : Scope} {p : Pos} (h : chk P N sc e (.ListComp elt gs s p) = true) : (∃ a b c d f, e = .lc a b c d f) ∨ ∃ e', e = .alloc e' ∧ chk P N sc e' (.ListComp elt gs s p) = true := by
  cases e with
  | lc a b c d f => exact .inl ⟨a, b, c, d, f, rfl⟩
  | alloc e' =>
    simp only [chk, Bool.and_eq_true] at h
    exact .inr ⟨e', rfl, h.2⟩
  | _ => simp [chk] at h
theorem ps_lcAll {X : Cx} {W : XK} (gd : GoodF P Φ G k X W) {x : Expr} {y : Str} {py pos' : Pos} {i : Nat} (hy : X.N[i]? = some y) (hs : swB X.env.scope x (.Name y py) = true) :
    ∀ e : E, chk P X.N X.env.scope e x = true → PS X (.Assign [.Name y py] x pos') (tAsg (rE X.K W (eval Φ G e)) (gName i))
  | .lc elt tg it cond ws, hc => ps_lcIn elt tg it cond ws gd hc hy hs
  | .alloc e, hc => by
    simp only [chk, Bool.and_eq_true] at hc
    refine PS_imp (ps_lcAll gd hy hs e hc.2) fun D σ H q => ?_
    have q : rE X.K W (eval Φ G (.alloc e)) σ H (fun x H1 => gName i x σ H1 D.nx) := q
    have e1 : eval Φ G (.alloc e) = fun g h => bd (eval Φ G e g h) fun r h => allocM r h := by
      funext g h
      simp only [eval]
    rw [e1] at q
    exact rd_alloc q
  | .var _, hc | .c _, hc | .glob _, hc | .bin _ _ _, hc | .neg _, hc | .not _, hc | .cmp _ _ _, hc | .cmp2 _ _ _ _ _, hc | .and _ _, hc | .or _ _, hc | .ite _ _ _, hc | .tup _, hc | .lst _, hc | .ix _ _, hc | .slice _ _ _ _ _, hc | .call _ _, hc | .b1 _ _, hc | .b2 _ _ _, hc | .isinst _ _, hc | .bi _ _, hc | .meth _ _ _, hc | .dct, hc | .srtD _, hc | .mkX _ _ _, hc | .isX _ _ _ _, hc | .xf _ _ _, hc | .mk _ _ _, hc | .sl _ _ _, hc | .pr _ _ _, hc | .mc _ _ _ _, hc | .isO _ _ _, hc | .eqO _ _ _ _, hc | .fn _, hc | .callv _ _ _, hc | .met _ _ _, hc => by
    exfalso
    cases x with
    | ListComp a b c d => rcases lc_only hc with ⟨_, _, _, _, _, e⟩ | ⟨_, e, _⟩ <;> cases e
    | _ => cases hs
theorem chkT_one {N : List Str} {sc : Scope} {t : Tg} {x : Expr} (h : chkT true N sc t x = true) (env : PySem.Env) : (assignEach [x] env).map (·.2) = [PySem.assign x env] := by
  rw [assignEach_cons h]
  rfl
theorem ss_asg (tg : Tg) (e : E) : SS P Φ G k (.asg tg e) := fun X W x gd hc => by
  simp only [chkS] at hc
  split at hc
  · rename_i t e' pos
    simp only [Bool.and_eq_true, Bool.or_eq_true] at hc
    obtain ⟨h1, h2, h3, h4⟩ := hc
    have hsw := swB_ok gd.bk rfl h3 (t := t) pos.line
    have hsn := swN_ok gd.bk rfl h4
    have imp : ∀ D σ H, rF X.K W (exec Φ G (.asg tg e)) D σ H → tAsg (rE X.K W (eval Φ G e)) (rG X.K tg) D σ H := fun D σ H q => by
      simp only [exec] at q
      refine rF_bind (ρ := RR X.K) (k := fun g r h => match MP.assign tg r.frz g with
        | some g => some (.ok (.nx g) h)
        | none => none) q fun μ1 g h1 H1 r v H0 hr er q1 F => ?_
      cases ea : MP.assign tg r.frz g with
      | none => simp only [ea] at F; exact F.elim
      | some g' =>
        simp only [ea] at F
        exact ⟨μ1, h1, g, _, g', hr, er, q1.frz, ea, fun σ' er' _ _ => F.next hr er'⟩
    cases c : swB X.env.scope e' t with
    | false =>
      rw [c] at hsw
      exact PS_imp (ps_asg (sound_e e X W e' gd.toGood h2).1 (pg_of gd.T tg t h1) hsw hsn (chkT_one h1 X.env)) imp
    | true =>
      cases t with
      | Name y py =>
        cases tg with
        | slot i =>
          have hi : X.N[i]? = some y := by
            simp only [chkT, Bool.and_eq_true, decide_eq_true_eq] at h1
            exact h1.1
          refine PS_imp (ps_lcAll gd hi c e h2) fun D σ H q => ?_
          obtain ⟨μ, g, h, hr, er, F⟩ := imp D σ H q
          refine ⟨μ, g, h, hr, er, ?_⟩
          refine Fin.imp F fun v H' q => ?_
          obtain ⟨μ, hh, g, d, g', hr, er, q1, ea, kf⟩ := q
          simp only [MP.assign, Option.some.injEq] at ea
          subst ea
          refine kf _ (er.set q1) (fun j hj => ?_) (by simp)
          simp only [slots, List.mem_singleton] at hj
          rw [List.getElem?_set_ne (Ne.symm hj)]
        | tup _ => simp [chkT] at h1
      | _ =>
        unfold swB at c
        split at c
        · rename_i heq
          cases heq
        · cases c
  · cases hc
end
end MP

/-! MP.Snd14: pairs of stores, items, loops; all statements. -/
namespace MP
open PySem PySem.Spec PyProof.Rows L2

section
variable {P : PInfo} {Φ : Nat → List D → Heap → Res R} {G : Nat → Option D} {k : Nat}
theorem ss_par (is : List Nat) (es : List E) : SS P Φ G k (.par is es) := fun X W x gd hc => by
  have par : ∀ D σ H, rF X.K W (exec Φ G (.par is es)) D σ H → rA X.K W (evals Φ G es) σ H fun vs H1 => ∃ μ h g ds g', HR X.K μ h H1 ∧ ER X.K μ h.length H1 g σ ∧ RDs X.K μ h.length H1 ds vs ∧ setAll is ds g = some g' ∧ ∀ σ', ER X.K μ h.length H1 g' σ' → D.nx σ' H1 := fun D σ H q => by
    simp only [exec] at q
    refine rF_bind (ρ := RA X.K) (k := fun g ds h => match setAll is ds g with
        | some g => some (.ok (.nx g) h)
        | none => none) q fun μ1 g h1 H1 ds vs H0 hr er q1 F => ?_
    cases e : setAll is ds g with
    | none => simp only [e] at F; exact F.elim
    | some g' =>
      simp only [e] at F
      exact ⟨μ1, h1, g, ds, g', hr, er, q1, e, fun σ' er' => F.next hr er'⟩
  simp only [chkS] at hc
  split at hc
  · rename_i i j a p b q kt pt u v k2 p2 pos
    simp only [Bool.and_eq_true, decide_eq_true_eq] at hc
    obtain ⟨⟨hi, hj, hij, ha, hb⟩, h1, h2⟩ := hc
    refine PS_imp (ps_par gd.calm gd.nd hi hj hij ha hb (sound_es es X W _ gd.toGood h1) (swY_ok gd.bk rfl h2 (chks_shape h1)) (by rw [swB_ok gd.bk rfl (.inl rfl)]; rfl)) fun D σ H q => ?_
    obtain ⟨μ, g, h, hr, er, F⟩ := par D σ H q
    refine ⟨μ, g, h, hr, er, Fin.imp F fun vs H1 ⟨μ, h, g, ds, g', hr, er, rds, e, kf⟩ => ?_⟩
    match ds, rds, e with
    | [d1, d2], rds, e =>
      simp only [RDs] at rds
      obtain ⟨v1, _, rfl, r1, v2, _, rfl, r2, rfl⟩ := rds
      simp only [setAll, Option.some.injEq] at e
      subst e
      exact ⟨v1, v2, rfl, kf _ ((er.set r1).set r2)⟩
    | [], _, e => simp [setAll] at e
    | [_], _, e => simp [setAll] at e
    | _ :: _ :: _ :: _, _, e => simp [setAll] at e
  · rename_i i j l a p b q c r kt pt u v w k2 p2 pos
    simp only [Bool.and_eq_true, decide_eq_true_eq] at hc
    obtain ⟨⟨hi, hj, hl, ⟨hij, hil, hjl⟩, ha, hb, hcc⟩, h1, h2⟩ := hc
    refine PS_imp (ps_par3 gd.calm gd.nd hi hj hl hij hil hjl ha hb hcc (sound_es es X W _ gd.toGood h1) (swY_ok gd.bk rfl h2 (chks_shape h1)) (by rw [swB_ok gd.bk rfl (.inl rfl)]; rfl)) fun D σ H q => ?_
    obtain ⟨μ, g, h, hr, er, F⟩ := par D σ H q
    refine ⟨μ, g, h, hr, er, Fin.imp F fun vs H1 ⟨μ, h, g, ds, g', hr, er, rds, e, kf⟩ => ?_⟩
    match ds, rds, e with
    | [d1, d2, d3], rds, e =>
      simp only [RDs] at rds
      obtain ⟨v1, _, rfl, r1, v2, _, rfl, r2, v3, _, rfl, r3, rfl⟩ := rds
      simp only [setAll, Option.some.injEq] at e
      subst e
      exact ⟨v1, v2, v3, rfl, kf _ (((er.set r1).set r2).set r3)⟩
    | [], _, e => simp [setAll] at e
    | [_], _, e => simp [setAll] at e
    | [_, _], _, e => simp [setAll] at e
    | _ :: _ :: _ :: _ :: _, _, e => simp [setAll] at e
  · cases hc
theorem aug_int {X : Cx} {op : BOp} {o : Operator} (h1 : bopB op o = true) (h2 : op = .add ∨ op = .sub) : PIp X o (fun x y H Q => ∃ i j d, x = .int i ∧ y = .int j ∧ augD op (.int i) (.int j) = some (.int d) ∧ Q (.int d) H) := by
  intro pins s σ H x y v u Q I r1 r2 ⟨i, j, d, e1, e2, e3, q⟩
  rcases h2 with rfl | rfl
  · cases o <;> first | (cases h1; done) | skip
    cases e3
    exact ip_add pins s σ H x y v u Q I r1 r2 ⟨i, j, e1, e2, q⟩
  · cases o <;> first | (cases h1; done) | skip
    cases e3
    exact ip_sub pins s σ H x y v u Q I r1 r2 ⟨i, j, e1, e2, q⟩
theorem augD_int {op : BOp} {x y d : D} (h : augD op x y = some d) : ∃ i j n, x = .int i ∧ y = .int j ∧ d = .int n := by
  unfold augD at h
  split at h
  · cases h; exact ⟨_, _, _, rfl, rfl, rfl⟩
  · cases h; exact ⟨_, _, _, rfl, rfl, rfl⟩
  · cases h
theorem ss_aug (i : Nat) (op : BOp) (e : E) : SS P Φ G k (.aug i op e) := fun X W x gd hc => by
  simp only [chkS] at hc
  split at hc
  · rename_i n p o e' pos
    simp only [Bool.and_eq_true, Bool.or_eq_true, beq_iff_eq, decide_eq_true_eq] at hc
    obtain ⟨hi, hl, he, ho, hop⟩ := hc
    refine PS_imp (ps_aug gd.nd hi (locB_ok hl) (sound_e e X W e' gd.toGood he).1 (aug_int ho hop) (.inl (gd.fnc n))) fun D σ H ⟨μ, g, h, hr, er, F⟩ => ?_
    simp only [exec] at F
    split at F
    · rename_i d eg
      obtain ⟨v, e1, q1⟩ := er.2 i d eg
      refine ⟨v, e1, μ, g, h, hr, er, F.bind fun r h1 w H1 μ1 P1 q2 F2 => ?_⟩
      cases ea : augD op d r.frz with
      | none => simp only [ea] at F2; exact F2.elim
      | some z =>
        simp only [ea] at F2
        obtain ⟨a, b, c, rfl, e2, rfl⟩ := augD_int ea
        have q3 := q2.frz
        rw [e2] at q3 ea
        cases q1
        cases q3
        exact ⟨a, b, c, rfl, rfl, ea, F2.next P1.hr ((er.mono P1 hr).set rfl)⟩
    · exact F.elim
  · cases hc
theorem RDs.set {K : PySem.W.Frag} {μ : Mu} {n : Nat} {H : Hp} {d : D} {v : V} : ∀ {l : List D} {us : List V} (j : Nat), RDs K μ n H l us → RD K μ n H d v → RDs K μ n H (l.set j d) (us.set j v)
  | [], us, j, a, b => by
    simp only [RDs] at a
    subst a
    simp only [List.set_nil, RDs]
  | c :: l, us, 0, a, b => by
    simp only [RDs] at a
    obtain ⟨w, r, rfl, q, t⟩ := a
    simp only [List.set_cons_zero, RDs]
    exact ⟨v, r, rfl, b, t⟩
  | c :: l, us, j + 1, a, b => by
    simp only [RDs] at a
    obtain ⟨w, r, rfl, q, t⟩ := a
    simp only [List.set_cons_succ, RDs]
    exact ⟨w, _, rfl, q, RDs.set j t b⟩
theorem sub_assign {k' : Expr} (h : shape k' = true) (o : Expr) (pos : Pos) (env : PySem.Env) (v : Value) : PySem.assign (.Subscript o k' pos) env v = (do
      let ov ← holding [v] (PySem.eval o env)
      let iv ← holding [v, ov] (PySem.eval k' env)
      standAt pos
      holding [v, ov, iv] (setItem ov iv v)
      release [v, ov, iv] []) := by
  cases k' <;> first | rfl | cases h
-- d[k] = v
def rSetD : V → V → V → Hp → (Hp → Prop) → Prop := fun o i v H Q => ∃ (p : Addr) (kvs : List (Key × V)) (k : Key), o = .ref p ∧ i = kV k ∧ H p = some (.dK kvs) ∧ kvs.length < sizeLine ∧ Q (upd H p (.dK (putK kvs k v)))
theorem set_dict {X : Cx} (hu : X.A.units + 1 < cLine) : PSet X rSetD := by
  intro pins s σ H o i v ov iv u Q I ro ri rv ⟨p, kvs, k, eo, ei, hp, hl, q⟩
  subst eo ei
  cases ro
  exact d_setItem hu I (DPut.k hp hl) ri rv fun s' I' => ⟨_, I', q⟩
theorem PSet.or {X : Cx} {r r' : TSet} (a : PSet X r) (b : PSet X r') : PSet X (fun o i v H Q => r o i v H Q ∨ r' o i v H Q) := by
  intro pins s σ H o i v ov iv u Q I ro ri rv q
  rcases q with q | q
  · exact a pins s σ H o i v ov iv u Q I ro ri rv q
  · exact b pins s σ H o i v ov iv u Q I ro ri rv q
theorem put_rel {K : PySem.W.Frag} {μ : Mu} {n : Nat} {H : Hp} {k : Key} {d : D} {v : V} (qv : RD K μ n H d v) {l : List (Sum Int Str × D)} {kvs : List (Key × V)} (ek : kvs.map (·.1) = l.map (·.1)) (t : RDs K μ n H (l.map (·.2)) (kvs.map (·.2))) :
    (putK kvs k v).map (·.1) = (putD l k d).map (·.1) ∧ RDs K μ n H ((putD l k d).map (·.2)) ((putK kvs k v).map (·.2)) := by
  have ea : (kvs.any fun kv => decide (kv.1 = k)) = l.any fun kv => decide (kv.1 = k) := by
    have a1 : (kvs.any fun kv => decide (kv.1 = k)) = (kvs.map (·.1)).any fun j => decide (j = k) := by rw [List.any_map]; rfl
    have a2 : (l.any fun kv => decide (kv.1 = k)) = (l.map (·.1)).any fun j => decide (j = k) := by rw [List.any_map]; rfl
    rw [a1, a2, ek]
  unfold putK putD
  rw [ea]
  split
  · rename_i hyes
    clear hyes ea
    induction l generalizing kvs with
    | nil =>
      cases kvs with
      | nil => exact ⟨rfl, t⟩
      | cons _ _ => cases ek
    | cons p l ih =>
      cases kvs with
      | nil => cases ek
      | cons q kvs =>
        simp only [List.map_cons, List.cons.injEq] at ek
        simp only [List.map_cons, RDs] at t
        obtain ⟨w, r, e, t1, t2⟩ := t
        simp only [List.cons.injEq] at e
        obtain ⟨rfl, rfl⟩ := e
        obtain ⟨i1, i2⟩ := ih ek.2 t2
        simp only [List.map_cons, RDs]
        refine ⟨?_, ?_⟩
        · rw [i1, ek.1]
          congr 1
          split
          · rfl
          · exact ek.1
        · refine ⟨_, _, rfl, ?_, i2⟩
          rw [ek.1]
          split
          · exact qv
          · exact t1
  · simp only [List.map_append, List.map_cons, List.map_nil]
    exact ⟨by rw [ek], t.app (by simp only [RDs]; exact ⟨v, [], rfl, qv, rfl⟩)⟩
theorem ss_setix (o i e : E) : SS P Φ G k (.setix o i e) := fun X W x gd hc => by
  simp only [chkS] at hc
  split at hc
  · rename_i o' k' p e' pos
    simp only [Bool.and_eq_true, Bool.or_eq_true] at hc
    obtain ⟨h1, h2, h3, h4⟩ := hc
    have A := (sound_e o X W o' gd.toGood h1).1
    have B := (sound_e i X W k' gd.toGood h2).1
    have C := (sound_e e X W e' gd.toGood h3).1
    have hsw : swapsWithSole [.Subscript o' k' p] e' pos.line X.env = pure false := by
      rw [swB_ok gd.bk rfl h4]
      cases e' <;> rfl
    refine PS_imp (ps_asg C (pg_sub A B (PSet.or set_list (set_dict (by have := gd.un; omega))) (fun v => sub_assign (chk_shape h2) _ _ _ v)) hsw rfl rfl) fun D σ H q => ?_
    simp only [exec] at q
    obtain ⟨μ, g, h, hr, er, F⟩ := q
    refine ⟨μ, g, h, hr, er, F.bind fun r h1 v H1 μ1 P1 q1 F1 => ?_⟩
    have er1 := er.mono P1 hr
    refine ⟨μ1, g, h1, P1.hr, er1, F1.bind fun x h2 xv H2 μ2 P2 q2 F2 => ?_⟩
    have er2 := er1.mono P2 P1.hr
    refine ⟨μ2, g, h2, P2.hr, er2, F2.bind fun y h3 yv H3 μ3 P3 q3 F3 => ?_⟩
    have er3 := er2.mono P3 P2.hr
    have q1' := RD.mono P3 P2.hr _ _ (RD.mono P2 P1.hr _ _ q1.frz)
    have q2' := RD.mono P3 P2.hr _ _ q2.frz
    have q3' := q3.frz
    cases es : setM x.frz y.frz r.frz h3 with
    | none => simp only [es] at F3; exact F3.elim
    | some hN =>
      simp only [es] at F3
      unfold setM at es
      split at es
      · rename_i p i e1 e2
        rw [e1] at q2'
        rw [e2] at q3'
        cases q3'
        split at es
        · rename_i l e3
          split at es
          · rename_i j e4
            cases es
            obtain ⟨hp, rfl, vs, e5, t⟩ := at_place P3.hr q2' e3
            rw [← atN_same, ← t.length] at e4
            have Pn := Post.set P3.hr hp (t.set j q1')
            exact .inl ⟨_, vs, i, j, rfl, rfl, e5, e4, F3.nextP Pn (er3.mono Pn P3.hr)⟩
          · cases es
        · rename_i l e3
          split at es
          · rename_i hl
            cases es
            obtain ⟨hp, rfl, kvs, e5, ek, t⟩ := at_dict P3.hr q2' e3
            obtain ⟨z1, z2⟩ := put_rel (k := .inl i) q1' ek t
            have Pn := Post.setD P3.hr hp z1 z2
            have el := congrArg List.length ek
            simp only [List.length_map] at el
            exact .inr ⟨_, kvs, .inl i, rfl, rfl, e5, by rw [el, lim_line]; exact hl, F3.nextP Pn (er3.mono Pn P3.hr)⟩
          · cases es
        · cases es
      · rename_i p i e1 e2
        rw [e1] at q2'
        rw [e2] at q3'
        cases q3'
        split at es
        · rename_i l e3
          split at es
          · rename_i hl
            cases es
            obtain ⟨hp, rfl, kvs, e5, ek, t⟩ := at_dict P3.hr q2' e3
            obtain ⟨z1, z2⟩ := put_rel (k := .inr i) q1' ek t
            have Pn := Post.setD P3.hr hp z1 z2
            have el := congrArg List.length ek
            simp only [List.length_map] at el
            exact .inr ⟨_, kvs, .inr i, rfl, rfl, e5, by rw [el, lim_line]; exact hl, F3.nextP Pn (er3.mono Pn P3.hr)⟩
          · cases es
        · cases es
      · cases es
  · cases hc
theorem RS.put {K : PySem.W.Frag} {μ : Mu} {n : Nat} {H : Hp} {l : List (Option D)} {vs : List (Option V)} (q : RS K μ n H l vs) (i : Nat) {d : D} {v : V} (rd : RD K μ n H d v) :
    RS K μ n H ((l ++ List.replicate (i + 1 - l.length) none).set i (some d)) (SlX.putS i v vs) := by
  obtain ⟨a, b⟩ := q
  refine ⟨by unfold SlX.putS; simp [a], fun j d' e => ?_⟩
  by_cases hj : j = i
  · subst hj
    rw [List.getElem?_set_self (by simp only [List.length_append, List.length_replicate]; omega)] at e
    cases e
    exact ⟨v, SlX.putS_get _ _ _, rd⟩
  · rw [List.getElem?_set_ne (Ne.symm hj)] at e
    have e2 : l[j]? = some (some d') := by
      rcases Nat.lt_or_ge j l.length with z | z
      · rw [List.getElem?_append_left z] at e
        exact e
      · rw [List.getElem?_append_right z, List.getElem?_replicate] at e
        split at e <;> cases e
    obtain ⟨w, e3, e4⟩ := b j d' e2
    exact ⟨w, (SlX.putS_ne hj).mpr e3, e4⟩
theorem RS.map {K : PySem.W.Frag} {μ μ' : Mu} {n n' : Nat} {H H' : Hp} {l : List (Option D)} {vs : List (Option V)} (q : RS K μ n H l vs) (m : ∀ d v, RD K μ n H d v → RD K μ' n' H' d v) : RS K μ' n' H' l vs :=
  ⟨q.1, fun i d e => by
    obtain ⟨v, a, b⟩ := q.2 i d e
    exact ⟨v, a, m d v b⟩⟩
theorem ss_sst (c : Str) (i : Nat) (o e : E) : SS P Φ G k (.sst c i o e) := fun X W x gd hc => by
  simp only [chkS] at hc
  split at hc
  · rename_i o' n p' e' pos
    simp only [Bool.and_eq_true, Bool.or_eq_true] at hc
    obtain ⟨h1, h2, h3, h4⟩ := hc
    have A := (sound_e o X W o' gd.toGood h2).1
    have C := (sound_e e X W e' gd.toGood h3).1
    obtain ⟨pd, S1⟩ := gd.os.sl c n i h1
    have hC : P.hasC c = true := by
      obtain ⟨q, hq, e⟩ := List.any_eq_true.mp h1
      simp only [Bool.and_eq_true] at e
      exact List.any_eq_true.mpr ⟨q, hq, e.1⟩
    have xc := gd.os.cl c hC
    have hsw : swapsWith e' (some (.Attribute o' n p')) pos.line X.env = pure false := by cases e' <;> rfl
    refine PS_imp (ps_st A C xc.sc S1 hsw) fun D σ H q => ?_
    simp only [exec] at q
    obtain ⟨μ, g, h, hr, er, F⟩ := q
    refine ⟨μ, g, h, hr, er, F.bind fun r h1 v H1 μ1 P1 q1 F1 => ?_⟩
    have er1 := er.mono P1 hr
    refine ⟨μ1, g, h1, P1.hr, er1, F1.bind fun x h2 xv H2 μ2 P2 q2 F2 => ?_⟩
    have er2 := er1.mono P2 P1.hr
    have q1' := RD.mono P2 P1.hr _ _ q1.frz
    have q2' := q2.frz
    cases es : sstM c i x.frz r.frz h2 with
    | none => simp only [es] at F2; exact F2.elim
    | some hN =>
      simp only [es] at F2
      unfold sstM at es
      split at es
      · rename_i p e1
        rw [e1] at q2'
        split at es
        · rename_i c' l e3
          split at es
          · rename_i hcc
            subst hcc
            cases es
            obtain ⟨hp, rfl, dx, vs, e5, t0, t⟩ := at_obj P2.hr q2' e3
            have m1 := (RD.setm (u := SlX.SlO (μ2 p) (He.ga X.K c') dx (SlX.putS i v vs)) P2.hr hp).1
            have Pn := Post.setO P2.hr hp (o := .obj c' ((l ++ List.replicate (i + 1 - l.length) none).set i (some r.frz))) (u := SlX.SlO (μ2 p) (He.ga X.K c') dx (SlX.putS i v vs)) ⟨dx, _, upd_same, m1 _ _ t0, (t.put i q1').map m1⟩
            exact ⟨_, dx, vs, rfl, e5, (own_fz (v := v) t0).1, F2.nextP Pn (er2.mono Pn P2.hr)⟩
          · cases es
        · cases es
      · cases es
  · cases hc
theorem sst_fin {K : PySem.W.Frag} {μ : Mu} {h hN : Heap} {H : Hp} (hr : HR K μ h H) {c : Str} {i : Nat} {x d : D} {xv v : V} (q2 : RD K μ h.length H x xv) (q1 : RD K μ h.length H d v) (es : sstM c i x d h = some hN) :
    ∃ (a dx : Addr) (vs : List (Option V)), xv = .ref a ∧ H a = some (SlX.SlO a (He.ga K c) dx vs) ∧ Rd H dx (.xd []) ∧ Post K μ h H μ hN (upd H a (SlX.SlO a (He.ga K c) dx (SlX.putS i v vs))) := by
  unfold sstM at es
  split at es
  · rename_i p
    split at es
    · rename_i c' l e3
      split at es
      · rename_i hcc
        subst hcc
        cases es
        obtain ⟨hp, rfl, dx, vs, e5, t0, t⟩ := at_obj hr q2 e3
        have m1 := (RD.setm (u := SlX.SlO (μ p) (He.ga K c') dx (SlX.putS i v vs)) hr hp).1
        exact ⟨_, dx, vs, rfl, e5, (own_fz (v := v) t0).1, Post.setO hr hp (o := .obj c' ((l ++ List.replicate (i + 1 - l.length) none).set i (some d))) ⟨dx, _, upd_same, m1 _ _ t0, (t.put i q1).map m1⟩⟩
      · cases es
    · cases es
  · cases es
def RU : Rel Unit Unit := fun _ _ _ _ _ _ => True
def rSt (K : PySem.W.Frag) (W : XK) (m : List D → Env → Heap → Res Unit) : TGs := fun vs σ H Q => ∃ μ g h ds, HR K μ h H ∧ ER K μ h.length H g σ ∧ RDs K μ h.length H ds vs ∧ Fin K W RU μ h H (m ds g h) fun _ H' => Q σ H'
theorem pgs_sst {X : Cx} {W : XK} (gd : GoodF P Φ G k X W) : ∀ (ts : List (Str × Nat × E)) (es : List Expr), chkAs P X.N X.env.scope ts es = true → PGs X es (rSt X.K W (ssts Φ G ts))
  | [], es, hc => by
    cases es with
    | cons _ _ => simp [chkAs] at hc
    | nil =>
      refine PGs_imp pgs_nil fun vs σ H Q ⟨μ, g, h, ds, hr, er, q, F⟩ => ?_
      cases ds with
      | cons _ _ => exact F.elim
      | nil =>
        simp only [RDs] at q
        subst q
        exact ⟨rfl, F () H μ (Post.refl hr) trivial⟩
  | t :: ts, es, hc => by
    simp only [chkAs] at hc
    split at hc
    · rename_i o' n p' xs
      simp only [Bool.and_eq_true] at hc
      obtain ⟨h1, h2, h3⟩ := hc
      obtain ⟨pd, S1⟩ := gd.os.sl t.1 n t.2.1 h1
      have hC : P.hasC t.1 = true := by
        obtain ⟨q, hq, e⟩ := List.any_eq_true.mp h1
        simp only [Bool.and_eq_true] at e
        exact List.any_eq_true.mpr ⟨q, hq, e.1⟩
      have xc := gd.os.cl t.1 hC
      have A := (sound_e t.2.2 X W o' gd.toGood h2).1
      refine PGs_imp (pgs_cons (pg_st A xc.sc S1) (pgs_sst gd ts xs h3) (by rfl)) fun vs σ H Q ⟨μ, g, h, ds, hr, er, q, F⟩ => ?_
      cases ds with
      | nil => exact F.elim
      | cons d ds =>
        simp only [RDs] at q
        obtain ⟨w, r, rfl, q1, q2⟩ := q
        refine ⟨w, r, rfl, μ, g, h, hr, er, Fin.bind (ρ := RR X.K) F fun x h2 xv H2 μ2 P2 qx F2 => ?_⟩
        cases es : sstM t.1 t.2.1 x.frz d h2 with
        | none => simp only [es] at F2; exact F2.elim
        | some hN =>
          simp only [es] at F2
          have q1' := RD.mono P2 hr _ _ q1
          obtain ⟨a, dx, vs, rfl, e5, e6, Pn⟩ := sst_fin P2.hr qx.frz q1' es
          have PP := P2.trans Pn
          exact ⟨a, dx, vs, rfl, e5, e6, μ2, g, hN, ds, Pn.hr, er.mono PP hr, RDs.mono PP hr _ _ q2, F2.from PP (fun _ q => q)⟩
    · cases hc
theorem chkAs_each {N : List Str} {sc : Scope} (env : PySem.Env) : ∀ {ts : List (Str × Nat × E)} {es : List Expr}, chkAs P N sc ts es = true → (assignEach es env).length = ts.length ∧ (assignEach es env).findIdx? (·.1) = none
  | [], [], _ => ⟨rfl, rfl⟩
  | [], _ :: _, h => by simp [chkAs] at h
  | t :: ts, es, h => by
    simp only [chkAs] at h
    split at h
    · rename_i o' n p' xs
      simp only [Bool.and_eq_true] at h
      obtain ⟨a, b⟩ := chkAs_each env h.2.2
      have e : assignEach (.Attribute o' n p' :: xs) env = (false, PySem.assign (.Attribute o' n p') env) :: assignEach xs env := by rfl
      rw [e]
      refine ⟨by simp [a], ?_⟩
      simp only [List.findIdx?_cons, Bool.false_eq_true, if_false]
      rw [b]
      rfl
    · cases h
theorem ss_sstT (ts : List (Str × Nat × E)) (e : E) : SS P Φ G k (.sstT ts e) := fun X W x gd hc => by
  simp only [chkS] at hc
  split at hc
  · rename_i es kt pt e' pos
    simp only [Bool.and_eq_true, Bool.or_eq_true] at hc
    obtain ⟨h1, h2, h3, h4⟩ := hc
    have C := (sound_e e X W e' gd.toGood h2).1
    have hsw : swapsWithSole [.Tuple es kt pt] e' pos.line X.env = pure false := by
      rw [swB_ok gd.bk rfl h3]
      cases e' <;> rfl
    have hsn := swN_ok gd.bk rfl h4
    obtain ⟨a, b⟩ := chkAs_each X.env h1
    refine PS_imp (ps_asg C (pg_tup gd.calm (pgs_sst gd ts es h1) a b) hsw hsn rfl) fun D σ H q => ?_
    simp only [exec] at q
    obtain ⟨μ, g, h, hr, er, F⟩ := q
    refine ⟨μ, g, h, hr, er, F.bind fun r h1 v H1 μ1 P1 q1 F1 => ?_⟩
    have er1 := er.mono P1 hr
    have q1' := q1.frz
    cases c : r.frz with
    | tup l =>
      rw [c] at F1 q1'
      simp only at F1
      split at F1
      · rename_i hl
        simp only [RD] at q1'
        obtain ⟨ad, vs, rfl, s, t⟩ := q1'
        refine ⟨ad, vs, rfl, s, by rw [t.length, hl], μ1, g, h1, l, P1.hr, er1, t, FinF.bind F1 fun u h2 _ H2 μ2 P2 _ F2 => ?_⟩
        exact F2.next P2.hr (er1.mono P2 P1.hr)
      · exact F1.elim
    | _ => rw [c] at F1; exact F1.elim
  · cases hc
-- o[i], by values
def POr (t u : V → V → Hp → VK → Prop) : V → V → Hp → VK → Prop := fun x y H Q => t x y H Q ∨ u x y H Q
theorem pget_list {X : Cx} : PGet X (rIxL X.K) := by
  intro pins s σ H o i ov iv Q I ro ri h
  obtain ⟨p, xs, n, z, rfl, rfl, sq, at_, q⟩ := h
  cases ro
  obtain ⟨tk, rfl⟩ := ri
  obtain ⟨its, rel, pl, _⟩ := I.list sq
  obtain ⟨j, a1, a2, a3, a4, a5⟩ := atI_get at_
  obtain ⟨w, ew, rw'⟩ := rel.get a2
  have el := rel.length
  have l63 := line63
  have ok : EP X pins σ Q w s := ⟨z, H, I, rw', q⟩
  by_cases n0 : 0 ≤ n
  · have ej : n.toNat = j := by
      rw [seqIndex_of n0 a5] at a1
      injection a1
    exact wpAny_getItem_list pl.isList n0 (by omega) (by rw [ej]; simpa using ew) ok
  · have ej : (n + (its.toArray.size : Int)).toNat = j := by
      rw [seqIndex_neg (by omega) a4] at a1
      rw [List.size_toArray, ← el]
      injection a1
    exact wpAny_getItem_list_neg pl.isList (by omega) (by rw [List.size_toArray]; omega) (by omega) (by rw [ej]; simpa using ew) ok
theorem pget_tup {X : Cx} : PGet X (rIxT X.K) := by
  intro pins s σ H o i ov iv Q I ro ri h
  obtain ⟨p, xs, n, z, rfl, rfl, sq, at_, q⟩ := h
  cases ro
  obtain ⟨tk, rfl⟩ := ri
  obtain ⟨its, rel, pl, _⟩ := I.tuple sq
  obtain ⟨j, a1, a2, a3, a4, a5⟩ := atI_get at_
  obtain ⟨w, ew, rw'⟩ := rel.get a2
  have el := rel.length
  have l63 := line63
  exact getItem_tuple (j := j) pl (by omega) (by omega) (by rw [List.size_toArray, ← el]; exact a1) (by simpa using ew) ⟨z, H, I, rw', q⟩
theorem pget_all {X : Cx} (hu : X.A.units + 1 < cLine) : PGet X (fun x y H Q => (rIxL X.K x y H Q ∨ rIxT X.K x y H Q) ∨ ∃ a v, x = .ref a ∧ DGet H a y (some v) ∧ Q v H) := by
  intro pins s σ H o i ov iv Q I ro ri h
  rcases h with (h | h) | ⟨a, v, rfl, g, q⟩
  · exact pget_list pins s σ H o i ov iv Q I ro ri h
  · exact pget_tup pins s σ H o i ov iv Q I ro ri h
  · obtain rfl : ov = Value.ref a := ro
    exact d_getItem hu I g ri fun w' s3 I3 rw' => ⟨v, H, I3, rw', q⟩
theorem ss_augix (op : BOp) (o i e : E) : SS P Φ G k (.augix op o i e) := fun X W x gd hc => by
  simp only [chkS] at hc
  split at hc
  · rename_i o' k' p po e' pos
    simp only [Bool.and_eq_true, Bool.or_eq_true, beq_iff_eq] at hc
    obtain ⟨h1, h2, h3, ho, hop⟩ := hc
    have A := (sound_e o X W o' gd.toGood h1).1
    have B := (sound_e i X W k' gd.toGood h2).1
    have C := (sound_e e X W e' gd.toGood h3).1
    have hu : X.A.units + 1 < cLine := by have := gd.un; omega
    have hsh := chk_shape h2
    refine PS_imp (ps_augS A B (pget_all hu) C (aug_int ho hop) (PSet.or set_list (set_dict hu)) (by intros; cases k' <;> first | rfl | cases hsh)) fun D σ H q => ?_
    simp only [exec] at q
    obtain ⟨μ, g, h, hr, er, F⟩ := q
    refine ⟨μ, g, h, hr, er, F.bind fun x h2 xv H2 μ2 P2 q2 F2 => ?_⟩
    have er2 := er.mono P2 hr
    refine ⟨μ2, g, h2, P2.hr, er2, F2.bind fun y h3 yv H3 μ3 P3 q3 F3 => ?_⟩
    have er3 := er2.mono P3 P2.hr
    have q2a := RD.mono P3 P2.hr _ _ q2.frz
    refine ix_rel (W := W) P3.hr q2a q3.frz (FinF.bind F3 fun z h4 zv H4 μ4 P4 q4 F4 => ?_)
    have er4 := er3.mono P4 P3.hr
    have q2b := RD.mono P4 P3.hr _ _ q2a
    have q3b := RD.mono P4 P3.hr _ _ q3.frz
    refine ⟨μ4, g, h4, P4.hr, er4, F4.bind fun r h5 v H5 μ5 P5 q1 F5 => ?_⟩
    have er5 := er4.mono P5 P4.hr
    have q2' := RD.mono P5 P4.hr _ _ q2b
    have q3' := RD.mono P5 P4.hr _ _ q3b
    have q4' := RD.mono P5 P4.hr _ _ q4.frz
    cases ea : augD op z.frz r.frz with
    | none => simp only [ea] at F5; exact F5.elim
    | some dn =>
      simp only [ea] at F5
      obtain ⟨a1, b1, c1, e1, e2, rfl⟩ := augD_int ea
      have q5 := q1.frz
      rw [e1] at q4' ea
      rw [e2] at q5 ea
      cases q4'
      cases q5
      refine ⟨a1, b1, c1, rfl, rfl, ea, ?_⟩
      have q1' : RD X.K μ5 h5.length H5 (.int c1) (.int c1) := rfl
      cases es : setM x.frz y.frz (.int c1) h5 with
      | none => simp only [es] at F5; exact F5.elim
      | some hN =>
        simp only [es] at F5
        unfold setM at es
        split at es
        · rename_i p i e1 e2
          rw [e1] at q2'
          rw [e2] at q3'
          cases q3'
          split at es
          · rename_i l e3
            split at es
            · rename_i j e4
              cases es
              obtain ⟨hp, rfl, vs, e5, t⟩ := at_place P5.hr q2' e3
              rw [← atN_same, ← t.length] at e4
              have Pn := Post.set P5.hr hp (t.set j q1')
              exact .inl ⟨_, vs, i, j, rfl, rfl, e5, e4, F5.nextP Pn (er5.mono Pn P5.hr)⟩
            · cases es
          · rename_i l e3
            split at es
            · rename_i hl
              cases es
              obtain ⟨hp, rfl, kvs, e5, ek, t⟩ := at_dict P5.hr q2' e3
              obtain ⟨z1, z2⟩ := put_rel (k := .inl i) q1' ek t
              have Pn := Post.setD P5.hr hp z1 z2
              have el := congrArg List.length ek
              simp only [List.length_map] at el
              exact .inr ⟨_, kvs, .inl i, rfl, rfl, e5, by rw [el, lim_line]; exact hl, F5.nextP Pn (er5.mono Pn P5.hr)⟩
            · cases es
          · cases es
        · rename_i p i e1 e2
          rw [e1] at q2'
          rw [e2] at q3'
          cases q3'
          split at es
          · rename_i l e3
            split at es
            · rename_i hl
              cases es
              obtain ⟨hp, rfl, kvs, e5, ek, t⟩ := at_dict P5.hr q2' e3
              obtain ⟨z1, z2⟩ := put_rel (k := .inr i) q1' ek t
              have Pn := Post.setD P5.hr hp z1 z2
              have el := congrArg List.length ek
              simp only [List.length_map] at el
              exact .inr ⟨_, kvs, .inr i, rfl, rfl, e5, by rw [el, lim_line]; exact hl, F5.nextP Pn (er5.mono Pn P5.hr)⟩
            · cases es
          · cases es
        · cases es
  · cases hc
end
end MP

/-! MP.Snd15: loops; all statements. -/
namespace MP
open PySem PySem.Spec PyProof.Rows L2

section
variable {P : PInfo} {Φ : Nat → List D → Heap → Res R} {G : Nat → Option D} {k : Nat}
theorem rd_for {K : PySem.W.Frag} {W : XK} {σ : L2.St} {H : Hp} {D : Ends} {mi : Env → Heap → Res Items} {tg : Tg} {mb : Env → Heap → Res Fl}
    (q : rF K W (fun g h => bd (mi g h) fun its h => forGo its (forF tg mb) its.1 g h) D σ H) : tFor (rd K W (RI K) mi) (rG K tg) (rF K W mb) D σ H := by
  refine rF_bind (ρ := RI K) (k := fun g its h => forGo its (forF tg mb) its.1 g h) q fun μ1 g h1 H1 its J H0 hr er wd F => ?_
  refine ⟨fun i m σc Hc => m = its.1.length - i ∧ i ≤ its.1.length ∧ ∃ μ2 h2 g2, Post K μ1 h1 H1 μ2 h2 Hc ∧ ER K μ2 h2.length Hc g2 σc ∧ still its h2 = true ∧ FinF K W μ2 h2 Hc (forGo its (forF tg mb) (its.1.drop i) g2 h2) D,
    ⟨its.1.length, by simp, Nat.zero_le _, μ1, h1, g, Post.refl hr, er, wd.2, by simpa using F⟩, ?_⟩
  rintro i m σc Hc ⟨rfl, hi, μ2, h2, g2, P2, er2, st2, F2⟩
  obtain ⟨wgo, wstop, wyld⟩ := wd.1 μ2 h2 Hc P2 st2
  by_cases hlt : i < its.1.length
  · right
    refine ⟨wgo i hlt, fun σ' H' => i + 1 ≤ its.1.length ∧ ∃ μ2 h2 g2, Post K μ1 h1 H1 μ2 h2 H' ∧ ER K μ2 h2.length H' g2 σ' ∧ still its h2 = true ∧ FinF K W μ2 h2 H' (forGo its (forF tg mb) (its.1.drop (i + 1)) g2 h2) D,
      fun σ' H' q => ⟨its.1.length - (i + 1), by omega, rfl, q⟩, fun x H3 y => ?_⟩
    obtain ⟨d, e1, P3, qd⟩ := wyld i x H3 hlt y
    have edrop : its.1.drop i = d :: its.1.drop (i + 1) := by
      rw [List.drop_eq_getElem_cons hlt]
      congr 1
      rw [List.getElem?_eq_getElem hlt] at e1
      exact Option.some.inj e1
    rw [edrop] at F2
    simp only [forGo] at F2
    cases ea : MP.assign tg d g2 with
    | none =>
      simp only [forF, ea] at F2
      exact F2.elim
    | some g3 =>
      simp only [forF, ea] at F2
      have F3 := FinF.from F2 P3
      refine ⟨μ2, h2, g2, d, g3, P3.hr, er2.mono P3 P2.hr, qd, ea, fun σ3 er3 _ _ => ⟨μ2, g3, h2, P3.hr, er3, ?_⟩⟩
      cases eb : mb g3 h2 with
      | none => rw [eb] at F3; exact F3
      | some o =>
        rw [eb] at F3
        cases o with
        | exc _ _ => exact F3
        | ok fl h4 =>
          simp only [bd_ok] at F3
          cases fl with
          | nx g4 =>
            intro σ' H' μ' P' er'
            simp only at F3
            split at F3
            · rename_i st4
              exact ⟨hlt, μ', h4, g4, (P2.trans P3).trans P', er', st4, FinF.from F3 P'⟩
            · exact F3.elim
          | ct g4 =>
            intro σ' H' μ' P' er'
            simp only at F3
            split at F3
            · rename_i st4
              exact ⟨hlt, μ', h4, g4, (P2.trans P3).trans P', er', st4, FinF.from F3 P'⟩
            · exact F3.elim
          | bk g4 => exact fun σ' H' μ' P' er' => F3 σ' H' μ' P' er'
          | rt r => exact F3
  · left
    have e0 : i = its.1.length := by omega
    subst e0
    rw [List.drop_length] at F2
    exact ⟨wstop, F2.next P2.hr er2⟩
theorem ss_for (tg : Tg) (it : I) (body : List St) (hb : SSs P Φ G k body) : SS P Φ G k (.for_ tg it body) := fun X W x gd hc => by
  simp only [chkS] at hc
  split at hc
  · rename_i tg' it' body' pos
    simp only [Bool.and_eq_true] at hc
    obtain ⟨h1, h2, h3, h4⟩ := hc
    have hT : tupI it = true → isTupE tg' = true := fun z => by
      rw [z] at h4
      simpa using h4
    refine PS_imp (ps_for gd.own gd.calm (sound_i it X W tg' it' gd.toGood h2 hT) (pg_of gd.T tg tg' h1) (hb X W body' gd h3) (fun x => by
        cases it with
        | of e => exact shape_iter (chk_shape (by simpa only [chkI] using h2)) _ _
        | _ =>
          simp only [chkI] at h2
          split at h2
          · rfl
          · cases h2)) fun D σ H q => rd_for ?_
    have e : exec Φ G (.for_ tg it body) = fun g h => bd (items Φ G it g h) fun its h => forGo its (forF tg (execs Φ G body)) its.1 g h := by
      funext g h
      simp only [exec]
    rw [e] at q
    exact q
  · cases hc
theorem while_some {c : Env → Heap → Res Bool} {f : Env → Heap → Res Fl} {g : Env} {h : Heap} : whileD c f g h = none ∨ ∃ n, whileD c f g h = whileGo c f n g h := by
  unfold whileD
  split
  · rename_i q
    exact .inr ⟨_, q.choose_spec.choose_spec.symm⟩
  · exact .inl rfl
theorem ss_while (c : E) (body : List St) (hb : SSs P Φ G k body) : SS P Φ G k (.while_ c body) := fun X W x gd hc => by
  simp only [chkS] at hc
  split at hc
  · rename_i c' body' pos
    simp only [Bool.and_eq_true] at hc
    refine PS_imp (ps_while gd.own (sound_e c X W c' gd.toGood hc.1).2 (hb X W body' gd hc.2)) fun D σ H ⟨μ, g, h, hr, er, F⟩ => ?_
    have e : exec Φ G (.while_ c body) = fun g h => whileD (tst (eval Φ G c)) (execs Φ G body) g h := by
      funext g h
      simp only [exec]
    rw [e] at F
    simp only at F
    rcases while_some (c := tst (eval Φ G c)) (f := execs Φ G body) (g := g) (h := h) with z | ⟨n, z⟩
    · rw [z] at F
      exact F.elim
    rw [z] at F
    refine ⟨fun m σ H => ∃ μ g h, HR X.K μ h H ∧ ER X.K μ h.length H g σ ∧ FinF X.K W μ h H (whileGo (tst (eval Φ G c)) (execs Φ G body) m g h) D, ⟨n, μ, g, h, hr, er, F⟩, ?_⟩
    rintro m σ1 H1 ⟨μ1, g1, h1, hr1, er1, F1⟩
    cases m with
    | zero => exact F1.elim
    | succ m =>
      simp only [whileGo] at F1
      refine ⟨μ1, g1, h1, hr1, er1, F1.bind fun b h2 b' H2 μ2 P2 q2 F2 => ?_⟩
      cases q2
      have er2 := er1.mono P2 hr1
      cases b with
      | false =>
        refine iteF ?_
        simp only [Bool.false_eq_true, if_false] at F2
        exact F2.next P2.hr er2
      | true =>
        refine iteT ⟨fun σ' H' => ∃ μ g h, HR X.K μ h H' ∧ ER X.K μ h.length H' g σ' ∧ FinF X.K W μ h H' (whileGo (tst (eval Φ G c)) (execs Φ G body) m g h) D, fun σ' H' q => ⟨m, by omega, q⟩, μ2, g1, h2, P2.hr, er2, ?_⟩
        simp only [if_true] at F2
        cases eb : execs Φ G body g1 h2 with
        | none => rw [eb] at F2; exact F2
        | some o =>
          rw [eb] at F2
          cases o with
          | exc _ _ => exact F2
          | ok fl h4 =>
            simp only [bd_ok] at F2
            cases fl with
            | nx g4 => exact fun σ' H' μ' P' er' => ⟨μ', g4, h4, P'.hr, er', FinF.from F2 P'⟩
            | ct g4 => exact fun σ' H' μ' P' er' => ⟨μ', g4, h4, P'.hr, er', FinF.from F2 P'⟩
            | bk g4 => exact fun σ' H' μ' P' er' => F2 σ' H' μ' P' er'
            | rt r => exact F2
  · cases hc

theorem ss_raise (y : Str) (f : Option Str) (e : E) : SS P Φ G k (.raise_ y f e) := fun X W x gd hc => by
  simp only [chkS] at hc
  split at hc
  · rename_i n p a' p2 pos
    simp only [Bool.and_eq_true, decide_eq_true_eq, List.contains_iff_mem] at hc
    obtain ⟨rfl, h1, h2, h3⟩ := hc
    obtain ⟨hg, hdb, hn⟩ := gloB_ok h2
    have hs := shape_star (chk_shape h3) [] X.env
    obtain ⟨ns, s1, s2⟩ := gd.xs.rs n f h1
    have rs : Raises X (.ref (He.ga X.K n)) := raises_own s1 s2
    cases f with
    | some f =>
      obtain ⟨own, ⟨b, T⟩, _, _⟩ := gd.xs.mx n f h1
      refine PS_imp (ps_raise gd.calm gd.tk (pmk_X (k := k - 1) T own.mga own.kp rs hg (by rw [Nat.sub_add_cancel gd.pos]; exact gd.room.rm) (sound_e e X W a' gd.toGood h3).1 hs hdb)) fun D σ H q => ?_
      have e0 : exec Φ G (.raise_ n (some f) e) = fun g h => bd (eval Φ G e g h) fun r h => some (.exc ⟨n, [(f, r.frz)]⟩ h) := by
        funext g h
        simp only [exec]
      rw [e0] at q
      refine rF_bind (ρ := RR X.K) (k := fun g r h => some (.exc ⟨n, [(f, r.frz)]⟩ h)) q fun μ1 g h1 H1 r v H0 hr er q1 F => ?_
      intro dx e2
      have P1 := Post.new (o := .xd [(f, v)]) hr e2
      refine F _ _ _ μ1 P1 ⟨_, ns, rfl, .inr ⟨dx, [(f, v)], rfl, upd_same, fun f' dv hm => ?_⟩⟩
      simp only [List.mem_singleton, Prod.mk.injEq] at hm
      obtain ⟨rfl, rfl⟩ := hm
      exact ⟨v, by simp [List.lookup], RD.mono P1 hr _ _ q1.frz⟩
    | none =>
      obtain ⟨own, T⟩ := gd.xs.mm n h1
      refine PS_imp (ps_raise gd.calm gd.tk (SkE.pmk_own1 PySem.F.excBase_ValueError T own.mga own.kp rs hg (sound_e e X W a' gd.toGood h3).1 hs hdb)) fun D σ H q => ?_
      have e0 : exec Φ G (.raise_ n none e) = fun g h => bd (eval Φ G e g h) fun r h => some (.exc ⟨n, []⟩ h) := by
        funext g h
        simp only [exec]
      rw [e0] at q
      refine rF_bind (ρ := RR X.K) (k := fun g r h => some (.exc ⟨n, []⟩ h)) q fun μ1 g h1 H1 r v H0 hr er q1 F => ?_
      exact F _ _ _ μ1 (Post.refl hr) ⟨_, ns, rfl, .inl rfl⟩
  · cases hc
mutual
theorem sound_s : ∀ s : St, SS P Φ G k s
  | .asg tg e => ss_asg tg e
  | .par is es => ss_par is es
  | .aug i op e => ss_aug i op e
  | .setix o i e => ss_setix o i e
  | .sst c i o e => ss_sst c i o e
  | .sstT ts e => ss_sstT ts e
  | .augix op o k e => ss_augix op o k e
  | .expr e => ss_expr e
  | .ret e => ss_ret e
  | .ret0 => ss_ret0
  | .if_ c a b => ss_if c a b (sound_ss a) (sound_ss b)
  | .for_ tg it body => ss_for tg it body (sound_ss body)
  | .while_ c body => ss_while c body (sound_ss body)
  | .pass => ss_pass
  | .brk => ss_brk
  | .cont => ss_cont
  | .raise_ y f e => ss_raise y f e
  | .never => fun X W x gd hc => PS_imp ps_never fun D σ H ⟨μ, g, h, hr, er, F⟩ => by
    simp only [exec] at F
    exact F
theorem sound_ss : ∀ ss : List St, SSs P Φ G k ss
  | [] => sss_nil
  | s :: ss => sss_cons s ss (sound_s s) (sound_ss ss)
end
end
end MP

/-! MP.Snd17: every def of the table does what the evaluator says. -/
namespace MP
open PySem PySem.Spec PyProof.Rows L2

-- lambdas of the def qual that stands at a: its code object's table
def LamAt (K : PySem.W.Frag) (a : Addr) (qual : Str) : Prop := ∃ (oc : Value) (od : Option Addr) (fd : FuncData) (osl : Array (Option Value)) (c Pt : Addr),
  K.lookup a = some ⟨oc, od, .func fd, osl⟩ ∧ fd.code = .ref c ∧ (c, Pt, qual) ∈ ctabs K ∧ ∀ q ∈ tabs K, q.1 = Pt → q.2 = lamN qual
-- a def of the text that is this def of the table
structure DefC (P : PInfo) (K : PySem.W.Frag) (d : Def) (a : Addr) (fd : FuncData) (ps : List Str) : Prop where
  binds : Binds K fd ps []
  np : d.np = ps.length
  fn : ∃ (nm qual : Str) (st : Stmt) (N : List Str), C8.Fun K nm qual st a fd ∧ FnScope N ps (C8.fnScope st) ∧ d.nl = N.length ∧ chkSs P N (C8.fnScope st) d.body (C8.fnBody st) = true ∧ (P.lam = true → LamAt K a qual)
structure DefAt (P : PInfo) (K : PySem.W.Frag) (mg : Str → Option Value) (x : Str) (d : Def) (fd : FuncData) (ps : List Str) : Prop extends DefC P K d (He.ga K x) fd ps where
  mga : mg x = some (.ref (He.ga K x))
  keep : PySem.W.keepIn K (.ref (He.ga K x)) = true
-- a def of a class
structure MthAt (P : PInfo) (K : PySem.W.Frag) (c m : Str) (b : Bool) (d : Def) (a : Addr) (fd : FuncData) (ps : List Str) : Prop extends DefC P K d a fd ps where
  hm : if b = true then Prop1 K (He.ga K c) m a else Meth K (He.ga K c) m a
structure World (P : PInfo) (T : Tab) (K : PySem.W.Frag) (mg : Str → Option Value) : Prop where
  blt : ∀ x ∈ blts, mg x = none
  glob : ∀ (i : Nat) (x : Str) (d : D), P.globs[i]? = some (x, d) → T.globs[i]? = some d ∧ ∃ v u, mg x = some u ∧ RelV v u ∧ RG d v
  defs : ∀ (f : Nat) (x : Str), P.names[f]? = some x → ∃ d fd ps, T.defs[f]? = some d ∧ DefAt (P.wl (P.lams.contains x)) K mg x d fd ps
  mths : ∀ (f : Nat) (c m : Str) (b : Bool), P.methB c m b f = true → ∃ d a fd ps, T.defs[f]? = some d ∧ MthAt (P.wl false) K c m b d a fd ps
  os : CFacts P K mg
  mets : ∀ x m, (x, m) ∈ P.mets → MetOk K mg x m

section
variable {P : PInfo} {T : Tab} {prog : Program} {w : PySem.World} {K : PySem.W.Frag} {mg : Str → Option Value} {base : PySem.Heap}
theorem start_er {μ : Mu} {n : Nat} {H : Hp} {d : Def} {ds : List D} {vs : List V} {N : List Str} (q : RDs K μ n H ds vs) (hN : d.nl = N.length) : ER K μ n H (MP.start d ds) (L2.start N vs) := by
  unfold MP.start L2.start
  refine ⟨by simp [q.length, hN], fun i x e => ?_⟩
  have hl := q.length
  rcases Nat.lt_or_ge i ds.length with hi | hi
  · rw [List.getElem?_append_left (by simpa using hi), List.getElem?_map] at e
    cases c : ds[i]? with
    | none => rw [c] at e; cases e
    | some y =>
      rw [c] at e
      cases e
      obtain ⟨v, e1, e2⟩ := q.get i _ c
      refine ⟨v, ?_, e2⟩
      rw [List.getElem?_append_left (by simp; omega), List.getElem?_map, e1]
      rfl
  · rw [List.getElem?_append_right (by simpa using hi), List.getElem?_replicate] at e
    split at e <;> cases e
theorem callI_some {k f : Nat} {ds : List D} {h : Heap} (e : callI T k f ds h ≠ none) : ∃ d, T.defs[f]? = some d ∧ ds.length = d.np := by
  cases k with
  | zero => exact absurd rfl e
  | succ k =>
    simp only [callI] at e
    cases c : T.defs[f]? with
    | none => rw [c] at e; exact absurd rfl e
    | some d =>
      rw [c] at e
      simp only at e
      split at e
      · exact ⟨d, rfl, by assumption⟩
      · exact absurd rfl e
theorem good_at (wd : World P T K mg) {k : Nat} (ih : ∀ (f : Nat) (d : Def) (a : Addr) (fd : FuncData) (ps : List Str) (b : Bool), T.defs[f]? = some d → DefC (P.wl b) K d a fd ps → FnG prog w K mg base (L2.CX prog w) (4 * k + 1) a (spI K ps.length (callI T k f)))
    (xs : XFacts P prog K mg) (b : Bool) {X : Cx} {W : XK} (nd : X.N.Nodup) (calm : X.calm = true) (room : GRoom (4 * k + 1 + 3) X.A) (tk : Takes X (fun c d _ H => W c d H)) (e1 : X.prog = prog) (e2 : X.w = w) (e3 : X.K = K) (e4 : X.mg = mg) (e5 : X.base = base)
    (lam : b = true → ∃ c Pt, X.env.code = .ref c ∧ LamX.TabB X.base X.mg c Pt ∧ (Pt, X.env.qual ++ "<lambda>") ∈ tabs X.K ∧ ∀ q ∈ tabs X.K, q.1 = Pt → q.2 = X.env.qual ++ "<lambda>") : Good (P.wl b) (callI T k) T.get (4 * k + 1) X W where
  pos := Nat.succ_pos _
  xs := by rw [e1, e3, e4]; exact ⟨xs.mx, xs.mm, xs.is_, xs.rs⟩
  os := by rw [e3, e4]; exact ⟨wd.os.cl, wd.os.sl, wd.os.is_, wd.os.mc⟩
  mets := by rw [e3, e4]; exact wd.mets
  nd := nd
  calm := calm
  room := room.mono (by omega)
  room2 := room.mono (by omega)
  tk := tk
  lam := fun z => by
    obtain ⟨c, Pt, h1, h2, h3, h4⟩ := lam z
    exact ⟨c, Pt, h1, h2, h3, h4, room⟩
  blt := fun x hx => by rw [e4]; exact wd.blt x hx
  glob := fun i x d e => by rw [e4]; exact wd.glob i x d e
  fns := fun f x e => by
    obtain ⟨d, fd, ps, ed, da⟩ := wd.defs f x e
    subst e1 e2 e3 e4 e5
    refine ⟨ps.length, da.mga, da.keep, ih f d _ fd ps _ ed da.toDefC, fun ds h q => ?_⟩
    obtain ⟨d', ed', el⟩ := callI_some q
    rw [ed] at ed'
    cases ed'
    rw [el, da.np]
  mths := fun f c m b e => by
    obtain ⟨d, a, fd, ps, ed, da⟩ := wd.mths f c m b e
    subst e1 e2 e3 e4 e5
    refine ⟨a, ps.length, da.hm, ih f d a fd ps _ ed da.toDefC, fun ds h q => ?_⟩
    obtain ⟨d', ed', el⟩ := callI_some q
    rw [ed] at ed'
    cases ed'
    rw [el, da.np]
theorem fns_ok (wd : World P T K mg) (xs : XFacts P prog K mg) (tb : ∀ q ∈ ctabs K, LamX.TabB base mg q.1 q.2.1) : ∀ (k f : Nat) (d : Def) (a : Addr) (fd : FuncData) (ps : List Str) (b : Bool), T.defs[f]? = some d → DefC (P.wl b) K d a fd ps →
    FnG prog w K mg base (L2.CX prog w) (4 * k + 1) a (spI K ps.length (callI T k f))
  | 0, f, d, a, fd, ps, _, _, _ => fun A outer s H us vs Q E _ _ _ q => by
    obtain ⟨_, μ, h, ds, _, _, F⟩ := q
    exact F.elim
  | k + 1, f, d, a, fd, ps, b, ed, da => by
    obtain ⟨nm, qual, st, N, F, S, hN, hch, hlam⟩ := da.fn
    obtain ⟨oc, od, dV, kV, doc, pm, an, cdv, ct, osl, rfl, lk, hcd⟩ := F.ex
    refine fn_ofG (k := 4 * k + 1 + 3) lk hcd S da.binds (fun vs H Q E q => q.1) fun A outer s H vs Q E hr hsp => ?_
    obtain ⟨hlen, μ, h, ds, hhr, rds, Fi⟩ := hsp
    let X := cxOf (L2.CX prog w) prog w K mg base N qual (C8.fnScope st) a cdv A outer s H E
    have lam : b = true → ∃ c Pt, X.env.code = .ref c ∧ LamX.TabB X.base X.mg c Pt ∧ (Pt, X.env.qual ++ "<lambda>") ∈ tabs X.K ∧ ∀ q ∈ tabs X.K, q.1 = Pt → q.2 = X.env.qual ++ "<lambda>" := fun hb => by
      obtain ⟨oc', od', fd', osl', c, Pt, l1, l2, l3, l4⟩ := hlam hb
      rw [lk] at l1
      cases l1
      exact ⟨c, Pt, l2, tb _ l3, List.mem_map.mpr ⟨_, l3, rfl⟩, l4⟩
    have gd : GoodF (P.wl b) (callI T k) T.get (4 * k + 1) X E :=
      { toGood := good_at wd (fun f d a fd ps b => fns_ok wd xs tb k f d a fd ps b) xs b S.nd rfl hr (takes_of rfl rfl rfl rfl) rfl rfl rfl rfl rfl lam
        kind := S.kind
        fnc := fun _ => rfl
        own := passes_of rfl }
    refine ⟨rF K E (execs (callI T k) T.get d.body), sound_ss d.body X E _ gd hch, μ, MP.start d ds, h, hhr, start_er rds hN, ?_⟩
    have hl : ds.length = d.np := by rw [← rds.length, hlen, da.np]
    simp only [callI, ed, if_pos hl] at Fi
    unfold endI at Fi
    cases c : execs (callI T k) T.get d.body (MP.start d ds) h with
    | none => rw [c] at Fi; exact Fi.elim
    | some o =>
      rw [c] at Fi
      cases o with
      | exc y h1 => exact fun cv dv H' μ' P' q => Fi cv dv H' μ' P' q
      | ok fl h1 =>
        cases fl with
        | rt r => exact fun v H' μ' P' q => gc_ok hhr P' q Fi
        | nx g => exact fun σ H' μ' P' _ => gc_ok hhr P' (show RR K μ' h1 H H' (.v .non) .non from rfl) Fi
        | bk g => exact Fi.elim
        | ct g => exact Fi.elim
end
end MP

/-! MP.Snd18: a law's end. -/
namespace MP
open PySem PySem.Spec PyProof.Rows L2

/-! ### the module's own exceptions, asked of the written part -/
def bodyX (f : Str) (l : List Stmt) : Bool := match l with
  | [.Expr (.Call (.Attribute (.Call (.Name s p0) [] [] p1) a p2) [.Name x p3] [] p4) p5, .Assign [.Attribute (.Name t q0) g q1] (.Name y q2) q3] => ((decide (s = ("super" : Str)) && decide (a = ("__init__" : Str))) && (decide (x = f) && decide (t = ("self" : Str)))) && ((decide (g = f) && decide (y = f)) && (p2.endLine == p4.line))
  | _ => false
theorem bodyX_ok {f : Str} {l : List Stmt} (h : bodyX f l = true) : ∃ p0 p1 p2 p3 p4 p5 q0 q1 q2 q3 : Pos, l = xbody f p0 p1 p2 p3 p4 p5 q0 q1 q2 q3 ∧ (p2.endLine == p4.line) = true := by
  unfold bodyX at h
  split at h
  · simp only [Bool.and_eq_true, decide_eq_true_eq] at h
    obtain ⟨⟨⟨rfl, rfl⟩, rfl, rfl⟩, ⟨rfl, rfl⟩, h⟩ := h
    exact ⟨_, _, _, _, _, _, _, _, _, _, rfl, h⟩
  · cases h
def parX (f : Str) (p : Arguments) : Bool := match p with
  | ⟨[], [a, b], none, [], [], none, []⟩ => decide (a.arg = ("self" : Str)) && decide (b.arg = f)
  | _ => false
theorem bind_X {fd : FuncData} {f : Str} (hp : parX f fd.params = true) (hd : fd.defaults = .none) (ne : f ≠ ("self" : Str)) (u0 u1 : Value) : bindArgs fd ⟨[u0, u1], []⟩ = pure [(("self" : Str), u0), (f, u1)] := by
  obtain ⟨nm, qn, par, bd, sc, gl, cl, df, kd, doc, pm, an, cd, ct, bl⟩ := fd
  simp only at hp hd
  subst hd
  unfold parX at hp
  split at hp
  · rename_i a b
    simp only [Bool.and_eq_true, decide_eq_true_eq] at hp
    obtain ⟨e1, e2⟩ := hp
    have n1 : (f == ("self" : Str)) = false := beq_eq_false_iff_ne.mpr ne
    have sq : seqItems? Value.none = pure none := rfl
    simp [bindArgs, e1, e2, n1, List.lookup, sq]
  · cases hp
def eqT {α : Type} [DecidableEq α] (a b : α) : Bool := decide (a = b)
theorem eqT_ok {α : Type} [DecidableEq α] {a b : α} (h : eqT a b = true) : a = b := of_decide_eq_true h
def and2 {a b : Bool} (h : (a && b) = true) : a = true ∧ b = true := Bool.and_eq_true_iff.mp h
def scX (f : Str) (sc : Scope) : Bool := (sc.names.all fun x => !(x.2 == .cell)) && ((eqT (sc.names.lookup ("self" : Str)) (some .local) && (eqT (sc.names.lookup f) (some .local) && (eqT (sc.names.lookup ("super" : Str)) (some .globalImplicit) && eqT (sc.names.lookup ("__class__" : Str)) (some .free)))) &&
  (sc.kind == .function && (!sc.isCoroutine && !sc.isGenerator)))
def fnX (prog : Program) (K : PySem.W.Frag) (C : Addr) (f : Str) (fd : FuncData) : Bool := match fd.closure, fd.code, fd.body with
  | [(n, cc)], .ref cda, .stmts body => (decide (n = ("__class__" : Str)) && (PySem.W.codeIn K fd.code fd.qualname && (bodyX f body && (decide (fd.globals = mainGlobals) && decide (fd.builtins = builtinsNs))))) &&
    (((match K.lookup cc with
      | some ⟨_, _, .cell (some (.ref c)), _⟩ => decide (c = C)
      | _ => false) && (match K.lookup cda with
      | some ⟨_, _, .fields vs, _⟩ => (match (vs[2]? : Option Value) with
        | some (Value.str file _) => (prog.main.file : Str) == file
        | _ => false)
      | _ => false)) && (scX f fd.scope && (parX f fd.params && eqT fd.defaults .none)))
  | _, _, _ => false
theorem parX_ar {f : Str} {p : Arguments} (h : parX f p = true) : ∃ ar : Arg, (p.posonlyargs ++ p.args).head? = some ar ∧ ar.arg = ("self" : Str) := by
  unfold parX at h
  split at h
  · rename_i a b
    exact ⟨a, rfl, of_decide_eq_true (and2 h).1⟩
  · cases h
theorem fnX_ok {prog : Program} {K : PySem.W.Frag} {C : Addr} {f : Str} {fI : Addr} {fd : FuncData} {oc : Value} {od : Option Addr} {osl : Array (Option Value)} (lk : K.lookup fI = some ⟨oc, od, .func fd, osl⟩) (h : fnX prog K C f fd = true) (ne : f ≠ ("self" : Str)) : ∃ cc cda, XFn prog K C f fI fd cc cda := by
  unfold fnX at h
  split at h
  · rename_i n cc cda body ecl ecd ebd
    obtain ⟨⟨h1, h2, h3, h4, h5⟩, ⟨h6, h7⟩, h8, h9, h10⟩ : (n = ("__class__" : Str) ∧ PySem.W.codeIn K fd.code fd.qualname = true ∧ bodyX f body = true ∧ fd.globals = mainGlobals ∧ fd.builtins = builtinsNs) ∧ (_ ∧ _) ∧ scX f fd.scope = true ∧ parX f fd.params = true ∧ fd.defaults = .none := by
      obtain ⟨a, b⟩ := and2 h
      obtain ⟨a1, a⟩ := and2 a
      obtain ⟨a2, a⟩ := and2 a
      obtain ⟨a3, a⟩ := and2 a
      obtain ⟨a4, a5⟩ := and2 a
      obtain ⟨b1, b⟩ := and2 b
      obtain ⟨b3, b⟩ := and2 b
      obtain ⟨b4, b5⟩ := and2 b
      exact ⟨⟨of_decide_eq_true a1, a2, a3, of_decide_eq_true a4, of_decide_eq_true a5⟩, and2 b1, b3, b4, eqT_ok b5⟩
    subst h1
    refine ⟨cc, cda, ⟨⟨oc, od, osl, lk⟩, h2, ?_, h4, h5, ecl, ecd, parX_ar h9, ?_, ?_, ?_, ?_, ?_, ?_, ?_, ?_, ?_, ?_, bind_X h9 h10 ne⟩⟩
    · obtain ⟨p0, p1, p2, p3, p4, p5, q0, q1, q2, q3, e, e2⟩ := bodyX_ok h3
      exact ⟨p0, p1, p2, p3, p4, p5, q0, q1, q2, q3, by rw [ebd, e], e2⟩
    · split at h6
      · rename_i o1 o2 c o3 e
        rw [of_decide_eq_true h6] at e
        exact ⟨_, _, _, e⟩
      · cases h6
    · split at h7
      · rename_i o1 o2 vs o3 e
        split at h7
        · rename_i file tf e2
          exact ⟨_, _, _, vs, file, tf, e, e2, h7⟩
        · cases h7
      · cases h7
    all_goals
      obtain ⟨c1, c2⟩ := and2 h8
      obtain ⟨c3, c4⟩ := and2 c2
      obtain ⟨d1, d2⟩ := and2 c3
      obtain ⟨d3, d4⟩ := and2 d2
      obtain ⟨d5, d6⟩ := and2 d4
      obtain ⟨e1, e2⟩ := and2 c4
      obtain ⟨e3, e4⟩ := and2 e2
    · intro x hx z
      have := List.all_eq_true.mp c1 x hx
      rw [z] at this
      cases this
    · exact eqT_ok d1
    · exact eqT_ok d3
    · exact eqT_ok d5
    · exact eqT_ok d6
    · exact LawfulBEq.eq_of_beq e1
    · simpa using e3
    · simpa using e4
  · cases h
def initX (prog : Program) (K : PySem.W.Frag) (C : Addr) (f : Str) : Bool := match PySem.W.findIn K (.ref C) "__init__" with
  | some (some (.ref fI)) => eqT (PySem.W.typeIn K (.ref fI)) (some (.type "function")) && (match K.lookup fI with
    | some ⟨_, _, .func fd, _⟩ => fnX prog K C f fd
    | _ => false)
  | _ => false
def mkX (prog : Program) (K : PySem.W.Frag) (C : Addr) (f : Str) (b : XB) : Bool :=
  ((initX prog K C f && (PySem.W.excInitIn K C b.bm b.newId && ((PySem.W.clsIn K C).isSome && eqT (PySem.W.mroIn K C (.ref C)) (some true)))) && ((eqT (PySem.W.nsIn K mainGlobals "super") (some none) && !(prog.main.scope.names.lookup ("super" : Str)).isSome) && (eqT (PySem.W.ks_superIn K C C "__init__") (some (some (.builtin b.initId))) && eqT (PySem.W.subIn K (.ref C) (.type b.nm)) (some true)))) &&
  (((eqT (PySem.W.nsIn K cStatics "thirdparty.any") (some none) && eqT (PySem.W.findIn K (.ref C) "__setattr__") (some (some (.builtin "object.__setattr__")))) && (PySem.W.excOver K C b.bm && eqT (PySem.W.takerIn K C f) (some none))) && (PySem.W.hasDictIn K C && (!eqT f ("self" : Str) && !(f == ("__debug__" : Str)))))
theorem mkX_ok {prog : Program} {K : PySem.W.Frag} {C : Addr} {f : Str} {b : XB} (h : mkX prog K C f b = true) : XMk prog K C f b := by
  obtain ⟨h, k⟩ := and2 h
  obtain ⟨h1, h2⟩ := and2 h
  obtain ⟨a1, a2⟩ := and2 h1
  obtain ⟨a3, a4⟩ := and2 a2
  obtain ⟨a5, a6⟩ := and2 a4
  obtain ⟨b1, b2⟩ := and2 h2
  obtain ⟨b3, b4⟩ := and2 b1
  obtain ⟨b5, b6⟩ := and2 b2
  obtain ⟨k1, k2⟩ := and2 k
  obtain ⟨c1, c2⟩ := and2 k1
  obtain ⟨c3, c4⟩ := and2 c1
  obtain ⟨c5, c6⟩ := and2 c2
  obtain ⟨d1, d2⟩ := and2 k2
  obtain ⟨d3, d4⟩ := and2 d2
  have ne : f ≠ ("self" : Str) := fun e => by
    subst e
    simp [eqT] at d3
  refine ⟨?_, a3, Option.isSome_iff_exists.mp a5, eqT_ok a6, eqT_ok b3, by simpa using b4, eqT_ok b5, eqT_ok b6, eqT_ok c3, eqT_ok c4, c5, eqT_ok c6, d1, ne, by simpa using d4⟩
  unfold initX at a1
  split at a1
  · rename_i fI e
    obtain ⟨e1, e2⟩ := and2 a1
    split at e2
    · rename_i o1 o2 fd o3 lk
      obtain ⟨cc, cda, F⟩ := fnX_ok lk e2 ne
      exact ⟨fI, fd, cc, cda, e, eqT_ok e1, F⟩
    · cases e2
  · cases a1
def clsX (K : PySem.W.Frag) (D : Addr) : Bool := ((eqT (PySem.W.findIn K (.ref D) "__getattribute__") (some (some (.builtin "BaseException.__getattribute__"))) && eqT (PySem.W.findIn K (.ref D) "__getattr__") (some none)) && (eqT (PySem.W.subIn K (.ref D) (.type "BaseException")) (some true) && PySem.W.hasDictIn K D)) &&
  ((eqT (PySem.W.findIn K (.ref D) "__class__") (some (some (.builtin "object.__class__"))) && eqT (PySem.W.specialIn K (.builtin "object.__class__") "__get__") (some (some (.builtin "getset_descriptor.__get__")))) && (eqT (PySem.W.takesIn K (.builtin "object.__class__")) (some true) && eqT (PySem.W.mroIn K D (.type "object")) (some true)))
theorem clsX_ok {K : PySem.W.Frag} {D : Addr} (h : clsX K D = true) : ExcC K D := by
  obtain ⟨h1, h2⟩ := and2 h
  obtain ⟨a1, a2⟩ := and2 h1
  obtain ⟨b1, b2⟩ := and2 h2
  exact ⟨eqT_ok (and2 a1).1, eqT_ok (and2 a1).2, eqT_ok (and2 a2).1, (and2 a2).2, eqT_ok (and2 b1).1, eqT_ok (and2 b1).2, eqT_ok (and2 b2).1, eqT_ok (and2 b2).2⟩
def xblt : List String := ["ValueError", "KeyError", "IndexError", "OverflowError", "ArithmeticError", "LookupError", "Exception"]
def xtS (t : Str) : Option String := xblt.find? fun s => decide (Str.ofString s = t)
theorem xtS_ok {t : Str} {ts : String} (h : xtS t = some ts) : t = Str.ofString ts ∧ bootBuiltins t = some (.type ts) := by
  have h1 := List.find?_some h
  have h2 := List.mem_of_find?_eq_some h
  have e := (of_decide_eq_true h1).symm
  refine ⟨e, ?_⟩
  rw [e]
  simp only [xblt, List.mem_cons, List.not_mem_nil, or_false] at h2
  rcases h2 with rfl | rfl | rfl | rfl | rfl | rfl | rfl <;> decide +kernel
def tgX (K : PySem.W.Frag) (t : Str) : Value := match xtS t with
  | some ts => .type ts
  | none => .ref (He.ga K t)
def rsX (K : PySem.W.Frag) (x : Str) : Bool := eqT (PySem.W.nsIn K mainGlobals x) (some (some (.ref (He.ga K x)))) && (eqT (PySem.W.subIn K (.ref (He.ga K x)) (.type "BaseException")) (some true) && eqT (PySem.W.typeIn K (.ref (He.ga K x))) (some (.type "type")))
def xB (P : PInfo) (prog : Program) (K : PySem.W.Frag) : Bool := (P.exs.all fun q => (rsX K q.1 && PySem.W.keepIn K (.ref (He.ga K q.1))) && (match q.2 with
  | some f => ([XB.value, .key, .index, .overflow, .arith, .look].any fun b => mkX prog K (He.ga K q.1) f b) && (xfB K (He.ga K q.1) && eqT (PySem.W.findIn K (.ref (He.ga K q.1)) f) (some none))
  | none => PySem.W.excIn K (He.ga K q.1) XB.value.bm XB.value.newId)) &&
  P.sub.all fun q => clsX K (He.ga K q.1) && eqT (PySem.W.kitOne K (.ref (He.ga K q.1)) (tgX K q.2.1)) (some q.2.2)
def faX (P : PInfo) : List He.Fa := P.exs.map (fun q => .glo q.1) ++ P.sub.map fun q => match xtS q.2.1 with
  | some _ => .free q.2.1
  | none => .glo q.2.1
theorem xfacts_of {P : PInfo} {prog : Program} {K : PySem.W.Frag} {h : PySem.Heap} {mg : Str → Option Value} (X : K.In h) (G : h.Ns mainGlobals mg) (c : ∀ f ∈ faX P, f.ok K = true) (b : xB P prog K = true) : XFacts P prog K mg := by
  obtain ⟨b1, b2⟩ := and2 b
  have glo : ∀ x o, (x, o) ∈ P.exs → mg x = some (.ref (He.ga K x)) := fun x o hm => He.glo_ok X G (c (.glo x) (List.mem_append_left _ (List.mem_map.mpr ⟨(x, o), hm, rfl⟩)))
  refine ⟨fun x f hm => ?_, fun x hm => ?_, fun x t a hm => ?_, fun x f hm => ?_⟩
  · obtain ⟨k1, k2⟩ := and2 (List.all_eq_true.mp b1 _ hm)
    obtain ⟨k2, k3⟩ := and2 k2
    obtain ⟨bb, _, k2⟩ := List.any_eq_true.mp k2
    exact ⟨⟨glo x _ hm, (and2 k1).2⟩, ⟨bb, mkX_ok k2⟩, xfB_ok (and2 k3).1, eqT_ok (and2 k3).2⟩
  · obtain ⟨k1, k2⟩ := and2 (List.all_eq_true.mp b1 _ hm)
    exact ⟨⟨glo x _ hm, (and2 k1).2⟩, k2⟩
  · obtain ⟨k1, k2⟩ := and2 (List.all_eq_true.mp b2 _ hm)
    have k2 := eqT_ok k2
    have cf := c _ (List.mem_append_right _ (List.mem_map.mpr ⟨_, hm, rfl⟩))
    unfold tgX at k2
    dsimp only at cf k2
    refine ⟨clsX_ok k1, ?_⟩
    cases e : xtS t with
    | some ts =>
      rw [e] at cf k2
      obtain ⟨e1, e2⟩ := xtS_ok e
      exact .inl ⟨ts, e1, He.free_ok X G cf, e2, k2⟩
    | none =>
      rw [e] at cf k2
      exact .inr ⟨He.glo_ok X G cf, k2⟩
  · obtain ⟨k1, _⟩ := and2 (List.all_eq_true.mp b1 _ hm)
    obtain ⟨k1, _⟩ := and2 k1
    obtain ⟨r1, r2⟩ := and2 k1
    exact ⟨eqT_ok r1, eqT_ok (and2 r2).1, eqT_ok (and2 r2).2⟩
/-! ### the module's own classes, asked of the written part -/
def prA (K : PySem.W.Frag) (C : Addr) (m : Str) : Addr := match PySem.W.findIn K (.ref C) m with
  | some (some (.ref p)) => (match PySem.W.recIn K p "property" with
    | some (.ref g :: _) => g
    | _ => 0)
  | _ => 0
def adM (K : PySem.W.Frag) (q : Str × Str × Bool) : Addr := if q.2.2 = true then prA K (He.ga K q.1) q.2.1 else He.ma K (He.ga K q.1) q.2.1
def propX (K : PySem.W.Frag) (C : Addr) (m : Str) : Bool := match PySem.W.findIn K (.ref C) m with
  | some (some (.ref p)) => (eqT (PySem.W.specialIn K (.ref p) "__get__") (some (some (.builtin "property.__get__"))) && eqT (PySem.W.takesIn K (.ref p)) (some true)) && (match PySem.W.recIn K p "property" with
    | some (.ref _ :: _) => true
    | _ => false)
  | _ => false
theorem propX_ok {K : PySem.W.Frag} {C : Addr} {m : Str} (h : propX K C m = true) : Prop1 K C m (prA K C m) := by
  unfold propX at h
  unfold prA
  split at h
  · rename_i p e
    obtain ⟨h1, h2⟩ := and2 h
    obtain ⟨h3, h4⟩ := and2 h1
    split at h2
    · rename_i g r e2
      exact ⟨p, e, eqT_ok h3, eqT_ok h4, r, e2⟩
    · cases h2
  · cases h
def defX (K : PySem.W.Frag) (C : Addr) (m : Str) : Bool := eqT (PySem.W.findIn K (.ref C) m) (some (some (.ref (He.ma K C m)))) && (PySem.W.isFn K (.ref (He.ma K C m)) && PySem.W.keepIn K (.ref (He.ma K C m)))
theorem defX_ok {K : PySem.W.Frag} {C : Addr} {m : Str} (h : defX K C m = true) : Meth K C m (He.ma K C m) := by
  obtain ⟨h1, h2⟩ := and2 h
  exact ⟨eqT_ok h1, (and2 h2).1, (and2 h2).2⟩
def slotX (K : PySem.W.Frag) (C : Addr) (m : Str) (i : Nat) : Bool := match PySem.W.findIn K (.ref C) m with
  | some (some (.ref p)) => (eqT (PySem.W.specialIn K (.ref p) "__get__") (some (some (.builtin "member_descriptor.__get__"))) && eqT (PySem.W.takesIn K (.ref p)) (some true)) && ((eqT (PySem.W.typeIn K (.ref p)) (some (.type "member_descriptor")) && eqT (PySem.W.slotIn K p C) (some i)) && decide (i < 1000))
  | _ => false
theorem slotX_ok {K : PySem.W.Frag} {C : Addr} {m : Str} {i : Nat} (h : slotX K C m i = true) : ∃ p, SlX.Slot1 K C m p i := by
  unfold slotX at h
  split at h
  · rename_i p e
    obtain ⟨h1, h2⟩ := and2 h
    obtain ⟨h3, h4⟩ := and2 h1
    obtain ⟨h5, h6⟩ := and2 h2
    obtain ⟨h7, h8⟩ := and2 h5
    exact ⟨p, e, eqT_ok h3, eqT_ok h4, eqT_ok h7, eqT_ok h8, of_decide_eq_true h6⟩
  · cases h
def ownX (K : PySem.W.Frag) (C : Addr) : Bool := ((PySem.W.keepIn K (.ref C) && PySem.W.makesIn K C) && ((PySem.W.plainGet K C Str.empty && PySem.W.isClsIn K C) && (PySem.W.plainOver K C && eqT (PySem.W.findIn K (.ref C) "__setattr__") (some (some (.builtin "object.__setattr__")))))) &&
  ((eqT (PySem.W.findIn K (.ref C) "__class__") (some (some (.builtin "object.__class__"))) && eqT (PySem.W.specialIn K (.builtin "object.__class__") "__get__") (some (some (.builtin "getset_descriptor.__get__")))) && (eqT (PySem.W.takesIn K (.builtin "object.__class__")) (some true) && eqT (PySem.W.mroIn K C (.type "object")) (some true)))
def cB (P : PInfo) (K : PySem.W.Frag) : Bool := (P.cls.all fun q => ownX K (He.ga K q.1) && ((q.2.zipIdx.all fun (m, i) => slotX K (He.ga K q.1) m i) && P.cls.all fun q' => eqT (PySem.W.kitOne K (.ref (He.ga K q'.1)) (.ref (He.ga K q.1))) (some (decide (q'.1 = q.1))))) &&
  P.meths.all fun q => P.hasC q.1 && (if q.2.2 = true then propX K (He.ga K q.1) q.2.1 else defX K (He.ga K q.1) q.2.1)
theorem cfacts_of {P : PInfo} {K : PySem.W.Frag} {mg : Str → Option Value} (glo : ∀ q ∈ P.cls, mg q.1 = some (.ref (He.ga K q.1))) (b : cB P K = true) : CFacts P K mg := by
  obtain ⟨b1, b2⟩ := and2 b
  refine ⟨fun c hc => ?_, fun c m i hs => ?_, fun c c' h1 h2 => ?_, fun c m bb f hm => ?_⟩
  · obtain ⟨q, hq, e⟩ := List.any_eq_true.mp hc
    have e := of_decide_eq_true e
    subst e
    obtain ⟨k1, k2⟩ := and2 (List.all_eq_true.mp b1 q hq)
    obtain ⟨k1, k3⟩ := and2 k1
    obtain ⟨a1, a2⟩ := and2 k1
    obtain ⟨a3, a4⟩ := and2 a1
    obtain ⟨a5, a6⟩ := and2 a2
    obtain ⟨c1, c2⟩ := and2 k3
    exact ⟨⟨glo q hq, a3⟩, ⟨(and2 a5).1, (and2 a5).2, (and2 a6).1, eqT_ok (and2 a6).2⟩, ⟨eqT_ok (and2 c1).1, eqT_ok (and2 c1).2, eqT_ok (and2 c2).1, eqT_ok (and2 c2).2⟩, a4⟩
  · obtain ⟨q, hq, e⟩ := List.any_eq_true.mp hs
    obtain ⟨e1, e2⟩ := and2 e
    have e1 := of_decide_eq_true e1
    have e2 := of_decide_eq_true e2
    subst e1
    obtain ⟨k1, k2⟩ := and2 (List.all_eq_true.mp b1 q hq)
    have k3 := List.all_eq_true.mp (and2 k2).1 (m, i) (by
      rw [List.mem_zipIdx_iff_getElem?]
      simpa using e2)
    exact slotX_ok k3
  · obtain ⟨q, hq, e⟩ := List.any_eq_true.mp h1
    obtain ⟨q', hq', e'⟩ := List.any_eq_true.mp h2
    have e := of_decide_eq_true e
    have e' := of_decide_eq_true e'
    subst e e'
    obtain ⟨k1, k2⟩ := and2 (List.all_eq_true.mp b1 q hq)
    exact eqT_ok (List.all_eq_true.mp (and2 k2).2 q' hq')
  · obtain ⟨_, e⟩ := and2 hm
    exact (and2 (List.all_eq_true.mp b2 _ (List.mem_of_getElem? (of_decide_eq_true e)))).1
def psOf (d : He.DefD) : List Str := d.params.args.map (·.arg)
-- parameters without defaults, all by place
def BindOk (d : He.DefD) : Prop := ∀ (kV doc pm : Value) (an : Option Addr) (cdv ct : Value) (us : List Value), us.length = (psOf d).length → bindArgs (PySem.W.fnOf d.name d.qual d.params d.body d.scope .none kV doc pm an cdv ct) ⟨us, []⟩ = pure ((psOf d).zip us)
-- a def's text at an address
def fnWa (K : PySem.W.Frag) (a : Addr) : He.FnW := match K.lookup a with
  | some ⟨_, _, .func fd, _⟩ => some (fd.name, fd.qualname, fd.params, fd.body, fd.scope, fd.globals, fd.closure, fd.builtins)
  | _ => none
def okA (K : PySem.W.Frag) (a : Addr) (qual : Str) : Bool := match K.lookup a with
  | some ⟨_, _, .func fd, _⟩ => PySem.W.codeIn K fd.code qual && eqT fd.defaults .none
  | _ => false
theorem funA {K : PySem.W.Frag} {a : Addr} {d : He.DefD} (e : fnWa K a = d.val) (c : okA K a d.qual = true) : ∃ fd, C8.Fun K d.name d.qual (.FunctionDef d.name d.params d.body [] none [] d.scope none d.name ⟨0, 0, 0, 0⟩) a fd ∧ (BindOk d → Binds K fd (psOf d) []) := by
  unfold fnWa at e
  unfold okA at c
  cases lk : K.lookup a with
  | none => rw [lk] at e; cases e
  | some o =>
    obtain ⟨oc, od, dt, osl⟩ := o
    rw [lk] at e c
    cases dt with
    | func fd =>
      obtain ⟨c1, c2⟩ := and2 c
      have c3 := eqT_ok c2
      clear c2
      obtain ⟨nm, qn, par, bd, sc, gl, cl, df, kd, doc, pm, an, cd, ct, bl⟩ := fd
      have e' := Option.some.inj e
      simp only [Prod.mk.injEq] at e'
      obtain ⟨e1, e2, e3, e4, e5, e6, e7, e8⟩ := e'
      simp only at c1 c3
      subst e1 e2 e3 e4 e5 e6 e7 e8 c3
      exact ⟨_, ⟨oc, od, .none, kd, doc, pm, an, cd, ct, osl, rfl, lk, c1⟩, fun hb => .all fun us hl => hb kd doc pm an cd ct us hl⟩
    | _ => cases e
/-! ### the hook -/
def asX (g : Addr → Option Obj) (n : Nat) : List Addr := (He.asD g n ++ [cStatics]).eraseDups
abbrev AlX : Type := He.AlD × Bool × List He.FnW
-- the tables of the module's defs: empty
def tabG (g : Addr → Option Obj) (K : PySem.W.Frag) : Bool := (ctabs K).all fun q => PySem.W.codeHdIn K q.1 q.2.1 && (match g q.2.1 with
  | some o => He.emptyTab o
  | none => false)
abbrev frX (g : Addr → Option Obj) (n : Nat) : PySem.W.Frag := He.frT g (asX g n)
def obsX (n : Nat) (fa : List He.Fa) (fn : List He.DefD) (B : PySem.W.Frag → Bool) (ms : List (Str × Str × Bool)) (g : Addr → Option Obj) : AlX := (He.obsD fa fn (frX g n), B (frX g n) && tabG g (frX g n), ms.map fun q => fnWa (frX g n) (adM (frX g n) q))
def TabE (K : PySem.W.Frag) (h : PySem.Heap) : Prop := ∀ q ∈ ctabs K, PySem.W.codeHdIn K q.1 q.2.1 = true ∧ K.lookup q.2.1 = none ∧ h.get? q.2.1 = some (PySem.W.tabObj #[])
theorem tabG_ok {h : PySem.Heap} {n : Nat} (e : tabG h.get? (frX h.get? n) = true) : TabE (frX h.get? n) h := fun q hq => by
  obtain ⟨e1, e2⟩ := and2 (List.all_eq_true.mp e q hq)
  cases c : h.get? q.2.1 with
  | none => rw [c] at e2; cases e2
  | some o =>
    rw [c] at e2
    exact ⟨e1, He.frT_none c e2, by rw [He.emptyTab_eq e2]⟩
def hookX (n : Nat) (fa : List He.Fa) (fn : List He.DefD) (B : PySem.W.Frag → Bool) (ms : List (Str × Str × Bool)) (mt : List He.DefD) : PySem.W.Hook where
  α := AlX
  obs := fun s => obsX n fa fn B ms s.heap.get?
  val := fun _ => (He.valD fn, true, mt.map He.DefD.val)
  says := fun _ h => ∃ K : PySem.W.Frag, K.In h ∧ He.SaysD fa fn K ∧ B K = true ∧ (ms.map fun q => fnWa K (adM K q)) = mt.map He.DefD.val ∧ TabE K h
  of := fun _ _ e => ⟨_, He.frT_in, congrArg (fun z : AlX => z.1) e, (and2 (congrArg (fun z : AlX => z.2.1) e)).1, congrArg (fun z : AlX => z.2.2) e, tabG_ok (and2 (congrArg (fun z : AlX => z.2.1) e)).2⟩
  keeps := fun _ _ _ ⟨K, hK, c1, c2, c3, c4⟩ k => ⟨K, PySem.W.Frag.In.keeps hK k, c1, c2, c3, fun q hq => ⟨(c4 q hq).1, (c4 q hq).2.1, k _ _ (c4 q hq).2.2⟩⟩
theorem obsX_eq {n : Nat} {fa : List He.Fa} {fn : List He.DefD} {B : PySem.W.Frag → Bool} {ms : List (Str × Str × Bool)} {mt : List He.DefD} {g : Addr → Option Obj} {s : Shared} (h : ∀ a, g a = s.heap.get? a) : obsX n fa fn B ms g = (hookX n fa fn B ms mt).obs s := by
  have e : g = s.heap.get? := funext h
  rw [e] <;> rfl
/-! ### defs that call what they get; lambdas -/
def metX (K : PySem.W.Frag) (m : Met) : Bool := (m.ex.all fun e => eqT (PySem.W.exmOne K (.ref (He.ga K e.1)) (.ref (He.ga K e.2.1))) (some e.2.2)) && m.xs.all fun q => xfB K (He.ga K q.1) && eqT (PySem.W.findIn K (.ref (He.ga K q.1)) q.2) (some none)
def mtB (P : PInfo) (K : PySem.W.Frag) : Bool := P.mets.all fun q => metX K q.2
def lamB (K : PySem.W.Frag) (T : List (Addr × Addr × Str)) (x qual : Str) : Bool := match K.lookup (He.ga K x) with
  | some ⟨_, _, .func fd, _⟩ => (match fd.code with
    | .ref c => T.any fun t => (decide (t.1 = c) && decide (t.2.2 = qual)) && T.all fun u => !decide (u.2.1 = t.2.1) || decide (u.2.2 = qual)
    | _ => false)
  | _ => false
theorem lamB_ok {K : PySem.W.Frag} {x qual : Str} (h : lamB K (ctabs K) x qual = true) : LamAt K (He.ga K x) qual := by
  unfold lamB at h
  split at h
  · rename_i oc od fd osl lk
    split at h
    · rename_i c ec
      obtain ⟨t, ht, h1⟩ := List.any_eq_true.mp h
      obtain ⟨h2, h3⟩ := and2 h1
      obtain ⟨h4, h5⟩ := and2 h2
      have h4 := of_decide_eq_true h4
      have h5 := of_decide_eq_true h5
      obtain ⟨t1, t2, t3⟩ := t
      simp only at h4 h5
      subst h4 h5
      refine ⟨oc, od, fd, osl, _, t2, lk, ec, ht, fun q hq e => ?_⟩
      obtain ⟨u, hu, rfl⟩ := List.mem_map.mp hq
      have := List.all_eq_true.mp h3 u hu
      simp only [Bool.or_eq_true, Bool.not_eq_true', decide_eq_false_iff_not, decide_eq_true_eq] at this
      rcases this with z | z
      · exact absurd e z
      · rw [z]
    · cases h
  · cases h
def lmB (P : PInfo) (fn : List He.DefD) (K : PySem.W.Frag) : Bool := (P.names.zip fn).all fun q => !(P.lams.contains q.1) || lamB K (ctabs K) q.1 q.2.qual

-- a def of the text beside a def of the table
def dchk (P : PInfo) (x : Str) (d : Def) (hd : He.DefD) (N : List Str) : Bool := (decide (hd.at_ = (x, none)) && (hd.dfl.isEmpty && hd.kwd.isEmpty)) && (C8.scC N (psOf hd) hd.scope && ((decide (d.np = (psOf hd).length) && decide (d.nl = N.length)) && chkSs (P.wl (P.lams.contains x)) N hd.scope d.body hd.body))
-- a def that calls what it gets
def mchk (x : Str) (m : Met) (hd : He.DefD) (N : List Str) : Bool := (decide (hd.at_ = (x, none)) && ((hd.dfl.isEmpty && hd.kwd.isEmpty) && (decide (hd.name = x) && decide (hd.qual = x)))) && (C8.scC N (psOf hd) hd.scope && (match psOf hd with
  | [a] => (decide (N[0]? = some a) && visB hd.scope a) && (metB m N a hd.scope hd.body && (!(a == ("__debug__" : Str)) && !(a == ("__classdict__" : Str))))
  | _ => false))
def gfa : Str × D → He.Fa
  | (x, .int i) => .int x i
  | (x, .str z) => .str x z
  | (x, _) => .glo x
def dchkM (P : PInfo) (d : Def) (hd : He.DefD) (N : List Str) : Bool := C8.scC N (psOf hd) hd.scope && ((decide (d.np = (psOf hd).length) && decide (d.nl = N.length)) && chkSs P.nolam N hd.scope d.body hd.body)
structure LawOk (P : PInfo) (T : Tab) (fn : List He.DefD) (Ns : List (List Str)) (mt : List He.DefD) (NM : List (List Str)) : Prop where
  ln : fn.length = P.names.length + P.mets.length
  chkT : ∀ (i : Nat) (x : Str) (m : Met) (hd : He.DefD) (N : List Str), P.mets[i]? = some (x, m) → fn[P.names.length + i]? = some hd → Ns[P.names.length + i]? = some N → mchk x m hd N = true
  lt : T.defs.length = P.names.length + P.meths.length
  lm : mt.length = P.meths.length
  lNM : NM.length = P.meths.length
  chkM : ∀ (i : Nat) (q : Str × Str × Bool) (d : Def) (hd : He.DefD) (N : List Str), P.meths[i]? = some q → T.defs[P.names.length + i]? = some d → mt[i]? = some hd → NM[i]? = some N → dchkM P d hd N = true
  bindM : ∀ hd ∈ mt, BindOk hd
  chk : ∀ (i : Nat) (x : Str) (d : Def) (hd : He.DefD) (N : List Str), P.names[i]? = some x → T.defs[i]? = some d → fn[i]? = some hd → Ns[i]? = some N → dchk P x d hd N = true
  lN : Ns.length = P.names.length + P.mets.length
  bind : ∀ hd ∈ fn, BindOk hd
  globs : T.globs = P.globs.map (·.2)
  gk : ∀ q ∈ P.globs, (∃ i, q.2 = .int i) ∨ (∃ z, q.2 = .str z)
def faOf (P : PInfo) : List He.Fa := P.names.map .glo ++ (blts.map .free ++ (P.globs.map gfa ++ (faX P ++ ((P.cls.map fun q => .glo q.1) ++ ((P.mets.map fun q => .glo q.1) ++ P.mets.flatMap fun q => q.2.hs.map fun y => .glo y.1)))))
section
variable {P : PInfo} {T : Tab} {fn mt : List He.DefD} {Ns NM : List (List Str)} {prog : Program} {w : PySem.World} {K : PySem.W.Frag} {mg : Str → Option Value} {h : PySem.Heap}
theorem get_lt {α : Type} {m : List α} {i : Nat} (hi : i < m.length) : ∃ b, m[i]? = some b := ⟨_, List.getElem?_eq_getElem hi⟩
theorem get_of_len {α β : Type} {l : List α} {m : List β} {i : Nat} {a : α} (e : l[i]? = some a) (hl : m.length = l.length) : ∃ b, m[i]? = some b := by
  have hi : i < l.length := by
    rcases Nat.lt_or_ge i l.length with z | z
    · exact z
    · rw [List.getElem?_eq_none z] at e; cases e
  exact ⟨_, List.getElem?_eq_getElem (by omega)⟩
theorem def_at (L : LawOk P T fn Ns mt NM) (X : K.In h) (G : h.Ns mainGlobals mg) (c : He.SaysD (faOf P) fn K) (lm : lmB P fn K = true) {f : Nat} {x : Str} (ex : P.names[f]? = some x) :
    ∃ d fd ps hd, T.defs[f]? = some d ∧ DefAt (P.wl (P.lams.contains x)) K mg x d fd ps ∧ fn[f]? = some hd ∧ ps = psOf hd := by
  have hi : f < P.names.length := by
    rcases Nat.lt_or_ge f P.names.length with z | z
    · exact z
    · rw [List.getElem?_eq_none z] at ex; cases ex
  obtain ⟨d, ed⟩ := get_lt (m := T.defs) (i := f) (by rw [L.lt]; omega)
  obtain ⟨hd, eh⟩ := get_lt (m := fn) (i := f) (by rw [L.ln]; omega)
  obtain ⟨N, eN⟩ := get_lt (m := Ns) (i := f) (by rw [L.lN]; omega)
  have hc := L.chk f x d hd N ex ed eh eN
  unfold dchk at hc
  simp only [Bool.and_eq_true, decide_eq_true_eq, List.isEmpty_iff] at hc
  obtain ⟨⟨hat, hdf, hkw⟩, hsc, ⟨hnp, hnl⟩, hch⟩ := hc
  obtain ⟨fd, F⟩ := c.def_ f eh
  have hb := L.bind hd (List.mem_of_getElem? eh)
  have edv : hd.dvs K = [] := by unfold He.DefD.dvs; rw [hdf]; rfl
  rw [edv] at F
  have ea : He.fAd K hd.at_ = He.ga K x := by rw [hat]; rfl
  rw [ea] at F
  have g : mg x = some (.ref (He.ga K x)) := He.glo_ok X G (c.facts (f := .glo x) (List.mem_append_left _ (List.mem_map.mpr ⟨x, List.mem_of_getElem? ex, rfl⟩)))
  have lam : (P.wl (P.lams.contains x)).lam = true → LamAt K (He.ga K x) hd.qual := fun z => by
    have z : P.lams.contains x = true := z
    have := List.all_eq_true.mp lm (x, hd) (List.mem_iff_getElem?.mpr ⟨f, by rw [List.getElem?_zip_eq_some]; exact ⟨ex, eh⟩⟩)
    rw [z] at this
    exact lamB_ok (by simpa using this)
  obtain ⟨oc, od, dV, kV, doc, pm, an, cdv, ct, osl, e1, lk, hcd, hD, hK⟩ := F.ex
  refine ⟨d, fd, psOf hd, hd, ed, ⟨⟨F.bindsN hb, hnp, hd.name, hd.qual, .FunctionDef hd.name hd.params hd.body [] none [] hd.scope none hd.name ⟨0, 0, 0, 0⟩, N, ?_, C8.fnScope_by hsc, hnl, hch, lam⟩, g, F.kp⟩, eh, rfl⟩
  exact ⟨⟨oc, od, dV, kV, doc, pm, an, cdv, ct, osl, e1, lk, hcd⟩⟩
theorem met_at (L : LawOk P T fn Ns mt NM) (X : K.In h) (G : h.Ns mainGlobals mg) (c : He.SaysD (faOf P) fn K) (mb : mtB P K = true) {x : Str} {m : Met} (hm : (x, m) ∈ P.mets) : MetOk K mg x m := by
  obtain ⟨i, hi, e⟩ := List.mem_iff_getElem.mp hm
  have ex : P.mets[i]? = some (x, m) := by rw [List.getElem?_eq_getElem hi, e]
  obtain ⟨hd, eh⟩ := get_lt (m := fn) (i := P.names.length + i) (by rw [L.ln]; omega)
  obtain ⟨N, eN⟩ := get_lt (m := Ns) (i := P.names.length + i) (by rw [L.lN]; omega)
  have hc := L.chkT i x m hd N ex eh eN
  unfold mchk at hc
  simp only [Bool.and_eq_true, decide_eq_true_eq, List.isEmpty_iff] at hc
  obtain ⟨⟨hat, ⟨hdf, hkw⟩, hnm, hq⟩, hsc, hc⟩ := hc
  obtain ⟨fd, F⟩ := c.def_ _ eh
  have hb := L.bind hd (List.mem_of_getElem? eh)
  have edv : hd.dvs K = [] := by unfold He.DefD.dvs; rw [hdf]; rfl
  rw [edv] at F
  have ea : He.fAd K hd.at_ = He.ga K x := by rw [hat]; rfl
  rw [ea] at F
  have fact : ∀ f, f ∈ ((P.mets.map fun q => He.Fa.glo q.1) ++ P.mets.flatMap fun q => q.2.hs.map fun y => He.Fa.glo y.1) → f.ok K = true := fun f hf =>
    c.facts (List.mem_append_right _ (List.mem_append_right _ (List.mem_append_right _ (List.mem_append_right _ (List.mem_append_right _ hf)))))
  have g : mg x = some (.ref (He.ga K x)) := He.glo_ok X G (fact (.glo x) (List.mem_append_left _ (List.mem_map.mpr ⟨_, hm, rfl⟩)))
  obtain ⟨m1, m2⟩ := and2 (List.all_eq_true.mp mb _ hm)
  have kp := F.kp
  have bd := F.bindsN hb
  obtain ⟨oc, od, dV, kV, doc, pm, an, cdv, ct, osl, e1, lk, hcd, hD, hK⟩ := F.ex
  split at hc
  · rename_i a ep
    simp only [Bool.and_eq_true, decide_eq_true_eq] at hc
    obtain ⟨⟨c1, c2⟩, c3, c4, c5⟩ := hc
    rw [ep] at bd hsc
    subst e1
    rw [hnm, hq] at lk bd
    rw [hq] at hcd
    refine ⟨g, kp, ⟨oc, od, hd.params, hd.body, hd.scope, dV, kV, doc, pm, an, cdv, ct, osl, N, a, lk, hcd, bd, C8.fnScope_by hsc, c1, visB_ok c2, c3, by simpa using c4, by simpa using c5⟩, fun q hq => ?_, fun e he => eqT_ok (List.all_eq_true.mp m1 e he), fun q hq => ?_⟩
    · exact He.glo_ok X G (fact (.glo q.1) (List.mem_append_right _ (List.mem_flatMap.mpr ⟨_, hm, List.mem_map.mpr ⟨q, hq, rfl⟩⟩)))
    · obtain ⟨x1, x2⟩ := and2 (List.all_eq_true.mp m2 q hq)
      exact ⟨xfB_ok x1, eqT_ok x2⟩
  · cases hc
def okM (P : PInfo) (mt : List He.DefD) (K : PySem.W.Frag) : Bool := (P.meths.zip mt).all fun q => okA K (adM K q.1) q.2.qual
theorem mth_at (L : LawOk P T fn Ns mt NM) (cb : cB P K = true) (me : (P.meths.map fun q => fnWa K (adM K q)) = mt.map He.DefD.val) (mo : okM P mt K = true) {f : Nat} {c m : Str} {b : Bool} (e : P.methB c m b f = true) :
    ∃ d a fd ps, T.defs[f]? = some d ∧ MthAt (P.wl false) K c m b d a fd ps := by
  obtain ⟨e1, e2⟩ := and2 e
  have e1 := of_decide_eq_true e1
  have e2 := of_decide_eq_true e2
  obtain ⟨j, rfl⟩ : ∃ j, f = P.names.length + j := ⟨f - P.names.length, by omega⟩
  rw [Nat.add_sub_cancel_left] at e2
  have hj : j < P.meths.length := by
    rcases Nat.lt_or_ge j P.meths.length with z | z
    · exact z
    · rw [List.getElem?_eq_none z] at e2; cases e2
  obtain ⟨d, ed⟩ := get_lt (m := T.defs) (i := P.names.length + j) (by rw [L.lt]; omega)
  obtain ⟨hd, eh⟩ := get_of_len e2 L.lm
  obtain ⟨N, eN⟩ := get_of_len e2 L.lNM
  have hc := L.chkM j (c, m, b) d hd N e2 ed eh eN
  unfold dchkM at hc
  simp only [Bool.and_eq_true, decide_eq_true_eq] at hc
  obtain ⟨hsc, ⟨hnp, hnl⟩, hch⟩ := hc
  have ev : fnWa K (adM K (c, m, b)) = hd.val := by
    have := congrArg (fun l => l[j]?) me
    simp only [List.getElem?_map, e2, eh, Option.map_some, Option.some.injEq] at this
    exact this
  have ho : okA K (adM K (c, m, b)) hd.qual = true := List.all_eq_true.mp mo ((c, m, b), hd) (List.mem_iff_getElem?.mpr ⟨j, by rw [List.getElem?_zip_eq_some]; exact ⟨e2, eh⟩⟩)
  obtain ⟨fd, F, hb⟩ := funA ev ho
  have hm := (and2 (List.all_eq_true.mp (and2 cb).2 _ (List.mem_of_getElem? e2))).2
  refine ⟨d, adM K (c, m, b), fd, psOf hd, ed, ⟨⟨hb (L.bindM hd (List.mem_of_getElem? eh)), hnp, hd.name, hd.qual, _, N, F, C8.fnScope_by hsc, hnl, hch, fun z => nomatch z⟩, ?_⟩⟩
  cases b with
  | true =>
    simp only [if_true] at hm ⊢
    exact propX_ok hm
  | false =>
    simp only [if_neg Bool.false_ne_true] at hm ⊢
    exact defX_ok hm
theorem world_of (L : LawOk P T fn Ns mt NM) (X : K.In h) (G : h.Ns mainGlobals mg) (c : He.SaysD (faOf P) fn K) (cb : cB P K = true) (me : (P.meths.map fun q => fnWa K (adM K q)) = mt.map He.DefD.val) (mo : okM P mt K = true) (lm : lmB P fn K = true) (mb : mtB P K = true) : World P T K mg where
  mets := fun x m hm => met_at L X G c mb hm
  os := cfacts_of (fun q hq => He.glo_ok X G (c.facts (f := .glo q.1) (List.mem_append_right _ (List.mem_append_right _ (List.mem_append_right _ (List.mem_append_right _ (List.mem_append_left _ (List.mem_map.mpr ⟨q, hq, rfl⟩)))))))) cb
  mths := fun f k m b e => mth_at L cb me mo e
  blt := fun x hx => He.free_ok X G (c.facts (f := .free x) (List.mem_append_right _ (List.mem_append_left _ (List.mem_map.mpr ⟨x, hx, rfl⟩))))
  glob := fun i x d e => by
    refine ⟨by rw [L.globs, List.getElem?_map, e]; rfl, ?_⟩
    have hm := List.mem_of_getElem? e
    have cf := c.facts (f := gfa (x, d)) (List.mem_append_right _ (List.mem_append_right _ (List.mem_append_left _ (List.mem_map.mpr ⟨_, hm, rfl⟩))))
    rcases L.gk _ hm with ⟨j, ej⟩ | ⟨z, ez⟩
    · simp only at ej
      subst ej
      obtain ⟨t, q⟩ := He.int_ok X G cf
      exact ⟨.int j, _, q, ⟨t, rfl⟩, rfl⟩
    · simp only at ez
      subst ez
      obtain ⟨t, q⟩ := He.str_ok X G cf
      exact ⟨.str z, _, q, ⟨t, rfl⟩, rfl⟩
  defs := fun f x e => by
    obtain ⟨d, fd, ps, hd, ed, da, _⟩ := def_at L X G c lm e
    exact ⟨d, fd, ps, ed, da⟩
-- THE LAW: by what the evaluator says
theorem law_end (L : LawOk P T fn Ns mt NM) (X : K.In h) (G : h.Ns mainGlobals mg) (c : He.SaysD (faOf P) fn K) (te : TabE K h) {l : PySem.W.OpenLaw} (xb : xB P l.prog K = true) (cb : cB P K = true) (lm : lmB P fn K = true) (mb : mtB P K = true)
    (me : (P.meths.map fun q => fnWa K (adM K q)) = mt.map He.DefD.val) (mo : okM P mt K = true) {k f n : Nat} {fa : Addr} (hf : P.names[f]? = some ("law" : Str)) (hp : (fn[f]?).map psOf = some [("script" : Str)]) (hfa : mg ("law" : Str) = some (.ref fa))
    (val : ∀ ns : List Int, ns.length ≤ n → ∃ h', callI T k f [.scr (ns.map D.int)] [] = some (.ok (.v (.bl true)) h')) :
    ∃ K : PySem.W.Frag, K.In h ∧ LawG l w K (4 * k + 1) n mg fa h := by
  obtain ⟨d, fd, ps, hd, ed, da, eh, eps⟩ := def_at L X G c lm hf
  rw [eh] at hp
  simp only [Option.map_some, Option.some.injEq] at hp
  rw [hp] at eps
  subst eps
  have e := hfa.symm.trans da.mga
  cases e
  have wd := world_of L X G c cb me mo lm mb
  have xf := xfacts_of X G (fun f hm => c.facts (List.mem_append_right _ (List.mem_append_right _ (List.mem_append_right _ (List.mem_append_left _ hm))))) xb
  have mem : ∀ {q : Addr × Addr}, q ∈ (ctabs K).map (fun q => (q.1, q.2.1)) → ∃ t ∈ ctabs K, t.1 = q.1 ∧ t.2.1 = q.2 := fun {q} hq => by
    obtain ⟨t, ht, rfl⟩ := List.mem_map.mp hq
    exact ⟨t, ht, rfl, rfl⟩
  refine ⟨K, X, (ctabs K).map (fun q => (q.1, q.2.1)), spI K 1 (callI T k f), fun q hq => ?_, fun q hq => ?_, fun q hq => ?_, fun H a ns hl hT hS => ?_, fun base hB hN tb => ?_⟩
  · obtain ⟨t, ht, e1, e2⟩ := mem hq
    rw [← e2]
    exact (te t ht).2.2
  · obtain ⟨t, ht, e1, e2⟩ := mem hq
    rw [← e2]
    exact (te t ht).2.1
  · obtain ⟨t, ht, e1, e2⟩ := mem hq
    rw [← e1, ← e2]
    exact PySem.W.codeHd_of_K X (te t ht).1
  · have tab : ∀ {b : Addr} {q : Str}, (b, q) ∈ tabs K → H b = some (.tbl #[]) := fun {b q} hm => by
      obtain ⟨t, ht, e⟩ := List.mem_map.mp hm
      cases e
      exact hT _ (List.mem_map.mpr ⟨t, ht, rfl⟩)
    refine ⟨rfl, ⟨fun _ => 0, fun b => H b = some (.tbl #[])⟩, [], [.scr (ns.map D.int)], ⟨fun q hq => tab hq, fun q hq => LamX.TabS.nil (tab hq), fun a z => by rw [z]; exact fun y => (nomatch y), fun _ _ p hp => absurd hp (by simp), fun p q hp => absurd hp (by simp), fun p o e => by simp at e⟩, ?_, ?_⟩
    · simp only [RDs, RD]
      refine ⟨.ref a, [], rfl, ⟨a, ns.map V.int, rfl, ?_, ints_D ns⟩, rfl⟩
      rcases hS with hS | hS
      · refine .inr ⟨hS, fun p hp => absurd hp (by simp), fun z => ?_⟩
        have z : H a = some (.tbl #[]) := z
        rcases hS with hS | ⟨o, hS⟩ <;> rw [z] at hS <;> cases hS
      · exact .inl hS
    · obtain ⟨h', e⟩ := val ns hl
      rw [e]
      exact fun v H' μ' _ q => q
  · exact fns_ok wd xf (fun q hq => tb (q.1, q.2.1) (List.mem_map.mpr ⟨q, hq, rfl⟩)) k f d _ fd _ _ ed da.toDefC
end
end MP

/-! MP.Snd19: working with the evaluator. -/
namespace MP
open PySem

-- a chain is worked at its head alone
theorem bd_congr {α β : Type} {m m' : Res α} {k : α → Heap → Res β} (e : m = m') : bd m k = bd m' k := by rw [e]
theorem lcGo_congr {f : D → Heap → Res (Option D)} {xs ys : List D} {h h' : Heap} (e : xs = ys) (e2 : h = h') : lcGo f xs h = lcGo f ys h' := by rw [e, e2]
theorem forGo_congr {its : Items} {f : D → Env → Heap → Res Fl} {xs ys : List D} {g g' : Env} {h h' : Heap} (e : xs = ys) (e2 : g = g') (e3 : h = h') : forGo its f xs g h = forGo its f ys g' h' := by rw [e, e2, e3]
theorem whileD_congr {c : Env → Heap → Res Bool} {f : Env → Heap → Res Fl} {g g' : Env} {h h' : Heap} (e2 : g = g') (e3 : h = h') : whileD c f g h = whileD c f g' h' := by rw [e2, e3]
theorem endI_congr {h : Heap} {m m' : Res Fl} (e : m = m') : endI h m = endI h m' := by rw [e]

/-! ### values -/
@[simp] theorem tests_n (Φ : Nat → List D → Heap → Res R) (G : Nat → Option D) (g : Env) (h : Heap) : tests Φ G [] g h = some (.ok true h) := by simp only [tests]
@[simp] theorem tests_c (Φ : Nat → List D → Heap → Res R) (G : Nat → Option D) (e : E) (es : List E) (g : Env) (h : Heap) : tests Φ G (e :: es) g h = bd (eval Φ G e g h) fun r h => match tru h r.frz with
    | some true => tests Φ G es g h
    | some false => some (.ok false h)
    | none => none := by
  simp only [tests]
  try rfl
@[simp] theorem lim_val : lim = 16777216 := rfl
@[simp] theorem tru_non (h : Heap) : tru h .non = some false := rfl
@[simp] theorem tru_bl (h : Heap) (b : Bool) : tru h (.bl b) = some b := rfl
@[simp] theorem tru_int (h : Heap) (i : Int) : tru h (.int i) = some (decide (i ≠ 0)) := rfl
@[simp] theorem tru_tup (h : Heap) (l : List D) : tru h (.tup l) = some (!l.isEmpty) := rfl
@[simp] theorem tru_lst (h : Heap) (l : List D) : tru h (.lst l) = some (!l.isEmpty) := rfl
@[simp] theorem dok_int (n : Nat) (i : Int) : dok n (.int i) = true := by cases n <;> rfl
@[simp] theorem dok_bl (n : Nat) (i : Bool) : dok n (.bl i) = true := by cases n <;> rfl
@[simp] theorem dok_non (n : Nat) : dok n .non = true := by cases n <;> rfl
@[simp] theorem dok_tup (n : Nat) (l : List D) : dok (n + 1) (.tup l) = dokL n l := rfl
@[simp] theorem dok_lst (n : Nat) (l : List D) : dok (n + 1) (.lst l) = dokL n l := rfl
@[simp] theorem dokL_nil (n : Nat) : dokL n [] = true := by cases n <;> rfl
@[simp] theorem dokL_cons (n : Nat) (d : D) (ds : List D) : dokL n (d :: ds) = (dok n d && dokL n ds) := by cases n <;> rfl
@[simp] theorem eqD_int (i j : Int) : eqD (.int i) (.int j) = decide (i = j) := rfl
@[simp] theorem eqD_tup (l m : List D) : eqD (.tup l) (.tup m) = eqDL l m := rfl
@[simp] theorem eqD_lst (l m : List D) : eqD (.lst l) (.lst m) = eqDL l m := rfl
@[simp] theorem eqDL_nil : eqDL [] [] = true := rfl
@[simp] theorem eqDL_nc (d : D) (ds : List D) : eqDL [] (d :: ds) = false := rfl
@[simp] theorem eqDL_cn (d : D) (ds : List D) : eqDL (d :: ds) [] = false := rfl
@[simp] theorem eqDL_cons (d e : D) (ds es : List D) : eqDL (d :: ds) (e :: es) = (eqD d e && eqDL ds es) := rfl
@[simp] theorem atZ_nn {α : Type} (l : List α) {i : Int} (h : 0 ≤ i) : atZ l i = l[i.toNat]? := if_pos h
@[simp] theorem atZ_last {α : Type} (l : List α) : atZ l (-1) = l.getLast? := by
  unfold atZ
  rw [if_neg (by decide), List.getLast?_eq_getElem?]
  by_cases hl : l.length = 0
  · rw [if_neg (by omega), List.getElem?_eq_none (by omega)]
  · rw [if_pos (by omega)]
    congr 1
    omega
@[simp] theorem set_end {α : Type} (h : List α) (x y : α) : (h ++ [x]).set h.length y = h ++ [y] := by simp
@[simp] theorem get_end {α : Type} (h : List α) (x : α) : (h ++ [x])[h.length]? = some x := by simp
@[simp] theorem take_end {α : Type} (h x : List α) : (h ++ x).take h.length = h := by simp
theorem all_tt {α : Type} (l : List α) : (l.all fun _ => true) = true := by simp
theorem dokL_ints (n : Nat) (l : List Int) : dokL n (l.map D.int) = true := by
  induction l with
  | nil => simp
  | cons i l ih => simp [ih]
theorem eqDL_ints : ∀ (l m : List Int), eqDL (l.map D.int) (m.map D.int) = decide (l = m)
  | [], [] => by simp
  | [], _ :: _ => by simp
  | _ :: _, [] => by simp
  | i :: l, j :: m => by
    simp only [List.map_cons, eqDL_cons, eqD_int, eqDL_ints l m, List.cons.injEq, Bool.decide_and]
theorem ints_map (l : List Int) : MP.intsD (l.map D.int) = some l := by
  induction l with
  | nil => rfl
  | cons i l ih => simp [MP.intsD, ih]
theorem bools_mapf {α : Type} (l : List α) (f : α → D) (g : α → Bool) (h : ∀ x, f x = .bl (g x)) : bools (l.map f) = some (l.map g) := by
  induction l with
  | nil => rfl
  | cons i l ih => simp [bools, h, ih]
theorem ints_mapf {α : Type} (l : List α) (f : α → D) (g : α → Int) (h : ∀ x, f x = .int (g x)) : MP.intsD (l.map f) = some (l.map g) := by
  induction l with
  | nil => rfl
  | cons i l ih => simp [MP.intsD, h, ih]
theorem bools_map (l : List Bool) : bools (l.map D.bl) = some l := by
  induction l with
  | nil => rfl
  | cons i l ih => simp [bools, ih]

/-! ### what a call leaves -/
theorem oldOk_refl (h : Heap) : OldOk h h := ⟨Nat.le_refl _, fun _ _ => .inl rfl⟩
def noLoc : D → Bool
  | .loc _ => false
  | _ => true
theorem gc_v {h : Heap} {d : D} (hd : noLoc d = true) (c : cl h.length d = true) : gc h (.v d) h = some (.ok (.v d) h) := by
  unfold gc
  rw [if_pos (oldOk_refl h)]
  cases d with
  | loc p => cases hd
  | _ => simp only [c, if_true, List.take_length]
theorem gc_int (h : Heap) (i : Int) : gc h (.v (.int i)) h = some (.ok (.v (.int i)) h) := gc_v rfl rfl
theorem gc_bl (h : Heap) (i : Bool) : gc h (.v (.bl i)) h = some (.ok (.v (.bl i)) h) := gc_v rfl rfl
theorem gc_non (h : Heap) : gc h (.v .non) h = some (.ok (.v .non) h) := gc_v rfl rfl
theorem gc_tup {h : Heap} {l : List D} (c : clL h.length l = true) : gc h (.v (.tup l)) h = some (.ok (.v (.tup l)) h) := gc_v rfl c
theorem gc_lst {h : Heap} {l : List D} (c : clL h.length l = true) : gc h (.v (.lst l)) h = some (.ok (.v (.lst l)) h) := gc_v rfl c
theorem gc_new {h : Heap} {l : List D} (c : clL h.length l = true) : gc h (.newL l) h = some (.ok (.newL l) h) := by
  unfold gc
  rw [if_pos (oldOk_refl h)]
  simp only [c, if_true, List.take_length]
-- what is not a place, over a heap that grew or changed
theorem gc_v2 {h h1 : Heap} {d : D} (ok : OldOk h h1) (hd : noLoc d = true) (c : cl h.length d = true) : gc h (.v d) h1 = some (.ok (.v d) (h1.take h.length)) := by
  unfold gc
  rw [if_pos ok]
  cases d with
  | loc p => cases hd
  | _ => simp only [c, if_true]
theorem gc_new2 {h h1 : Heap} {l : List D} (ok : OldOk h h1) (c : clL h.length l = true) : gc h (.newL l) h1 = some (.ok (.newL l) (h1.take h.length)) := by
  unfold gc
  rw [if_pos ok]
  simp only [c, if_true]
-- a new place given back: its list
theorem gc_loc2 {h h1 : Heap} {p : Nat} {l : List D} (ok : OldOk h h1) (hp : h.length ≤ p) (e : h1[p]? = some (.lst l)) (c : clL h.length l = true) : gc h (.v (.loc p)) h1 = some (.ok (.newL l) (h1.take h.length)) := by
  unfold gc
  rw [if_pos ok]
  simp only [if_neg (show ¬ p < h.length by omega), e, c, if_true]
theorem oldOk_app (h x : Heap) : OldOk h (h ++ x) := ⟨by simp, fun i hi => .inl (by rw [List.getElem?_append_left hi])⟩
theorem cl_ints (n : Nat) (l : List Int) : clL n (l.map D.int) = true := by
  induction l with
  | nil => rfl
  | cons i l ih => simp only [List.map_cons, clL, cl, ih, Bool.and_self]

/-! ### calls -/
theorem call_of {T : Tab} {k f : Nat} {args : List D} {h : Heap} {d : Def} (hd : T.defs[f]? = some d) (hn : args.length = d.np) :
    callI T (k + 1) f args h = endI h (execs (callI T k) T.get d.body (start d args) h) := by
  simp only [callI, hd, if_pos hn]
@[simp] theorem endI_rt (h h1 : Heap) (r : R) : endI h (some (.ok (.rt r) h1)) = gc h r h1 := rfl
@[simp] theorem endI_nx (h h1 : Heap) (g : Env) : endI h (some (.ok (.nx g) h1)) = gc h (.v .non) h1 := rfl

-- one statement after another, by their places
theorem execs_at {Φ : Nat → List D → Heap → Res R} {G : Nat → Option D} {b : List St} (i : Nat) {g g' : Env} {h h' : Heap} (hi : i < b.length) (e : exec Φ G (b.getD i .never) g h = some (.ok (.nx g') h')) : execs Φ G (b.drop i) g h = execs Φ G (b.drop (i + 1)) g' h' := by
  rw [List.drop_eq_getElem_cons hi]
  rw [List.getD_eq_getElem?_getD, List.getElem?_eq_getElem hi] at e
  simp only [Option.getD_some] at e
  simp only [execs, e, bd_ok]
theorem execs_rt {Φ : Nat → List D → Heap → Res R} {G : Nat → Option D} {b : List St} (i : Nat) {g : Env} {h h' : Heap} {r : R} (hi : i < b.length) (e : exec Φ G (b.getD i .never) g h = some (.ok (.rt r) h')) : execs Φ G (b.drop i) g h = some (.ok (.rt r) h') := by
  rw [List.drop_eq_getElem_cons hi]
  rw [List.getD_eq_getElem?_getD, List.getElem?_eq_getElem hi] at e
  simp only [Option.getD_some] at e
  simp only [execs, e, bd_ok]

/-! ### loops -/
section
variable {S : Type}
-- a for whose body goes on each time, the heap as it is: a fold
theorem forGo_fold {its : Items} {f : D → Env → Heap → Res Fl} {h : Heap} (E : S → Env) (step : S → D → S) (hs : still its h = true) : ∀ (xs : List D) (s : S),
    (∀ x ∈ xs, ∀ s, f x (E s) h = some (.ok (.nx (E (step s x))) h)) → forGo its f xs (E s) h = some (.ok (.nx (E (xs.foldl step s))) h)
  | [], s, _ => rfl
  | x :: xs, s, hf => by
    rw [forGo, hf x (by simp) s]
    simp only [bd_ok, hs, if_true]
    exact forGo_fold E step hs xs _ fun y hy => hf y (by simp [hy])
-- a for over ints whose body goes on each time
theorem forGo_ints {its : Items} {f : D → Env → Heap → Res Fl} {h : Heap} (E : S → Option D → Env) (step : S → Int → S) (hs : still its h = true) : ∀ (l : List Int) (s : S) (z : Option D),
    (∀ i ∈ l, ∀ s z, f (.int i) (E s z) h = some (.ok (.nx (E (step s i) (some (.int i)))) h)) → ∃ z', forGo its f (l.map D.int) (E s z) h = some (.ok (.nx (E (l.foldl step s) z')) h)
  | [], s, z, _ => ⟨z, rfl⟩
  | x :: xs, s, z, hf => by
    rw [List.map_cons, forGo, hf x (by simp) s z]
    simp only [bd_ok, hs, if_true]
    exact forGo_ints E step hs xs _ _ fun y hy => hf y (by simp [hy])
-- a for by an invariant; R: what a return gives, B: what a break leaves
theorem forGo_inv' {its : Items} {f : D → Env → Heap → Res Fl} (I : Nat → Env → Heap → Prop) (R : R → Heap → Prop) (B : Env → Heap → Prop)
    (hf : ∀ i x g h, its.1[i]? = some x → I i g h → ∃ fl h', f x g h = some (.ok fl h') ∧ match fl with
      | .nx g' => still its h' = true ∧ I (i + 1) g' h'
      | .ct g' => still its h' = true ∧ I (i + 1) g' h'
      | .bk g' => B g' h'
      | .rt r => R r h') : ∀ (xs : List D) (i : Nat) (g : Env) (h : Heap), its.1.drop i = xs → i ≤ its.1.length → I i g h →
    ∃ fl h', forGo its f xs g h = some (.ok fl h') ∧ match fl with
      | .nx g' => I its.1.length g' h' ∨ B g' h'
      | .rt r => R r h'
      | _ => False
  | [], i, g, h, e, hi, hI => ⟨.nx g, h, rfl, by
    have hl : its.1.length ≤ i := List.drop_eq_nil_iff.mp e
    have : i = its.1.length := by omega
    subst this
    exact .inl hI⟩
  | x :: xs, i, g, h, e, hi, hI => by
    have hx : its.1[i]? = some x := by
      have : (its.1.drop i)[0]? = some x := by rw [e]; rfl
      simpa using this
    have hr : its.1.drop (i + 1) = xs := by
      rw [← List.drop_drop, e]
      rfl
    have hlt : i < its.1.length := by
      rcases Nat.lt_or_ge i its.1.length with z | z
      · exact z
      · rw [List.getElem?_eq_none z] at hx; cases hx
    obtain ⟨fl, h', e1, q⟩ := hf i x g h hx hI
    simp only [forGo, e1, bd_ok]
    cases fl with
    | nx g' =>
      simp only at q ⊢
      rw [if_pos q.1]
      exact forGo_inv' I R B hf xs (i + 1) g' h' hr hlt q.2
    | ct g' =>
      simp only at q ⊢
      rw [if_pos q.1]
      exact forGo_inv' I R B hf xs (i + 1) g' h' hr hlt q.2
    | bk g' => exact ⟨.nx g', h', rfl, .inr q⟩
    | rt r => exact ⟨.rt r, h', rfl, q⟩
theorem forGo_inv {its : Items} {f : D → Env → Heap → Res Fl} (I : Nat → Env → Heap → Prop) (R : R → Heap → Prop) (B : Env → Heap → Prop) {g : Env} {h : Heap} (h0 : I 0 g h)
    (hf : ∀ i x g h, its.1[i]? = some x → I i g h → ∃ fl h', f x g h = some (.ok fl h') ∧ match fl with
      | .nx g' => still its h' = true ∧ I (i + 1) g' h'
      | .ct g' => still its h' = true ∧ I (i + 1) g' h'
      | .bk g' => B g' h'
      | .rt r => R r h') :
    ∃ fl h', forGo its f its.1 g h = some (.ok fl h') ∧ match fl with
      | .nx g' => I its.1.length g' h' ∨ B g' h'
      | .rt r => R r h'
      | _ => False := forGo_inv' I R B hf its.1 0 g h rfl (Nat.zero_le _) h0
-- a for that always goes on
theorem forGo_go {its : Items} {f : D → Env → Heap → Res Fl} (I : Nat → Env → Heap → Prop) {g : Env} {h : Heap} (h0 : I 0 g h)
    (hf : ∀ i x g h, its.1[i]? = some x → I i g h → ∃ g' h', f x g h = some (.ok (.nx g') h') ∧ still its h' = true ∧ I (i + 1) g' h') :
    ∃ g' h', forGo its f its.1 g h = some (.ok (.nx g') h') ∧ I its.1.length g' h' := by
  obtain ⟨fl, h', e, q⟩ := forGo_inv I (fun _ _ => False) (fun _ _ => False) h0 fun i x g h hx hI => by
    obtain ⟨g', h', e, q⟩ := hf i x g h hx hI
    exact ⟨.nx g', h', e, q⟩
  cases fl with
  | nx g' => exact ⟨g', h', e, q.resolve_right id⟩
  | rt r => exact q.elim
  | bk g => exact q.elim
  | ct g => exact q.elim
theorem still_none (l : List D) (h : Heap) : still (l, none) h = true := rfl
theorem still_some {l : List D} {p : Nat} {h : Heap} (e : h[p]? = some (.lst l)) : still (l, some p) h = true := by simp [still, e]
-- a comprehension, the heap as it is
theorem lcGo_map {f : D → Heap → Res (Option D)} {h : Heap} (v : D → Option D) : ∀ (xs : List D), (∀ x ∈ xs, f x h = some (.ok (v x) h)) → lcGo f xs h = some (.ok (xs.filterMap v) h)
  | [], _ => rfl
  | x :: xs, hf => by
    rw [lcGo, hf x (by simp)]
    have ih := lcGo_map v xs fun y hy => hf y (by simp [hy])
    cases e : v x with
    | none => simp only [ih, List.filterMap_cons, e]
    | some y => simp only [ih, List.filterMap_cons, e]
-- a comprehension by an invariant
theorem lcGo_inv' {f : D → Heap → Res (Option D)} (I : Nat → List D → Heap → Prop) (all : List D)
    (hf : ∀ i x acc h, all[i]? = some x → I i acc h → ∃ o h', f x h = some (.ok o h') ∧ I (i + 1) (acc ++ o.toList) h') : ∀ (xs : List D) (i : Nat) (acc : List D) (h : Heap), all.drop i = xs → i ≤ all.length → I i acc h →
    ∃ l h', lcGo f xs h = some (.ok l h') ∧ I all.length (acc ++ l) h'
  | [], i, acc, h, e, hi, hI => ⟨[], h, rfl, by
    have hl : all.length ≤ i := List.drop_eq_nil_iff.mp e
    have : i = all.length := by omega
    subst this
    rw [List.append_nil]
    exact hI⟩
  | x :: xs, i, acc, h, e, hi, hI => by
    have hx : all[i]? = some x := by
      have : (all.drop i)[0]? = some x := by rw [e]; rfl
      simpa using this
    have hr : all.drop (i + 1) = xs := by
      rw [← List.drop_drop, e]
      rfl
    have hlt : i < all.length := by
      rcases Nat.lt_or_ge i all.length with z | z
      · exact z
      · rw [List.getElem?_eq_none z] at hx; cases hx
    obtain ⟨o, h', e1, q⟩ := hf i x acc h hx hI
    obtain ⟨l, h2, e2, q2⟩ := lcGo_inv' I all hf xs (i + 1) _ h' hr hlt q
    rw [lcGo, e1]
    cases o with
    | none => exact ⟨l, h2, e2, by simpa using q2⟩
    | some y =>
      refine ⟨y :: l, h2, by simp only [e2], ?_⟩
      simpa using q2
theorem lcGo_inv {f : D → Heap → Res (Option D)} (I : Nat → List D → Heap → Prop) (all : List D) {h : Heap} (h0 : I 0 [] h)
    (hf : ∀ i x acc h, all[i]? = some x → I i acc h → ∃ o h', f x h = some (.ok o h') ∧ I (i + 1) (acc ++ o.toList) h') :
    ∃ l h', lcGo f all h = some (.ok l h') ∧ I all.length l h' := by
  obtain ⟨l, h', e, q⟩ := lcGo_inv' I all hf all 0 [] h rfl (Nat.zero_le _) h0
  exact ⟨l, h', e, by simpa using q⟩
-- a while: its turns
theorem whileGo_mono {c : Env → Heap → Res Bool} {f : Env → Heap → Res Fl} : ∀ (k : Nat) (g : Env) (h : Heap) (r : Out Fl), whileGo c f k g h = some r → ∀ m, k ≤ m → whileGo c f m g h = some r
  | 0, _, _, _, e, _, _ => by cases e
  | k + 1, g, h, r, e, m, hm => by
    obtain ⟨m, rfl⟩ : ∃ n, m = n + 1 := ⟨m - 1, by omega⟩
    simp only [whileGo] at e ⊢
    cases e1 : c g h with
    | none => rw [e1] at e; cases e
    | some o =>
      rw [e1] at e
      cases o with
      | exc x h' => exact e
      | ok b h' =>
        simp only [bd_ok] at e ⊢
        cases b with
        | false => exact e
        | true =>
          simp only [if_true] at e ⊢
          cases e2 : f g h' with
          | none => rw [e2] at e; cases e
          | some o =>
            rw [e2] at e
            cases o with
            | exc x h2 => exact e
            | ok fl h2 =>
              simp only [bd_ok] at e ⊢
              cases fl with
              | nx g' => exact whileGo_mono k g' h2 r e m (by omega)
              | ct g' => exact whileGo_mono k g' h2 r e m (by omega)
              | bk g' => exact e
              | rt v => exact e
theorem whileD_of {c : Env → Heap → Res Bool} {f : Env → Heap → Res Fl} {k : Nat} {g : Env} {h : Heap} {r : Out Fl} (e : whileGo c f k g h = some r) : whileD c f g h = some r := by
  have q : ∃ k r, whileGo c f k g h = some r := ⟨k, r, e⟩
  unfold whileD
  rw [dif_pos q]
  have gen : ∀ (n : Nat) (r' : Out Fl), whileGo c f n g h = some r' → some r' = some r := fun n r' e2 => by
    rcases Nat.le_total k n with z | z
    · exact e2.symm.trans (whileGo_mono _ _ _ _ e _ z)
    · exact (whileGo_mono _ _ _ _ e2 _ z).symm.trans e
  exact gen _ _ q.choose_spec.choose_spec
-- a while by an invariant with a measure
theorem whileD_inv {c : Env → Heap → Res Bool} {f : Env → Heap → Res Fl} (I : Nat → Env → Heap → Prop) (R : R → Heap → Prop) (B : Env → Heap → Prop)
    (hf : ∀ m g h, I m g h → ∃ b h', c g h = some (.ok b h') ∧ if b = true then ∃ fl h2, f g h' = some (.ok fl h2) ∧ match fl with
      | .nx g' => ∃ m', m' < m ∧ I m' g' h2
      | .ct g' => ∃ m', m' < m ∧ I m' g' h2
      | .bk g' => B g' h2
      | .rt r => R r h2 else B g h') : ∀ (m : Nat) (g : Env) (h : Heap), I m g h → ∃ fl h', whileD c f g h = some (.ok fl h') ∧ match fl with
      | .nx g' => B g' h'
      | .rt r => R r h'
      | _ => False := by
  suffices H : ∀ (n m : Nat) (g : Env) (h : Heap), m < n → I m g h → ∃ fl h', whileGo c f n g h = some (.ok fl h') ∧ match fl with
      | .nx g' => B g' h'
      | .rt r => R r h'
      | _ => False by
    intro m g h hI
    obtain ⟨fl, h', e, q⟩ := H (m + 1) m g h (by omega) hI
    exact ⟨fl, h', whileD_of e, q⟩
  intro n
  induction n with
  | zero => intro m g h hm; omega
  | succ n ih =>
    intro m g h hm hI
    obtain ⟨b, h', e, q⟩ := hf m g h hI
    simp only [whileGo, e, bd_ok]
    cases b with
    | false => exact ⟨.nx g, h', rfl, by simpa using q⟩
    | true =>
      simp only [if_true] at q ⊢
      obtain ⟨fl, h2, e2, q⟩ := q
      simp only [e2, bd_ok]
      cases fl with
      | nx g' =>
        obtain ⟨m', hm', hI'⟩ := q
        exact ih m' g' h2 (by omega) hI'
      | ct g' =>
        obtain ⟨m', hm', hI'⟩ := q
        exact ih m' g' h2 (by omega) hI'
      | bk g' => exact ⟨.nx g', h2, rfl, q⟩
      | rt r => exact ⟨.rt r, h2, rfl, q⟩
end
end MP

/-! MP.Snd20: the laws' dice. -/
namespace MP
open PySem

-- a draw below total
def rollDef (A M1 Bc M2 C Ev : Int) : Def := ⟨2, 5, [
  .if_ (.cmp .gt (.ix (.var 0) (.c (.int 0))) (.c (.int 0))) [.asg (.slot 2) (.bin .mod (.ix (.var 0) (.c (.int 0))) (.var 1)), .setix (.var 0) (.c (.int 0)) (.bin .fdiv (.ix (.var 0) (.c (.int 0))) (.var 1)), .ret (.b1 .int (.var 2))] [],
  .setix (.var 0) (.c (.int 2)) (.bin .add (.ix (.var 0) (.c (.int 2))) (.c (.int 1))),
  .asg (.slot 3) (.bin .mod (.bin .add (.ix (.var 0) (.c (.int 1))) (.bin .mul (.c (.int A)) (.ix (.var 0) (.c (.int 2))))) (.c (.int M1))),
  .asg (.slot 4) (.bin .add (.bin .mul (.bin .mod (.bin .add (.bin .mul (.var 3) (.var 3)) (.bin .mul (.c (.int Bc)) (.ix (.var 0) (.c (.int 2))))) (.c (.int M2))) (.c (.int C))) (.var 3)),
  .ret (.bin .mod (.b1 .int (.bin .fdiv (.var 4) (.c (.int Ev)))) (.var 1))]⟩

-- what the dice hold at p, over a store that is h0 elsewhere
structure Dice (h0 : Heap) (p n : Nat) (h : Heap) : Prop where
  len : h.length = h0.length
  old : ∀ q, q ≠ p → h[q]? = h0[q]?
  at_ : ∃ a b c : Int, h[p]? = some (.lst [.int a, .int b, .int c]) ∧ 0 ≤ a ∧ a < 2 ^ 2000 ∧ 0 ≤ b ∧ b < 2 ^ 200 ∧ 0 ≤ c ∧ c ≤ n
theorem Dice.lt {h0 h : Heap} {p n : Nat} (d : Dice h0 p n h) : p < h.length := by
  obtain ⟨a, b, c, e, _⟩ := d.at_
  rcases Nat.lt_or_ge p h.length with z | z
  · exact z
  · rw [List.getElem?_eq_none z] at e; cases e
theorem Dice.set {h0 h : Heap} {p n m : Nat} (d : Dice h0 p n h) {a b c : Int} (h1 : 0 ≤ a) (h2 : a < 2 ^ 2000) (h3 : 0 ≤ b) (h4 : b < 2 ^ 200) (h5 : 0 ≤ c) (h6 : c ≤ m) : Dice h0 p m (h.set p (.lst [.int a, .int b, .int c])) := by
  refine ⟨by rw [List.length_set]; exact d.len, fun q hq => by rw [List.getElem?_set_ne (Ne.symm hq)]; exact d.old q hq, a, b, c, ?_, h1, h2, h3, h4, h5, h6⟩
  rw [List.getElem?_set]
  simp [d.lt]
theorem Dice.set_get {h0 h : Heap} {p n : Nat} (d : Dice h0 p n h) (o : O) : (h.set p o)[p]? = some o := by
  rw [List.getElem?_set]
  simp [d.lt]
theorem Dice.mono {h0 h : Heap} {p n m : Nat} (d : Dice h0 p n h) (hn : n ≤ m) : Dice h0 p m h := by
  obtain ⟨a, b, c, e, h1, h2, h3, h4, h5, h6⟩ := d.at_
  exact ⟨d.len, d.old, a, b, c, e, h1, h2, h3, h4, h5, by omega⟩
theorem Dice.oldOk {h0 h h' : Heap} {p n m : Nat} (d : Dice h0 p n h) (d' : Dice h0 p m h') : OldOk h h' := by
  refine ⟨by rw [d.len, d'.len]; exact Nat.le_refl _, fun i hi => ?_⟩
  by_cases hp : i = p
  · subst hp
    obtain ⟨a, b, c, e, _⟩ := d'.at_
    exact .inr ⟨_, e, rfl⟩
  · exact .inl (by rw [d.old i hp, d'.old i hp])
theorem Dice.take {h0 h h' : Heap} {p n m : Nat} (d : Dice h0 p n h) (d' : Dice h0 p m h') : h'.take h.length = h' := by
  rw [d.len, ← d'.len, List.take_length]
theorem log2_lt {i : Int} {m : Nat} (hm : 0 < m) (h0 : 0 ≤ i) (h : i < 2 ^ m) : i.natAbs.log2 < m := by
  by_cases hz : i.natAbs = 0
  · rw [hz]
    simpa using hm
  · rw [Nat.log2_lt hz]
    have : ((i.natAbs : Nat) : Int) < ((2 ^ m : Nat) : Int) := by
      rw [Int.natAbs_of_nonneg h0]
      simpa using h
    exact_mod_cast this
theorem fdiv_ok {t : Int} (h0 : 0 < t) (h : t < 2 ^ 9000) : fdivOk t = true := decide_eq_true ⟨h0, log2_lt (by decide) (Int.le_of_lt h0) h⟩
theorem mul_ok {i j : Int} {m n : Nat} (hm : 0 < m) (hn : 0 < n) (hs : m + n ≤ 1000000) (h1 : -(2 ^ m) < i) (h2 : i < 2 ^ m) (h3 : -(2 ^ n) < j) (h4 : j < 2 ^ n) : mulOk i j = true := by
  have gen : ∀ {i : Int} {m : Nat}, 0 < m → -(2 ^ m) < i → i < 2 ^ m → i.natAbs.log2 < m := fun {i m} hm a b => by
    rcases Int.le_total 0 i with z | z
    · exact log2_lt hm z b
    · have := log2_lt (i := -i) hm (by omega) (by omega)
      simpa using this
  have a := gen hm h1 h2
  have b := gen hn h3 h4
  exact decide_eq_true (by omega)
theorem roll_spec {T : Tab} {k f : Nat} {A M1 Bc M2 C Ev : Int} (hT : T.defs[f]? = some (rollDef A M1 Bc M2 C Ev)) (hc : (0 < A ∧ A < 2 ^ 64) ∧ (0 < M1 ∧ M1 < 2 ^ 64) ∧ (0 < Bc ∧ Bc < 2 ^ 64) ∧ (0 < M2 ∧ M2 < 2 ^ 64) ∧ (0 < C ∧ C < 2 ^ 64) ∧ 0 < Ev ∧ Ev < 2 ^ 64)
    {h0 h : Heap} {p n : Nat} (d : Dice h0 p n h) (hn : (n : Int) < 2 ^ 100) {t : Int} (ht : 0 < t) (ht2 : t < 2 ^ 9000) :
    ∃ r h', callI T (k + 1) f [.loc p, .int t] h = some (.ok (.v (.int r)) h') ∧ 0 ≤ r ∧ r < t ∧ Dice h0 p (n + 1) h' := by
  obtain ⟨⟨A1, A2⟩, ⟨B1, B2⟩, ⟨C1, C2⟩, ⟨D1, D2⟩, ⟨E1, E2⟩, F1, F2⟩ := hc
  obtain ⟨a, b, c, e, h1, h2, h3, h4, h5, h6⟩ := d.at_
  rw [call_of hT rfl]
  have f1 := fdiv_ok ht ht2
  by_cases ha : 0 < a
  · have hle : a / t ≤ a := Int.ediv_le_self t h1
    have d' : Dice h0 p n (h.set p (.lst [.int (a / t), .int b, .int c])) := d.set (Int.ediv_nonneg h1 (Int.le_of_lt ht)) (by omega) h3 h4 h5 h6
    refine ⟨a % t, _, ?_, Int.emod_nonneg a (by omega), Int.emod_lt_of_pos a ht, d'.mono (Nat.le_succ n)⟩
    simp [rollDef, e, ha, ht, f1, endI_rt]
    rw [gc_v2 (d.oldOk d') rfl rfl, d.take d']
  · have f2 := fdiv_ok F1 (show Ev < 2 ^ 9000 by omega)
    have d' : Dice h0 p (n + 1) (h.set p (.lst [.int a, .int b, .int (c + 1)])) := d.set h1 h2 h3 h4 (by omega) (by omega)
    have es := d.set_get
    have m1 : mulOk A (c + 1) = true := mul_ok (m := 64) (n := 101) (by decide) (by decide) (by decide) (by omega) A2 (by omega) (by omega)
    have o1 := Int.emod_nonneg (b + A * (c + 1)) (show M1 ≠ 0 by omega)
    have o2 := Int.emod_lt_of_pos (b + A * (c + 1)) B1
    have m3 : mulOk Bc (c + 1) = true := mul_ok (m := 64) (n := 101) (by decide) (by decide) (by decide) (by omega) C2 (by omega) (by omega)
    generalize hone : (b + A * (c + 1)) % M1 = one at o1 o2
    have m2 : mulOk one one = true := mul_ok (m := 64) (n := 64) (by decide) (by decide) (by decide) (by omega) (by omega) (by omega) (by omega)
    have t1 := Int.emod_nonneg (one * one + Bc * (c + 1)) (show M2 ≠ 0 by omega)
    have t2 := Int.emod_lt_of_pos (one * one + Bc * (c + 1)) D1
    generalize htwo : (one * one + Bc * (c + 1)) % M2 = two at t1 t2
    have m4 : mulOk two C = true := mul_ok (m := 64) (n := 64) (by decide) (by decide) (by decide) (by omega) (by omega) (by omega) (by omega)
    refine ⟨(two * C + one) / Ev % t, _, ?_, Int.emod_nonneg _ (by omega), Int.emod_lt_of_pos _ ht, d'⟩
    simp [rollDef, e, es, ha, ht, endI_rt, m1, B1, hone, m2, m3, D1, htwo, m4, f2]
    rw [gc_v2 (d.oldOk d') rfl rfl, d.take d']
end MP

set_option exponentiation.threshold 3000
/-! MP.Snd21: the laws' dice: how they are made, a choice. -/
namespace MP
open PySem

def diceDef (K1 K2 M K4 K5 K6 K7 : Int) : Def := ⟨2, 5, [
  .asg (.slot 2) (.ite (.cmp .lt (.var 1) (.b1 .len (.var 0))) (.b1 .int (.ix (.var 0) (.var 1))) (.bin .add (.bin .mul (.c (.int K1)) (.var 1)) (.c (.int K2)))),
  .asg (.slot 3) (.bin .mod (.b1 .int (.b1 .abs (.var 2))) (.bin .pow (.bin .pow (.c (.int 10)) (.c (.int 54))) (.c (.int 6)))),
  .asg (.slot 4) (.bin .add (.bin .add (.bin .add (.bin .mul (.bin .mod (.var 3) (.c (.int M))) (.c (.int K4))) (.bin .mul (.c (.int K5)) (.var 1))) (.bin .mul (.c (.int K6)) (.b1 .int (.cmp .lt (.var 2) (.c (.int 0)))))) (.c (.int K7))),
  .ret (.lst [(.b2 .max (.c (.int 0)) (.bin .sub (.var 3) (.bin .pow (.c (.int 10)) (.c (.int 16))))), (.var 4), (.c (.int 0))])]⟩
theorem dice_spec {T : Tab} {k f : Nat} {K1 K2 M K4 K5 K6 K7 : Int} (hT : T.defs[f]? = some (diceDef K1 K2 M K4 K5 K6 K7)) (hc : (0 < K1 ∧ K1 < 2 ^ 64) ∧ (0 < M ∧ M < 2 ^ 64) ∧ (0 < K4 ∧ K4 < 2 ^ 64) ∧ (0 < K5 ∧ K5 < 2 ^ 64) ∧ (0 < K6 ∧ K6 < 2 ^ 64) ∧ (0 < K7 ∧ K7 < 2 ^ 64))
    (ns : List Int) (h : Heap) (i : Nat) (hi : i < 2 ^ 32) :
    ∃ a b, callI T (k + 1) f [.scr (ns.map .int), .int i] h = some (.ok (.newL [.int a, .int b, .int 0]) h) ∧ 0 ≤ a ∧ a < 2 ^ 2000 ∧ 0 ≤ b ∧ b < 2 ^ 200 := by
  obtain ⟨⟨A1, A2⟩, ⟨B1, B2⟩, ⟨C1, C2⟩, ⟨D1, D2⟩, ⟨E1, E2⟩, F1, F2⟩ := hc
  rw [call_of hT rfl]
  have m1 : mulOk K1 i = true := mul_ok (m := 64) (n := 64) (by decide) (by decide) (by decide) (by omega) (by omega) (by omega) (by omega)
  have m3 : mulOk K5 i = true := mul_ok (m := 64) (n := 64) (by decide) (by decide) (by decide) (by omega) (by omega) (by omega) (by omega)
  have p1 : powOk 10 54 = true := by decide +kernel
  have p2 : powOk (10 ^ 54) 6 = true := by decide +kernel
  have p3 : powOk 10 16 = true := by decide +kernel
  -- the cell
  obtain ⟨cell, hcell⟩ : ∃ cell : Int, eval (callI T k) T.get (.ite (.cmp .lt (.var 1) (.b1 .len (.var 0))) (.b1 .int (.ix (.var 0) (.var 1))) (.bin .add (.bin .mul (.c (.int K1)) (.var 1)) (.c (.int K2)))) (start (diceDef K1 K2 M K4 K5 K6 K7) [.scr (ns.map .int), .int i]) h = some (.ok (.v (.int cell)) h) := by
    by_cases hl : i < ns.length
    · refine ⟨ns[i], ?_⟩
      simp [diceDef, hl]
    · refine ⟨K1 * i + K2, ?_⟩
      simp [diceDef, hl, m1]
  have p2' : powOk (10 ^ 54) 6 = powOk 1000000000000000000000000000000000000000000000000000000 6 := by simp
  rw [p2'] at p2
  -- the great part
  obtain ⟨great, hgreat, g1, g2⟩ : ∃ great : Int, eval (callI T k) T.get (.bin .mod (.b1 .int (.b1 .abs (.var 2))) (.bin .pow (.bin .pow (.c (.int 10)) (.c (.int 54))) (.c (.int 6)))) [some (D.scr (List.map D.int ns)), some (D.int ↑i), some (.int cell), none, none] h = some (.ok (.v (.int great)) h) ∧ 0 ≤ great ∧ great < 2 ^ 2000 := by
    refine ⟨(if cell < 0 then -cell else cell) % (10 ^ 324), by simp [p1, p2], Int.emod_nonneg _ (by decide +kernel), ?_⟩
    have := Int.emod_lt_of_pos (if cell < 0 then -cell else cell) (show (0 : Int) < 10 ^ 324 by decide +kernel)
    have e : (10 : Int) ^ 324 < 2 ^ 2000 := by decide +kernel
    omega
  have s1 := Int.emod_nonneg great (show M ≠ 0 by omega)
  have s2 := Int.emod_lt_of_pos great B1
  generalize hs : great % M = sd at s1 s2
  have m4 : mulOk sd K4 = true := mul_ok (m := 64) (n := 64) (by decide) (by decide) (by decide) (by omega) (by omega) (by omega) (by omega)
  have m6 : ∀ b : Bool, mulOk K6 (b2i b) = true := fun b => mul_ok (m := 64) (n := 64) (by decide) (by decide) (by decide) (by omega) (by omega) (by cases b <;> decide) (by cases b <;> decide)
  simp only [diceDef, start, List.map_cons, List.map_nil, List.length_cons, List.length_nil, List.replicate, List.cons_append, List.nil_append] at hcell
  simp only [diceDef, execs, exec, start, List.map_cons, List.map_nil, List.length_cons, List.length_nil, List.replicate, List.cons_append, List.nil_append, hcell, bd_ok, R.frz_v, assign, List.set_cons_zero, List.set_cons_succ, hgreat]
  have bb := m6 (decide (cell < 0))
  have b1 : mulOk sd K4 = true := m4
  have q1 : 0 ≤ b2i (decide (cell < 0)) ∧ b2i (decide (cell < 0)) ≤ 1 := by cases decide (cell < 0) <;> decide
  have q2 : 0 ≤ sd * K4 ∧ sd * K4 < 2 ^ 128 := ⟨Int.mul_nonneg s1 (by omega), by
    have := Int.mul_le_mul (show sd ≤ 2 ^ 64 by omega) (show K4 ≤ 2 ^ 64 - 1 by omega) (by omega) (by decide)
    omega⟩
  have q3 : 0 ≤ K5 * i ∧ K5 * i < 2 ^ 128 := ⟨Int.mul_nonneg (by omega) (by omega), by
    have := Int.mul_le_mul (show K5 ≤ 2 ^ 64 by omega) (show (i : Int) ≤ 2 ^ 64 - 1 by omega) (by omega) (by decide)
    omega⟩
  have q4 : 0 ≤ K6 * b2i (decide (cell < 0)) ∧ K6 * b2i (decide (cell < 0)) < 2 ^ 64 := by
    cases decide (cell < 0)
    · simp [b2i]
    · simp only [b2i, if_true, Int.mul_one]
      omega
  generalize hb : b2i (decide (cell < 0)) = bz at q1 q4 bb
  generalize e1 : sd * K4 = x1 at q2
  generalize e2 : K5 * (i : Int) = x2 at q3
  generalize e3 : K6 * bz = x3 at q4
  have p4 : (10000000000000000 : Int) = 10 ^ 16 := by decide
  refine ⟨if great - 10000000000000000 > 0 then great - 10000000000000000 else 0, x1 + x2 + x3 + K7, ?_, by split <;> omega, by split <;> omega, by omega, by omega⟩
  simp [p3, B1, hs, m4, m3, hb, bb, e1, e2, e3, endI_rt]
  rw [gc_new rfl]
-- one of a list
def pickDef (rl : Nat) : Def := ⟨2, 2, [
  .ret (.ix (.var 1) (.call rl [(.var 0), (.b1 .len (.var 1))]))]⟩
def RollOk (T : Tab) (rl : Nat) : Prop := ∀ (k : Nat) (h0 h : Heap) (p n : Nat) (t : Int), Dice h0 p n h → (n : Int) < 2 ^ 100 → 0 < t → t < 2 ^ 9000 →
  ∃ r h', callI T (k + 1) rl [.loc p, .int t] h = some (.ok (.v (.int r)) h') ∧ 0 ≤ r ∧ r < t ∧ Dice h0 p (n + 1) h'
theorem pick_spec {T : Tab} {k f rl : Nat} (hT : T.defs[f]? = some (pickDef rl)) (R : RollOk T rl) {h0 h : Heap} {p n : Nat} (d : Dice h0 p n h) (hn : (n : Int) < 2 ^ 100) {l : List D} (hl : 0 < l.length) (hl2 : (l.length : Int) < 2 ^ 9000) (hx : ∀ x ∈ l, noLoc x = true ∧ cl h.length x = true) :
    ∃ x h', callI T (k + 2) f [.loc p, .lst l] h = some (.ok (.v x) h') ∧ x ∈ l ∧ Dice h0 p (n + 1) h' := by
  obtain ⟨r, h', e, r0, r1, d'⟩ := R k h0 h p n l.length d hn (by omega) hl2
  have hr : r.toNat < l.length := by omega
  have hm : l[r.toNat] ∈ l := List.getElem_mem hr
  refine ⟨l[r.toNat], h', ?_, hm, d'⟩
  rw [call_of hT rfl]
  simp [pickDef, e, r0, List.getElem?_eq_getElem hr]
  rw [gc_v2 (d.oldOk d') (hx _ hm).1 (hx _ hm).2, d.take d']
-- draws by a comprehension over a range
theorem lc_draws {f : D → Heap → Res (Option D)} {h0 : Heap} {p : Nat} (c : Nat) (Pr : Int → Prop) {lo hi : Int} {h : Heap} {n : Nat} (d : Dice h0 p n h)
    (hf : ∀ (j : Int) (h : Heap) (m : Nat), m ≤ n + c * (hi - lo).toNat → Dice h0 p m h → ∃ x h', f (.int j) h = some (.ok (some (.int x)) h') ∧ Pr x ∧ Dice h0 p (m + c) h') :
    ∃ (l : List Int) (h' : Heap), lcGo f (rangeD lo hi) h = some (.ok (l.map .int) h') ∧ l.length = (hi - lo).toNat ∧ (∀ x ∈ l, Pr x) ∧ Dice h0 p (n + c * (hi - lo).toNat) h' := by
  obtain ⟨l, h', e, ⟨l2, rfl, hl, hp⟩, d'⟩ := lcGo_inv (f := f) (fun i acc h => (∃ l : List Int, acc = l.map .int ∧ l.length = i ∧ ∀ x ∈ l, Pr x) ∧ Dice h0 p (n + c * i) h) (rangeD lo hi) (h := h) ⟨⟨[], rfl, rfl, by simp⟩, by simpa using d⟩ (by
    rintro i x acc h hx ⟨⟨l, rfl, hl, hp⟩, d⟩
    have hi' : i < (hi - lo).toNat := by
      rcases Nat.lt_or_ge i (hi - lo).toNat with q | q
      · exact q
      · rw [List.getElem?_eq_none (by rw [rangeD_len]; exact q)] at hx; cases hx
    obtain ⟨j, rfl⟩ : ∃ j, x = .int j := by
      unfold rangeD at hx
      rw [List.getElem?_map] at hx
      cases c : (List.range (hi - lo).toNat)[i]? with
      | none => rw [c] at hx; cases hx
      | some a => rw [c] at hx; cases hx; exact ⟨_, rfl⟩
    obtain ⟨x, h', e, px, d'⟩ := hf j h (n + c * i) (by have := Nat.mul_le_mul_left c (Nat.le_of_lt hi'); omega) d
    refine ⟨some (.int x), h', e, ⟨l ++ [x], by simp, by simp [hl], fun y hy => ?_⟩, ?_⟩
    · rcases List.mem_append.mp hy with q | q
      · exact hp y q
      · simp only [List.mem_singleton] at q
        rw [q]
        exact px
    · rw [Nat.mul_add, Nat.mul_one, ← Nat.add_assoc]
      exact d')
  rw [rangeD_len] at hl d'
  exact ⟨l2, h', e, hl, hp, d'⟩
end MP

/-! The law's defs as texts of MP (printed by a tool), the table. -/
namespace K03
open PySem MP

def lams : List Str := [(PySem.Str.ofString "_law_numbers_right"), (PySem.Str.ofString "_law_lots_right"), (PySem.Str.ofString "law")]
def metN : List Str := [(PySem.Str.ofString "_law_met")]
def topsT : List Nat := [64]
-- _law_met
def Nm0 : List Str := [(PySem.Str.ofString "call"), (PySem.Str.ofString "error")]
def m0 : Met := ⟨some (.str (PySem.Str.ofString "none")), [((PySem.Str.ofString "InvalidLayout"), (.c (.str (PySem.Str.ofString "layout")))), ((PySem.Str.ofString "InvalidTask"), (.c (.str (PySem.Str.ofString "task")))), ((PySem.Str.ofString "InvalidLane"), (.c (.str (PySem.Str.ofString "lane")))), ((PySem.Str.ofString "InvalidScript"), (.c (.str (PySem.Str.ofString "script")))), ((PySem.Str.ofString "InvalidOperation"), (.c (.str (PySem.Str.ofString "operation")))), ((PySem.Str.ofString "UnknownName"), (.rp (PySem.Str.ofString "name ") (PySem.Str.ofString "wanted"))), ((PySem.Str.ofString "InvalidCount"), (.rp (PySem.Str.ofString "count ") (PySem.Str.ofString "given"))), ((PySem.Str.ofString "TooMany"), (.rp (PySem.Str.ofString "many ") (PySem.Str.ofString "limit")))], [((PySem.Str.ofString "InvalidCount"), (PySem.Str.ofString "InvalidLayout"), false), ((PySem.Str.ofString "InvalidCount"), (PySem.Str.ofString "InvalidTask"), false), ((PySem.Str.ofString "InvalidCount"), (PySem.Str.ofString "InvalidLane"), false), ((PySem.Str.ofString "InvalidCount"), (PySem.Str.ofString "InvalidScript"), false), ((PySem.Str.ofString "InvalidCount"), (PySem.Str.ofString "InvalidOperation"), false), ((PySem.Str.ofString "InvalidCount"), (PySem.Str.ofString "UnknownName"), false), ((PySem.Str.ofString "InvalidCount"), (PySem.Str.ofString "InvalidCount"), true), ((PySem.Str.ofString "InvalidCount"), (PySem.Str.ofString "TooMany"), false), ((PySem.Str.ofString "InvalidOperation"), (PySem.Str.ofString "InvalidLayout"), false), ((PySem.Str.ofString "InvalidOperation"), (PySem.Str.ofString "InvalidTask"), false), ((PySem.Str.ofString "InvalidOperation"), (PySem.Str.ofString "InvalidLane"), false), ((PySem.Str.ofString "InvalidOperation"), (PySem.Str.ofString "InvalidScript"), false), ((PySem.Str.ofString "InvalidOperation"), (PySem.Str.ofString "InvalidOperation"), true), ((PySem.Str.ofString "InvalidOperation"), (PySem.Str.ofString "UnknownName"), false), ((PySem.Str.ofString "InvalidOperation"), (PySem.Str.ofString "InvalidCount"), false), ((PySem.Str.ofString "InvalidOperation"), (PySem.Str.ofString "TooMany"), false), ((PySem.Str.ofString "TooMany"), (PySem.Str.ofString "InvalidLayout"), false), ((PySem.Str.ofString "TooMany"), (PySem.Str.ofString "InvalidTask"), false), ((PySem.Str.ofString "TooMany"), (PySem.Str.ofString "InvalidLane"), false), ((PySem.Str.ofString "TooMany"), (PySem.Str.ofString "InvalidScript"), false), ((PySem.Str.ofString "TooMany"), (PySem.Str.ofString "InvalidOperation"), false), ((PySem.Str.ofString "TooMany"), (PySem.Str.ofString "UnknownName"), false), ((PySem.Str.ofString "TooMany"), (PySem.Str.ofString "InvalidCount"), false), ((PySem.Str.ofString "TooMany"), (PySem.Str.ofString "TooMany"), true)], [((PySem.Str.ofString "InvalidCount"), (PySem.Str.ofString "given")), ((PySem.Str.ofString "TooMany"), (PySem.Str.ofString "limit"))]⟩
def mets : List (Str × Met) := [((PySem.Str.ofString "_law_met"), m0)]
def names : List Str := [(PySem.Str.ofString "is_integer"), (PySem.Str.ofString "is_within"), (PySem.Str.ofString "common_in"), (PySem.Str.ofString "up_in"), (PySem.Str.ofString "sums_in"), (PySem.Str.ofString "find_in"), (PySem.Str.ofString "require_number"), (PySem.Str.ofString "require_numbers"), (PySem.Str.ofString "common"), (PySem.Str.ofString "common_of"), (PySem.Str.ofString "least_common"), (PySem.Str.ofString "up_divided"), (PySem.Str.ofString "sums"), (PySem.Str.ofString "place_in"), (PySem.Str.ofString "end_of"), (PySem.Str.ofString "is_span"), (PySem.Str.ofString "are_spans"), (PySem.Str.ofString "lean_in"), (PySem.Str.ofString "shared_in"), (PySem.Str.ofString "less_in"), (PySem.Str.ofString "size_in"), (PySem.Str.ofString "rank_in"), (PySem.Str.ofString "does_hold"), (PySem.Str.ofString "cell_in"), (PySem.Str.ofString "first_in"), (PySem.Str.ofString "pairs_in"), (PySem.Str.ofString "is_lot"), (PySem.Str.ofString "require_lot"), (PySem.Str.ofString "require_lots"), (PySem.Str.ofString "require_cell"), (PySem.Str.ofString "told"), (PySem.Str.ofString "lot_of"), (PySem.Str.ofString "joined"), (PySem.Str.ofString "shared"), (PySem.Str.ofString "less"), (PySem.Str.ofString "are_apart"), (PySem.Str.ofString "size"), (PySem.Str.ofString "holds"), (PySem.Str.ofString "rank"), (PySem.Str.ofString "cell_at"), (PySem.Str.ofString "first_cells"), (PySem.Str.ofString "pairs_of"), (PySem.Str.ofString "_law_dice"), (PySem.Str.ofString "_law_roll"), (PySem.Str.ofString "_law_pick"), (PySem.Str.ofString "_law_one"), (PySem.Str.ofString "_law_first"), (PySem.Str.ofString "_law_numbers_right"), (PySem.Str.ofString "_law_lots_right"), (PySem.Str.ofString "_law_size"), (PySem.Str.ofString "law")]
def tops : List Nat := [13, 14, 15, 16, 17, 18, 19, 20, 21, 22, 23, 24, 25, 26, 30, 31, 32, 33, 34, 35, 36, 37, 38, 39, 40, 41, 42, 43, 44, 45, 46, 47, 48, 49, 50, 51, 52, 53, 54, 55, 56, 57, 59, 60, 61, 62, 63, 65, 66, 67, 68]
def topsM : List (Str × Str × Nat × Nat) := []
-- 0: is_integer(value); names: 0=value
def N0 : List Str := [(PySem.Str.ofString "value")]
def d0 : Def := ⟨1, 1, [
  .ret (.and (.isinst (.var 0) .int) (.not (.isinst (.var 0) .bool)))]⟩

-- 1: is_within(value, low, most); names: 0=value 1=low 2=most
def N1 : List Str := [(PySem.Str.ofString "value"), (PySem.Str.ofString "low"), (PySem.Str.ofString "most")]
def d1 : Def := ⟨3, 3, [
  .ret (.and (.call 0 [(.var 0)]) (.cmp2 .le .le (.var 1) (.var 0) (.var 2)))]⟩

-- 2: common_in(one, other); names: 0=one 1=other
def N2 : List Str := [(PySem.Str.ofString "one"), (PySem.Str.ofString "other")]
def w2_1 : E := (.cmp .ne (.var 1) (.c (.int 0)))
def b2_2 : List St := [.par [0, 1] [(.var 1), (.bin .mod (.var 0) (.var 1))]]
def d2 : Def := ⟨2, 2, [
  .par [0, 1] [(.b1 .abs (.var 0)), (.b1 .abs (.var 1))],
  .while_ w2_1 b2_2,
  .ret (.var 0)]⟩

-- 3: up_in(one, other); names: 0=one 1=other
def N3 : List Str := [(PySem.Str.ofString "one"), (PySem.Str.ofString "other")]
def d3 : Def := ⟨2, 2, [
  .ret (.bin .sub (.c (.int 0)) (.bin .fdiv (.bin .sub (.c (.int 0)) (.var 0)) (.var 1)))]⟩

-- 4: sums_in(numbers); names: 0=numbers 1=found 2=number
def N4 : List Str := [(PySem.Str.ofString "numbers"), (PySem.Str.ofString "found"), (PySem.Str.ofString "number")]
def b4_1 : List St := [.expr (.meth .append (.var 1) [(.bin .add (.ix (.var 1) (.neg (.c (.int 1)))) (.var 2))])]
def d4 : Def := ⟨1, 3, [
  .asg (.slot 1) (.alloc (.lst [(.c (.int 0))])),
  .for_ (.slot 2) (.of (.var 0)) b4_1,
  .ret (.var 1)]⟩

-- 5: find_in(numbers, total); names: 0=numbers 1=total 2=at 3=number
def N5 : List Str := [(PySem.Str.ofString "numbers"), (PySem.Str.ofString "total"), (PySem.Str.ofString "at"), (PySem.Str.ofString "number")]
def b5_1 : List St := [.if_ (.cmp .lt (.var 1) (.var 3)) [.ret (.tup [(.var 2), (.var 1)])] [], .asg (.slot 1) (.bin .sub (.var 1) (.var 3))]
def d5 : Def := ⟨2, 4, [
  .for_ (.tup [(.slot 2), (.slot 3)]) (.enum (.var 0)) b5_1,
  .ret (.tup [(.b1 .len (.var 0)), (.var 1)])]⟩

-- 6: require_number(value); names: 0=value
def N6 : List Str := [(PySem.Str.ofString "value")]
def d6 : Def := ⟨1, 1, [
  .if_ (.not (.call 1 [(.var 0), (.bin .sub (.c (.int 1)) (.glob 2)), (.bin .sub (.glob 2) (.c (.int 1)))])) [.raise_ (PySem.Str.ofString "InvalidCount") (some (PySem.Str.ofString "given")) (.var 0)] []]⟩

-- 7: require_numbers(numbers); names: 0=numbers 1=number
def N7 : List Str := [(PySem.Str.ofString "numbers"), (PySem.Str.ofString "number")]
def e7_1 : E := (.call 1 [(.var 1), (.bin .sub (.c (.int 1)) (.glob 2)), (.bin .sub (.glob 2) (.c (.int 1)))])
def d7 : Def := ⟨1, 2, [
  .if_ (.or (.not (.isinst (.var 0) .tuple)) (.cmp .gt (.b1 .len (.var 0)) (.glob 3))) [.raise_ (PySem.Str.ofString "InvalidOperation") none (.c (.str (PySem.Str.ofString "a tuple of integers is expected")))] [],
  .if_ (.not (.bi .all (.of (.lc e7_1 (.slot 1) (.of (.var 0)) [] [1])))) [.raise_ (PySem.Str.ofString "InvalidOperation") none (.c (.str (PySem.Str.ofString "a tuple of integers is expected")))] []]⟩

-- 8: common(one, other); names: 0=one 1=other
def N8 : List Str := [(PySem.Str.ofString "one"), (PySem.Str.ofString "other")]
def d8 : Def := ⟨2, 2, [
  .expr (.call 6 [(.var 0)]),
  .expr (.call 6 [(.var 1)]),
  .ret (.call 2 [(.var 0), (.var 1)])]⟩

-- 9: common_of(numbers); names: 0=numbers 1=found 2=number
def N9 : List Str := [(PySem.Str.ofString "numbers"), (PySem.Str.ofString "found"), (PySem.Str.ofString "number")]
def b9_1 : List St := [.asg (.slot 1) (.call 2 [(.var 1), (.var 2)])]
def d9 : Def := ⟨1, 3, [
  .expr (.call 7 [(.var 0)]),
  .asg (.slot 1) (.c (.int 0)),
  .for_ (.slot 2) (.of (.var 0)) b9_1,
  .ret (.var 1)]⟩

-- 10: least_common(numbers); names: 0=numbers 1=found 2=number
def N10 : List Str := [(PySem.Str.ofString "numbers"), (PySem.Str.ofString "found"), (PySem.Str.ofString "number")]
def b10_1 : List St := [.asg (.slot 1) (.bin .fdiv (.bin .mul (.var 1) (.b1 .abs (.var 2))) (.call 2 [(.var 1), (.var 2)]))]
def d10 : Def := ⟨1, 3, [
  .expr (.call 7 [(.var 0)]),
  .if_ (.cmp .mem (.c (.int 0)) (.var 0)) [.raise_ (PySem.Str.ofString "InvalidOperation") none (.c (.str (PySem.Str.ofString "numbers other than 0 are expected")))] [],
  .asg (.slot 1) (.c (.int 1)),
  .for_ (.slot 2) (.of (.var 0)) b10_1,
  .ret (.var 1)]⟩

-- 11: up_divided(one, other); names: 0=one 1=other
def N11 : List Str := [(PySem.Str.ofString "one"), (PySem.Str.ofString "other")]
def d11 : Def := ⟨2, 2, [
  .expr (.call 6 [(.var 0)]),
  .expr (.call 6 [(.var 1)]),
  .if_ (.cmp .lt (.var 1) (.c (.int 1))) [.raise_ (PySem.Str.ofString "InvalidOperation") none (.c (.str (PySem.Str.ofString "a divisor above 0 is expected")))] [],
  .ret (.call 3 [(.var 0), (.var 1)])]⟩

-- 12: sums(numbers); names: 0=numbers
def N12 : List Str := [(PySem.Str.ofString "numbers")]
def d12 : Def := ⟨1, 1, [
  .expr (.call 7 [(.var 0)]),
  .ret (.bi .tuple (.of (.call 4 [(.var 0)])))]⟩

-- 13: place_in(numbers, total); names: 0=numbers 1=total 2=number
def N13 : List Str := [(PySem.Str.ofString "numbers"), (PySem.Str.ofString "total"), (PySem.Str.ofString "number")]
def e13_1 : E := (.cmp .lt (.var 2) (.c (.int 0)))
def d13 : Def := ⟨2, 3, [
  .expr (.call 7 [(.var 0)]),
  .if_ (.not (.call 0 [(.var 1)])) [.raise_ (PySem.Str.ofString "InvalidCount") (some (PySem.Str.ofString "given")) (.var 1)] [],
  .if_ (.or (.bi .any (.of (.lc e13_1 (.slot 2) (.of (.var 0)) [] [2]))) (.not (.cmp2 .le .lt (.c (.int 0)) (.var 1) (.bi .sum (.of (.var 0)))))) [.raise_ (PySem.Str.ofString "InvalidOperation") none (.c (.str (PySem.Str.ofString "numbers from 0 on and a total below their sum are expected")))] [],
  .ret (.call 5 [(.var 0), (.var 1)])]⟩

-- 14: end_of(span); names: 0=span
def N14 : List Str := [(PySem.Str.ofString "span")]
def d14 : Def := ⟨1, 1, [
  .ret (.bin .add (.ix (.var 0) (.c (.int 0))) (.ix (.var 0) (.c (.int 1))))]⟩

-- 15: is_span(value); names: 0=value
def N15 : List Str := [(PySem.Str.ofString "value")]
def d15 : Def := ⟨1, 1, [
  .if_ (.or (.not (.isinst (.var 0) .tuple)) (.or (.cmp .ne (.b1 .len (.var 0)) (.c (.int 2))) (.not (.call 1 [(.ix (.var 0) (.c (.int 0))), (.c (.int 0)), (.glob 0)])))) [.ret (.c (.bl false))] [],
  .ret (.and (.call 1 [(.ix (.var 0) (.c (.int 1))), (.c (.int 1)), (.glob 0)]) (.cmp .le (.call 14 [(.var 0)]) (.glob 0)))]⟩

-- 16: are_spans(value); names: 0=value 1=span
def N16 : List Str := [(PySem.Str.ofString "value"), (PySem.Str.ofString "span")]
def e16_1 : E := (.call 15 [(.var 1)])
def d16 : Def := ⟨1, 2, [
  .ret (.and (.isinst (.var 0) .tuple) (.and (.cmp .le (.b1 .len (.var 0)) (.glob 1)) (.bi .all (.of (.lc e16_1 (.slot 1) (.of (.var 0)) [] [1])))))]⟩

-- 17: lean_in(spans); names: 0=spans 1=found 2=start 3=many 4=end
def N17 : List Str := [(PySem.Str.ofString "spans"), (PySem.Str.ofString "found"), (PySem.Str.ofString "start"), (PySem.Str.ofString "many"), (PySem.Str.ofString "end")]
def b17_1 : List St := [.if_ (.and (.cmp .ne (.var 1) (.lst [])) (.cmp .le (.var 2) (.call 14 [(.ix (.var 1) (.neg (.c (.int 1))))]))) [.asg (.slot 4) (.b2 .max (.bin .add (.var 2) (.var 3)) (.call 14 [(.ix (.var 1) (.neg (.c (.int 1))))])), .setix (.var 1) (.neg (.c (.int 1))) (.tup [(.ix (.ix (.var 1) (.neg (.c (.int 1)))) (.c (.int 0))), (.bin .sub (.var 4) (.ix (.ix (.var 1) (.neg (.c (.int 1)))) (.c (.int 0))))])] [.expr (.meth .append (.var 1) [(.tup [(.var 2), (.var 3)])])]]
def d17 : Def := ⟨1, 5, [
  .asg (.slot 1) (.alloc (.lst [])),
  .for_ (.tup [(.slot 2), (.slot 3)]) (.of (.bi .sorted (.of (.var 0)))) b17_1,
  .ret (.bi .tuple (.of (.var 1)))]⟩

-- 18: shared_in(one, other); names: 0=one 1=other 2=found 3=at 4=spot 5=low 6=high
def N18 : List Str := [(PySem.Str.ofString "one"), (PySem.Str.ofString "other"), (PySem.Str.ofString "found"), (PySem.Str.ofString "at"), (PySem.Str.ofString "spot"), (PySem.Str.ofString "low"), (PySem.Str.ofString "high")]
def w18_1 : E := (.and (.cmp .lt (.var 3) (.b1 .len (.var 0))) (.cmp .lt (.var 4) (.b1 .len (.var 1))))
def b18_2 : List St := [.asg (.slot 5) (.b2 .max (.ix (.ix (.var 0) (.var 3)) (.c (.int 0))) (.ix (.ix (.var 1) (.var 4)) (.c (.int 0)))), .asg (.slot 6) (.b2 .min (.call 14 [(.ix (.var 0) (.var 3))]) (.call 14 [(.ix (.var 1) (.var 4))])), .if_ (.cmp .lt (.var 5) (.var 6)) [.expr (.meth .append (.var 2) [(.tup [(.var 5), (.bin .sub (.var 6) (.var 5))])])] [], .if_ (.cmp .lt (.call 14 [(.ix (.var 0) (.var 3))]) (.call 14 [(.ix (.var 1) (.var 4))])) [.asg (.slot 3) (.bin .add (.var 3) (.c (.int 1)))] [.asg (.slot 4) (.bin .add (.var 4) (.c (.int 1)))]]
def d18 : Def := ⟨2, 7, [
  .par [2, 3, 4] [(.alloc (.lst [])), (.c (.int 0)), (.c (.int 0))],
  .while_ w18_1 b18_2,
  .ret (.bi .tuple (.of (.var 2)))]⟩

-- 19: less_in(one, other); names: 0=one 1=other 2=found 3=spot 4=span 5=here 6=end 7=after
def N19 : List Str := [(PySem.Str.ofString "one"), (PySem.Str.ofString "other"), (PySem.Str.ofString "found"), (PySem.Str.ofString "spot"), (PySem.Str.ofString "span"), (PySem.Str.ofString "here"), (PySem.Str.ofString "end"), (PySem.Str.ofString "after")]
def w19_1 : E := (.and (.cmp .lt (.var 3) (.b1 .len (.var 1))) (.cmp .le (.call 14 [(.ix (.var 1) (.var 3))]) (.var 5)))
def b19_2 : List St := [.asg (.slot 3) (.bin .add (.var 3) (.c (.int 1)))]
def w19_3 : E := (.and (.cmp .lt (.var 7) (.b1 .len (.var 1))) (.cmp .lt (.ix (.ix (.var 1) (.var 7)) (.c (.int 0))) (.var 6)))
def b19_4 : List St := [.if_ (.cmp .gt (.ix (.ix (.var 1) (.var 7)) (.c (.int 0))) (.var 5)) [.expr (.meth .append (.var 2) [(.tup [(.var 5), (.bin .sub (.ix (.ix (.var 1) (.var 7)) (.c (.int 0))) (.var 5))])])] [], .par [5, 7] [(.b2 .max (.var 5) (.call 14 [(.ix (.var 1) (.var 7))])), (.bin .add (.var 7) (.c (.int 1)))]]
def b19_5 : List St := [.par [5, 6] [(.ix (.var 4) (.c (.int 0))), (.call 14 [(.var 4)])], .while_ w19_1 b19_2, .asg (.slot 7) (.var 3), .while_ w19_3 b19_4, .if_ (.cmp .lt (.var 5) (.var 6)) [.expr (.meth .append (.var 2) [(.tup [(.var 5), (.bin .sub (.var 6) (.var 5))])])] []]
def d19 : Def := ⟨2, 8, [
  .par [2, 3] [(.alloc (.lst [])), (.c (.int 0))],
  .for_ (.slot 4) (.of (.var 0)) b19_5,
  .ret (.bi .tuple (.of (.var 2)))]⟩

-- 20: size_in(lot); names: 0=lot 1=start 2=many
def N20 : List Str := [(PySem.Str.ofString "lot"), (PySem.Str.ofString "start"), (PySem.Str.ofString "many")]
def e20_1 : E := (.var 2)
def d20 : Def := ⟨1, 3, [
  .ret (.bi .sum (.of (.lc e20_1 (.tup [(.slot 1), (.slot 2)]) (.of (.var 0)) [] [1, 2])))]⟩

-- 21: rank_in(lot, cell); names: 0=lot 1=cell 2=start 3=many
def N21 : List Str := [(PySem.Str.ofString "lot"), (PySem.Str.ofString "cell"), (PySem.Str.ofString "start"), (PySem.Str.ofString "many")]
def e21_1 : E := (.b2 .min (.var 3) (.bin .sub (.var 1) (.var 2)))
def d21 : Def := ⟨2, 4, [
  .ret (.bi .sum (.of (.lc e21_1 (.tup [(.slot 2), (.slot 3)]) (.of (.var 0)) [(.cmp .lt (.var 2) (.var 1))] [2, 3])))]⟩

-- 22: does_hold(lot, cell); names: 0=lot 1=cell 2=start 3=many
def N22 : List Str := [(PySem.Str.ofString "lot"), (PySem.Str.ofString "cell"), (PySem.Str.ofString "start"), (PySem.Str.ofString "many")]
def e22_1 : E := (.cmp2 .le .lt (.var 2) (.var 1) (.bin .add (.var 2) (.var 3)))
def d22 : Def := ⟨2, 4, [
  .ret (.bi .any (.of (.lc e22_1 (.tup [(.slot 2), (.slot 3)]) (.of (.var 0)) [] [2, 3])))]⟩

-- 23: cell_in(lot, index); names: 0=lot 1=index 2=start 3=many
def N23 : List Str := [(PySem.Str.ofString "lot"), (PySem.Str.ofString "index"), (PySem.Str.ofString "start"), (PySem.Str.ofString "many")]
def b23_1 : List St := [.if_ (.cmp .lt (.var 1) (.var 3)) [.ret (.bin .add (.var 2) (.var 1))] [], .asg (.slot 1) (.bin .sub (.var 1) (.var 3))]
def d23 : Def := ⟨2, 4, [
  .for_ (.tup [(.slot 2), (.slot 3)]) (.of (.var 0)) b23_1,
  .ret (.c .non)]⟩

-- 24: first_in(lot, many); names: 0=lot 1=many 2=found 3=start 4=size
def N24 : List Str := [(PySem.Str.ofString "lot"), (PySem.Str.ofString "many"), (PySem.Str.ofString "found"), (PySem.Str.ofString "start"), (PySem.Str.ofString "size")]
def b24_1 : List St := [.if_ (.cmp .gt (.var 1) (.c (.int 0))) [.expr (.meth .append (.var 2) [(.tup [(.var 3), (.b2 .min (.var 4) (.var 1))])]), .asg (.slot 1) (.bin .sub (.var 1) (.b2 .min (.var 4) (.var 1)))] []]
def d24 : Def := ⟨2, 5, [
  .asg (.slot 2) (.alloc (.lst [])),
  .for_ (.tup [(.slot 3), (.slot 4)]) (.of (.var 0)) b24_1,
  .ret (.bi .tuple (.of (.var 2)))]⟩

-- 25: pairs_in(one, other); names: 0=one 1=other 2=found 3=at 4=done 5=spot 6=gone 7=many
def N25 : List Str := [(PySem.Str.ofString "one"), (PySem.Str.ofString "other"), (PySem.Str.ofString "found"), (PySem.Str.ofString "at"), (PySem.Str.ofString "done"), (PySem.Str.ofString "spot"), (PySem.Str.ofString "gone"), (PySem.Str.ofString "many")]
def w25_1 : E := (.cmp .lt (.var 3) (.b1 .len (.var 0)))
def b25_2 : List St := [.asg (.slot 7) (.b2 .min (.bin .sub (.ix (.ix (.var 0) (.var 3)) (.c (.int 1))) (.var 4)) (.bin .sub (.ix (.ix (.var 1) (.var 5)) (.c (.int 1))) (.var 6))), .expr (.meth .append (.var 2) [(.tup [(.bin .add (.ix (.ix (.var 0) (.var 3)) (.c (.int 0))) (.var 4)), (.bin .add (.ix (.ix (.var 1) (.var 5)) (.c (.int 0))) (.var 6)), (.var 7)])]), .par [4, 6] [(.bin .add (.var 4) (.var 7)), (.bin .add (.var 6) (.var 7))], .if_ (.cmp .eq (.var 4) (.ix (.ix (.var 0) (.var 3)) (.c (.int 1)))) [.par [3, 4] [(.bin .add (.var 3) (.c (.int 1))), (.c (.int 0))]] [], .if_ (.cmp .eq (.var 6) (.ix (.ix (.var 1) (.var 5)) (.c (.int 1)))) [.par [5, 6] [(.bin .add (.var 5) (.c (.int 1))), (.c (.int 0))]] []]
def d25 : Def := ⟨2, 8, [
  .asg (.tup [(.slot 2), (.slot 3), (.slot 4), (.slot 5), (.slot 6)]) (.tup [(.alloc (.lst [])), (.c (.int 0)), (.c (.int 0)), (.c (.int 0)), (.c (.int 0))]),
  .while_ w25_1 b25_2,
  .ret (.var 2)]⟩

-- 26: is_lot(value); names: 0=value 1=span 2=later
def N26 : List Str := [(PySem.Str.ofString "value"), (PySem.Str.ofString "span"), (PySem.Str.ofString "later")]
def e26_1 : E := (.cmp .lt (.call 14 [(.var 1)]) (.ix (.var 2) (.c (.int 0))))
def d26 : Def := ⟨1, 3, [
  .if_ (.not (.call 16 [(.var 0)])) [.ret (.c (.bl false))] [],
  .ret (.bi .all (.of (.lc e26_1 (.tup [(.slot 1), (.slot 2)]) (.zip (.var 0) (.slice (.var 0) true false (.c (.int 1)) (.c .non))) [] [1, 2])))]⟩

-- 27: require_lot(lot); names: 0=lot
def N27 : List Str := [(PySem.Str.ofString "lot")]
def d27 : Def := ⟨1, 1, [
  .if_ (.not (.call 26 [(.var 0)])) [.raise_ (PySem.Str.ofString "InvalidOperation") none (.c (.str (PySem.Str.ofString "a lot of cells is expected")))] []]⟩

-- 28: require_lots(one, other); names: 0=one 1=other
def N28 : List Str := [(PySem.Str.ofString "one"), (PySem.Str.ofString "other")]
def d28 : Def := ⟨2, 2, [
  .expr (.call 27 [(.var 0)]),
  .expr (.call 27 [(.var 1)])]⟩

-- 29: require_cell(cell); names: 0=cell
def N29 : List Str := [(PySem.Str.ofString "cell")]
def d29 : Def := ⟨1, 1, [
  .if_ (.not (.call 1 [(.var 0), (.c (.int 0)), (.glob 0)])) [.raise_ (PySem.Str.ofString "InvalidCount") (some (PySem.Str.ofString "given")) (.var 0)] []]⟩

-- 30: told(spans); names: 0=spans
def N30 : List Str := [(PySem.Str.ofString "spans")]
def d30 : Def := ⟨1, 1, [
  .if_ (.cmp .gt (.b1 .len (.var 0)) (.glob 1)) [.raise_ (PySem.Str.ofString "TooMany") (some (PySem.Str.ofString "limit")) (.glob 1)] [],
  .ret (.bi .tuple (.of (.var 0)))]⟩

-- 31: lot_of(spans); names: 0=spans
def N31 : List Str := [(PySem.Str.ofString "spans")]
def d31 : Def := ⟨1, 1, [
  .if_ (.not (.call 16 [(.var 0)])) [.raise_ (PySem.Str.ofString "InvalidOperation") none (.c (.str (PySem.Str.ofString "a tuple of spans is expected")))] [],
  .ret (.call 17 [(.var 0)])]⟩

-- 32: joined(one, other); names: 0=one 1=other
def N32 : List Str := [(PySem.Str.ofString "one"), (PySem.Str.ofString "other")]
def d32 : Def := ⟨2, 2, [
  .expr (.call 28 [(.var 0), (.var 1)]),
  .ret (.call 30 [(.call 17 [(.bin .add (.var 0) (.var 1))])])]⟩

-- 33: shared(one, other); names: 0=one 1=other
def N33 : List Str := [(PySem.Str.ofString "one"), (PySem.Str.ofString "other")]
def d33 : Def := ⟨2, 2, [
  .expr (.call 28 [(.var 0), (.var 1)]),
  .ret (.call 30 [(.call 18 [(.var 0), (.var 1)])])]⟩

-- 34: less(one, other); names: 0=one 1=other
def N34 : List Str := [(PySem.Str.ofString "one"), (PySem.Str.ofString "other")]
def d34 : Def := ⟨2, 2, [
  .expr (.call 28 [(.var 0), (.var 1)]),
  .ret (.call 30 [(.call 19 [(.var 0), (.var 1)])])]⟩

-- 35: are_apart(one, other); names: 0=one 1=other
def N35 : List Str := [(PySem.Str.ofString "one"), (PySem.Str.ofString "other")]
def d35 : Def := ⟨2, 2, [
  .expr (.call 28 [(.var 0), (.var 1)]),
  .ret (.cmp .eq (.call 18 [(.var 0), (.var 1)]) (.tup []))]⟩

-- 36: size(lot); names: 0=lot
def N36 : List Str := [(PySem.Str.ofString "lot")]
def d36 : Def := ⟨1, 1, [
  .expr (.call 27 [(.var 0)]),
  .ret (.call 20 [(.var 0)])]⟩

-- 37: holds(lot, cell); names: 0=lot 1=cell
def N37 : List Str := [(PySem.Str.ofString "lot"), (PySem.Str.ofString "cell")]
def d37 : Def := ⟨2, 2, [
  .expr (.call 27 [(.var 0)]),
  .expr (.call 29 [(.var 1)]),
  .ret (.call 22 [(.var 0), (.var 1)])]⟩

-- 38: rank(lot, cell); names: 0=lot 1=cell
def N38 : List Str := [(PySem.Str.ofString "lot"), (PySem.Str.ofString "cell")]
def d38 : Def := ⟨2, 2, [
  .expr (.call 27 [(.var 0)]),
  .expr (.call 29 [(.var 1)]),
  .ret (.call 21 [(.var 0), (.var 1)])]⟩

-- 39: cell_at(lot, index); names: 0=lot 1=index
def N39 : List Str := [(PySem.Str.ofString "lot"), (PySem.Str.ofString "index")]
def d39 : Def := ⟨2, 2, [
  .expr (.call 27 [(.var 0)]),
  .if_ (.not (.call 1 [(.var 1), (.c (.int 0)), (.bin .sub (.call 20 [(.var 0)]) (.c (.int 1)))])) [.raise_ (PySem.Str.ofString "InvalidCount") (some (PySem.Str.ofString "given")) (.var 1)] [],
  .ret (.call 23 [(.var 0), (.var 1)])]⟩

-- 40: first_cells(lot, many); names: 0=lot 1=many
def N40 : List Str := [(PySem.Str.ofString "lot"), (PySem.Str.ofString "many")]
def d40 : Def := ⟨2, 2, [
  .expr (.call 27 [(.var 0)]),
  .if_ (.not (.call 1 [(.var 1), (.c (.int 0)), (.call 20 [(.var 0)])])) [.raise_ (PySem.Str.ofString "InvalidCount") (some (PySem.Str.ofString "given")) (.var 1)] [],
  .ret (.call 24 [(.var 0), (.var 1)])]⟩

-- 41: pairs_of(one, other); names: 0=one 1=other
def N41 : List Str := [(PySem.Str.ofString "one"), (PySem.Str.ofString "other")]
def d41 : Def := ⟨2, 2, [
  .expr (.call 28 [(.var 0), (.var 1)]),
  .if_ (.cmp .ne (.call 20 [(.var 0)]) (.call 20 [(.var 1)])) [.raise_ (PySem.Str.ofString "InvalidOperation") none (.c (.str (PySem.Str.ofString "lots of one size are expected")))] [],
  .ret (.call 30 [(.call 25 [(.var 0), (.var 1)])])]⟩

-- 42: _law_dice(script, spot); names: 0=script 1=spot 2=cell 3=great 4=seed
def N42 : List Str := [(PySem.Str.ofString "script"), (PySem.Str.ofString "spot"), (PySem.Str.ofString "cell"), (PySem.Str.ofString "great"), (PySem.Str.ofString "seed")]
def d42 : Def := ⟨2, 5, [
  .asg (.slot 2) (.ite (.cmp .lt (.var 1) (.b1 .len (.var 0))) (.b1 .int (.ix (.var 0) (.var 1))) (.bin .add (.bin .mul (.c (.int 149)) (.var 1)) (.c (.int 53)))),
  .asg (.slot 3) (.bin .mod (.b1 .int (.b1 .abs (.var 2))) (.bin .pow (.bin .pow (.c (.int 10)) (.c (.int 54))) (.c (.int 6)))),
  .asg (.slot 4) (.bin .add (.bin .add (.bin .add (.bin .mul (.bin .mod (.var 3) (.c (.int 2305843009213693921))) (.c (.int 67))) (.bin .mul (.c (.int 743)) (.var 1))) (.bin .mul (.c (.int 37)) (.b1 .int (.cmp .lt (.var 2) (.c (.int 0)))))) (.c (.int 29))),
  .ret (.lst [(.b2 .max (.c (.int 0)) (.bin .sub (.var 3) (.bin .pow (.c (.int 10)) (.c (.int 16))))), (.var 4), (.c (.int 0))])]⟩

-- 43: _law_roll(dice, total); names: 0=dice 1=total 2=found 3=one 4=two
def N43 : List Str := [(PySem.Str.ofString "dice"), (PySem.Str.ofString "total"), (PySem.Str.ofString "found"), (PySem.Str.ofString "one"), (PySem.Str.ofString "two")]
def d43 : Def := ⟨2, 5, [
  .if_ (.cmp .gt (.ix (.var 0) (.c (.int 0))) (.c (.int 0))) [.asg (.slot 2) (.bin .mod (.ix (.var 0) (.c (.int 0))) (.var 1)), .setix (.var 0) (.c (.int 0)) (.bin .fdiv (.ix (.var 0) (.c (.int 0))) (.var 1)), .ret (.b1 .int (.var 2))] [],
  .setix (.var 0) (.c (.int 2)) (.bin .add (.ix (.var 0) (.c (.int 2))) (.c (.int 1))),
  .asg (.slot 3) (.bin .mod (.bin .add (.ix (.var 0) (.c (.int 1))) (.bin .mul (.c (.int 86028157)) (.ix (.var 0) (.c (.int 2))))) (.c (.int 2305843009213693951))),
  .asg (.slot 4) (.bin .add (.bin .mul (.bin .mod (.bin .add (.bin .mul (.var 3) (.var 3)) (.bin .mul (.c (.int 179)) (.ix (.var 0) (.c (.int 2))))) (.c (.int 2305843009213693907))) (.c (.int 15485867))) (.var 3)),
  .ret (.bin .mod (.b1 .int (.bin .fdiv (.var 4) (.c (.int 65579)))) (.var 1))]⟩

-- 44: _law_pick(dice, items); names: 0=dice 1=items
def N44 : List Str := [(PySem.Str.ofString "dice"), (PySem.Str.ofString "items")]
def d44 : Def := ⟨2, 2, [
  .ret (.ix (.var 1) (.call 43 [(.var 0), (.b1 .len (.var 1))]))]⟩

-- 45: _law_one(dice, right, wrong); names: 0=dice 1=right 2=wrong
def N45 : List Str := [(PySem.Str.ofString "dice"), (PySem.Str.ofString "right"), (PySem.Str.ofString "wrong")]
def d45 : Def := ⟨3, 3, [
  .if_ (.cmp .gt (.call 43 [(.var 0), (.c (.int 3))]) (.c (.int 0))) [.ret (.tup [(.var 1), (.c (.bl false))])] [],
  .ret (.tup [(.call 44 [(.var 0), (.var 2)]), (.c (.bl true))])]⟩

-- 46: _law_first(rows); names: 0=rows 1=some 2=word 3=is_wrong
def N46 : List Str := [(PySem.Str.ofString "rows"), (PySem.Str.ofString "some"), (PySem.Str.ofString "word"), (PySem.Str.ofString "is_wrong")]
def e46_1 : E := (.var 2)
def d46 : Def := ⟨1, 4, [
  .asg (.slot 1) (.lc e46_1 (.tup [(.slot 2), (.slot 3)]) (.of (.var 0)) [(.var 3)] [2, 3]),
  .ret (.ite (.cmp .ne (.var 1) (.lst [])) (.ix (.var 1) (.c (.int 0))) (.c (.str (PySem.Str.ofString "none"))))]⟩

-- 47: _law_numbers_right(dice); names: 0=dice 1=great 2=odd 3=no_one 4=no_other 5=rows 6=bad 7=no_some 8=first 9=no_total 10=call 11=one 12=other 13=some 14=total
def N47 : List Str := [(PySem.Str.ofString "dice"), (PySem.Str.ofString "great"), (PySem.Str.ofString "odd"), (PySem.Str.ofString "no_one"), (PySem.Str.ofString "no_other"), (PySem.Str.ofString "rows"), (PySem.Str.ofString "bad"), (PySem.Str.ofString "no_some"), (PySem.Str.ofString "first"), (PySem.Str.ofString "no_total"), (PySem.Str.ofString "call"), (PySem.Str.ofString "one"), (PySem.Str.ofString "other"), (PySem.Str.ofString "some"), (PySem.Str.ofString "total")]
def b47_1 : List St := [.if_ (.cmp .ne (.met (PySem.Str.ofString "_law_met") m0 (.callv [((PySem.Str.ofString "common_of"), 9), ((PySem.Str.ofString "sums"), 12)] 10 [(.var 13)])) (.call 46 [(.lst [(.var 8)])])) [.ret (.c (.bl false))] []]
def d47 : Def := ⟨1, 15, [
  .asg (.slot 1) (.bin .mul (.bin .mul (.bin .mul (.bin .pow (.c (.int 10)) (.c (.int 50))) (.bin .pow (.c (.int 10)) (.c (.int 50)))) (.bin .pow (.c (.int 10)) (.c (.int 50)))) (.bin .pow (.c (.int 10)) (.c (.int 50)))),
  .asg (.slot 2) (.lst [(.var 1), (.bin .sub (.c (.int 0)) (.var 1)), (.c .non), (.c (.bl true)), (.c (.str (PySem.Str.ofString "1"))), (.tup [(.c (.int 1))])]),
  .asg (.tup [(.slot 11), (.slot 3)]) (.call 45 [(.var 0), (.call 44 [(.var 0), (.lst [(.c (.int 0)), (.neg (.c (.int 5))), (.bin .sub (.var 1) (.c (.int 1)))])]), (.var 2)]),
  .asg (.tup [(.slot 12), (.slot 4)]) (.call 45 [(.var 0), (.call 44 [(.var 0), (.lst [(.c (.int 0)), (.c (.int 3)), (.neg (.c (.int 2)))])]), (.var 2)]),
  .asg (.slot 5) (.alloc (.lst [(.tup [(.bin .add (.c (.str (PySem.Str.ofString "count "))) (.b1 .repr (.var 11))), (.var 3)]), (.tup [(.bin .add (.c (.str (PySem.Str.ofString "count "))) (.b1 .repr (.var 12))), (.var 4)])])),
  .if_ (.cmp .ne (.met (PySem.Str.ofString "_law_met") m0 (.call 8 [(.var 11), (.var 12)])) (.call 46 [(.var 5)])) [.ret (.c (.bl false))] [],
  .if_ (.cmp .ne (.met (PySem.Str.ofString "_law_met") m0 (.call 11 [(.var 11), (.var 12)])) (.call 46 [(.bin .add (.var 5) (.lst [(.tup [(.c (.str (PySem.Str.ofString "operation"))), (.or (.var 4) (.cmp .lt (.var 12) (.c (.int 1))))])]))])) [.ret (.c (.bl false))] [],
  .asg (.slot 6) (.lst [(.c .non), (.lst [(.c (.int 1))]), (.tup [(.c (.bl true))]), (.tup [(.var 1)]), (.tup [(.c (.str (PySem.Str.ofString "1")))]), (.c (.int 5)), (.tup [(.c (.int 1)), (.c .non)]), (.bin .mul (.tup [(.c (.int 0))]) (.c (.int 1001)))]),
  .asg (.tup [(.slot 13), (.slot 7)]) (.call 45 [(.var 0), (.call 44 [(.var 0), (.lst [(.tup [(.c (.int 3)), (.c (.int 4))]), (.tup [(.c (.int 2)), (.c (.int 0))]), (.tup [])])]), (.var 6)]),
  .asg (.slot 8) (.tup [(.c (.str (PySem.Str.ofString "operation"))), (.var 7)]),
  .for_ (.slot 10) (.of (.tup [(.fn (PySem.Str.ofString "common_of")), (.fn (PySem.Str.ofString "sums"))])) b47_1,
  .if_ (.cmp .ne (.met (PySem.Str.ofString "_law_met") m0 (.call 10 [(.var 13)])) (.call 46 [(.lst [(.tup [(.c (.str (PySem.Str.ofString "operation"))), (.or (.var 7) (.cmp .mem (.c (.int 0)) (.var 13)))])])])) [.ret (.c (.bl false))] [],
  .asg (.tup [(.slot 14), (.slot 9)]) (.call 45 [(.var 0), (.call 44 [(.var 0), (.lst [(.c (.int 0)), (.c (.int 1)), (.c (.int 2)), (.c (.int 7)), (.neg (.c (.int 1)))])]), (.lst [(.c .non), (.c (.bl true)), (.c (.str (PySem.Str.ofString "1")))])]),
  .asg (.slot 5) (.alloc (.lst [(.var 8), (.tup [(.bin .add (.c (.str (PySem.Str.ofString "count "))) (.b1 .repr (.var 14))), (.var 9)])])),
  .if_ (.and (.not (.var 7)) (.not (.var 9))) [.expr (.meth .append (.var 5) [(.tup [(.c (.str (PySem.Str.ofString "operation"))), (.not (.cmp2 .le .lt (.c (.int 0)) (.var 14) (.bi .sum (.of (.var 13)))))])])] [],
  .if_ (.cmp .ne (.met (PySem.Str.ofString "_law_met") m0 (.call 13 [(.var 13), (.var 14)])) (.call 46 [(.var 5)])) [.ret (.c (.bl false))] [],
  .ret (.cmp .eq (.met (PySem.Str.ofString "_law_met") m0 (.call 13 [(.tup [(.c (.int 3)), (.neg (.c (.int 1))), (.c (.int 5))]), (.c (.int 2))])) (.c (.str (PySem.Str.ofString "operation"))))]⟩

-- 48: _law_lots_right(dice); names: 0=dice 1=odd 2=no_one 3=no_other 4=first 5=second 6=unlike 7=no_cell 8=many 9=most 10=no_index 11=rows 12=bad 13=no_spans 14=call 15=cell 16=index 17=one 18=other 19=spans
def N48 : List Str := [(PySem.Str.ofString "dice"), (PySem.Str.ofString "odd"), (PySem.Str.ofString "no_one"), (PySem.Str.ofString "no_other"), (PySem.Str.ofString "first"), (PySem.Str.ofString "second"), (PySem.Str.ofString "unlike"), (PySem.Str.ofString "no_cell"), (PySem.Str.ofString "many"), (PySem.Str.ofString "most"), (PySem.Str.ofString "no_index"), (PySem.Str.ofString "rows"), (PySem.Str.ofString "bad"), (PySem.Str.ofString "no_spans"), (PySem.Str.ofString "call"), (PySem.Str.ofString "cell"), (PySem.Str.ofString "index"), (PySem.Str.ofString "one"), (PySem.Str.ofString "other"), (PySem.Str.ofString "spans")]
def b48_1 : List St := [.if_ (.cmp .ne (.met (PySem.Str.ofString "_law_met") m0 (.callv [((PySem.Str.ofString "joined"), 32), ((PySem.Str.ofString "shared"), 33), ((PySem.Str.ofString "less"), 34), ((PySem.Str.ofString "are_apart"), 35), ((PySem.Str.ofString "holds"), 37), ((PySem.Str.ofString "rank"), 38), ((PySem.Str.ofString "cell_at"), 39), ((PySem.Str.ofString "first_cells"), 40)] 14 [(.var 17), (.var 18)])) (.call 46 [(.lst [(.var 4), (.var 5)])])) [.ret (.c (.bl false))] []]
def b48_2 : List St := [.if_ (.cmp .ne (.met (PySem.Str.ofString "_law_met") m0 (.callv [((PySem.Str.ofString "joined"), 32), ((PySem.Str.ofString "shared"), 33), ((PySem.Str.ofString "less"), 34), ((PySem.Str.ofString "are_apart"), 35), ((PySem.Str.ofString "holds"), 37), ((PySem.Str.ofString "rank"), 38), ((PySem.Str.ofString "cell_at"), 39), ((PySem.Str.ofString "first_cells"), 40)] 14 [(.var 17), (.var 15)])) (.call 46 [(.lst [(.var 4), (.tup [(.bin .add (.c (.str (PySem.Str.ofString "count "))) (.b1 .repr (.var 15))), (.var 7)])])])) [.ret (.c (.bl false))] []]
def b48_3 : List St := [.asg (.tup [(.slot 16), (.slot 10)]) (.call 45 [(.var 0), (.var 9), (.lst [(.neg (.c (.int 1))), (.bin .add (.var 9) (.c (.int 1))), (.c .non), (.c (.bl true)), (.c (.str (PySem.Str.ofString "0")))])]), .asg (.slot 11) (.lst [(.var 4), (.tup [(.bin .add (.c (.str (PySem.Str.ofString "count "))) (.b1 .repr (.var 16))), (.or (.var 10) (.cmp .lt (.var 16) (.c (.int 0))))])]), .if_ (.cmp .ne (.met (PySem.Str.ofString "_law_met") m0 (.callv [((PySem.Str.ofString "joined"), 32), ((PySem.Str.ofString "shared"), 33), ((PySem.Str.ofString "less"), 34), ((PySem.Str.ofString "are_apart"), 35), ((PySem.Str.ofString "holds"), 37), ((PySem.Str.ofString "rank"), 38), ((PySem.Str.ofString "cell_at"), 39), ((PySem.Str.ofString "first_cells"), 40)] 14 [(.var 17), (.var 16)])) (.call 46 [(.var 11)])) [.ret (.c (.bl false))] []]
def d48 : Def := ⟨1, 20, [
  .asg (.slot 1) (.alloc (.lst [(.c .non), (.c (.int 0)), (.lst [(.tup [(.c (.int 0)), (.c (.int 1))])]), (.tup [(.tup [(.c (.int 0)), (.c (.int 0))])]), (.tup [(.tup [(.neg (.c (.int 1))), (.c (.int 2))])]), (.tup [(.tup [(.c (.int 0)), (.c (.int 2))]), (.tup [(.c (.int 2)), (.c (.int 1))])]), (.tup [(.tup [(.c (.int 3)), (.c (.int 1))]), (.tup [(.c (.int 0)), (.c (.int 1))])]), (.tup [(.tup [(.c (.int 0))])]), (.tup [(.tup [(.c (.bl true)), (.c (.int 1))])]), .dct])),
  .expr (.meth .append (.var 1) [(.tup [(.tup [(.bin .pow (.c (.int 10)) (.c (.int 61))), (.c (.int 1))])])]),
  .asg (.tup [(.slot 17), (.slot 2)]) (.call 45 [(.var 0), (.call 44 [(.var 0), (.lst [(.tup []), (.tup [(.tup [(.c (.int 2)), (.c (.int 3))])]), (.tup [(.tup [(.c (.int 0)), (.c (.int 1))]), (.tup [(.c (.int 5)), (.c (.int 2))])])])]), (.var 1)]),
  .asg (.tup [(.slot 18), (.slot 3)]) (.call 45 [(.var 0), (.call 44 [(.var 0), (.lst [(.tup [(.tup [(.c (.int 1)), (.c (.int 3))])]), (.tup [(.tup [(.c (.int 0)), (.bin .pow (.c (.int 10)) (.c (.int 61)))])])])]), (.var 1)]),
  .par [4, 5] [(.tup [(.c (.str (PySem.Str.ofString "operation"))), (.var 2)]), (.tup [(.c (.str (PySem.Str.ofString "operation"))), (.var 3)])],
  .for_ (.slot 14) (.of (.tup [(.fn (PySem.Str.ofString "joined")), (.fn (PySem.Str.ofString "shared")), (.fn (PySem.Str.ofString "less")), (.fn (PySem.Str.ofString "are_apart"))])) b48_1,
  .asg (.slot 6) (.tup [(.c (.str (PySem.Str.ofString "operation"))), (.and (.not (.var 2)) (.and (.not (.var 3)) (.cmp .ne (.call 49 [(.var 17)]) (.call 49 [(.var 18)]))))]),
  .if_ (.cmp .ne (.met (PySem.Str.ofString "_law_met") m0 (.call 41 [(.var 17), (.var 18)])) (.call 46 [(.lst [(.var 4), (.var 5), (.var 6)])])) [.ret (.c (.bl false))] [],
  .if_ (.cmp .ne (.met (PySem.Str.ofString "_law_met") m0 (.call 36 [(.var 17)])) (.call 46 [(.lst [(.var 4)])])) [.ret (.c (.bl false))] [],
  .asg (.tup [(.slot 15), (.slot 7)]) (.call 45 [(.var 0), (.call 44 [(.var 0), (.lst [(.c (.int 0)), (.c (.int 4)), (.bin .pow (.c (.int 10)) (.c (.int 61)))])]), (.lst [(.neg (.c (.int 1))), (.bin .add (.bin .pow (.c (.int 10)) (.c (.int 61))) (.c (.int 1))), (.c .non), (.c (.bl true)), (.c (.str (PySem.Str.ofString "0")))])]),
  .for_ (.slot 14) (.of (.tup [(.fn (PySem.Str.ofString "holds")), (.fn (PySem.Str.ofString "rank"))])) b48_2,
  .asg (.slot 8) (.ite (.var 2) (.c (.int 0)) (.call 49 [(.var 17)])),
  .for_ (.tup [(.slot 14), (.slot 9)]) (.of (.tup [(.tup [(.fn (PySem.Str.ofString "cell_at")), (.bin .sub (.var 8) (.c (.int 1)))]), (.tup [(.fn (PySem.Str.ofString "first_cells")), (.var 8)])])) b48_3,
  .asg (.slot 12) (.lst [(.c .non), (.lst [(.tup [(.c (.int 0)), (.c (.int 1))])]), (.tup [(.tup [(.c (.int 0)), (.c (.int 0))])]), (.tup [(.tup [(.neg (.c (.int 1))), (.c (.int 1))])]), (.tup [(.tup [(.c (.int 0))])]), (.tup [(.tup [(.bin .pow (.c (.int 10)) (.c (.int 61))), (.c (.int 1))])]), (.tup [(.tup [(.c (.int 0)), (.c (.bl true))])]), (.c (.int 5)), (.tup [(.tup [(.c (.int 0)), (.c (.int 1)), (.c (.int 1))])])]),
  .asg (.tup [(.slot 19), (.slot 13)]) (.call 45 [(.var 0), (.call 44 [(.var 0), (.lst [(.tup []), (.tup [(.tup [(.c (.int 5)), (.c (.int 2))]), (.tup [(.c (.int 0)), (.c (.int 9))]), (.tup [(.c (.int 5)), (.c (.int 2))])]), (.tup [(.tup [(.bin .sub (.bin .pow (.c (.int 10)) (.c (.int 61))) (.c (.int 1))), (.c (.int 1))])])])]), (.var 12)]),
  .ret (.cmp .eq (.met (PySem.Str.ofString "_law_met") m0 (.call 31 [(.var 19)])) (.call 46 [(.lst [(.tup [(.c (.str (PySem.Str.ofString "operation"))), (.var 13)])])]))]⟩

-- 49: _law_size(lot); names: 0=lot 1=start 2=many
def N49 : List Str := [(PySem.Str.ofString "lot"), (PySem.Str.ofString "start"), (PySem.Str.ofString "many")]
def e49_1 : E := (.var 2)
def d49 : Def := ⟨1, 3, [
  .ret (.bi .sum (.of (.lc e49_1 (.tup [(.slot 1), (.slot 2)]) (.of (.var 0)) [] [1, 2])))]⟩

-- 50: law(script); names: 0=script 1=spot 2=dice 3=turn 4=told_v 5=left 6=right 7=at
def N50 : List Str := [(PySem.Str.ofString "script"), (PySem.Str.ofString "spot"), (PySem.Str.ofString "dice"), (PySem.Str.ofString "turn"), (PySem.Str.ofString "told_v"), (PySem.Str.ofString "left"), (PySem.Str.ofString "right"), (PySem.Str.ofString "at")]
def b50_1 : List St := [.if_ (.or (.not (.call 47 [(.var 2)])) (.not (.call 48 [(.var 2)]))) [.ret (.c (.bl false))] []]
def b50_2 : List St := [.asg (.slot 2) (.alloc (.call 42 [(.var 0), (.var 1)])), .for_ (.slot 3) (.range1 (.c (.int 2))) b50_1]
def e50_3 : E := (.tup [(.bin .mul (.c (.int 4)) (.var 7)), (.c (.int 1))])
def e50_4 : E := (.tup [(.bin .add (.bin .mul (.c (.int 4)) (.var 7)) (.c (.int 2))), (.c (.int 1))])
def d50 : Def := ⟨1, 8, [
  .for_ (.slot 1) (.range1 (.b2 .max (.c (.int 1)) (.b2 .min (.c (.int 8)) (.b1 .len (.var 0))))) b50_2,
  .asg (.slot 5) (.bi .tuple (.of (.lc e50_3 (.slot 7) (.range1 (.c (.int 3000))) [] [7]))),
  .asg (.slot 6) (.bi .tuple (.of (.lc e50_4 (.slot 7) (.range1 (.c (.int 3000))) [] [7]))),
  .asg (.slot 4) (.alloc (.lst [(.met (PySem.Str.ofString "_law_met") m0 (.call 32 [(.var 5), (.var 6)]))])),
  .expr (.meth .append (.var 4) [(.met (PySem.Str.ofString "_law_met") m0 (.call 31 [(.bin .mul (.tup [(.tup [(.c (.int 0)), (.c (.int 1))])]) (.c (.int 5001)))]))]),
  .expr (.meth .append (.var 4) [(.met (PySem.Str.ofString "_law_met") m0 (.call 34 [(.tup [(.tup [(.c (.int 0)), (.c (.int 20000))])]), (.var 5)]))]),
  .ret (.cmp .eq (.var 4) (.lst [(.c (.str (PySem.Str.ofString "many 5000"))), (.c (.str (PySem.Str.ofString "operation"))), (.c (.str (PySem.Str.ofString "none")))]))]⟩

def defs : List Def := [d0, d1, d2, d3, d4, d5, d6, d7, d8, d9, d10, d11, d12, d13, d14, d15, d16, d17, d18, d19, d20, d21, d22, d23, d24, d25, d26, d27, d28, d29, d30, d31, d32, d33, d34, d35, d36, d37, d38, d39, d40, d41, d42, d43, d44, d45, d46, d47, d48, d49, d50]
def exs : List (Str × Option Str) := [((PySem.Str.ofString "SpansError"), none), ((PySem.Str.ofString "InvalidLayout"), none), ((PySem.Str.ofString "InvalidTask"), none), ((PySem.Str.ofString "InvalidLane"), none), ((PySem.Str.ofString "InvalidScript"), none), ((PySem.Str.ofString "InvalidOperation"), none), ((PySem.Str.ofString "UnknownName"), some (PySem.Str.ofString "wanted")), ((PySem.Str.ofString "InvalidCount"), some (PySem.Str.ofString "given")), ((PySem.Str.ofString "TooMany"), some (PySem.Str.ofString "limit"))]
def sub : List (Str × Str × Bool) := []
def cls : List (Str × List Str) := []
def meths : List (Str × Str × Bool) := []
def Ns : List (List Str) := [N0, N1, N2, N3, N4, N5, N6, N7, N8, N9, N10, N11, N12, N13, N14, N15, N16, N17, N18, N19, N20, N21, N22, N23, N24, N25, N26, N27, N28, N29, N30, N31, N32, N33, N34, N35, N36, N37, N38, N39, N40, N41, N42, N43, N44, N45, N46, N47, N48, N49, N50, Nm0]
def NM : List (List Str) := []



def globs : List (Str × D) := [((PySem.Str.ofString "MOST_CELL"), D.int (10000000000000000000000000000000000000000000000000000000000000)), ((PySem.Str.ofString "MOST_SPANS"), D.int (5000)), ((PySem.Str.ofString "MOST"), D.int (100000000000000000000000000000000000000000000000000000000000000000000000000000000000000000000000000000000000000000000000000000000000000000000000000000000000000000000000000000000000000000000000000000000)), ((PySem.Str.ofString "MOST_NUMBERS"), D.int (1000))]
def P : PInfo := { names := names, globs := globs, exs := exs, sub := sub, cls := cls, meths := meths, mets := mets, lams := lams }
def T : Tab := ⟨defs, globs.map (·.2)⟩

theorem t0 : T.defs[0]? = some d0 := rfl
theorem t1 : T.defs[1]? = some d1 := rfl
theorem t2 : T.defs[2]? = some d2 := rfl
theorem t3 : T.defs[3]? = some d3 := rfl
theorem t4 : T.defs[4]? = some d4 := rfl
theorem t5 : T.defs[5]? = some d5 := rfl
theorem t6 : T.defs[6]? = some d6 := rfl
theorem t7 : T.defs[7]? = some d7 := rfl
theorem t8 : T.defs[8]? = some d8 := rfl
theorem t9 : T.defs[9]? = some d9 := rfl
theorem t10 : T.defs[10]? = some d10 := rfl
theorem t11 : T.defs[11]? = some d11 := rfl
theorem t12 : T.defs[12]? = some d12 := rfl
theorem t13 : T.defs[13]? = some d13 := rfl
theorem t14 : T.defs[14]? = some d14 := rfl
theorem t15 : T.defs[15]? = some d15 := rfl
theorem t16 : T.defs[16]? = some d16 := rfl
theorem t17 : T.defs[17]? = some d17 := rfl
theorem t18 : T.defs[18]? = some d18 := rfl
theorem t19 : T.defs[19]? = some d19 := rfl
theorem t20 : T.defs[20]? = some d20 := rfl
theorem t21 : T.defs[21]? = some d21 := rfl
theorem t22 : T.defs[22]? = some d22 := rfl
theorem t23 : T.defs[23]? = some d23 := rfl
theorem t24 : T.defs[24]? = some d24 := rfl
theorem t25 : T.defs[25]? = some d25 := rfl
theorem t26 : T.defs[26]? = some d26 := rfl
theorem t27 : T.defs[27]? = some d27 := rfl
theorem t28 : T.defs[28]? = some d28 := rfl
theorem t29 : T.defs[29]? = some d29 := rfl
theorem t30 : T.defs[30]? = some d30 := rfl
theorem t31 : T.defs[31]? = some d31 := rfl
theorem t32 : T.defs[32]? = some d32 := rfl
theorem t33 : T.defs[33]? = some d33 := rfl
theorem t34 : T.defs[34]? = some d34 := rfl
theorem t35 : T.defs[35]? = some d35 := rfl
theorem t36 : T.defs[36]? = some d36 := rfl
theorem t37 : T.defs[37]? = some d37 := rfl
theorem t38 : T.defs[38]? = some d38 := rfl
theorem t39 : T.defs[39]? = some d39 := rfl
theorem t40 : T.defs[40]? = some d40 := rfl
theorem t41 : T.defs[41]? = some d41 := rfl
theorem t42 : T.defs[42]? = some d42 := rfl
theorem t43 : T.defs[43]? = some d43 := rfl
theorem t44 : T.defs[44]? = some d44 := rfl
theorem t45 : T.defs[45]? = some d45 := rfl
theorem t46 : T.defs[46]? = some d46 := rfl
theorem t47 : T.defs[47]? = some d47 := rfl
theorem t48 : T.defs[48]? = some d48 := rfl
theorem t49 : T.defs[49]? = some d49 := rfl
theorem t50 : T.defs[50]? = some d50 := rfl
end K03

/-! The checks, the head. -/
namespace K03
open PySem MP
abbrev pg : PySem.Program := PySem.Challenge.pw_spanswaps_k03_errors_of_numbers_and_lots
abbrev rw : PySem.W.OpenLaw := PySem.Challenge.rw_spanswaps_k03_errors_of_numbers_and_lots


def top (i : Nat) : Stmt := pg.main.body.getD i (.Pass ⟨0, 0, 0, 0⟩)
def mk (x : Str) (i : Nat) : He.DefD := ⟨(x, none), x, x, L2.defArgs (top i), L2.defBody (top i), L2.defScope (top i), [], []⟩

def topM (i j : Nat) : Stmt := match top i with
  | .ClassDef _ _ _ body _ _ _ _ _ _ _ => body.getD j (.Pass ⟨0, 0, 0, 0⟩)
  | _ => .Pass ⟨0, 0, 0, 0⟩
def mkM (c m q : Str) (i j : Nat) : He.DefD := ⟨(c, some m), m, q, L2.defArgs (topM i j), L2.defBody (topM i j), L2.defScope (topM i j), [], []⟩
def h0 : He.DefD := mk (PySem.Str.ofString "is_integer") 13
def h1 : He.DefD := mk (PySem.Str.ofString "is_within") 14
def h2 : He.DefD := mk (PySem.Str.ofString "common_in") 15
def h3 : He.DefD := mk (PySem.Str.ofString "up_in") 16
def h4 : He.DefD := mk (PySem.Str.ofString "sums_in") 17
def h5 : He.DefD := mk (PySem.Str.ofString "find_in") 18
def h6 : He.DefD := mk (PySem.Str.ofString "require_number") 19
def h7 : He.DefD := mk (PySem.Str.ofString "require_numbers") 20
def h8 : He.DefD := mk (PySem.Str.ofString "common") 21
def h9 : He.DefD := mk (PySem.Str.ofString "common_of") 22
def h10 : He.DefD := mk (PySem.Str.ofString "least_common") 23
def h11 : He.DefD := mk (PySem.Str.ofString "up_divided") 24
def h12 : He.DefD := mk (PySem.Str.ofString "sums") 25
def h13 : He.DefD := mk (PySem.Str.ofString "place_in") 26
def h14 : He.DefD := mk (PySem.Str.ofString "end_of") 30
def h15 : He.DefD := mk (PySem.Str.ofString "is_span") 31
def h16 : He.DefD := mk (PySem.Str.ofString "are_spans") 32
def h17 : He.DefD := mk (PySem.Str.ofString "lean_in") 33
def h18 : He.DefD := mk (PySem.Str.ofString "shared_in") 34
def h19 : He.DefD := mk (PySem.Str.ofString "less_in") 35
def h20 : He.DefD := mk (PySem.Str.ofString "size_in") 36
def h21 : He.DefD := mk (PySem.Str.ofString "rank_in") 37
def h22 : He.DefD := mk (PySem.Str.ofString "does_hold") 38
def h23 : He.DefD := mk (PySem.Str.ofString "cell_in") 39
def h24 : He.DefD := mk (PySem.Str.ofString "first_in") 40
def h25 : He.DefD := mk (PySem.Str.ofString "pairs_in") 41
def h26 : He.DefD := mk (PySem.Str.ofString "is_lot") 42
def h27 : He.DefD := mk (PySem.Str.ofString "require_lot") 43
def h28 : He.DefD := mk (PySem.Str.ofString "require_lots") 44
def h29 : He.DefD := mk (PySem.Str.ofString "require_cell") 45
def h30 : He.DefD := mk (PySem.Str.ofString "told") 46
def h31 : He.DefD := mk (PySem.Str.ofString "lot_of") 47
def h32 : He.DefD := mk (PySem.Str.ofString "joined") 48
def h33 : He.DefD := mk (PySem.Str.ofString "shared") 49
def h34 : He.DefD := mk (PySem.Str.ofString "less") 50
def h35 : He.DefD := mk (PySem.Str.ofString "are_apart") 51
def h36 : He.DefD := mk (PySem.Str.ofString "size") 52
def h37 : He.DefD := mk (PySem.Str.ofString "holds") 53
def h38 : He.DefD := mk (PySem.Str.ofString "rank") 54
def h39 : He.DefD := mk (PySem.Str.ofString "cell_at") 55
def h40 : He.DefD := mk (PySem.Str.ofString "first_cells") 56
def h41 : He.DefD := mk (PySem.Str.ofString "pairs_of") 57
def h42 : He.DefD := mk (PySem.Str.ofString "_law_dice") 59
def h43 : He.DefD := mk (PySem.Str.ofString "_law_roll") 60
def h44 : He.DefD := mk (PySem.Str.ofString "_law_pick") 61
def h45 : He.DefD := mk (PySem.Str.ofString "_law_one") 62
def h46 : He.DefD := mk (PySem.Str.ofString "_law_first") 63
def h47 : He.DefD := mk (PySem.Str.ofString "_law_numbers_right") 65
def h48 : He.DefD := mk (PySem.Str.ofString "_law_lots_right") 66
def h49 : He.DefD := mk (PySem.Str.ofString "_law_size") 67
def h50 : He.DefD := mk (PySem.Str.ofString "law") 68
def hm0 : He.DefD := mk (PySem.Str.ofString "_law_met") 64
theorem cm0 : mchk (PySem.Str.ofString "_law_met") m0 hm0 Nm0 = true := by decide +kernel
theorem bm0 : BindOk hm0 := fun _ _ _ _ _ _ us hl => match us, hl with | [_], _ => rfl
def fn : List He.DefD := [h0, h1, h2, h3, h4, h5, h6, h7, h8, h9, h10, h11, h12, h13, h14, h15, h16, h17, h18, h19, h20, h21, h22, h23, h24, h25, h26, h27, h28, h29, h30, h31, h32, h33, h34, h35, h36, h37, h38, h39, h40, h41, h42, h43, h44, h45, h46, h47, h48, h49, h50, hm0]
def mt : List He.DefD := []
theorem c0 : dchk P (PySem.Str.ofString "is_integer") d0 h0 N0 = true := by decide +kernel
theorem c1 : dchk P (PySem.Str.ofString "is_within") d1 h1 N1 = true := by decide +kernel
theorem c2 : dchk P (PySem.Str.ofString "common_in") d2 h2 N2 = true := by decide +kernel
theorem c3 : dchk P (PySem.Str.ofString "up_in") d3 h3 N3 = true := by decide +kernel
theorem c4 : dchk P (PySem.Str.ofString "sums_in") d4 h4 N4 = true := by decide +kernel
theorem c5 : dchk P (PySem.Str.ofString "find_in") d5 h5 N5 = true := by decide +kernel
theorem c6 : dchk P (PySem.Str.ofString "require_number") d6 h6 N6 = true := by decide +kernel
theorem c7 : dchk P (PySem.Str.ofString "require_numbers") d7 h7 N7 = true := by decide +kernel
theorem c8 : dchk P (PySem.Str.ofString "common") d8 h8 N8 = true := by decide +kernel
theorem c9 : dchk P (PySem.Str.ofString "common_of") d9 h9 N9 = true := by decide +kernel
theorem c10 : dchk P (PySem.Str.ofString "least_common") d10 h10 N10 = true := by decide +kernel
theorem c11 : dchk P (PySem.Str.ofString "up_divided") d11 h11 N11 = true := by decide +kernel
theorem c12 : dchk P (PySem.Str.ofString "sums") d12 h12 N12 = true := by decide +kernel
theorem c13 : dchk P (PySem.Str.ofString "place_in") d13 h13 N13 = true := by decide +kernel
theorem c14 : dchk P (PySem.Str.ofString "end_of") d14 h14 N14 = true := by decide +kernel
theorem c15 : dchk P (PySem.Str.ofString "is_span") d15 h15 N15 = true := by decide +kernel
theorem c16 : dchk P (PySem.Str.ofString "are_spans") d16 h16 N16 = true := by decide +kernel
theorem c17 : dchk P (PySem.Str.ofString "lean_in") d17 h17 N17 = true := by decide +kernel
theorem c18 : dchk P (PySem.Str.ofString "shared_in") d18 h18 N18 = true := by decide +kernel
theorem c19 : dchk P (PySem.Str.ofString "less_in") d19 h19 N19 = true := by decide +kernel
theorem c20 : dchk P (PySem.Str.ofString "size_in") d20 h20 N20 = true := by decide +kernel
theorem c21 : dchk P (PySem.Str.ofString "rank_in") d21 h21 N21 = true := by decide +kernel
theorem c22 : dchk P (PySem.Str.ofString "does_hold") d22 h22 N22 = true := by decide +kernel
theorem c23 : dchk P (PySem.Str.ofString "cell_in") d23 h23 N23 = true := by decide +kernel
theorem c24 : dchk P (PySem.Str.ofString "first_in") d24 h24 N24 = true := by decide +kernel
theorem c25 : dchk P (PySem.Str.ofString "pairs_in") d25 h25 N25 = true := by decide +kernel
theorem c26 : dchk P (PySem.Str.ofString "is_lot") d26 h26 N26 = true := by decide +kernel
theorem c27 : dchk P (PySem.Str.ofString "require_lot") d27 h27 N27 = true := by decide +kernel
theorem c28 : dchk P (PySem.Str.ofString "require_lots") d28 h28 N28 = true := by decide +kernel
theorem c29 : dchk P (PySem.Str.ofString "require_cell") d29 h29 N29 = true := by decide +kernel
theorem c30 : dchk P (PySem.Str.ofString "told") d30 h30 N30 = true := by decide +kernel
theorem c31 : dchk P (PySem.Str.ofString "lot_of") d31 h31 N31 = true := by decide +kernel
theorem c32 : dchk P (PySem.Str.ofString "joined") d32 h32 N32 = true := by decide +kernel
theorem c33 : dchk P (PySem.Str.ofString "shared") d33 h33 N33 = true := by decide +kernel
theorem c34 : dchk P (PySem.Str.ofString "less") d34 h34 N34 = true := by decide +kernel
theorem c35 : dchk P (PySem.Str.ofString "are_apart") d35 h35 N35 = true := by decide +kernel
theorem c36 : dchk P (PySem.Str.ofString "size") d36 h36 N36 = true := by decide +kernel
theorem c37 : dchk P (PySem.Str.ofString "holds") d37 h37 N37 = true := by decide +kernel
theorem c38 : dchk P (PySem.Str.ofString "rank") d38 h38 N38 = true := by decide +kernel
theorem c39 : dchk P (PySem.Str.ofString "cell_at") d39 h39 N39 = true := by decide +kernel
theorem c40 : dchk P (PySem.Str.ofString "first_cells") d40 h40 N40 = true := by decide +kernel
theorem c41 : dchk P (PySem.Str.ofString "pairs_of") d41 h41 N41 = true := by decide +kernel
theorem c42 : dchk P (PySem.Str.ofString "_law_dice") d42 h42 N42 = true := by decide +kernel
theorem c43 : dchk P (PySem.Str.ofString "_law_roll") d43 h43 N43 = true := by decide +kernel
theorem c44 : dchk P (PySem.Str.ofString "_law_pick") d44 h44 N44 = true := by decide +kernel
theorem c45 : dchk P (PySem.Str.ofString "_law_one") d45 h45 N45 = true := by decide +kernel
theorem c46 : dchk P (PySem.Str.ofString "_law_first") d46 h46 N46 = true := by decide +kernel
theorem c47 : dchk P (PySem.Str.ofString "_law_numbers_right") d47 h47 N47 = true := by decide +kernel
theorem c48 : dchk P (PySem.Str.ofString "_law_lots_right") d48 h48 N48 = true := by decide +kernel
theorem c49 : dchk P (PySem.Str.ofString "_law_size") d49 h49 N49 = true := by decide +kernel
theorem c50 : dchk P (PySem.Str.ofString "law") d50 h50 N50 = true := by decide +kernel
theorem b0 : BindOk h0 := fun _ _ _ _ _ _ us hl => match us, hl with | [_], _ => rfl
theorem b1 : BindOk h1 := fun _ _ _ _ _ _ us hl => match us, hl with | [_, _, _], _ => rfl
theorem b2 : BindOk h2 := fun _ _ _ _ _ _ us hl => match us, hl with | [_, _], _ => rfl
theorem b3 : BindOk h3 := fun _ _ _ _ _ _ us hl => match us, hl with | [_, _], _ => rfl
theorem b4 : BindOk h4 := fun _ _ _ _ _ _ us hl => match us, hl with | [_], _ => rfl
theorem b5 : BindOk h5 := fun _ _ _ _ _ _ us hl => match us, hl with | [_, _], _ => rfl
theorem b6 : BindOk h6 := fun _ _ _ _ _ _ us hl => match us, hl with | [_], _ => rfl
theorem b7 : BindOk h7 := fun _ _ _ _ _ _ us hl => match us, hl with | [_], _ => rfl
theorem b8 : BindOk h8 := fun _ _ _ _ _ _ us hl => match us, hl with | [_, _], _ => rfl
theorem b9 : BindOk h9 := fun _ _ _ _ _ _ us hl => match us, hl with | [_], _ => rfl
theorem b10 : BindOk h10 := fun _ _ _ _ _ _ us hl => match us, hl with | [_], _ => rfl
theorem b11 : BindOk h11 := fun _ _ _ _ _ _ us hl => match us, hl with | [_, _], _ => rfl
theorem b12 : BindOk h12 := fun _ _ _ _ _ _ us hl => match us, hl with | [_], _ => rfl
theorem b13 : BindOk h13 := fun _ _ _ _ _ _ us hl => match us, hl with | [_, _], _ => rfl
theorem b14 : BindOk h14 := fun _ _ _ _ _ _ us hl => match us, hl with | [_], _ => rfl
theorem b15 : BindOk h15 := fun _ _ _ _ _ _ us hl => match us, hl with | [_], _ => rfl
theorem b16 : BindOk h16 := fun _ _ _ _ _ _ us hl => match us, hl with | [_], _ => rfl
theorem b17 : BindOk h17 := fun _ _ _ _ _ _ us hl => match us, hl with | [_], _ => rfl
theorem b18 : BindOk h18 := fun _ _ _ _ _ _ us hl => match us, hl with | [_, _], _ => rfl
theorem b19 : BindOk h19 := fun _ _ _ _ _ _ us hl => match us, hl with | [_, _], _ => rfl
theorem b20 : BindOk h20 := fun _ _ _ _ _ _ us hl => match us, hl with | [_], _ => rfl
theorem b21 : BindOk h21 := fun _ _ _ _ _ _ us hl => match us, hl with | [_, _], _ => rfl
theorem b22 : BindOk h22 := fun _ _ _ _ _ _ us hl => match us, hl with | [_, _], _ => rfl
theorem b23 : BindOk h23 := fun _ _ _ _ _ _ us hl => match us, hl with | [_, _], _ => rfl
theorem b24 : BindOk h24 := fun _ _ _ _ _ _ us hl => match us, hl with | [_, _], _ => rfl
theorem b25 : BindOk h25 := fun _ _ _ _ _ _ us hl => match us, hl with | [_, _], _ => rfl
theorem b26 : BindOk h26 := fun _ _ _ _ _ _ us hl => match us, hl with | [_], _ => rfl
theorem b27 : BindOk h27 := fun _ _ _ _ _ _ us hl => match us, hl with | [_], _ => rfl
theorem b28 : BindOk h28 := fun _ _ _ _ _ _ us hl => match us, hl with | [_, _], _ => rfl
theorem b29 : BindOk h29 := fun _ _ _ _ _ _ us hl => match us, hl with | [_], _ => rfl
theorem b30 : BindOk h30 := fun _ _ _ _ _ _ us hl => match us, hl with | [_], _ => rfl
theorem b31 : BindOk h31 := fun _ _ _ _ _ _ us hl => match us, hl with | [_], _ => rfl
theorem b32 : BindOk h32 := fun _ _ _ _ _ _ us hl => match us, hl with | [_, _], _ => rfl
theorem b33 : BindOk h33 := fun _ _ _ _ _ _ us hl => match us, hl with | [_, _], _ => rfl
theorem b34 : BindOk h34 := fun _ _ _ _ _ _ us hl => match us, hl with | [_, _], _ => rfl
theorem b35 : BindOk h35 := fun _ _ _ _ _ _ us hl => match us, hl with | [_, _], _ => rfl
theorem b36 : BindOk h36 := fun _ _ _ _ _ _ us hl => match us, hl with | [_], _ => rfl
theorem b37 : BindOk h37 := fun _ _ _ _ _ _ us hl => match us, hl with | [_, _], _ => rfl
theorem b38 : BindOk h38 := fun _ _ _ _ _ _ us hl => match us, hl with | [_, _], _ => rfl
theorem b39 : BindOk h39 := fun _ _ _ _ _ _ us hl => match us, hl with | [_, _], _ => rfl
theorem b40 : BindOk h40 := fun _ _ _ _ _ _ us hl => match us, hl with | [_, _], _ => rfl
theorem b41 : BindOk h41 := fun _ _ _ _ _ _ us hl => match us, hl with | [_, _], _ => rfl
theorem b42 : BindOk h42 := fun _ _ _ _ _ _ us hl => match us, hl with | [_, _], _ => rfl
theorem b43 : BindOk h43 := fun _ _ _ _ _ _ us hl => match us, hl with | [_, _], _ => rfl
theorem b44 : BindOk h44 := fun _ _ _ _ _ _ us hl => match us, hl with | [_, _], _ => rfl
theorem b45 : BindOk h45 := fun _ _ _ _ _ _ us hl => match us, hl with | [_, _, _], _ => rfl
theorem b46 : BindOk h46 := fun _ _ _ _ _ _ us hl => match us, hl with | [_], _ => rfl
theorem b47 : BindOk h47 := fun _ _ _ _ _ _ us hl => match us, hl with | [_], _ => rfl
theorem b48 : BindOk h48 := fun _ _ _ _ _ _ us hl => match us, hl with | [_], _ => rfl
theorem b49 : BindOk h49 := fun _ _ _ _ _ _ us hl => match us, hl with | [_], _ => rfl
theorem b50 : BindOk h50 := fun _ _ _ _ _ _ us hl => match us, hl with | [_], _ => rfl
theorem ok : LawOk P T fn Ns mt NM where
  ln := rfl
  lt := rfl
  lN := rfl
  lm := rfl
  lNM := rfl
  globs := rfl
  gk := by intro q hq; simp only [P, globs, List.mem_cons, List.not_mem_nil, or_false] at hq; rcases hq with rfl | rfl | rfl | rfl <;> first | exact .inl ⟨_, rfl⟩ | exact .inr ⟨_, rfl⟩
  chk := fun i x d hd N e1 e2 e3 e4 => match i, e1, e2, e3, e4 with
    | 0, e1, e2, e3, e4 => by cases e1; cases e2; cases e3; cases e4; exact c0
    | 1, e1, e2, e3, e4 => by cases e1; cases e2; cases e3; cases e4; exact c1
    | 2, e1, e2, e3, e4 => by cases e1; cases e2; cases e3; cases e4; exact c2
    | 3, e1, e2, e3, e4 => by cases e1; cases e2; cases e3; cases e4; exact c3
    | 4, e1, e2, e3, e4 => by cases e1; cases e2; cases e3; cases e4; exact c4
    | 5, e1, e2, e3, e4 => by cases e1; cases e2; cases e3; cases e4; exact c5
    | 6, e1, e2, e3, e4 => by cases e1; cases e2; cases e3; cases e4; exact c6
    | 7, e1, e2, e3, e4 => by cases e1; cases e2; cases e3; cases e4; exact c7
    | 8, e1, e2, e3, e4 => by cases e1; cases e2; cases e3; cases e4; exact c8
    | 9, e1, e2, e3, e4 => by cases e1; cases e2; cases e3; cases e4; exact c9
    | 10, e1, e2, e3, e4 => by cases e1; cases e2; cases e3; cases e4; exact c10
    | 11, e1, e2, e3, e4 => by cases e1; cases e2; cases e3; cases e4; exact c11
    | 12, e1, e2, e3, e4 => by cases e1; cases e2; cases e3; cases e4; exact c12
    | 13, e1, e2, e3, e4 => by cases e1; cases e2; cases e3; cases e4; exact c13
    | 14, e1, e2, e3, e4 => by cases e1; cases e2; cases e3; cases e4; exact c14
    | 15, e1, e2, e3, e4 => by cases e1; cases e2; cases e3; cases e4; exact c15
    | 16, e1, e2, e3, e4 => by cases e1; cases e2; cases e3; cases e4; exact c16
    | 17, e1, e2, e3, e4 => by cases e1; cases e2; cases e3; cases e4; exact c17
    | 18, e1, e2, e3, e4 => by cases e1; cases e2; cases e3; cases e4; exact c18
    | 19, e1, e2, e3, e4 => by cases e1; cases e2; cases e3; cases e4; exact c19
    | 20, e1, e2, e3, e4 => by cases e1; cases e2; cases e3; cases e4; exact c20
    | 21, e1, e2, e3, e4 => by cases e1; cases e2; cases e3; cases e4; exact c21
    | 22, e1, e2, e3, e4 => by cases e1; cases e2; cases e3; cases e4; exact c22
    | 23, e1, e2, e3, e4 => by cases e1; cases e2; cases e3; cases e4; exact c23
    | 24, e1, e2, e3, e4 => by cases e1; cases e2; cases e3; cases e4; exact c24
    | 25, e1, e2, e3, e4 => by cases e1; cases e2; cases e3; cases e4; exact c25
    | 26, e1, e2, e3, e4 => by cases e1; cases e2; cases e3; cases e4; exact c26
    | 27, e1, e2, e3, e4 => by cases e1; cases e2; cases e3; cases e4; exact c27
    | 28, e1, e2, e3, e4 => by cases e1; cases e2; cases e3; cases e4; exact c28
    | 29, e1, e2, e3, e4 => by cases e1; cases e2; cases e3; cases e4; exact c29
    | 30, e1, e2, e3, e4 => by cases e1; cases e2; cases e3; cases e4; exact c30
    | 31, e1, e2, e3, e4 => by cases e1; cases e2; cases e3; cases e4; exact c31
    | 32, e1, e2, e3, e4 => by cases e1; cases e2; cases e3; cases e4; exact c32
    | 33, e1, e2, e3, e4 => by cases e1; cases e2; cases e3; cases e4; exact c33
    | 34, e1, e2, e3, e4 => by cases e1; cases e2; cases e3; cases e4; exact c34
    | 35, e1, e2, e3, e4 => by cases e1; cases e2; cases e3; cases e4; exact c35
    | 36, e1, e2, e3, e4 => by cases e1; cases e2; cases e3; cases e4; exact c36
    | 37, e1, e2, e3, e4 => by cases e1; cases e2; cases e3; cases e4; exact c37
    | 38, e1, e2, e3, e4 => by cases e1; cases e2; cases e3; cases e4; exact c38
    | 39, e1, e2, e3, e4 => by cases e1; cases e2; cases e3; cases e4; exact c39
    | 40, e1, e2, e3, e4 => by cases e1; cases e2; cases e3; cases e4; exact c40
    | 41, e1, e2, e3, e4 => by cases e1; cases e2; cases e3; cases e4; exact c41
    | 42, e1, e2, e3, e4 => by cases e1; cases e2; cases e3; cases e4; exact c42
    | 43, e1, e2, e3, e4 => by cases e1; cases e2; cases e3; cases e4; exact c43
    | 44, e1, e2, e3, e4 => by cases e1; cases e2; cases e3; cases e4; exact c44
    | 45, e1, e2, e3, e4 => by cases e1; cases e2; cases e3; cases e4; exact c45
    | 46, e1, e2, e3, e4 => by cases e1; cases e2; cases e3; cases e4; exact c46
    | 47, e1, e2, e3, e4 => by cases e1; cases e2; cases e3; cases e4; exact c47
    | 48, e1, e2, e3, e4 => by cases e1; cases e2; cases e3; cases e4; exact c48
    | 49, e1, e2, e3, e4 => by cases e1; cases e2; cases e3; cases e4; exact c49
    | 50, e1, e2, e3, e4 => by cases e1; cases e2; cases e3; cases e4; exact c50
    | (i + 51), e1, _, _, _ => by simp [P, names] at e1
  chkT := fun i x m hd N e1 e2 e3 => match i, e1, e2, e3 with
    | 0, e1, e2, e3 => by cases e1; cases e2; cases e3; exact cm0
    | (i + 1), e1, _, _ => by simp [P, mets] at e1
  chkM := fun i x d hd N e1 e2 e3 e4 => match i, e1, e2, e3, e4 with
    | i, e1, _, _, _ => by simp [P, meths] at e1
  bind := by
    intro hd hh
    simp only [fn, List.mem_cons, List.not_mem_nil, or_false] at hh
    rcases hh with rfl | rfl | rfl | rfl | rfl | rfl | rfl | rfl | rfl | rfl | rfl | rfl | rfl | rfl | rfl | rfl | rfl | rfl | rfl | rfl | rfl | rfl | rfl | rfl | rfl | rfl | rfl | rfl | rfl | rfl | rfl | rfl | rfl | rfl | rfl | rfl | rfl | rfl | rfl | rfl | rfl | rfl | rfl | rfl | rfl | rfl | rfl | rfl | rfl | rfl | rfl | rfl
    · exact b0
    · exact b1
    · exact b2
    · exact b3
    · exact b4
    · exact b5
    · exact b6
    · exact b7
    · exact b8
    · exact b9
    · exact b10
    · exact b11
    · exact b12
    · exact b13
    · exact b14
    · exact b15
    · exact b16
    · exact b17
    · exact b18
    · exact b19
    · exact b20
    · exact b21
    · exact b22
    · exact b23
    · exact b24
    · exact b25
    · exact b26
    · exact b27
    · exact b28
    · exact b29
    · exact b30
    · exact b31
    · exact b32
    · exact b33
    · exact b34
    · exact b35
    · exact b36
    · exact b37
    · exact b38
    · exact b39
    · exact b40
    · exact b41
    · exact b42
    · exact b43
    · exact b44
    · exact b45
    · exact b46
    · exact b47
    · exact b48
    · exact b49
    · exact b50
    · exact bm0
  bindM := by
    intro hd hh
    cases hh

/-! ### the head -/
def fa : List He.Fa := faOf P
abbrev rowR : PySem.W.OpenRow := PySem.W.OpenLaw.row rw
def bB (K : PySem.W.Frag) : Bool := xB P rw.prog K && ((cB P K && okM P mt K) && (lmB P fn K && mtB P K))
abbrev hk : PySem.W.Hook := hookX 5 fa fn bB P.meths mt
def ob (s : PySem.W.SharedT) : AlX := obsX 5 fa fn bB P.meths (HandSHeadRun.getT s)
theorem ob_eq (s : PySem.W.SharedT) : ob s = hk.obs s.abs := obsX_eq (HandSHeadRun.getT_eq s)
def loose : List Str := (pg.main.scope.names.filterMap fun q => if q.2 == .local && !(q.1 == ("law" : Str)) then some q.1 else none)
theorem run (w : World) : HandSHeadRun.RunEq rowR (PySem.W.view rowR.prog [68]) hk ob 4000 loose w := by
  intro os
  kernel_rfl
open PySem.W PySem.Calls PyProof.Rows in
theorem holds (val : ∀ ns : List Int, ns.length ≤ 63 → ∃ h', callI T 31 50 [.scr (ns.map D.int)] [] = some (.ok (.v (.bl true)) h')) : PySem.Challenge.rw_spanswaps_k03_errors_of_numbers_and_lots.Holds := by
  w_on; o_law
  refine HandSHeadRun.head_any (r := OpenLaw.row PySem.Challenge.rw_spanswaps_k03_errors_of_numbers_and_lots) (q := view (OpenLaw.row PySem.Challenge.rw_spanswaps_k03_errors_of_numbers_and_lots).prog [68]) (H := hk) (ob := ob) (M := 4000) (loose := loose) (d := HandSHeadRun.topDef (OpenLaw.row PySem.Challenge.rw_spanswaps_k03_errors_of_numbers_and_lots).prog 68) (kwd := []) ob_eq
    (by kernel_rfl) (fun s => by kernel_rfl) run (by kernel_rfl) (by kernel_rfl) (by kernel_rfl) (by rfl) (by first | assumption | decide +kernel) (by decide +kernel) ⟨rfl, rfl, rfl, rfl, rfl, by decide +kernel⟩ ?hw ?hc
  case hw => w_witness2
  case hc =>
    refine walk_ofG (l := PySem.Challenge.rw_spanswaps_k03_errors_of_numbers_and_lots) (n := 63) (k := 4 * 31 + 1) rfl (by decide) (by kernel_rfl) ⟨rfl, by decide, by decide⟩ ?F
    case F =>
      intro w mg fa h Y G hmg0
      obtain ⟨K, KX, c, bb, me, te⟩ := Y
      obtain ⟨xb, bb⟩ := and2 bb
      obtain ⟨b1, b2⟩ := and2 bb
      obtain ⟨cb, mo⟩ := and2 b1
      obtain ⟨lm, mb⟩ := and2 b2
      have hmg : mg ("law" : PySem.Str) = some (.ref fa) := by
        have e : (HandSHeadRun.topDef (OpenLaw.row PySem.Challenge.rw_spanswaps_k03_errors_of_numbers_and_lots).prog 68).name = ("law" : PySem.Str) := by kernel_rfl
        rw [← e]
        exact hmg0
      exact law_end (l := rw) ok KX G c te xb cb lm mb me mo (k := 31) (f := 50) (n := 63) rfl rfl hmg val
end K03

/-! MP.Pur1: lots of cells, told by spans: plain facts, no program. -/
namespace MP

def In (ps : List (Int × Int)) (c : Int) : Prop := ∃ p ∈ ps, p.1 ≤ c ∧ c < p.1 + p.2
instance (ps : List (Int × Int)) (c : Int) : Decidable (In ps c) := inferInstanceAs (Decidable (∃ p ∈ ps, p.1 ≤ c ∧ c < p.1 + p.2))
theorem in_nil {c : Int} : In [] c ↔ False := by simp [In]
theorem in_cons {p : Int × Int} {ps : List (Int × Int)} {c : Int} : In (p :: ps) c ↔ (p.1 ≤ c ∧ c < p.1 + p.2) ∨ In ps c := by simp [In]
theorem in_app {ps qs : List (Int × Int)} {c : Int} : In (ps ++ qs) c ↔ In ps c ∨ In qs c := by
  unfold In
  constructor
  · rintro ⟨p, hp, q⟩
    rcases List.mem_append.mp hp with h | h
    · exact .inl ⟨p, h, q⟩
    · exact .inr ⟨p, h, q⟩
  · rintro (⟨p, hp, q⟩ | ⟨p, hp, q⟩)
    · exact ⟨p, List.mem_append_left _ hp, q⟩
    · exact ⟨p, List.mem_append_right _ hp, q⟩
theorem in_one {p : Int × Int} {c : Int} : In [p] c ↔ p.1 ≤ c ∧ c < p.1 + p.2 := by simp [In]
theorem in_perm {ps qs : List (Int × Int)} (h : ps.Perm qs) (c : Int) : In ps c ↔ In qs c := by
  unfold In
  constructor
  · rintro ⟨p, hp, q⟩; exact ⟨p, h.mem_iff.mp hp, q⟩
  · rintro ⟨p, hp, q⟩; exact ⟨p, h.mem_iff.mpr hp, q⟩
-- spans far from one another, in sequence
structure Lot (ps : List (Int × Int)) : Prop where
  pos : ∀ p ∈ ps, 0 < p.2
  gap : ps.Pairwise fun p q => p.1 + p.2 < q.1
theorem Lot.nil : Lot [] := ⟨by simp, .nil⟩
theorem Lot.tail {p : Int × Int} {ps : List (Int × Int)} (h : Lot (p :: ps)) : Lot ps := ⟨fun q hq => h.pos q (by simp [hq]), (List.pairwise_cons.mp h.gap).2⟩
theorem Lot.head {p : Int × Int} {ps : List (Int × Int)} (h : Lot (p :: ps)) : 0 < p.2 ∧ ∀ q ∈ ps, p.1 + p.2 < q.1 := ⟨h.pos p (by simp), (List.pairwise_cons.mp h.gap).1⟩
theorem Lot.snoc {p : Int × Int} {ps : List (Int × Int)} (h : Lot ps) (hp : 0 < p.2) (hg : ∀ q ∈ ps, q.1 + q.2 < p.1) : Lot (ps ++ [p]) := by
  refine ⟨fun q hq => ?_, List.pairwise_append.mpr ⟨h.gap, by simp, fun a ha b hb => ?_⟩⟩
  · rcases List.mem_append.mp hq with z | z
    · exact h.pos q z
    · simp only [List.mem_singleton] at z
      rw [z]
      exact hp
  · simp only [List.mem_singleton] at hb
    rw [hb]
    exact hg a ha
theorem Lot.init {p : Int × Int} {ps : List (Int × Int)} (h : Lot (ps ++ [p])) : Lot ps ∧ 0 < p.2 ∧ ∀ q ∈ ps, q.1 + q.2 < p.1 := by
  obtain ⟨a, b, c⟩ := List.pairwise_append.mp h.gap
  exact ⟨⟨fun q hq => h.pos q (by simp [hq]), a⟩, h.pos p (by simp), fun q hq => c q hq p (by simp)⟩
theorem Lot.drop {ps : List (Int × Int)} (h : Lot ps) (n : Nat) : Lot (ps.drop n) := ⟨fun p hp => h.pos p (List.mem_of_mem_drop hp), h.gap.drop⟩
theorem Lot.take {ps : List (Int × Int)} (h : Lot ps) (n : Nat) : Lot (ps.take n) := ⟨fun p hp => h.pos p (List.mem_of_mem_take hp), h.gap.take⟩
-- the cells tell the spans
theorem Lot.uniq : ∀ {ps qs : List (Int × Int)}, Lot ps → Lot qs → (∀ c, In ps c ↔ In qs c) → ps = qs
  | [], [], _, _, _ => rfl
  | [], q :: qs, _, h, e => by
    exfalso
    have := (e q.1).mpr (in_cons.mpr (.inl ⟨Int.le_refl _, by have := h.head.1; omega⟩))
    exact in_nil.mp this
  | p :: ps, [], h, _, e => by
    exfalso
    have := (e p.1).mp (in_cons.mpr (.inl ⟨Int.le_refl _, by have := h.head.1; omega⟩))
    exact in_nil.mp this
  | p :: ps, q :: qs, h, g, e => by
    obtain ⟨h1, h2⟩ := h.head
    obtain ⟨g1, g2⟩ := g.head
    have low : ∀ {p : Int × Int} {ps : List (Int × Int)} {c : Int}, 0 < p.2 → (∀ q ∈ ps, p.1 + p.2 < q.1) → In (p :: ps) c → p.1 ≤ c := fun {p ps c} h1 h2 hc => by
      rcases in_cons.mp hc with z | ⟨r, hr, z⟩
      · exact z.1
      · have := h2 r hr
        omega
    have e1 : p.1 = q.1 := by
      have a := low h1 h2 ((e q.1).mpr (in_cons.mpr (.inl ⟨Int.le_refl _, by omega⟩)))
      have b := low g1 g2 ((e p.1).mp (in_cons.mpr (.inl ⟨Int.le_refl _, by omega⟩)))
      omega
    have out : ∀ {p : Int × Int} {ps : List (Int × Int)}, (∀ q ∈ ps, p.1 + p.2 < q.1) → ¬ In (p :: ps) (p.1 + p.2) := fun {p ps} h2 hc => by
      rcases in_cons.mp hc with z | ⟨r, hr, z⟩
      · omega
      · have := h2 r hr
        omega
    have e2 : p.2 = q.2 := by
      rcases Int.lt_trichotomy p.2 q.2 with z | z | z
      · exact absurd ((e (p.1 + p.2)).mpr (in_cons.mpr (.inl ⟨by omega, by omega⟩))) (out h2)
      · exact z
      · exact absurd ((e (q.1 + q.2)).mp (in_cons.mpr (.inl ⟨by omega, by omega⟩))) (out g2)
    have e3 : p = q := Prod.ext e1 e2
    subst e3
    rw [Lot.uniq h.tail g.tail fun c => ?_]
    have a := e c
    rw [in_cons, in_cons] at a
    by_cases z : p.1 ≤ c ∧ c < p.1 + p.2
    · constructor
      · rintro ⟨r, hr, y⟩
        have := h2 r hr
        omega
      · rintro ⟨r, hr, y⟩
        have := g2 r hr
        omega
    · simpa [z] using a
-- bounds by cells
theorem Lot.bounds {ps : List (Int × Int)} (h : Lot ps) {lo hi : Int} (hb : ∀ c, In ps c → lo ≤ c ∧ c < hi) : ∀ p ∈ ps, lo ≤ p.1 ∧ p.1 + p.2 ≤ hi := fun p hp => by
  have h1 := h.pos p hp
  have a := hb p.1 ⟨p, hp, by omega, by omega⟩
  have b := hb (p.1 + p.2 - 1) ⟨p, hp, by omega, by omega⟩
  omega
theorem Lot.len : ∀ {ps : List (Int × Int)}, Lot ps → ∀ {lo hi : Int}, lo ≤ hi → (∀ p ∈ ps, lo ≤ p.1 ∧ p.1 + p.2 ≤ hi) → (ps.length : Int) ≤ hi - lo
  | [], _, lo, hi, hl, _ => by simp; omega
  | p :: ps, h, lo, hi, hl, hb => by
    obtain ⟨h1, h2⟩ := h.head
    have b := hb p (by simp)
    have := Lot.len h.tail (lo := p.1 + p.2) (hi := hi) b.2 fun q hq => ⟨by have := h2 q hq; omega, (hb q (by simp [hq])).2⟩
    simp only [List.length_cons]
    omega
-- moved
def mv (far : Int) (ps : List (Int × Int)) : List (Int × Int) := ps.map fun p => (p.1 + far, p.2)
theorem in_mv {far : Int} {ps : List (Int × Int)} {c : Int} : In (mv far ps) c ↔ In ps (c - far) := by
  unfold In mv
  constructor
  · rintro ⟨p, hp, q⟩
    obtain ⟨r, hr, rfl⟩ := List.mem_map.mp hp
    simp only at q
    exact ⟨r, hr, by omega, by omega⟩
  · rintro ⟨p, hp, q⟩
    exact ⟨_, List.mem_map.mpr ⟨p, hp, rfl⟩, by simp only; omega, by simp only; omega⟩
theorem Lot.mv {ps : List (Int × Int)} (h : Lot ps) (far : Int) : Lot (mv far ps) := by
  refine ⟨fun p hp => ?_, List.pairwise_map.mpr (h.gap.imp fun {a b} z => by simp only; omega)⟩
  obtain ⟨r, hr, rfl⟩ := List.mem_map.mp hp
  exact h.pos r hr
theorem mv_mv (a b : Int) (ps : List (Int × Int)) : mv a (mv b ps) = mv (b + a) ps := by
  unfold mv
  rw [List.map_map]
  refine List.map_congr_left fun p _ => ?_
  simp only [Function.comp]
  rw [Int.add_assoc]
theorem mv_zero (ps : List (Int × Int)) : mv 0 ps = ps := by
  unfold mv
  simp
theorem mv_len (a : Int) (ps : List (Int × Int)) : (mv a ps).length = ps.length := by simp [mv]

/-! ### single cells -/
def rgI (a n : Int) : List Int := (List.range n.toNat).map fun (k : Nat) => a + (k : Int)
def cells : List (Int × Int) → List Int
  | [] => []
  | p :: ps => rgI p.1 p.2 ++ cells ps
theorem mem_rg {a n c : Int} : c ∈ rgI a n ↔ a ≤ c ∧ c < a + n := by
  unfold rgI
  rw [List.mem_map]
  constructor
  · rintro ⟨k, hk, rfl⟩
    have := List.mem_range.mp hk
    omega
  · rintro ⟨h1, h2⟩
    exact ⟨(c - a).toNat, List.mem_range.mpr (by omega), by omega⟩
theorem rg_len (a n : Int) : (rgI a n).length = n.toNat := by simp [rgI]
theorem mem_cells : ∀ {ps : List (Int × Int)} {c : Int}, c ∈ cells ps ↔ In ps c
  | [], c => by simp [cells, in_nil]
  | p :: ps, c => by rw [cells, List.mem_append, mem_rg, mem_cells, in_cons]
theorem cells_app : ∀ (ps qs : List (Int × Int)), cells (ps ++ qs) = cells ps ++ cells qs
  | [], _ => rfl
  | p :: ps, qs => by rw [List.cons_append, cells, cells, cells_app, List.append_assoc]
theorem cells_len : ∀ {ps : List (Int × Int)}, (∀ p ∈ ps, 0 ≤ p.2) → ((cells ps).length : Int) = (ps.map (·.2)).sum
  | [], _ => rfl
  | p :: ps, h => by
    have h1 := h p (by simp)
    have h2 := cells_len (ps := ps) fun q hq => h q (by simp [hq])
    rw [cells, List.length_append, rg_len, List.map_cons, List.sum_cons]
    omega
theorem rg_sorted (a n : Int) : (rgI a n).Pairwise (· < ·) := by
  unfold rgI
  rw [List.pairwise_map]
  exact List.pairwise_lt_range.imp fun {i j} h => by omega
theorem cells_sorted : ∀ {ps : List (Int × Int)}, Lot ps → (cells ps).Pairwise (· < ·)
  | [], _ => .nil
  | p :: ps, h => by
    obtain ⟨h1, h2⟩ := h.head
    refine List.pairwise_append.mpr ⟨rg_sorted _ _, cells_sorted h.tail, fun a ha b hb => ?_⟩
    have := mem_rg.mp ha
    obtain ⟨q, hq, z⟩ := mem_cells.mp hb
    have := h2 q hq
    omega
-- a cell more, in sequence
def addC (f : List (Int × Int)) (c : Int) : List (Int × Int) := match f.getLast? with
  | some p => if p.1 + p.2 = c then f.dropLast ++ [(p.1, p.2 + 1)] else f ++ [(c, 1)]
  | none => f ++ [(c, 1)]
theorem snoc_of {α : Type} {f : List α} {p : α} (h : f.getLast? = some p) : f = f.dropLast ++ [p] := by
  have hn : f ≠ [] := by rintro rfl; cases h
  rw [List.getLast?_eq_some_getLast hn, Option.some.injEq] at h
  rw [← h, List.dropLast_concat_getLast]
theorem addC_lot {f : List (Int × Int)} {c : Int} (h : Lot f) (hc : ∀ d, In f d → d < c) : Lot (addC f c) ∧ ∀ d, In (addC f c) d ↔ In f d ∨ d = c := by
  unfold addC
  cases e : f.getLast? with
  | none =>
    have e' : f = [] := List.getLast?_eq_none_iff.mp e
    subst e'
    refine ⟨Lot.nil.snoc (show (0 : Int) < 1 by decide) (by simp), fun d => ?_⟩
    rw [in_app, in_one]
    simp only
    constructor
    · rintro (z | z)
      · exact .inl z
      · exact .inr (by omega)
    · rintro (z | z)
      · exact .inl z
      · exact .inr (by omega)
  | some p =>
    have ef := snoc_of e
    rw [ef] at h
    obtain ⟨i1, i2, i3⟩ := h.init
    have pe : ∀ d, In f d ↔ In f.dropLast d ∨ (p.1 ≤ d ∧ d < p.1 + p.2) := fun d => by
      conv => lhs; rw [ef]
      rw [in_app, in_one]
    have lst : p.1 + p.2 - 1 < c := hc _ ((pe _).mpr (.inr ⟨by omega, by omega⟩))
    simp only
    by_cases hz : p.1 + p.2 = c
    · rw [if_pos hz]
      refine ⟨i1.snoc (by simp only; omega) i3, fun d => ?_⟩
      rw [in_app, in_one, pe d]
      simp only
      constructor
      · rintro (z | z)
        · exact .inl (.inl z)
        · by_cases y : d = c
          · exact .inr y
          · exact .inl (.inr (by omega))
      · rintro ((z | z) | z)
        · exact .inl z
        · exact .inr (by omega)
        · exact .inr (by omega)
    · rw [if_neg hz]
      rw [← ef] at h
      refine ⟨h.snoc (show (0 : Int) < 1 by decide) fun q hq => ?_, fun d => ?_⟩
      · have h1 := h.pos q hq
        rw [ef] at hq
        rcases List.mem_append.mp hq with z | z
        · have := i3 q z
          omega
        · simp only [List.mem_singleton] at z
          subst z
          omega
      · rw [in_app, in_one]
        simp only
        constructor
        · rintro (z | z)
          · exact .inl z
          · exact .inr (by omega)
        · rintro (z | z)
          · exact .inl z
          · exact .inr (by omega)
def leanC (cs : List Int) : List (Int × Int) := cs.foldl addC []
theorem leanC_go : ∀ {cs : List Int} {f : List (Int × Int)}, Lot f → cs.Pairwise (· < ·) → (∀ c ∈ cs, ∀ d, In f d → d < c) → Lot (cs.foldl addC f) ∧ ∀ d, In (cs.foldl addC f) d ↔ In f d ∨ d ∈ cs
  | [], f, h, _, _ => ⟨h, fun d => by simp⟩
  | c :: cs, f, h, hs, hc => by
    obtain ⟨a, b⟩ := List.pairwise_cons.mp hs
    obtain ⟨l1, l2⟩ := addC_lot h (hc c (by simp))
    obtain ⟨m1, m2⟩ := leanC_go l1 b fun c' hc' d hd => by
      rcases (l2 d).mp hd with z | z
      · exact hc c' (by simp [hc']) d z
      · rw [z]
        exact a c' hc'
    refine ⟨m1, fun d => ?_⟩
    rw [List.foldl_cons, m2 d, l2 d, List.mem_cons, or_assoc]
theorem leanC_lot {cs : List Int} (hs : cs.Pairwise (· < ·)) : Lot (leanC cs) ∧ ∀ d, In (leanC cs) d ↔ d ∈ cs := by
  obtain ⟨a, b⟩ := leanC_go Lot.nil hs (by intro c _ d hd; exact (in_nil.mp hd).elim)
  exact ⟨a, fun d => by rw [leanC, b d, in_nil, false_or]⟩
-- strictly rising lists with the same members
theorem rise_uniq : ∀ {l m : List Int}, l.Pairwise (· < ·) → m.Pairwise (· < ·) → (∀ c, c ∈ l ↔ c ∈ m) → l = m
  | [], [], _, _, _ => rfl
  | [], b :: m, _, _, e => absurd ((e b).mpr (by simp)) (by simp)
  | a :: l, [], _, _, e => absurd ((e a).mp (by simp)) (by simp)
  | a :: l, b :: m, h, g, e => by
    obtain ⟨h1, h2⟩ := List.pairwise_cons.mp h
    obtain ⟨g1, g2⟩ := List.pairwise_cons.mp g
    have e1 : a = b := by
      rcases List.mem_cons.mp ((e a).mp (by simp)) with z | z
      · exact z
      · rcases List.mem_cons.mp ((e b).mpr (by simp)) with y | y
        · exact y.symm
        · have := h1 b y
          have := g1 a z
          omega
    subst e1
    rw [rise_uniq h2 g2 fun c => ?_]
    have q := e c
    rw [List.mem_cons, List.mem_cons] at q
    by_cases z : c = a
    · subst z
      constructor
      · intro y; have := h1 c y; omega
      · intro y; have := g1 c y; omega
    · simpa [z] using q
theorem rise_len : ∀ {l : List Int}, l.Pairwise (· < ·) → ∀ {lo hi : Int}, lo ≤ hi → (∀ c ∈ l, lo ≤ c ∧ c < hi) → (l.length : Int) ≤ hi - lo
  | [], _, lo, hi, hl, _ => by simp; omega
  | a :: l, h, lo, hi, hl, hb => by
    obtain ⟨h1, h2⟩ := List.pairwise_cons.mp h
    have b := hb a (by simp)
    have := rise_len h2 (lo := a + 1) (hi := hi) (by omega) fun c hc => ⟨by have := h1 c hc; omega, (hb c (by simp [hc])).2⟩
    simp only [List.length_cons]
    omega
-- sorted, no two alike
theorem sort_rise {ks : List Int} (h : ks.Nodup) : (sortBy leI ks).Pairwise (· < ·) := by
  have p := sortBy_perm leI ks
  have s := sortBy_sorted leI_tot leI_tr ks
  have n : (sortBy leI ks).Nodup := p.nodup_iff.mpr h
  refine List.Pairwise.imp₂ (fun a b h1 h2 => ?_) s n
  simp only [leI, decide_eq_true_eq] at h1
  omega
end MP

/-! What the law's defs compute. -/
namespace K03
open MP

def MOSTN : Int := 10 ^ 200
theorem MOSTN_eq : MOSTN = 10 ^ 200 := rfl
theorem g2 : T.get 2 = some (.int MOSTN) := by
  unfold MOSTN
  rfl
theorem g3 : T.get 3 = some (.int 1000) := rfl
theorem s0 (k : Nat) (i : Int) (h : Heap) : callI T (k + 1) 0 [.int i] h = some (.ok (.v (.bl true)) h) := by
  rw [call_of t0 rfl]
  simp [d0]
  exact gc_bl _ _
theorem s1 (k : Nat) (v lo hi : Int) (h : Heap) : callI T (k + 2) 1 [.int v, .int lo, .int hi] h = some (.ok (.v (.bl (decide (lo ≤ v ∧ v ≤ hi)))) h) := by
  rw [call_of t1 rfl]
  by_cases c : lo ≤ v
  · simp [d1, s0, c]
    exact gc_bl _ _
  · simp [d1, s0, c]
    exact gc_bl _ _
theorem s6 (k : Nat) (v : Int) (h : Heap) (h1 : -MOSTN < v) (h2 : v < MOSTN) : callI T (k + 3) 6 [.int v] h = some (.ok (.v .non) h) := by
  rw [call_of t6 rfl]
  have c : (1 - MOSTN ≤ v ∧ v ≤ MOSTN - 1) := by omega
  simp [d6, s1, g2, c]
  exact gc_non _
-- the greatest common divisor by turns
theorem gcd_while (Φ : Nat → List D → Heap → Res R) (G : Nat → Option D) (h : Heap) : ∀ (n : Nat) (a b : Int), 0 ≤ a → 0 ≤ b → b < n →
    whileGo (tst (eval Φ G w2_1)) (execs Φ G b2_2) n [some (.int a), some (.int b)] h = some (.ok (.nx [some (.int (Int.gcd a b)), some (.int 0)]) h)
  | 0, a, b, _, h1, h2 => by omega
  | n + 1, a, b, h0, h1, h2 => by
    by_cases hb : b = 0
    · subst hb
      simp [whileGo, look, tst, w2_1]
      omega
    · have hb' : 0 < b := by omega
      have := gcd_while Φ G h n b (a % b) h1 (Int.emod_nonneg a hb) (by have := Int.emod_lt_of_pos a hb'; omega)
      have e : Int.gcd b (a % b) = Int.gcd a b := by
        obtain ⟨a, rfl⟩ := Int.eq_ofNat_of_zero_le h0
        obtain ⟨b, rfl⟩ := Int.eq_ofNat_of_zero_le h1
        rw [← Int.natCast_emod]
        simp only [Int.gcd_natCast_natCast]
        rw [Nat.gcd_comm, ← Nat.gcd_rec, Nat.gcd_comm]
      rw [e] at this
      simp [whileGo, look, hb, hb', tst, w2_1, b2_2]
      simpa [tst, w2_1, b2_2] using this
theorem gcd_body (Φ : Nat → List D → Heap → Res R) (G : Nat → Option D) (h : Heap) (a b : Int) : execs Φ G d2.body [some (.int a), some (.int b)] h = some (.ok (.rt (.v (.int (Int.gcd a b)))) h) := by
  have w := whileD_of (gcd_while Φ G h (b.natAbs + 1) (if a < 0 then -a else a) (if b < 0 then -b else b) (by omega) (by omega) (by omega))
  have e : Int.gcd (if a < 0 then -a else a) (if b < 0 then -b else b) = Int.gcd a b := by
    split <;> split <;> simp
  rw [e] at w
  simp [d2, w]
theorem s2 (k : Nat) (a b : Int) (h : Heap) : callI T (k + 1) 2 [.int a, .int b] h = some (.ok (.v (.int (Int.gcd a b))) h) := by
  rw [call_of t2 rfl]
  show endI h (execs _ _ d2.body [some (.int a), some (.int b)] h) = _
  rw [gcd_body]
  exact gc_int _ _
theorem s3 (k : Nat) (a b : Int) (h : Heap) (hb : 0 < b) (hb2 : b < 2 ^ 9000) : callI T (k + 1) 3 [.int a, .int b] h = some (.ok (.v (.int (-(-a / b)))) h) := by
  rw [call_of t3 rfl]
  simp [d3, fdiv_ok hb hb2]
  exact gc_int _ _
theorem s8 (k : Nat) (a b : Int) (h : Heap) (a1 : -MOSTN < a) (a2 : a < MOSTN) (b1 : -MOSTN < b) (b2 : b < MOSTN) : callI T (k + 4) 8 [.int a, .int b] h = some (.ok (.v (.int (Int.gcd a b))) h) := by
  rw [call_of t8 rfl]
  simp [d8, s6 _ _ _ a1 a2, s6 _ _ _ b1 b2, s2]
  exact gc_int _ _
theorem s11 (k : Nat) (a b : Int) (h : Heap) (a1 : -MOSTN < a) (a2 : a < MOSTN) (b1 : 0 < b) (b2 : b < MOSTN) : callI T (k + 4) 11 [.int a, .int b] h = some (.ok (.v (.int (-(-a / b)))) h) := by
  rw [call_of t11 rfl]
  have hM : MOSTN < 2 ^ 9000 := by decide +kernel
  have c : ¬ b < 1 := by omega
  simp [d11, s6 _ _ _ a1 a2, s6 _ _ _ (show -MOSTN < b by omega) b2, s3 _ _ _ _ b1 (by omega), c]
  exact gc_int _ _
-- numbers that are asked for
def Small (l : List Int) : Prop := l.length ≤ 1000 ∧ ∀ x ∈ l, -MOSTN < x ∧ x < MOSTN
theorem s7 (k : Nat) (l : List Int) (h : Heap) (hs : Small l) : callI T (k + 3) 7 [.tup (l.map .int)] h = some (.ok (.v .non) h) := by
  rw [call_of t7 rfl]
  have hl : l.length ≤ 16777216 := by have := hs.1; omega
  have hl2 : ¬ (1000 : Int) < l.length := by have := hs.1; omega
  have a : ∀ x ∈ l.map D.int, lcF (l.map D.int, none) (.slot 1) (wipes [some (.tup (l.map .int)), none] [1]) (tests (callI T (k + 2)) T.get []) (eval (callI T (k + 2)) T.get e7_1) x h = some (.ok (some (.bl true)) h) := fun x hx => by
    obtain ⟨i, hi, rfl⟩ := List.mem_map.mp hx
    have b := hs.2 i hi
    have c : (1 - MOSTN ≤ i ∧ i ≤ MOSTN - 1) := by omega
    simp [lcF, wipes, s1, g2, c, still_none, e7_1]
  have b := lcGo_map (fun _ => some (.bl true)) _ a
  rw [List.filterMap_eq_map'] at b
  have bb : bools (l.map ((fun _ => D.bl true) ∘ D.int)) = some (l.map fun _ => true) := bools_mapf _ _ _ fun _ => rfl
  simp [d7, g3, b, hl, hl2, bi, bb, all_tt]
  exact gc_non _
-- the sums from the left
def pre (s : Int) : List Int → List Int
  | [] => [s]
  | x :: r => s :: pre (s + x) r
theorem pre_ne (s : Int) (l : List Int) : pre s l ≠ [] := by cases l <;> simp [pre]
theorem pre_snoc (x : Int) : ∀ (s : Int) (l : List Int), pre s (l ++ [x]) = pre s l ++ [s + l.sum + x]
  | s, [] => by simp [pre]
  | s, y :: l => by
    simp only [List.cons_append, pre, pre_snoc x (s + y) l, List.sum_cons]
    rw [show s + y + l.sum + x = s + (y + l.sum) + x by omega]
theorem pre_last : ∀ (s : Int) (l : List Int), (pre s l).getLast? = some (s + l.sum)
  | s, [] => by simp [pre]
  | s, x :: l => by
    rw [pre, List.getLast?_cons_of_ne_nil (pre_ne _ _), pre_last]
    simp only [List.sum_cons]
    rw [Int.add_assoc]
theorem pre_len : ∀ (s : Int) (l : List Int), (pre s l).length = l.length + 1
  | s, [] => rfl
  | s, x :: l => by simp [pre, pre_len (s + x) l]
theorem s4 (k : Nat) (l : List Int) (h : Heap) (hl : l.length ≤ 1000) : callI T (k + 1) 4 [.tup (l.map .int)] h = some (.ok (.newL ((pre 0 l).map .int)) h) := by
  rw [call_of t4 rfl]
  obtain ⟨g', h', e, q1, q2⟩ := forGo_go (its := (l.map D.int, none)) (f := forF (.slot 2) (execs (callI T k) T.get b4_1)) (g := [some (.tup (l.map .int)), some (.loc h.length), none]) (h := h ++ [.lst [.int 0]])
    (fun i g h1 => (∃ z, g = [some (.tup (l.map .int)), some (.loc h.length), z]) ∧ h1 = h ++ [.lst ((pre 0 (l.take i)).map .int)]) ⟨⟨_, rfl⟩, by simp [pre]⟩ (by
      rintro i x g h1 hx ⟨⟨z, rfl⟩, rfl⟩
      obtain ⟨y, hy, rfl⟩ : ∃ y, l[i]? = some y ∧ .int y = x := by
        simpa using hx
      have hi : i < l.length := by
        rcases Nat.lt_or_ge i l.length with q | q
        · exact q
        · rw [List.getElem?_eq_none q] at hy; cases hy
      have ht : l.take (i + 1) = l.take i ++ [y] := by
        rw [List.take_add_one, hy]; rfl
      have hp := pre_last 0 (l.take i)
      have hpl : (pre 0 (l.take i)).length < 16777216 := by rw [pre_len, List.length_take]; omega
      rw [ht, pre_snoc]
      simp [forF, b4_1, hp, hpl, still_none])
  obtain ⟨z, rfl⟩ := q1
  subst q2
  simp [d4, e]
  rw [gc_loc2 (l := (pre 0 l).map D.int) (oldOk_app _ _) (Nat.le_refl _) (by simp) (cl_ints _ _), take_end]
end K03

/-! What the law's defs compute. -/
namespace K03
open MP
theorem s12 (k : Nat) (l : List Int) (h : Heap) (hs : Small l) : callI T (k + 4) 12 [.tup (l.map .int)] h = some (.ok (.v (.tup ((pre 0 l).map .int))) h) := by
  rw [call_of t12 rfl]
  have hpl : (pre 0 l).length ≤ 16777216 := by rw [pre_len]; have := hs.1; omega
  simp [d12, s7 _ _ _ hs, s4 _ _ _ hs.1, bi, hpl]
  exact gc_tup (cl_ints _ _)
-- where a total falls
structure Falls (l : List Int) (t : Int) (a : Nat) (r : Int) : Prop where
  lt : a < l.length
  sum : (l.take a).sum + r = t
  pos : 0 ≤ r
  below : ∀ x, l[a]? = some x → r < x
theorem sum_take (l : List Int) {i : Nat} {y : Int} (hy : l[i]? = some y) : (l.take (i + 1)).sum = (l.take i).sum + y := by
  rw [List.take_add_one, hy]
  simp
theorem s5 (k : Nat) (l : List Int) (t : Int) (h : Heap) (h0 : 0 ≤ t) (h1 : t < l.sum) : ∃ a r, Falls l t a r ∧ callI T (k + 1) 5 [.tup (l.map .int), .int t] h = some (.ok (.v (.tup [.int a, .int r])) h) := by
  obtain ⟨fl, h', e, q⟩ := forGo_inv (its := (enumD (l.map D.int), none)) (f := forF (.tup [.slot 2, .slot 3]) (execs (callI T k) T.get b5_1)) (g := [some (.tup (l.map .int)), some (.int t), none, none]) (h := h)
    (fun i g h1 => (∃ z1 z2, g = [some (.tup (l.map .int)), some (.int (t - (l.take i).sum)), z1, z2]) ∧ h1 = h ∧ 0 ≤ t - (l.take i).sum)
    (fun r h1 => h1 = h ∧ ∃ (a : Nat) (b : Int), r = .v (.tup [.int a, .int b]) ∧ Falls l t a b) (fun _ _ => False) ⟨⟨none, none, by simp⟩, rfl, by simpa using h0⟩ (by
      rintro i x g h1 hx ⟨⟨z1, z2, rfl⟩, rfl, hp⟩
      rw [enumD_get] at hx
      obtain ⟨y, hy, rfl⟩ : ∃ y, l[i]? = some y ∧ .tup [.int i, .int y] = x := by
        simpa using hx
      by_cases hc : t - (l.take i).sum < y
      · refine ⟨.rt (.v (.tup [.int i, .int (t - (l.take i).sum)])), h1, by simp [forF, b5_1, hc], rfl, i, _, rfl, ?_, by omega, hp, fun x hx => ?_⟩
        · rcases Nat.lt_or_ge i l.length with q | q
          · exact q
          · rw [List.getElem?_eq_none q] at hy; cases hy
        · rw [hy] at hx
          cases hx
          exact hc
      · refine ⟨.nx [some (.tup (l.map .int)), some (.int (t - (l.take i).sum - y)), some (.int i), some (.int y)], h1, by simp [forF, b5_1, hc], still_none _ _, ⟨some (.int i), some (.int y), ?_⟩, rfl, ?_⟩
        · rw [sum_take l hy]
          rw [show t - (l.take i).sum - y = t - ((l.take i).sum + y) by omega]
        · rw [sum_take l hy]
          omega)
  rw [call_of t5 rfl]
  cases fl with
  | rt r =>
    obtain ⟨rfl, a, b, rfl, fa⟩ := q
    refine ⟨a, b, fa, ?_⟩
    simp [d5, e]
    exact gc_tup (by simp [clL, cl])
  | nx g =>
    exfalso
    simp [enumD_length] at q
    obtain ⟨_, _, q⟩ := q
    omega
  | bk _ => exact q.elim
  | ct _ => exact q.elim
theorem s13 (k : Nat) (l : List Int) (t : Int) (h : Heap) (hs : Small l) (hp : ∀ x ∈ l, 0 ≤ x) (h0 : 0 ≤ t) (h1 : t < l.sum) : ∃ a r, Falls l t a r ∧ callI T (k + 4) 13 [.tup (l.map .int), .int t] h = some (.ok (.v (.tup [.int a, .int r])) h) := by
  obtain ⟨a, r, fa, e⟩ := s5 (k + 2) l t h h0 h1
  refine ⟨a, r, fa, ?_⟩
  rw [call_of t13 rfl]
  have hl : l.length ≤ 16777216 := by have := hs.1; omega
  have a : ∀ x ∈ l.map D.int, lcF (l.map D.int, none) (.slot 2) (wipes [some (.tup (l.map .int)), some (.int t), none] [2]) (tests (callI T (k + 3)) T.get []) (eval (callI T (k + 3)) T.get e13_1) x h = some (.ok (some (.bl false)) h) := fun x hx => by
    obtain ⟨i, hi, rfl⟩ := List.mem_map.mp hx
    have b := hp i hi
    have c : ¬ i < 0 := by omega
    simp [lcF, wipes, still_none, e13_1, c]
  have b := lcGo_map (fun _ => some (.bl false)) _ a
  rw [List.filterMap_eq_map'] at b
  have bb : bools (l.map ((fun _ => D.bl false) ∘ D.int)) = some (l.map fun _ => false) := bools_mapf _ _ _ fun _ => rfl
  have be : (l.any fun _ => false) = false := by simp
  simp [d13, s7 _ _ _ hs, s0, b, hl, bi, bb, ints_map, be, h0, h1, e]
  exact gc_tup (by simp [clL, cl])
-- the gcd of a list
def gcdL (l : List Int) : Int := l.foldl (fun a x => (Int.gcd a x : Int)) 0
theorem s9 (k : Nat) (l : List Int) (h : Heap) (hs : Small l) : callI T (k + 4) 9 [.tup (l.map .int)] h = some (.ok (.v (.int (gcdL l))) h) := by
  rw [call_of t9 rfl]
  obtain ⟨z, e⟩ := forGo_ints (its := (l.map D.int, none)) (f := forF (.slot 2) (execs (callI T (k + 3)) T.get b9_1)) (h := h) (fun (s : Int) z => [some (.tup (l.map .int)), some (.int s), z])
    (fun a x => (Int.gcd a x : Int)) (still_none _ _) l 0 none (fun i hi s z => by simp [forF, b9_1, s2])
  simp [d9, s7 _ _ _ hs, e]
  exact gc_int _ _
-- the least common multiple of a list
def lcmL (l : List Int) : Nat := l.foldl (fun a x => Nat.lcm a x.natAbs) 1
theorem lcm_bound : ∀ (l : List Int) (a n : Nat), a ≤ 100 ^ n → (∀ x ∈ l, x.natAbs ≤ 100) → l.foldl (fun a x => Nat.lcm a x.natAbs) a ≤ 100 ^ (n + l.length)
  | [], a, n, h, _ => h
  | x :: l, a, n, h, hx => by
    have := lcm_bound l (Nat.lcm a x.natAbs) (n + 1) (Nat.le_trans (Nat.le_trans (Nat.div_le_self _ _) (Nat.mul_le_mul h (hx x (by simp)))) (by rw [Nat.pow_succ]; exact Nat.le_refl _)) fun y hy => hx y (by simp [hy])
    rw [List.length_cons, show n + (l.length + 1) = n + 1 + l.length by omega]
    exact this
theorem lcm_pos : ∀ (l : List Int) (a : Nat), 0 < a → (∀ x ∈ l, x ≠ 0) → 0 < l.foldl (fun a x => Nat.lcm a x.natAbs) a
  | [], a, h, _ => h
  | x :: l, a, h, hx => lcm_pos l _ (Nat.lcm_pos h (by have := hx x (by simp); omega)) fun y hy => hx y (by simp [hy])
theorem s10 (k : Nat) (l : List Int) (h : Heap) (hs : Small l) (h0 : ∀ x ∈ l, x ≠ 0) (hb : ∀ x ∈ l, x.natAbs ≤ 100) (hn : l.length ≤ 8) : callI T (k + 4) 10 [.tup (l.map .int)] h = some (.ok (.v (.int (lcmL l))) h) := by
  rw [call_of t10 rfl]
  have hany : (l.map D.int).any (fun z => eqD z (.int 0)) = false := by
    rw [List.any_eq_false]
    intro x hx
    obtain ⟨i, hi, rfl⟩ := List.mem_map.mp hx
    simp [h0 i hi]
  have hflat : (l.map D.int).all flat = true := by
    rw [List.all_eq_true]
    intro x hx
    obtain ⟨i, hi, rfl⟩ := List.mem_map.mp hx
    rfl
  have hmem : mem (.int 0) (.tup (l.map D.int)) h = some false := by
    unfold mem
    simp only [seqOf, hflat, hany]
    rfl
  obtain ⟨g', h', e, ⟨z, rfl⟩, rfl⟩ := forGo_go (its := (l.map D.int, none)) (f := forF (.slot 2) (execs (callI T (k + 3)) T.get b10_1)) (g := [some (.tup (l.map .int)), some (.int 1), none]) (h := h)
    (fun i g h1 => (∃ z, g = [some (.tup (l.map .int)), some (.int (lcmL (l.take i))), z]) ∧ h1 = h) ⟨⟨none, by simp [lcmL]⟩, rfl⟩ (by
      rintro i x g h1 hx ⟨⟨z, rfl⟩, rfl⟩
      obtain ⟨y, hy, rfl⟩ : ∃ y, l[i]? = some y ∧ .int y = x := by
        simpa using hx
      have hm : y ∈ l := List.mem_of_getElem? hy
      have ht : l.take (i + 1) = l.take i ++ [y] := by
        rw [List.take_add_one, hy]; rfl
      have b1 : lcmL (l.take i) ≤ 100 ^ 8 := Nat.le_trans (lcm_bound (l.take i) 1 0 (by decide) fun x hx => hb x (List.mem_of_mem_take hx)) (by
        rw [Nat.zero_add]
        exact Nat.pow_le_pow_right (by decide) (by rw [List.length_take]; omega))
      have b0 : 0 < lcmL (l.take i) := lcm_pos _ 1 (by decide) fun x hx => h0 x (List.mem_of_mem_take hx)
      have by_ := hb y hm
      have hy0 := h0 y hm
      have e1 : lcmL (l.take (i + 1)) = Nat.lcm (lcmL (l.take i)) y.natAbs := by
        rw [ht]
        unfold lcmL
        rw [List.foldl_append]
        rfl
      have b3 : (100 : Nat) ^ 8 = 10000000000000000 := by decide
      rw [b3] at b1
      generalize lcmL (l.take i) = a at b0 b1 e1
      have ab : (if y < 0 then -y else y) = (y.natAbs : Int) := by omega
      have m1 : mulOk a (y.natAbs : Int) = true := mul_ok (m := 64) (n := 64) (by decide) (by decide) (by decide) (by omega) (by omega) (by omega) (by omega)
      have gp : 0 < Int.gcd a y := Int.gcd_pos_of_ne_zero_right _ hy0
      have gl : Int.gcd a y ≤ a := by
        show Nat.gcd a y.natAbs ≤ a
        exact Nat.gcd_le_left _ b0
      have f1 : fdivOk (Int.gcd a y : Int) = true := fdiv_ok (by omega) (by omega)
      rw [e1]
      refine ⟨_, h1, by simp [forF, b10_1, s2, ab, m1, f1]; exact ⟨rfl, rfl⟩, still_none _ _, ⟨_, rfl⟩, rfl⟩)
  simp [d10, s7 _ _ _ hs, hmem, e]
  exact gc_int _ _
end K03

/-! What the law's defs compute. -/
namespace K03
open MP

def MOST : Int := 10 ^ 61
theorem g0 : T.get 0 = some (.int MOST) := by
  unfold MOST
  rfl
theorem g1 : T.get 1 = some (.int 5000) := rfl
theorem MOST_pos : 10 ^ 60 + 1000 < MOST := by decide +kernel
theorem s14 (k : Nat) (a b : Int) (h : Heap) : callI T (k + 1) 14 [.tup [.int a, .int b]] h = some (.ok (.v (.int (a + b))) h) := by
  rw [call_of t14 rfl]
  simp [d14]
  exact gc_int _ _
def SpOk (p : Int × Int) : Prop := 0 ≤ p.1 ∧ 1 ≤ p.2 ∧ p.1 + p.2 ≤ MOST
theorem s15 (k : Nat) (p : Int × Int) (h : Heap) (hp : SpOk p) : callI T (k + 3) 15 [pairD p] h = some (.ok (.v (.bl true)) h) := by
  obtain ⟨h1, h2, h3⟩ := hp
  have c1 : (0 ≤ p.1 ∧ p.1 ≤ MOST) := ⟨h1, by omega⟩
  have c2 : (1 ≤ p.2 ∧ p.2 ≤ MOST) := ⟨h2, by omega⟩
  rw [call_of t15 rfl]
  simp [d15, pairD, s1, s14, g0, c1, c2, h3, look]
  exact gc_bl _ _
-- spans as they stand
abbrev sp (ps : List (Int × Int)) : List D := ps.map pairD
theorem cl_sp (n : Nat) (ps : List (Int × Int)) : clL n (sp ps) = true := by
  induction ps with
  | nil => rfl
  | cons p ps ih => simp only [List.map_cons, clL, pairD, cl, ih, Bool.and_self]
theorem dok_sp (n : Nat) (ps : List (Int × Int)) : dokL (n + 1) (sp ps) = true := by
  induction ps with
  | nil => simp
  | cons p ps ih => simp [pairD]; simpa [pairD] using ih
theorem eqD_sp : ∀ (ps qs : List (Int × Int)), eqDL (sp ps) (sp qs) = decide (ps = qs)
  | [], [] => by simp
  | [], _ :: _ => by simp
  | _ :: _, [] => by simp
  | p :: ps, q :: qs => by
    have := eqD_sp ps qs
    simp only [sp] at this
    simp only [List.map_cons, eqDL_cons, this, List.cons.injEq, Bool.decide_and]
    congr 1
    obtain ⟨a, b⟩ := p
    obtain ⟨c, d⟩ := q
    simp [pairD]
structure LotB (ps : List (Int × Int)) : Prop extends Lot ps where
  ok : ∀ p ∈ ps, SpOk p
  few : ps.length ≤ 5000
theorem s16 (k : Nat) (ps : List (Int × Int)) (h : Heap) (hp : ∀ p ∈ ps, SpOk p) (hl : ps.length ≤ 5000) : callI T (k + 4) 16 [.tup (sp ps)] h = some (.ok (.v (.bl true)) h) := by
  rw [call_of t16 rfl]
  have hl2 : ps.length ≤ 16777216 := by omega
  have hl3 : (ps.length : Int) ≤ 5000 := by omega
  have a : ∀ x ∈ sp ps, lcF (sp ps, none) (.slot 1) (wipes [some (.tup (sp ps)), none] [1]) (tests (callI T (k + 3)) T.get []) (eval (callI T (k + 3)) T.get e16_1) x h = some (.ok (some (.bl true)) h) := fun x hx => by
    obtain ⟨p, hpp, rfl⟩ := List.mem_map.mp hx
    simp [lcF, wipes, s15 k p h (hp p hpp), still_none, e16_1]
  have b := lcGo_map (fun _ => some (.bl true)) _ a
  rw [List.filterMap_eq_map'] at b
  have bb : bools ((sp ps).map fun _ => D.bl true) = some ((sp ps).map fun _ => true) := bools_mapf _ _ _ fun _ => rfl
  simp only [List.map_map] at bb b
  simp only [sp, List.map_map] at b
  simp [d16, g1, b, hl2, hl3, bi, bb, all_tt]
  exact gc_bl _ _
theorem zip_sp : ∀ (ps : List (Int × Int)), List.zipWith (fun x y => D.tup [x, y]) (ps.map pairD) (ps.map pairD).tail = (ps.zip ps.tail).map fun q => D.tup [pairD q.1, pairD q.2]
  | [] => rfl
  | [p] => rfl
  | p :: q :: ps => by
    have := zip_sp (q :: ps)
    simp only [List.map_cons, List.tail_cons, List.zipWith_cons_cons, List.zip_cons_cons] at this ⊢
    rw [this]
theorem zip_gap : ∀ {ps : List (Int × Int)}, ps.Pairwise (fun p q => p.1 + p.2 < q.1) → ∀ q ∈ ps.zip ps.tail, q.1.1 + q.1.2 < q.2.1
  | [], _, q, h => by simp at h
  | [p], _, q, h => by simp at h
  | p :: r :: ps, g, q, h => by
    obtain ⟨g1, g2⟩ := List.pairwise_cons.mp g
    simp only [List.tail_cons, List.zip_cons_cons, List.mem_cons] at h
    rcases h with rfl | h
    · exact g1 r (by simp)
    · exact zip_gap g2 q (by simpa using h)
@[simp] theorem cut_1 (l : List D) : cutZ l (some 1) none = l.tail := by
  unfold cutZ cutAt
  simp
  cases l with
  | nil => rfl
  | cons a l => simp
theorem s26 (k : Nat) (ps : List (Int × Int)) (h : Heap) (hp : LotB ps) : callI T (k + 5) 26 [.tup (sp ps)] h = some (.ok (.v (.bl true)) h) := by
  rw [call_of t26 rfl]
  have a : ∀ x ∈ (ps.zip ps.tail).map fun q => D.tup [pairD q.1, pairD q.2], lcF ((ps.zip ps.tail).map fun q => D.tup [pairD q.1, pairD q.2], none) (.tup [.slot 1, .slot 2]) (wipes [some (.tup (sp ps)), none, none] [1, 2]) (tests (callI T (k + 4)) T.get []) (eval (callI T (k + 4)) T.get e26_1) x h = some (.ok (some (.bl true)) h) := fun x hx => by
    obtain ⟨q, hq, rfl⟩ := List.mem_map.mp hx
    have c := zip_gap hp.gap q hq
    simp [lcF, wipes, still_none, e26_1, pairD, s14, c]
  have b := lcGo_map (fun _ => some (.bl true)) _ a
  rw [List.filterMap_eq_map', List.map_map] at b
  have bb : bools ((ps.zip ps.tail).map ((fun _ => D.bl true) ∘ fun q => D.tup [pairD q.1, pairD q.2])) = some ((ps.zip ps.tail).map fun _ => true) := bools_mapf _ _ _ fun _ => rfl
  have hz2 : ps.length ≤ 16777217 := by have := hp.few; omega
  simp [d26, s16 k ps h hp.ok hp.few, zip_sp, b, bb, bi, all_tt, hz2]
  exact gc_bl _ _
theorem s27 (k : Nat) (ps : List (Int × Int)) (h : Heap) (hp : LotB ps) : callI T (k + 6) 27 [.tup (sp ps)] h = some (.ok (.v .non) h) := by
  rw [call_of t27 rfl]
  simp [d27, s26 k ps h hp]
  exact gc_non _
theorem s28 (k : Nat) (ps qs : List (Int × Int)) (h : Heap) (hp : LotB ps) (hq : LotB qs) : callI T (k + 7) 28 [.tup (sp ps), .tup (sp qs)] h = some (.ok (.v .non) h) := by
  rw [call_of t28 rfl]
  simp [d28, s27 k ps h hp, s27 k qs h hq]
  exact gc_non _
theorem s29 (k : Nat) (c : Int) (h : Heap) (h1 : 0 ≤ c) (h2 : c ≤ MOST) : callI T (k + 3) 29 [.int c] h = some (.ok (.v .non) h) := by
  rw [call_of t29 rfl]
  have b : 0 ≤ c ∧ c ≤ MOST := ⟨h1, h2⟩
  simp [d29, s1, g0, b]
  exact gc_non _
theorem s30 (k : Nat) (l : List D) (h : Heap) (hl : l.length ≤ 5000) (hc : clL h.length l = true) : callI T (k + 1) 30 [.tup l] h = some (.ok (.v (.tup l)) h) := by
  rw [call_of t30 rfl]
  have b : ¬ (5000 : Int) < l.length := by omega
  have b2 : l.length ≤ 16777216 := by omega
  simp [d30, g1, b, bi, b2]
  exact gc_tup hc
theorem s30l (k : Nat) (l : List D) (h : Heap) (hl : l.length ≤ 5000) (hc : clL h.length l = true) : callI T (k + 1) 30 [.lst l] h = some (.ok (.v (.tup l)) h) := by
  rw [call_of t30 rfl]
  have b : ¬ (5000 : Int) < l.length := by omega
  have b2 : l.length ≤ 16777216 := by omega
  simp [d30, g1, b, bi, b2]
  exact gc_tup hc
end K03

/-! What the law's defs compute. -/
namespace K03
open MP

-- the last of a list that is changed
theorem last_or (f : List (Int × Int)) : f = [] ∨ ∃ g p, f = g ++ [p] := by
  cases e : f.getLast? with
  | none => exact .inl (List.getLast?_eq_none_iff.mp e)
  | some p => exact .inr ⟨_, _, snoc_of e⟩
@[simp] theorem atN_last (n : Nat) : atN (n + 1) (-1) = some n := by
  unfold atN
  rw [if_neg (by decide), if_pos (by omega)]
  congr 1
  omega
@[simp] theorem eqDL_sn (l : List D) (x : D) : eqDL (l ++ [x]) [] = false := by cases l <;> rfl
@[simp] theorem one_le' (n : Nat) : (1 : Int) ≤ (n : Int) + 1 := by omega
@[simp] theorem back_n (n : Nat) : (-1 + ((n : Int) + 1)).toNat = n := by omega
@[simp] theorem set_map {α β : Type} (f : α → β) (g : List α) (x y : β) : (List.map f g ++ [x]).set g.length y = List.map f g ++ [y] := by
  have := set_end (g.map f) x y
  rwa [List.length_map] at this
theorem gc_tupA {h x : Heap} {l : List D} (c : clL h.length l = true) : gc h (.v (.tup l)) (h ++ x) = some (.ok (.v (.tup l)) h) := by
  rw [gc_v2 (oldOk_app _ _) rfl (show cl h.length (.tup l) = true from c), take_end]
theorem gc_locA {h : Heap} {l : List D} (c : clL h.length l = true) : gc h (.v (.loc h.length)) (h ++ [.lst l]) = some (.ok (.newL l) h) := by
  rw [gc_loc2 (l := l) (oldOk_app _ _) (Nat.le_refl _) (by simp) c, take_end]
theorem sortD_sp (ps : List (Int × Int)) : sortD (sp ps) = some (sp (sortBy leP ps)) := by
  have e : ∀ ps : List (Int × Int), pairs (sp ps) = some ps := fun ps => by
    induction ps with
    | nil => rfl
    | cons p ps ih => simp only [List.map_cons, pairD, pairs]; simp only [sp] at ih; rw [ih]; rfl
  unfold sortD
  cases ps with
  | nil => rfl
  | cons p ps =>
    have : MP.intsD (sp (p :: ps)) = none := rfl
    rw [this, e]
-- one span more, by their beginnings
def addS (f : List (Int × Int)) (p : Int × Int) : List (Int × Int) := match f.getLast? with
  | some q => if p.1 ≤ q.1 + q.2 then f.dropLast ++ [(q.1, (if q.1 + q.2 > p.1 + p.2 then q.1 + q.2 else p.1 + p.2) - q.1)] else f ++ [p]
  | none => f ++ [p]
theorem addS_len (f : List (Int × Int)) (p : Int × Int) : (addS f p).length ≤ f.length + 1 := by
  unfold addS
  split
  · split
    · simp only [List.length_append, List.length_dropLast, List.length_cons, List.length_nil]
      omega
    · simp
  · simp
theorem body17 (k : Nat) (f : List (Int × Int)) (p : Int × Int) (x z1 z2 z3 : Option D) (h : Heap) (hf : f.length < 16777216) : ∃ z, execs (callI T (k + 1)) T.get b17_1 [x, some (.loc h.length), some (.int p.1), some (.int p.2), z3] (h ++ [.lst (sp f)]) = some (.ok (.nx [x, some (.loc h.length), some (.int p.1), some (.int p.2), z]) (h ++ [.lst (sp (addS f p))])) := by
  rcases last_or f with rfl | ⟨g, q, rfl⟩
  · refine ⟨z3, ?_⟩
    simp [b17_1, addS, look, pairD]
  · have e : addS (g ++ [q]) p = if p.1 ≤ q.1 + q.2 then g ++ [(q.1, (if q.1 + q.2 > p.1 + p.2 then q.1 + q.2 else p.1 + p.2) - q.1)] else g ++ [q] ++ [p] := by
      unfold addS
      simp
    have hd := dok_sp 58 (g ++ [q])
    have hg : g.length + 1 < 16777216 := by simpa using hf
    rw [e]
    by_cases c : p.1 ≤ q.1 + q.2
    · refine ⟨some (.int (if q.1 + q.2 > p.1 + p.2 then q.1 + q.2 else p.1 + p.2)), ?_⟩
      simp [sp, pairD] at hd
      simp [b17_1, look, pairD, s14, c, hd]
    · refine ⟨z3, ?_⟩
      simp [sp, pairD] at hd
      simp [b17_1, look, pairD, s14, c, hd, hg]
theorem addS_lot {f : List (Int × Int)} {p : Int × Int} (h : Lot f) (hp : 0 < p.2) (hf : ∀ q ∈ f, q.1 ≤ p.1) : Lot (addS f p) ∧ (∀ d, In (addS f p) d ↔ In f d ∨ (p.1 ≤ d ∧ d < p.1 + p.2)) ∧ ∀ q ∈ addS f p, q.1 ≤ p.1 := by
  rcases last_or f with rfl | ⟨g, q, rfl⟩
  · refine ⟨Lot.nil.snoc hp (by simp), fun d => ?_, fun q hq => ?_⟩
    · show In [p] d ↔ _
      rw [in_one, in_nil, false_or]
    · have : q = p := by simpa [addS] using hq
      rw [this]
      exact Int.le_refl _
  · have e : addS (g ++ [q]) p = if p.1 ≤ q.1 + q.2 then g ++ [(q.1, (if q.1 + q.2 > p.1 + p.2 then q.1 + q.2 else p.1 + p.2) - q.1)] else g ++ [q] ++ [p] := by
      unfold addS
      simp
    obtain ⟨i1, i2, i3⟩ := h.init
    have hq := hf q (by simp)
    rw [e]
    split
    · rename_i c
      generalize hm : (if q.1 + q.2 > p.1 + p.2 then q.1 + q.2 else p.1 + p.2) = m
      have hm1 : q.1 + q.2 ≤ m ∧ p.1 + p.2 ≤ m ∧ (m = q.1 + q.2 ∨ m = p.1 + p.2) := by
        rw [← hm]
        split <;> omega
      refine ⟨i1.snoc (by simp only; omega) i3, fun d => ?_, fun r hr => ?_⟩
      · rw [in_app, in_one, in_app, in_one, or_assoc]
        simp only
        have : (q.1 ≤ d ∧ d < q.1 + (m - q.1)) ↔ ((q.1 ≤ d ∧ d < q.1 + q.2) ∨ (p.1 ≤ d ∧ d < p.1 + p.2)) := by omega
        rw [this]
      · rcases List.mem_append.mp hr with z | z
        · exact hf r (by simp [z])
        · simp only [List.mem_singleton] at z
          rw [z]
          exact hq
    · rename_i c
      refine ⟨h.snoc hp fun r hr => ?_, fun d => ?_, fun r hr => ?_⟩
      · rcases List.mem_append.mp hr with z | z
        · have := i3 r z
          omega
        · simp only [List.mem_singleton] at z
          subst z
          omega
      · rw [in_app, in_one]
      · rcases List.mem_append.mp hr with z | z
        · exact hf r z
        · simp only [List.mem_singleton] at z
          rw [z]
          exact Int.le_refl _
def leanS (ps : List (Int × Int)) : List (Int × Int) := (sortBy leP ps).foldl addS []
theorem foldS : ∀ {ps f : List (Int × Int)}, Lot f → (∀ p ∈ ps, 0 < p.2) → ps.Pairwise (fun p q => p.1 ≤ q.1) → (∀ p ∈ ps, ∀ q ∈ f, q.1 ≤ p.1) → Lot (ps.foldl addS f) ∧ ∀ d, In (ps.foldl addS f) d ↔ In f d ∨ In ps d
  | [], f, h, _, _, _ => ⟨h, fun d => by simp [in_nil]⟩
  | p :: ps, f, h, hp, hs, hf => by
    obtain ⟨a, b⟩ := List.pairwise_cons.mp hs
    obtain ⟨l1, l2, l3⟩ := addS_lot h (hp p (by simp)) (hf p (by simp))
    obtain ⟨m1, m2⟩ := foldS l1 (fun q hq => hp q (by simp [hq])) b fun q hq r hr => Int.le_trans (l3 r hr) (a q hq)
    refine ⟨m1, fun d => ?_⟩
    rw [List.foldl_cons, m2 d, l2 d, in_cons, or_assoc]
theorem leanS_lot {ps : List (Int × Int)} (hp : ∀ p ∈ ps, 0 < p.2) : Lot (leanS ps) ∧ ∀ d, In (leanS ps) d ↔ In ps d := by
  have pm := sortBy_perm leP ps
  obtain ⟨a, b⟩ := foldS (ps := sortBy leP ps) Lot.nil (fun p h => hp p (pm.mem_iff.mp h)) ((sortBy_sorted leP_tot leP_tr ps).imp fun {a b} h => by rw [leP_iff] at h; omega) (by intro p _ q hq; simp at hq)
  exact ⟨a, fun d => by rw [leanS, b d, in_nil, false_or]; exact in_perm pm d⟩
theorem foldS_len : ∀ (ps f : List (Int × Int)), (ps.foldl addS f).length ≤ f.length + ps.length
  | [], f => by simp
  | p :: ps, f => by
    have := foldS_len ps (addS f p)
    have := addS_len f p
    simp only [List.foldl_cons, List.length_cons]
    omega
theorem take_snoc {α β : Type} (step : β → α → β) (l : List α) (b : β) {i : Nat} {x : α} (hx : l[i]? = some x) : (l.take (i + 1)).foldl step b = step ((l.take i).foldl step b) x := by
  rw [List.take_add_one, hx]
  simp
theorem sp_get {ps : List (Int × Int)} {i : Nat} {x : D} (h : (sp ps)[i]? = some x) : ∃ p, ps[i]? = some p ∧ x = .tup [.int p.1, .int p.2] := by
  rw [List.getElem?_map] at h
  cases c : ps[i]? with
  | none => rw [c] at h; cases h
  | some p =>
    rw [c] at h
    cases h
    exact ⟨p, rfl, rfl⟩
theorem s17 (k : Nat) (ps : List (Int × Int)) (h : Heap) (hl : ps.length < 16777216) : callI T (k + 2) 17 [.tup (sp ps)] h = some (.ok (.v (.tup (sp (leanS ps)))) h) := by
  rw [call_of t17 rfl]
  obtain ⟨g', h', e, q1, q2⟩ := forGo_go (its := (sp (sortBy leP ps), none)) (f := forF (.tup [.slot 2, .slot 3]) (execs (callI T (k + 1)) T.get b17_1)) (g := [some (.tup (sp ps)), some (.loc h.length), none, none, none]) (h := h ++ [.lst (sp [])])
    (fun i g h1 => (∃ z1 z2 z3, g = [some (.tup (sp ps)), some (.loc h.length), z1, z2, z3]) ∧ h1 = h ++ [.lst (sp (((sortBy leP ps).take i).foldl addS []))]) ⟨⟨none, none, none, rfl⟩, by simp⟩ (by
      rintro i x g h1 hx ⟨⟨z1, z2, z3, rfl⟩, rfl⟩
      obtain ⟨p, hp, rfl⟩ := sp_get hx
      have hlen := foldS_len ((sortBy leP ps).take i) []
      have hl2 := (sortBy_perm leP ps).length_eq
      obtain ⟨z, e⟩ := body17 k (((sortBy leP ps).take i).foldl addS []) p (some (.tup (sp ps))) z1 z2 z3 h (by simp only [List.length_nil, List.length_take] at hlen; omega)
      rw [take_snoc _ _ _ hp]
      refine ⟨_, _, ?_, still_none _ _, ⟨some (.int p.1), some (.int p.2), z, rfl⟩, rfl⟩
      simp only [forF, assign, assigns, List.set_cons_zero, List.set_cons_succ]
      exact e)
  obtain ⟨z1, z2, z3, rfl⟩ := q1
  subst q2
  simp only [List.take_length, List.length_map] at e
  have hle : (leanS ps).length ≤ 16777216 := by
    have := foldS_len (sortBy leP ps) []
    have hl2 := (sortBy_perm leP ps).length_eq
    simp only [List.length_nil] at this
    unfold leanS
    omega
  have ee : (sortBy leP ps).foldl addS [] = leanS ps := rfl
  simp only [ee] at e
  have sd := sortD_sp ps
  simp only [sp, List.map_nil] at sd e
  simp [d17, bi, sp, sd, e, hle]
  exact gc_tupA (cl_sp _ _)
end K03

/-! What the law's defs compute. -/
namespace K03
open MP
theorem drop_at {α : Type} {l : List α} {i : Nat} {a : α} (e : l[i]? = some a) : l.drop i = a :: l.drop (i + 1) := by
  obtain ⟨hi, rfl⟩ := List.getElem?_eq_some_iff.mp e
  exact List.drop_eq_getElem_cons hi
def mx (i j : Int) : Int := if j > i then j else i
def mn (i j : Int) : Int := if j < i then j else i
theorem mx_or (i j : Int) : i ≤ mx i j ∧ j ≤ mx i j ∧ (mx i j = i ∨ mx i j = j) := by unfold mx; split <;> omega
theorem mn_or (i j : Int) : mn i j ≤ i ∧ mn i j ≤ j ∧ (mn i j = i ∨ mn i j = j) := by unfold mn; split <;> omega
structure ShI (one other : List (Int × Int)) (i j : Nat) (f : List (Int × Int)) : Prop where
  lot : Lot f
  tell : ∀ c, (In one c ∧ In other c) ↔ In f c ∨ (In (one.drop i) c ∧ In (other.drop j) c)
  far : ∀ p ∈ f, ∀ a ∈ one.drop i, ∀ b ∈ other.drop j, p.1 + p.2 < mx a.1 b.1
  few : f.length ≤ i + j
def shF (a b : Int × Int) (f : List (Int × Int)) : List (Int × Int) := if mx a.1 b.1 < mn (a.1 + a.2) (b.1 + b.2) then f ++ [(mx a.1 b.1, mn (a.1 + a.2) (b.1 + b.2) - mx a.1 b.1)] else f
theorem sh_f {one other : List (Int × Int)} (h1 : Lot one) (h2 : Lot other) {i j : Nat} {f : List (Int × Int)} (I : ShI one other i j f) {a b : Int × Int} (ea : one[i]? = some a) (eb : other[j]? = some b) :
    Lot (shF a b f) ∧ (∀ c, In (shF a b f) c ↔ In f c ∨ (a.1 ≤ c ∧ c < a.1 + a.2 ∧ b.1 ≤ c ∧ c < b.1 + b.2)) ∧ (∀ p ∈ shF a b f, p ∈ f ∨ p.1 + p.2 = mn (a.1 + a.2) (b.1 + b.2)) ∧ (shF a b f).length ≤ i + j + 1 := by
  have da := drop_at ea
  have db := drop_at eb
  have m1 := mx_or a.1 b.1
  have m2 := mn_or (a.1 + a.2) (b.1 + b.2)
  have hf := I.few
  unfold shF
  split
  · rename_i c
    refine ⟨I.lot.snoc (by simp only; omega) fun q hq => I.far q hq a (by rw [da]; simp) b (by rw [db]; simp), fun d => ?_, fun p hp => ?_, by simp; omega⟩
    · rw [in_app, in_one]
      simp only
      have : (mx a.1 b.1 ≤ d ∧ d < mx a.1 b.1 + (mn (a.1 + a.2) (b.1 + b.2) - mx a.1 b.1)) ↔ (a.1 ≤ d ∧ d < a.1 + a.2 ∧ b.1 ≤ d ∧ d < b.1 + b.2) := by omega
      rw [this]
    · rcases List.mem_append.mp hp with z | z
      · exact .inl z
      · simp only [List.mem_singleton] at z
        subst z
        exact .inr (by simp only; omega)
  · rename_i c
    refine ⟨I.lot, fun d => ?_, fun p hp => .inl hp, by omega⟩
    constructor
    · exact .inl
    · rintro (z | z)
      · exact z
      · omega
theorem sh_a {one other : List (Int × Int)} (h1 : Lot one) (h2 : Lot other) {i j : Nat} {f : List (Int × Int)} (I : ShI one other i j f) {a b : Int × Int} (ea : one[i]? = some a) (eb : other[j]? = some b) (hc : a.1 + a.2 < b.1 + b.2) : ShI one other (i + 1) j (shF a b f) := by
  have da := drop_at ea
  have db := drop_at eb
  have m2 := mn_or (a.1 + a.2) (b.1 + b.2)
  obtain ⟨l1, l2, l3, l4⟩ := sh_f h1 h2 I ea eb
  have L1 := h1.drop i
  have L2 := h2.drop j
  rw [da] at L1
  rw [db] at L2
  obtain ⟨a1, a2⟩ := L1.head
  obtain ⟨b1, b2⟩ := L2.head
  refine ⟨l1, fun c => ?_, fun p hp x hx y hy => ?_, by omega⟩
  · rw [I.tell c, l2 c, da, db, in_cons, in_cons]
    constructor
    · rintro (z | ⟨z | z, y⟩)
      · exact .inl (.inl z)
      · rcases y with y | ⟨q, hq, y⟩
        · exact .inl (.inr (by omega))
        · have := b2 q hq
          omega
      · exact .inr ⟨z, y⟩
    · rintro ((z | z) | ⟨z, y⟩)
      · exact .inl z
      · exact .inr ⟨.inl (by omega), .inl (by omega)⟩
      · exact .inr ⟨.inr z, y⟩
  · rcases l3 p hp with z | z
    · exact I.far p z x (by rw [da]; simp [hx]) y hy
    · have := a2 x hx
      have := mx_or x.1 y.1
      omega
theorem sh_b {one other : List (Int × Int)} (h1 : Lot one) (h2 : Lot other) {i j : Nat} {f : List (Int × Int)} (I : ShI one other i j f) {a b : Int × Int} (ea : one[i]? = some a) (eb : other[j]? = some b) (hc : ¬ a.1 + a.2 < b.1 + b.2) : ShI one other i (j + 1) (shF a b f) := by
  have da := drop_at ea
  have db := drop_at eb
  have m2 := mn_or (a.1 + a.2) (b.1 + b.2)
  obtain ⟨l1, l2, l3, l4⟩ := sh_f h1 h2 I ea eb
  have L1 := h1.drop i
  have L2 := h2.drop j
  rw [da] at L1
  rw [db] at L2
  obtain ⟨a1, a2⟩ := L1.head
  obtain ⟨b1, b2⟩ := L2.head
  refine ⟨l1, fun c => ?_, fun p hp x hx y hy => ?_, by omega⟩
  · rw [I.tell c, l2 c, da, db, in_cons, in_cons]
    constructor
    · rintro (z | ⟨y, z | z⟩)
      · exact .inl (.inl z)
      · rcases y with y | ⟨q, hq, y⟩
        · exact .inl (.inr (by omega))
        · have := a2 q hq
          omega
      · exact .inr ⟨y, z⟩
    · rintro ((z | z) | ⟨y, z⟩)
      · exact .inl z
      · exact .inr ⟨.inl (by omega), .inl (by omega)⟩
      · exact .inr ⟨y, .inr z⟩
  · rcases l3 p hp with z | z
    · exact I.far p z x hx y (by rw [db]; simp [hy])
    · have := b2 y hy
      have := mx_or x.1 y.1
      omega
@[simp] theorem map_get {α β : Type} (f : α → β) (l : List α) (i : Nat) : (List.map f l)[i]? = l[i]?.map f := by simp
theorem body18 (k : Nat) (one other f : List (Int × Int)) (i j : Nat) (h : Heap) (z5 z6 : Option D) {a b : Int × Int} (ea : one[i]? = some a) (eb : other[j]? = some b) (hf : f.length < 16777216) :
    ∃ y5 y6, execs (callI T (k + 1)) T.get b18_2 [some (.tup (sp one)), some (.tup (sp other)), some (.loc h.length), some (.int i), some (.int j), z5, z6] (h ++ [.lst (sp f)]) =
      some (.ok (.nx [some (.tup (sp one)), some (.tup (sp other)), some (.loc h.length), some (.int (if a.1 + a.2 < b.1 + b.2 then (i : Int) + 1 else i)), some (.int (if a.1 + a.2 < b.1 + b.2 then (j : Int) else j + 1)), y5, y6]) (h ++ [.lst (sp (shF a b f))])) := by
  refine ⟨some (.int (mx a.1 b.1)), some (.int (mn (a.1 + a.2) (b.1 + b.2))), ?_⟩
  have e1 : (if a.1 < b.1 then b.1 else a.1) = mx a.1 b.1 := rfl
  have e2 : (if b.1 + b.2 < a.1 + a.2 then b.1 + b.2 else a.1 + a.2) = mn (a.1 + a.2) (b.1 + b.2) := rfl
  by_cases c1 : mx a.1 b.1 < mn (a.1 + a.2) (b.1 + b.2)
  · by_cases c2 : a.1 + a.2 < b.1 + b.2
    · simp [b18_2, ea, eb, pairD, s14, sp, e1, e2, c1, c2, shF, hf]
    · simp [b18_2, ea, eb, pairD, s14, sp, e1, e2, c1, c2, shF, hf]
  · by_cases c2 : a.1 + a.2 < b.1 + b.2
    · simp [b18_2, ea, eb, pairD, s14, sp, e1, e2, c1, c2, shF, hf]
    · simp [b18_2, ea, eb, pairD, s14, sp, e1, e2, c1, c2, shF, hf]
theorem get_lt {α : Type} {l : List α} {i : Nat} (h : i < l.length) : ∃ a, l[i]? = some a := ⟨_, List.getElem?_eq_getElem h⟩
theorem s18 (k : Nat) (one other : List (Int × Int)) (h : Heap) (h1 : Lot one) (h2 : Lot other) (n1 : one.length ≤ 5000) (n2 : other.length ≤ 5000) :
    ∃ f, callI T (k + 2) 18 [.tup (sp one), .tup (sp other)] h = some (.ok (.v (.tup (sp f))) h) ∧ Lot f ∧ ∀ c, In f c ↔ In one c ∧ In other c := by
  obtain ⟨fl, h', e, q⟩ := whileD_inv (c := tst (eval (callI T (k + 1)) T.get w18_1)) (f := execs (callI T (k + 1)) T.get b18_2)
    (fun m g h1 => ∃ i j f z5 z6, g = [some (.tup (sp one)), some (.tup (sp other)), some (.loc h.length), some (.int (i : Nat)), some (.int (j : Nat)), z5, z6] ∧ h1 = h ++ [.lst (sp f)] ∧ ShI one other i j f ∧ i ≤ one.length ∧ j ≤ other.length ∧ m = one.length + other.length - i - j)
    (fun _ _ => False) (fun g h1 => ∃ f z3 z4 z5 z6, g = [some (.tup (sp one)), some (.tup (sp other)), some (.loc h.length), z3, z4, z5, z6] ∧ h1 = h ++ [.lst (sp f)] ∧ Lot f ∧ (∀ c, In f c ↔ In one c ∧ In other c) ∧ f.length ≤ 16777216) (by
      rintro m g h1 ⟨i, j, f, z5, z6, rfl, rfl, I, hi, hj, rfl⟩
      have few := I.few
      by_cases c1 : i < one.length
      · by_cases c2 : j < other.length
        · obtain ⟨a, ea⟩ := get_lt c1
          obtain ⟨b, eb⟩ := get_lt c2
          refine ⟨true, _, by simp [tst, w18_1, sp, c1, c2]; rfl, ?_⟩
          obtain ⟨y5, y6, e⟩ := body18 k one other f i j h z5 z6 ea eb (by omega)
          simp only [if_true]
          refine ⟨_, _, e, ?_⟩
          simp only
          by_cases c3 : a.1 + a.2 < b.1 + b.2
          · exact ⟨one.length + other.length - (i + 1) - j, by omega, i + 1, j, _, y5, y6, by simp [c3], rfl, sh_a h1 h2 I ea eb c3, by omega, by omega, rfl⟩
          · exact ⟨one.length + other.length - i - (j + 1), by omega, i, j + 1, _, y5, y6, by simp [c3], rfl, sh_b h1 h2 I ea eb c3, by omega, by omega, rfl⟩
        · have e0 : other.drop j = [] := List.drop_eq_nil_of_le (by omega)
          refine ⟨false, _, by simp [tst, w18_1, sp, c1, c2]; rfl, ?_⟩
          simp only [Bool.false_eq_true, if_false]
          exact ⟨f, _, _, _, _, rfl, rfl, I.lot, fun c => by rw [I.tell c, e0, in_nil]; simp, by omega⟩
      · have e0 : one.drop i = [] := List.drop_eq_nil_of_le (by omega)
        refine ⟨false, _, by simp [tst, w18_1, sp, c1]; rfl, ?_⟩
        simp only [Bool.false_eq_true, if_false]
        exact ⟨f, _, _, _, _, rfl, rfl, I.lot, fun c => by rw [I.tell c, e0, in_nil]; simp, by omega⟩) _ _ _ ⟨0, 0, [], none, none, rfl, rfl, ⟨Lot.nil, fun c => by simp [in_nil], by simp, by simp⟩, by omega, by omega, rfl⟩
  cases fl with
  | nx g =>
    obtain ⟨f, z3, z4, z5, z6, rfl, rfl, lf, tell, few⟩ := q
    refine ⟨f, ?_, lf, tell⟩
    rw [call_of t18 rfl]
    simp only [Int.natCast_zero, List.map_nil] at e
    simp only [sp] at e
    simp [d18, sp, e, bi, few]
    exact gc_tupA (cl_sp _ _)
  | rt r => exact q.elim
  | bk _ => exact q.elim
  | ct _ => exact q.elim
end K03

/-! What the law's defs compute. -/
namespace K03
open MP
-- what lies behind is left
theorem wh71 (k : Nat) (other : List (Int × Int)) (x0 x2 x4 : Option D) (here : Int) (x6 x7 : Option D) (h : Heap) (n2 : other.length ≤ 5000) (spot : Nat) (hs : spot ≤ other.length) :
    ∃ s : Nat, whileD (tst (eval (callI T (k + 1)) T.get w19_1)) (execs (callI T (k + 1)) T.get b19_2) [x0, some (.tup (sp other)), x2, some (.int spot), x4, some (.int here), x6, x7] h = some (.ok (.nx [x0, some (.tup (sp other)), x2, some (.int s), x4, some (.int here), x6, x7]) h) ∧
      s ≤ other.length ∧ ∀ b ∈ other.take s, b ∈ other.take spot ∨ b.1 + b.2 ≤ here := by
  obtain ⟨fl, h', e, q⟩ := whileD_inv (c := tst (eval (callI T (k + 1)) T.get w19_1)) (f := execs (callI T (k + 1)) T.get b19_2)
    (fun m g h1 => ∃ s : Nat, g = [x0, some (.tup (sp other)), x2, some (.int s), x4, some (.int here), x6, x7] ∧ h1 = h ∧ s ≤ other.length ∧ (∀ b ∈ other.take s, b ∈ other.take spot ∨ b.1 + b.2 ≤ here) ∧ m = other.length - s)
    (fun _ _ => False) (fun g h1 => ∃ s : Nat, g = [x0, some (.tup (sp other)), x2, some (.int s), x4, some (.int here), x6, x7] ∧ h1 = h ∧ s ≤ other.length ∧ (∀ b ∈ other.take s, b ∈ other.take spot ∨ b.1 + b.2 ≤ here)) (by
      rintro m g h1 ⟨s, rfl, rfl, hl, hb, rfl⟩
      by_cases c : s < other.length
      · obtain ⟨b, eb⟩ := get_lt c
        have eB := (List.getElem?_eq_some_iff.mp eb).2
        by_cases c2 : b.1 + b.2 ≤ here
        · refine ⟨true, _, by simp [tst, w19_1, sp, c, eB, pairD, s14, c2]; rfl, ?_⟩
          rw [if_pos rfl]
          refine ⟨.nx [x0, some (.tup (sp other)), x2, some (.int ((s + 1 : Nat) : Int)), x4, some (.int here), x6, x7], h1, by simp [b19_2], ?_⟩
          refine ⟨other.length - (s + 1), by omega, s + 1, rfl, rfl, by omega, fun y hy => ?_, rfl⟩
          rw [List.take_add_one, eb] at hy
          rcases List.mem_append.mp hy with z | z
          · exact hb y z
          · have : y = b := by simpa using z
            rw [this]
            exact .inr c2
        · refine ⟨false, _, by simp [tst, w19_1, sp, c, eB, pairD, s14, c2]; rfl, ?_⟩
          rw [if_neg Bool.false_ne_true]
          exact ⟨s, rfl, rfl, hl, hb⟩
      · refine ⟨false, _, by simp [tst, w19_1, sp, c]; rfl, ?_⟩
        rw [if_neg Bool.false_ne_true]
        exact ⟨s, rfl, rfl, hl, hb⟩) _ _ _ ⟨spot, rfl, rfl, hs, fun b hb => .inl hb, rfl⟩
  cases fl with
  | nx g =>
    obtain ⟨s, rfl, rfl, a, b⟩ := q
    exact ⟨s, e, a, b⟩
  | rt r => exact q.elim
  | bk _ => exact q.elim
  | ct _ => exact q.elim
-- the turns within one span
structure LeI (other f0 : List (Int × Int)) (here0 stop : Int) (n : Nat) (here : Int) (f : List (Int × Int)) : Prop where
  lot : Lot f
  ge : here0 ≤ here
  tell : ∀ c, In f c ↔ In f0 c ∨ (here0 ≤ c ∧ c < here ∧ c < stop ∧ ¬ In other c)
  past : ∀ b ∈ other.take n, b.1 + b.2 ≤ here
  gap : ∀ p ∈ f, p.1 + p.2 < here
theorem in_split {ps : List (Int × Int)} (n : Nat) {c : Int} : In ps c ↔ In (ps.take n) c ∨ In (ps.drop n) c := by
  rw [← in_app, List.take_append_drop]
theorem Lot.from {ps : List (Int × Int)} (h : Lot ps) {n : Nat} {b : Int × Int} (e : ps[n]? = some b) : 0 < b.2 ∧ ∀ x ∈ ps.drop (n + 1), b.1 + b.2 < x.1 := by
  have := h.drop n
  rw [drop_at e] at this
  exact this.head
theorem le_step {other f0 f : List (Int × Int)} {here0 stop here : Int} {n : Nat} (h2 : Lot other) (I : LeI other f0 here0 stop n here f) {b : Int × Int} (eb : other[n]? = some b) (hc : b.1 < stop) :
    LeI other f0 here0 stop (n + 1) (mx here (b.1 + b.2)) (if b.1 > here then f ++ [(here, b.1 - here)] else f) := by
  obtain ⟨b1, b2⟩ := Lot.from h2 eb
  have m := mx_or here (b.1 + b.2)
  have ins : ∀ c, In other c ↔ In (other.take n) c ∨ (b.1 ≤ c ∧ c < b.1 + b.2) ∨ In (other.drop (n + 1)) c := fun c => by
    rw [in_split n, drop_at eb, in_cons]
  have t1 : ∀ c, In (other.take n) c → c < here := fun c ⟨p, hp, z⟩ => by
    have := I.past p hp
    omega
  have t2 : ∀ c, In (other.drop (n + 1)) c → b.1 + b.2 < c := fun c ⟨p, hp, z⟩ => by
    have := b2 p hp
    omega
  have hp' : ∀ x ∈ other.take (n + 1), x.1 + x.2 ≤ mx here (b.1 + b.2) := fun x hx => by
    rw [List.take_add_one, eb] at hx
    rcases List.mem_append.mp hx with z | z
    · have := I.past x z
      omega
    · have : x = b := by simpa using z
      rw [this]
      omega
  have ge := I.ge
  split
  · rename_i c1
    refine ⟨I.lot.snoc (by simp only; omega) I.gap, by omega, fun c => ?_, hp', fun p hp => ?_⟩
    · rw [in_app, in_one, I.tell c, or_assoc]
      simp only
      constructor
      · rintro (z | z | z)
        · exact .inl z
        · exact .inr ⟨z.1, by omega, z.2.2.1, z.2.2.2⟩
        · refine .inr ⟨by omega, by omega, by omega, fun y => ?_⟩
          rcases (ins c).mp y with y | y | y
          · have := t1 c y
            omega
          · omega
          · have := t2 c y
            omega
      · rintro (z | ⟨z1, z2, z3, z4⟩)
        · exact .inl z
        · by_cases y : c < here
          · exact .inr (.inl ⟨z1, y, z3, z4⟩)
          · refine .inr (.inr ?_)
            have : ¬ (b.1 ≤ c ∧ c < b.1 + b.2) := fun y => z4 ((ins c).mpr (.inr (.inl y)))
            omega
    · rcases List.mem_append.mp hp with z | z
      · have := I.gap p z
        omega
      · simp only [List.mem_singleton] at z
        subst z
        simp only
        omega
  · rename_i c1
    refine ⟨I.lot, by omega, fun c => ?_, hp', fun p hp => ?_⟩
    · rw [I.tell c]
      constructor
      · rintro (z | z)
        · exact .inl z
        · exact .inr ⟨z.1, by omega, z.2.2.1, z.2.2.2⟩
      · rintro (z | ⟨z1, z2, z3, z4⟩)
        · exact .inl z
        · refine .inr ⟨z1, ?_, z3, z4⟩
          have : ¬ (b.1 ≤ c ∧ c < b.1 + b.2) := fun y => z4 ((ins c).mpr (.inr (.inl y)))
          omega
    · have := I.gap p hp
      omega
-- cells in few
def Near (lo : Int) (f : List (Int × Int)) : Prop := ∀ c, In f c → lo ≤ c ∧ c < lo + 30000
theorem near_len {lo : Int} {f : List (Int × Int)} (h : Lot f) (n : Near lo f) : f.length ≤ 30000 := by
  have := h.len (lo := lo) (hi := lo + 30000) (by omega) (h.bounds n)
  omega
theorem LeI.near {other f0 f : List (Int × Int)} {here0 stop here lo : Int} {n : Nat} (I : LeI other f0 here0 stop n here f) (n0 : Near lo f0) (l1 : lo ≤ here0) (l2 : stop ≤ lo + 30000) : Near lo f := fun c hc => by
  rcases (I.tell c).mp hc with z | z
  · exact n0 c z
  · omega
theorem wh73 (k : Nat) (other f0 : List (Int × Int)) (x0 x3 x4 : Option D) (here0 stop lo : Int) (h : Heap) (n2 : other.length ≤ 5000) (h2 : Lot other) (n0 : Near lo f0) (l1 : lo ≤ here0) (l2 : stop ≤ lo + 30000) (spot : Nat) (hs : spot ≤ other.length) (I0 : LeI other f0 here0 stop spot here0 f0) :
    ∃ (n : Nat) (here : Int) (f : List (Int × Int)), whileD (tst (eval (callI T (k + 1)) T.get w19_3)) (execs (callI T (k + 1)) T.get b19_4) [x0, some (.tup (sp other)), some (.loc h.length), x3, x4, some (.int here0), some (.int stop), some (.int spot)] (h ++ [.lst (sp f0)]) =
        some (.ok (.nx [x0, some (.tup (sp other)), some (.loc h.length), x3, x4, some (.int here), some (.int stop), some (.int n)]) (h ++ [.lst (sp f)])) ∧
      LeI other f0 here0 stop n here f ∧ ∀ x ∈ other.drop n, stop ≤ x.1 := by
  obtain ⟨fl, h', e, q⟩ := whileD_inv (c := tst (eval (callI T (k + 1)) T.get w19_3)) (f := execs (callI T (k + 1)) T.get b19_4)
    (fun m g h1 => ∃ (n : Nat) (here : Int) (f : List (Int × Int)), g = [x0, some (.tup (sp other)), some (.loc h.length), x3, x4, some (.int here), some (.int stop), some (.int n)] ∧ h1 = h ++ [.lst (sp f)] ∧ n ≤ other.length ∧ LeI other f0 here0 stop n here f ∧ m = other.length - n)
    (fun _ _ => False) (fun g h1 => ∃ (n : Nat) (here : Int) (f : List (Int × Int)), g = [x0, some (.tup (sp other)), some (.loc h.length), x3, x4, some (.int here), some (.int stop), some (.int n)] ∧ h1 = h ++ [.lst (sp f)] ∧ LeI other f0 here0 stop n here f ∧ ∀ x ∈ other.drop n, stop ≤ x.1) (by
      rintro m g h1 ⟨n, here, f, rfl, rfl, hl, I, rfl⟩
      by_cases c : n < other.length
      · obtain ⟨b, eb⟩ := get_lt c
        have eB := (List.getElem?_eq_some_iff.mp eb).2
        by_cases c2 : b.1 < stop
        · refine ⟨true, _, by simp [tst, w19_3, sp, c, eB, pairD, c2]; rfl, ?_⟩
          rw [if_pos rfl]
          have hf := near_len I.lot (I.near n0 l1 l2)
          have hf2 : f.length < 16777216 := by omega
          have em : (if here < b.1 + b.2 then b.1 + b.2 else here) = mx here (b.1 + b.2) := rfl
          refine ⟨.nx [x0, some (.tup (sp other)), some (.loc h.length), x3, x4, some (.int (mx here (b.1 + b.2))), some (.int stop), some (.int ((n + 1 : Nat) : Int))], h ++ [.lst (sp (if b.1 > here then f ++ [(here, b.1 - here)] else f))], ?_, ?_⟩
          · by_cases c3 : here < b.1
            · simp [b19_4, sp, eb, pairD, s14, c3, hf2, em]
            · simp [b19_4, sp, eb, pairD, s14, c3, hf2, em]
          · exact ⟨other.length - (n + 1), by omega, n + 1, _, _, rfl, rfl, by omega, le_step h2 I eb c2, rfl⟩
        · refine ⟨false, _, by simp [tst, w19_3, sp, c, eB, pairD, c2]; rfl, ?_⟩
          rw [if_neg Bool.false_ne_true]
          refine ⟨n, here, f, rfl, rfl, I, fun x hx => ?_⟩
          obtain ⟨b1, b2⟩ := Lot.from h2 eb
          rw [drop_at eb] at hx
          rcases List.mem_cons.mp hx with rfl | hx
          · omega
          · have := b2 x hx
            omega
      · refine ⟨false, _, by simp [tst, w19_3, sp, c]; rfl, ?_⟩
        rw [if_neg Bool.false_ne_true]
        refine ⟨n, here, f, rfl, rfl, I, fun x hx => ?_⟩
        rw [List.drop_eq_nil_of_le (by omega)] at hx
        cases hx) _ _ _ ⟨spot, here0, f0, rfl, rfl, hs, I0, rfl⟩
  cases fl with
  | nx g =>
    obtain ⟨n, here, f, rfl, rfl, a, b⟩ := q
    exact ⟨n, here, f, e, a, b⟩
  | rt r => exact q.elim
  | bk _ => exact q.elim
  | ct _ => exact q.elim
-- behind a span
theorem le_last {other f0 f : List (Int × Int)} {here0 stop here : Int} {n : Nat} (I : LeI other f0 here0 stop n here f) (hx : ∀ x ∈ other.drop n, stop ≤ x.1) (hs : here0 < stop) :
    Lot (if here < stop then f ++ [(here, stop - here)] else f) ∧ (∀ c, In (if here < stop then f ++ [(here, stop - here)] else f) c ↔ In f0 c ∨ (here0 ≤ c ∧ c < stop ∧ ¬ In other c)) := by
  have ge := I.ge
  split
  · rename_i c1
    refine ⟨I.lot.snoc (by simp only; omega) I.gap, fun c => ?_⟩
    rw [in_app, in_one, I.tell c, or_assoc]
    simp only
    constructor
    · rintro (z | z | z)
      · exact .inl z
      · exact .inr ⟨z.1, z.2.2.1, z.2.2.2⟩
      · refine .inr ⟨by omega, by omega, fun y => ?_⟩
        rcases (in_split n).mp y with ⟨p, hp, y⟩ | ⟨p, hp, y⟩
        · have := I.past p hp
          omega
        · have := hx p hp
          omega
    · rintro (z | ⟨z1, z2, z3⟩)
      · exact .inl z
      · by_cases y : c < here
        · exact .inr (.inl ⟨z1, y, z2, z3⟩)
        · exact .inr (.inr (by omega))
  · rename_i c1
    refine ⟨I.lot, fun c => ?_⟩
    rw [I.tell c]
    constructor
    · rintro (z | z)
      · exact .inl z
      · exact .inr ⟨z.1, z.2.2.1, z.2.2.2⟩
    · rintro (z | ⟨z1, z2, z3⟩)
      · exact .inl z
      · exact .inr ⟨z1, by omega, z2, z3⟩
theorem s19 (k : Nat) (one other : List (Int × Int)) (h : Heap) (lo : Int) (h1 : Lot one) (h2 : Lot other) (n1 : Near lo one) (n2 : other.length ≤ 5000) :
    ∃ f, callI T (k + 2) 19 [.tup (sp one), .tup (sp other)] h = some (.ok (.v (.tup (sp f))) h) ∧ Lot f ∧ ∀ c, In f c ↔ In one c ∧ ¬ In other c := by
  obtain ⟨g', h', e, q⟩ := forGo_go (its := (sp one, none)) (f := forF (.slot 4) (execs (callI T (k + 1)) T.get b19_5)) (g := [some (.tup (sp one)), some (.tup (sp other)), some (.loc h.length), some (.int ((0 : Nat) : Int)), none, none, none, none]) (h := h ++ [.lst (sp [])])
    (fun i g h1 => ∃ (s : Nat) (f : List (Int × Int)) (z4 z5 z6 z7 : Option D), g = [some (.tup (sp one)), some (.tup (sp other)), some (.loc h.length), some (.int s), z4, z5, z6, z7] ∧ h1 = h ++ [.lst (sp f)] ∧ Lot f ∧ s ≤ other.length ∧
      (∀ c, In f c ↔ In (one.take i) c ∧ ¬ In other c) ∧ (∀ a ∈ one.drop i, (∀ p ∈ f, p.1 + p.2 < a.1) ∧ ∀ b ∈ other.take s, b.1 + b.2 ≤ a.1)) ⟨0, [], none, none, none, none, rfl, rfl, Lot.nil, by omega, fun c => by simp [in_nil], fun a _ => by simp⟩ (by
      rintro i x g hh hx ⟨s, f, z4, z5, z6, z7, rfl, rfl, lf, hs, tell, far⟩
      obtain ⟨a, ea, rfl⟩ := sp_get hx
      obtain ⟨a1, a2⟩ := Lot.from h1 ea
      have da := drop_at ea
      obtain ⟨f1, f2⟩ := far a (by rw [da]; simp)
      have na : In one a.1 := (in_split i).mpr (.inr (by rw [da]; exact in_cons.mpr (.inl ⟨by omega, by omega⟩)))
      have nb : In one (a.1 + a.2 - 1) := (in_split i).mpr (.inr (by rw [da]; exact in_cons.mpr (.inl ⟨by omega, by omega⟩)))
      have na' := n1 _ na
      have nb' := n1 _ nb
      have nf : Near lo f := fun c hc => n1 c ((in_split i).mpr (.inl ((tell c).mp hc).1))
      obtain ⟨s', w1, hs', past⟩ := wh71 k other (some (.tup (sp one))) (some (.loc h.length)) (some (.tup [.int a.1, .int a.2])) a.1 (some (.int (a.1 + a.2))) z7 (h ++ [.lst (sp f)]) n2 s hs
      have past' : ∀ b ∈ other.take s', b.1 + b.2 ≤ a.1 := fun b hb => (past b hb).elim (f2 b) id
      have I0 : LeI other f a.1 (a.1 + a.2) s' a.1 f := ⟨lf, Int.le_refl _, fun c => by
        constructor
        · exact .inl
        · rintro (z | z)
          · exact z
          · omega, past', f1⟩
      obtain ⟨n, here, f3, w2, I3, hx3⟩ := wh73 k other f (some (.tup (sp one))) (some (.int s')) (some (.tup [.int a.1, .int a.2])) a.1 (a.1 + a.2) lo h n2 h2 nf na'.1 (by omega) s' hs' I0
      obtain ⟨l4, t4⟩ := le_last I3 hx3 (by omega)
      have hl3 := near_len I3.lot (I3.near nf na'.1 (by omega))
      have hl4 : f3.length < 16777216 := by omega
      refine ⟨[some (.tup (sp one)), some (.tup (sp other)), some (.loc h.length), some (.int s'), some (.tup [.int a.1, .int a.2]), some (.int here), some (.int (a.1 + a.2)), some (.int n)], h ++ [.lst (sp (if here < a.1 + a.2 then f3 ++ [(here, a.1 + a.2 - here)] else f3))], ?_, still_none _ _, s', _, _, _, _, _, rfl, rfl, l4, hs', fun c => ?_, fun x hx => ?_⟩
      · by_cases c1 : here < a.1 + a.2
        · simp [forF, b19_5, s14, w1, w2, c1, hl4, pairD]
        · simp [forF, b19_5, s14, w1, w2, c1, hl4, pairD]
      · rw [t4 c, tell c, List.take_add_one, ea]
        simp only [Option.toList_some]
        rw [in_app, in_one]
        constructor
        · rintro (z | z)
          · exact ⟨.inl z.1, z.2⟩
          · exact ⟨.inr ⟨z.1, z.2.1⟩, z.2.2⟩
        · rintro ⟨z | z, y⟩
          · exact .inl ⟨z, y⟩
          · exact .inr ⟨z.1, z.2, y⟩
      · have a3 := a2 x hx
        refine ⟨fun p hp => ?_, fun b hb => ?_⟩
        · have pp := l4.pos p hp
          rcases (t4 (p.1 + p.2 - 1)).mp ⟨p, hp, by omega, by omega⟩ with ⟨q, hq, z⟩ | z
          · have := f1 q hq
            omega
          · omega
        · have := past' b hb
          omega)
  obtain ⟨s, f, z4, z5, z6, z7, rfl, rfl, lf, hs, tell, far⟩ := q
  simp only [List.length_map, List.take_length] at tell
  refine ⟨f, ?_, lf, tell⟩
  have hl := near_len lf fun c hc => n1 c ((tell c).mp hc).1
  have hl2 : f.length ≤ 16777216 := by omega
  rw [call_of t19 rfl]
  simp only [Int.natCast_zero, List.map_nil] at e
  simp only [sp] at e
  simp [d19, sp, e, bi, hl2]
  exact gc_tupA (cl_sp _ _)
end K03

/-! What the law's defs compute. -/
namespace K03
open MP
theorem lcGo_mapf {α : Type} {f : D → Heap → Res (Option D)} {h : Heap} (e : α → D) (v : α → Option D) : ∀ (l : List α), (∀ a ∈ l, f (e a) h = some (.ok (v a) h)) → lcGo f (l.map e) h = some (.ok (l.filterMap v) h)
  | [], _ => rfl
  | a :: l, hf => by
    rw [List.map_cons, lcGo, hf a (by simp)]
    have ih := lcGo_mapf e v l fun y hy => hf y (by simp [hy])
    cases c : v a with
    | none => simp only [ih, List.filterMap_cons, c]
    | some y => simp only [ih, List.filterMap_cons, c]
def size (ps : List (Int × Int)) : Int := (ps.map (·.2)).sum
theorem s20 (k : Nat) (ps : List (Int × Int)) (h : Heap) (hl : ps.length ≤ 5000) : callI T (k + 1) 20 [.tup (sp ps)] h = some (.ok (.v (.int (size ps))) h) := by
  rw [call_of t20 rfl]
  have b := lcGo_mapf (f := lcF (sp ps, none) (.tup [.slot 1, .slot 2]) (wipes [some (.tup (sp ps)), none, none] [1, 2]) (tests (callI T k) T.get []) (eval (callI T k) T.get e20_1)) (h := h) pairD (fun p => some (.int p.2)) ps fun p hp => by
    simp [lcF, wipes, still_none, e20_1, pairD]
  rw [List.filterMap_eq_map'] at b
  have hl2 : ps.length ≤ 16777216 := by omega
  have bb := ints_mapf ps (fun p => D.int p.2) (fun p => p.2) fun _ => rfl
  have e : (ps.map fun p => p.2).sum = size ps := rfl
  simp only [sp] at b
  simp [d20, sp, b, hl2, bi, bb, e]
  exact gc_int _ _
def rk : List (Int × Int) → Int → Int
  | [], _ => 0
  | p :: ps, c => (if p.1 < c then mn p.2 (c - p.1) else 0) + rk ps c
theorem rk_ns (c : Int) : ∀ ps : List (Int × Int), ∃ ns : List Int, (ps.filterMap fun p => if p.1 < c then some (D.int (mn p.2 (c - p.1))) else none) = ns.map D.int ∧ ns.sum = rk ps c ∧ ns.length ≤ ps.length
  | [] => ⟨[], rfl, rfl, Nat.le_refl _⟩
  | p :: ps => by
    obtain ⟨ns, e1, e2, e3⟩ := rk_ns c ps
    by_cases z : p.1 < c
    · refine ⟨mn p.2 (c - p.1) :: ns, ?_, ?_, by simp only [List.length_cons]; omega⟩
      · simp only [List.filterMap_cons, if_pos z, e1, List.map_cons]
      · simp only [List.sum_cons, rk, if_pos z, e2]
    · refine ⟨ns, ?_, ?_, by simp only [List.length_cons]; omega⟩
      · simp only [List.filterMap_cons, if_neg z, e1]
      · simp only [rk, if_neg z, e2]
        omega
theorem s21 (k : Nat) (ps : List (Int × Int)) (c : Int) (h : Heap) (hl : ps.length ≤ 5000) : callI T (k + 1) 21 [.tup (sp ps), .int c] h = some (.ok (.v (.int (rk ps c))) h) := by
  rw [call_of t21 rfl]
  have b := lcGo_mapf (f := lcF (sp ps, none) (.tup [.slot 2, .slot 3]) (wipes [some (.tup (sp ps)), some (.int c), none, none] [2, 3]) (tests (callI T k) T.get [.cmp .lt (.var 2) (.var 1)]) (eval (callI T k) T.get e21_1)) (h := h) pairD (fun p => if p.1 < c then some (.int (mn p.2 (c - p.1))) else none) ps fun p hp => by
    by_cases z : p.1 < c
    · have em : (if c - p.1 < p.2 then c - p.1 else p.2) = mn p.2 (c - p.1) := rfl
      simp [lcF, wipes, still_none, e21_1, pairD, z, em]
    · simp [lcF, wipes, still_none, e21_1, pairD, z]
  obtain ⟨ns, e1, e2, e3⟩ := rk_ns c ps
  rw [e1] at b
  have hl2 : ns.length ≤ 16777216 := by omega
  have bb := ints_map ns
  simp only [sp] at b
  simp [d21, sp, b, hl2, bi, bb, e2]
  exact gc_int _ _
theorem any_in (ps : List (Int × Int)) (c : Int) : (ps.any fun p => decide (p.1 ≤ c ∧ c < p.1 + p.2)) = decide (In ps c) := by
  rw [Bool.eq_iff_iff, List.any_eq_true, decide_eq_true_eq]
  simp only [decide_eq_true_eq, In]
theorem s22 (k : Nat) (ps : List (Int × Int)) (c : Int) (h : Heap) (hl : ps.length ≤ 5000) : callI T (k + 1) 22 [.tup (sp ps), .int c] h = some (.ok (.v (.bl (decide (In ps c)))) h) := by
  rw [call_of t22 rfl]
  have b := lcGo_mapf (f := lcF (sp ps, none) (.tup [.slot 2, .slot 3]) (wipes [some (.tup (sp ps)), some (.int c), none, none] [2, 3]) (tests (callI T k) T.get []) (eval (callI T k) T.get e22_1)) (h := h) pairD (fun p => some (.bl (decide (p.1 ≤ c ∧ c < p.1 + p.2)))) ps fun p hp => by
    by_cases z : p.1 ≤ c
    · simp [lcF, wipes, still_none, e22_1, pairD, z]
    · simp [lcF, wipes, still_none, e22_1, pairD, z]
  rw [List.filterMap_eq_map'] at b
  have hl2 : ps.length ≤ 16777216 := by omega
  have bb := bools_mapf ps (fun p => D.bl (decide (p.1 ≤ c ∧ c < p.1 + p.2))) (fun p => decide (p.1 ≤ c ∧ c < p.1 + p.2)) fun _ => rfl
  have ea := any_in ps c
  have ev : eval (callI T k) T.get (.bi .any (.of (.lc e22_1 (.tup [(.slot 2), (.slot 3)]) (.of (.var 0)) [] [2, 3]))) [some (.tup (sp ps)), some (.int c), none, none] h = some (.ok (.v (.bl (decide (In ps c)))) h) := by
    simp only [eval, items, bd_ok, List.getElem?_cons_zero, R.frz_v, seqIt, List.length_map, b, hl2, lim_val, if_true, R.frz_newL, bi, bb, Option.map_some, ofO_some, List.any_map]
    have e2 : (ps.any (id ∘ fun p => decide (p.1 ≤ c ∧ c < p.1 + p.2))) = decide (In ps c) := ea
    rw [e2]
  simp only [d22, execs, exec, start, List.map_cons, List.map_nil, List.length_cons, List.length_nil, List.replicate, List.cons_append, List.nil_append, ev, bd_ok, endI_rt]
  exact gc_bl _ _
-- the cell at a place
def cellAt : List (Int × Int) → Int → Option Int
  | [], _ => none
  | p :: ps, i => if i < p.2 then some (p.1 + i) else cellAt ps (i - p.2)
theorem go11 (k : Nat) (its : Items) (x0 : Option D) (h : Heap) (hs : still its h = true) (c : Int) : ∀ (ps : List (Int × Int)) (i : Int) (z2 z3 : Option D), cellAt ps i = some c →
    forGo its (forF (.tup [.slot 2, .slot 3]) (execs (callI T k) T.get b23_1)) (sp ps) [x0, some (.int i), z2, z3] h = some (.ok (.rt (.v (.int c))) h)
  | [], i, z2, z3, e => by cases e
  | p :: ps, i, z2, z3, e => by
    simp only [cellAt] at e
    by_cases z : i < p.2
    · rw [if_pos z] at e
      cases e
      simp [forGo, forF, pairD, b23_1, z]
    · rw [if_neg z] at e
      have ih := go11 k its x0 h hs c ps (i - p.2) (some (.int p.1)) (some (.int p.2)) e
      simp only [sp] at ih
      simp [forGo, forF, pairD, b23_1, z, hs]
      simpa [pairD, b23_1, forF] using ih
theorem s23 (k : Nat) (ps : List (Int × Int)) (i c : Int) (h : Heap) (e : cellAt ps i = some c) : callI T (k + 1) 23 [.tup (sp ps), .int i] h = some (.ok (.v (.int c)) h) := by
  rw [call_of t23 rfl]
  have q := go11 k (sp ps, none) (some (.tup (sp ps))) h (still_none _ _) c ps i none none e
  simp only [sp] at q
  simp [d23, sp, q]
  exact gc_int _ _
theorem cellAt_cells : ∀ {ps : List (Int × Int)} {i : Int}, (∀ p ∈ ps, 0 ≤ p.2) → 0 ≤ i → cellAt ps i = (cells ps)[i.toNat]?
  | [], i, _, _ => by simp [cellAt, cells]
  | p :: ps, i, hp, hi => by
    have h1 := hp p (by simp)
    rw [cellAt, cells]
    by_cases z : i < p.2
    · rw [if_pos z, List.getElem?_append_left (by rw [rg_len]; omega)]
      unfold rgI
      rw [List.getElem?_map, List.getElem?_range (by omega)]
      simp only [Option.map_some, Option.some.injEq]
      omega
    · rw [if_neg z, List.getElem?_append_right (by rw [rg_len]; omega), cellAt_cells (fun q hq => hp q (by simp [hq])) (by omega), rg_len]
      congr 1
      omega
-- the first cells
def firstC : List (Int × Int) → Int → List (Int × Int)
  | [], _ => []
  | p :: ps, m => if m > 0 then (p.1, mn p.2 m) :: firstC ps (m - mn p.2 m) else firstC ps m
theorem firstC_len : ∀ (ps : List (Int × Int)) (m : Int), (firstC ps m).length ≤ ps.length
  | [], m => Nat.le_refl _
  | p :: ps, m => by
    rw [firstC]
    split
    · have := firstC_len ps (m - mn p.2 m)
      simp only [List.length_cons]
      omega
    · have := firstC_len ps m
      simp only [List.length_cons]
      omega
theorem go12 (k : Nat) (its : Items) (x0 : Option D) (h : Heap) (h2 : its.2 = none) : ∀ (ps : List (Int × Int)) (m : Int) (f : List (Int × Int)) (z3 z4 : Option D), f.length + ps.length < 16777216 →
    ∃ z1 y3 y4, forGo its (forF (.tup [.slot 3, .slot 4]) (execs (callI T k) T.get b24_1)) (sp ps) [x0, some (.int m), some (.loc h.length), z3, z4] (h ++ [.lst (sp f)]) = some (.ok (.nx [x0, z1, some (.loc h.length), y3, y4]) (h ++ [.lst (sp (f ++ firstC ps m))]))
  | [], m, f, z3, z4, _ => ⟨_, _, _, by simp [forGo, firstC]; exact ⟨rfl, rfl, rfl⟩⟩
  | p :: ps, m, f, z3, z4, hl => by
    have st : ∀ h, still its h = true := fun h => by
      unfold still
      rw [h2]
    simp only [List.length_cons] at hl
    have hf : f.length < 16777216 := by omega
    have em : (if m < p.2 then m else p.2) = mn p.2 m := rfl
    rw [firstC]
    by_cases z : m > 0
    · obtain ⟨z1, y3, y4, e⟩ := go12 k its x0 h h2 ps (m - mn p.2 m) (f ++ [(p.1, mn p.2 m)]) (some (.int p.1)) (some (.int p.2)) (by simp; omega)
      refine ⟨z1, y3, y4, ?_⟩
      rw [if_pos z]
      simp only [List.append_assoc, List.cons_append, List.nil_append] at e
      rw [← e]
      simp [forGo, forF, pairD, b24_1, z, hf, em, st, sp]
    · obtain ⟨z1, y3, y4, e⟩ := go12 k its x0 h h2 ps m f (some (.int p.1)) (some (.int p.2)) (by omega)
      refine ⟨z1, y3, y4, ?_⟩
      rw [if_neg z, ← e]
      simp [forGo, forF, pairD, b24_1, z, st, sp]
theorem s24 (k : Nat) (ps : List (Int × Int)) (m : Int) (h : Heap) (hl : ps.length ≤ 5000) : callI T (k + 1) 24 [.tup (sp ps), .int m] h = some (.ok (.v (.tup (sp (firstC ps m)))) h) := by
  rw [call_of t24 rfl]
  obtain ⟨z1, y3, y4, e⟩ := go12 k (sp ps, none) (some (.tup (sp ps))) h rfl ps m [] none none (by simp; omega)
  have hl2 : (firstC ps m).length ≤ 16777216 := by have := firstC_len ps m; omega
  simp only [sp, List.map_nil, List.nil_append] at e
  simp [d24, sp, e, bi, hl2]
  exact gc_tupA (cl_sp _ _)
end K03

/-! What the law's defs compute. -/
namespace K03
open MP
abbrev Tr := Int × Int × Int
def trD (t : Tr) : D := .tup [.int t.1, .int t.2.1, .int t.2.2]
abbrev ts (f : List Tr) : List D := f.map trD
theorem cl_ts (n : Nat) (ps : List Tr) : clL n (ts ps) = true := by
  induction ps with
  | nil => rfl
  | cons p ps ih => simp only [List.map_cons, clL, trD, cl, ih, Bool.and_self]
theorem dok_ts (n : Nat) (ps : List Tr) : dokL (n + 1) (ts ps) = true := by
  induction ps with
  | nil => simp
  | cons p ps ih => simp [trD]; simpa [trD] using ih
theorem eqD_ts : ∀ (ps qs : List Tr), eqDL (ts ps) (ts qs) = decide (ps = qs)
  | [], [] => by simp
  | [], _ :: _ => by simp
  | _ :: _, [] => by simp
  | p :: ps, q :: qs => by
    have := eqD_ts ps qs
    simp only [ts] at this
    simp only [List.map_cons, eqDL_cons, this, List.cons.injEq, Bool.decide_and]
    congr 1
    obtain ⟨a, b, c⟩ := p
    obtain ⟨d, e, f⟩ := q
    simp [trD]
def Glue (t u : Tr) : Prop := t.1 + t.2.2 = u.1 ∧ t.2.1 + t.2.2 = u.2.1
instance (t u : Tr) : Decidable (Glue t u) := inferInstanceAs (Decidable (_ ∧ _))
structure Canon (f : List Tr) : Prop where
  pos : ∀ t ∈ f, 0 < t.2.2
  sep : ∀ i t u, f[i]? = some t → f[i + 1]? = some u → ¬ Glue t u
theorem Canon.nil : Canon [] := ⟨by simp, by simp⟩
theorem Canon.tail {t : Tr} {f : List Tr} (h : Canon (t :: f)) : Canon f := ⟨fun u hu => h.pos u (by simp [hu]), fun i t u a b => h.sep (i + 1) t u (by simpa using a) (by simpa using b)⟩
theorem Canon.snoc {t : Tr} {f : List Tr} (h : Canon f) (hp : 0 < t.2.2) (hl : ∀ l, f.getLast? = some l → ¬ Glue l t) : Canon (f ++ [t]) := by
  refine ⟨fun u hu => ?_, fun i a b ea eb => ?_⟩
  · rcases List.mem_append.mp hu with z | z
    · exact h.pos u z
    · have : u = t := by simpa using z
      rw [this]
      exact hp
  · rcases Nat.lt_trichotomy (i + 1) f.length with z | z | z
    · rw [List.getElem?_append_left (by omega)] at ea
      rw [List.getElem?_append_left z] at eb
      exact h.sep i a b ea eb
    · rw [List.getElem?_append_left (by omega)] at ea
      rw [List.getElem?_append_right (by omega)] at eb
      have e0 : i + 1 - f.length = 0 := by omega
      rw [e0] at eb
      have : t = b := by simpa using eb
      subst this
      refine hl a ?_
      rw [List.getLast?_eq_getElem?, show f.length - 1 = i by omega]
      exact ea
    · rw [List.getElem?_eq_none (by simp; omega)] at eb
      cases eb
theorem Canon.init {t : Tr} {f : List Tr} (h : Canon (f ++ [t])) : Canon f ∧ 0 < t.2.2 ∧ ∀ l, f.getLast? = some l → ¬ Glue l t := by
  refine ⟨⟨fun u hu => h.pos u (by simp [hu]), fun i a b ea eb => ?_⟩, h.pos t (by simp), fun l e => ?_⟩
  · have hi : i + 1 < f.length := by
      rcases Nat.lt_or_ge (i + 1) f.length with z | z
      · exact z
      · rw [List.getElem?_eq_none z] at eb; cases eb
    exact h.sep i a b (by rw [List.getElem?_append_left (by omega)]; exact ea) (by rw [List.getElem?_append_left hi]; exact eb)
  · rw [List.getLast?_eq_getElem?] at e
    have hi : f.length - 1 < f.length := by
      rcases Nat.lt_or_ge (f.length - 1) f.length with z | z
      · exact z
      · rw [List.getElem?_eq_none z] at e; cases e
    refine h.sep (f.length - 1) l t (by rw [List.getElem?_append_left hi]; exact e) ?_
    rw [List.getElem?_append_right (by omega), show f.length - 1 + 1 - f.length = 0 by omega]
    rfl
-- the pairs that triples tell
def pr (t : Tr) : List (Int × Int) := (List.range t.2.2.toNat).map fun (k : Nat) => (t.1 + (k : Int), t.2.1 + (k : Int))
def ex : List Tr → List (Int × Int)
  | [] => []
  | t :: f => pr t ++ ex f
theorem ex_app : ∀ (f g : List Tr), ex (f ++ g) = ex f ++ ex g
  | [], _ => rfl
  | t :: f, g => by rw [List.cons_append, ex, ex, ex_app, List.append_assoc]
theorem pr_len (t : Tr) : (pr t).length = t.2.2.toNat := by simp [pr]
theorem pr_get (t : Tr) {i : Nat} (h : i < t.2.2.toNat) : (pr t)[i]? = some (t.1 + (i : Int), t.2.1 + (i : Int)) := by
  unfold pr
  rw [List.getElem?_map, List.getElem?_range h]
  rfl
theorem pr_zip (t : Tr) : pr t = (rgI t.1 t.2.2).zip (rgI t.2.1 t.2.2) := by
  unfold pr rgI
  rw [List.zip_map']
theorem ex_head {t : Tr} {f : List Tr} (h : 0 < t.2.2) : (ex (t :: f))[0]? = some (t.1, t.2.1) := by
  rw [ex, List.getElem?_append_left (by rw [pr_len]; omega), pr_get t (by omega)]
  simp
theorem Canon.cut {t u : Tr} {f g : List Tr} (hf : Canon (t :: f)) (hu : 0 < u.2.2) (e1 : t.1 = u.1) (e2 : t.2.1 = u.2.1) (e : ex (t :: f) = ex (u :: g)) : ¬ t.2.2 < u.2.2 := fun z => by
  have ht := hf.pos t (by simp)
  have a : (ex (u :: g))[t.2.2.toNat]? = some (u.1 + t.2.2, u.2.1 + t.2.2) := by
    rw [ex, List.getElem?_append_left (by rw [pr_len]; omega), pr_get u (by omega), Int.toNat_of_nonneg (by omega)]
  rw [← e, ex, List.getElem?_append_right (by rw [pr_len]; omega), pr_len, Nat.sub_self] at a
  cases f with
  | nil => cases a
  | cons v f =>
    rw [ex_head (hf.tail.pos v (by simp)), Option.some.injEq, Prod.mk.injEq] at a
    exact hf.sep 0 t v rfl rfl ⟨by omega, by omega⟩
theorem Canon.uniq : ∀ {f g : List Tr}, Canon f → Canon g → ex f = ex g → f = g
  | [], [], _, _, _ => rfl
  | [], u :: g, _, h, e => by
    have := ex_head (f := g) (h.pos u (by simp))
    rw [← e] at this
    cases this
  | t :: f, [], h, _, e => by
    have := ex_head (f := f) (h.pos t (by simp))
    rw [e] at this
    cases this
  | t :: f, u :: g, hf, hg, e => by
    have a := ex_head (f := f) (hf.pos t (by simp))
    have b := ex_head (f := g) (hg.pos u (by simp))
    rw [e, b, Option.some.injEq, Prod.mk.injEq] at a
    have c1 := Canon.cut hf (hg.pos u (by simp)) a.1.symm a.2.symm e
    have c2 := Canon.cut hg (hf.pos t (by simp)) a.1 a.2 e.symm
    have et : t = u := Prod.ext a.1.symm (Prod.ext a.2.symm (by omega))
    subst et
    rw [ex, ex] at e
    rw [Canon.uniq hf.tail hg.tail (List.append_cancel_left e)]
-- a pair more
def addT (f : List Tr) (q : Int × Int) : List Tr := match f.getLast? with
  | some l => if l.1 + l.2.2 = q.1 ∧ l.2.1 + l.2.2 = q.2 then f.dropLast ++ [(l.1, l.2.1, l.2.2 + 1)] else f ++ [(q.1, q.2, 1)]
  | none => f ++ [(q.1, q.2, 1)]
theorem addT_len (f : List Tr) (p : Int × Int) : (addT f p).length ≤ f.length + 1 := by
  unfold addT
  split
  · split
    · simp only [List.length_append, List.length_dropLast, List.length_cons, List.length_nil]
      omega
    · simp
  · simp
theorem pr_one (c g : Int) : pr (c, g, 1) = [(c, g)] := by
  simp [pr]
theorem pr_more (c g w : Int) (h : 0 < w) : pr (c, g, w + 1) = pr (c, g, w) ++ [(c + w, g + w)] := by
  unfold pr
  simp only
  rw [show (w + 1).toNat = w.toNat + 1 by omega, List.range_succ, List.map_append]
  simp only [List.map_cons, List.map_nil]
  rw [Int.toNat_of_nonneg (by omega)]
theorem lastT_or (f : List Tr) : f = [] ∨ ∃ g p, f = g ++ [p] := by
  cases e : f.getLast? with
  | none => exact .inl (List.getLast?_eq_none_iff.mp e)
  | some p => exact .inr ⟨_, _, snoc_of e⟩
theorem addT_sn (g : List Tr) (l : Tr) (q : Int × Int) : addT (g ++ [l]) q = if l.1 + l.2.2 = q.1 ∧ l.2.1 + l.2.2 = q.2 then g ++ [(l.1, l.2.1, l.2.2 + 1)] else g ++ [l] ++ [(q.1, q.2, 1)] := by
  unfold addT
  simp
theorem addT_ok {f : List Tr} (h : Canon f) (q : Int × Int) : Canon (addT f q) ∧ ex (addT f q) = ex f ++ [q] := by
  rcases lastT_or f with rfl | ⟨g, l, rfl⟩
  · refine ⟨Canon.nil.snoc (show (0 : Int) < 1 by decide) (by simp), ?_⟩
    show ex [(q.1, q.2, 1)] = _
    simp only [ex, pr_one]
    rfl
  · obtain ⟨c1, c2, c3⟩ := h.init
    rw [addT_sn]
    split
    · rename_i z
      refine ⟨c1.snoc (by simp only; omega) c3, ?_⟩
      obtain ⟨a, b, w⟩ := l
      simp only [ex_app, ex, pr_more _ _ _ c2, List.append_nil, List.append_assoc]
      simp only at z
      rw [z.1, z.2]
    · rename_i z
      refine ⟨h.snoc (show (0 : Int) < 1 by decide) fun l' e => ?_, ?_⟩
      · have : l' = l := by simpa using e.symm
        subst this
        exact z
      · simp only [ex_app, ex, pr_one]
        rfl
-- pieces side by side
def rem (ps : List (Int × Int)) (i : Nat) (d : Int) : List Int := match ps.drop i with
  | [] => []
  | p :: r => rgI (p.1 + d) (p.2 - d) ++ cells r
structure PaI (one other : List (Int × Int)) (i j : Nat) (d e : Int) (f : List Tr) : Prop where
  canon : Canon f
  tell : ex f ++ (rem one i d).zip (rem other j e) = (cells one).zip (cells other)
  len : (rem one i d).length = (rem other j e).length
  d0 : 0 ≤ d ∧ ∀ p, one[i]? = some p → d < p.2
  e0 : 0 ≤ e ∧ ∀ p, other[j]? = some p → e < p.2
  sep : ∀ l p q, f.getLast? = some l → one[i]? = some p → other[j]? = some q → ¬ Glue l (p.1 + d, q.1 + e, 1)
  few : f.length ≤ i + j
theorem rem_at {ps : List (Int × Int)} {i : Nat} {p : Int × Int} (e : ps[i]? = some p) (d : Int) : rem ps i d = rgI (p.1 + d) (p.2 - d) ++ cells (ps.drop (i + 1)) := by
  unfold rem
  rw [drop_at e]
theorem rem_none {ps : List (Int × Int)} {i : Nat} (h : ps.length ≤ i) (d : Int) : rem ps i d = [] := by
  unfold rem
  rw [List.drop_eq_nil_of_le h]
theorem rem_zero (ps : List (Int × Int)) (i : Nat) : rem ps i 0 = cells (ps.drop i) := by
  unfold rem
  cases ps.drop i with
  | nil => rfl
  | cons p r => simp [cells]
theorem rg_split (a n m : Int) (h0 : 0 ≤ m) (h : m ≤ n) : rgI a n = rgI a m ++ rgI (a + m) (n - m) := by
  unfold rgI
  rw [show n.toNat = m.toNat + (n - m).toNat by omega, List.range_add, List.map_append, List.map_map]
  congr 1
  refine List.map_congr_left fun k _ => ?_
  simp only [Function.comp, Int.natCast_add, Int.toNat_of_nonneg h0]
  omega
-- a step on one side
def nxI (ps : List (Int × Int)) (i : Nat) (d m : Int) (p : Int × Int) : Nat × Int := if d + m = p.2 then (i + 1, 0) else (i, d + m)
theorem rem_step {ps : List (Int × Int)} {i : Nat} {p : Int × Int} (hl : Lot ps) (e : ps[i]? = some p) {d m : Int} (hd : 0 ≤ d) (hm : 0 < m) (hle : m ≤ p.2 - d) :
    rem ps i d = rgI (p.1 + d) m ++ rem ps (nxI ps i d m p).1 (nxI ps i d m p).2 ∧ 0 ≤ (nxI ps i d m p).2 ∧ (∀ q, ps[(nxI ps i d m p).1]? = some q → (nxI ps i d m p).2 < q.2 ∧ p.1 + d + m ≤ q.1 + (nxI ps i d m p).2 ∧ (d + m = p.2 → p.1 + d + m < q.1 + (nxI ps i d m p).2)) ∧ i ≤ (nxI ps i d m p).1 ∧ (nxI ps i d m p).1 ≤ i + 1 := by
  unfold nxI
  split
  · rename_i z
    refine ⟨?_, Int.le_refl _, fun q hq => ?_, by simp, by simp⟩
    · rw [rem_at e, rem_zero, show p.2 - d = m by omega]
    · obtain ⟨a1, a2⟩ := Lot.from hl e
      have hm : q ∈ ps.drop (i + 1) := by
        rw [drop_at hq]
        simp
      have := a2 q hm
      have := hl.pos q (List.mem_of_getElem? hq)
      simp only
      omega
  · rename_i z
    refine ⟨?_, by simp only; omega, fun q hq => ?_, by simp, by simp⟩
    · rw [rem_at e, rem_at e, rg_split (p.1 + d) (p.2 - d) m (by omega) hle, List.append_assoc]
      congr 2
      · simp only
        rw [show p.1 + d + m = p.1 + (d + m) by omega, show p.2 - d - m = p.2 - (d + m) by omega]
    · simp only at hq ⊢
      rw [e] at hq
      cases hq
      omega
theorem pa_step {one other : List (Int × Int)} (h1 : Lot one) (h2 : Lot other) {i j : Nat} {d e : Int} {f : List Tr} (I : PaI one other i j d e f) {a b : Int × Int} (ea : one[i]? = some a) (eb : other[j]? = some b) :
    PaI one other (nxI one i d (mn (a.2 - d) (b.2 - e)) a).1 (nxI other j e (mn (a.2 - d) (b.2 - e)) b).1 (nxI one i d (mn (a.2 - d) (b.2 - e)) a).2 (nxI other j e (mn (a.2 - d) (b.2 - e)) b).2 (f ++ [(a.1 + d, b.1 + e, mn (a.2 - d) (b.2 - e))]) ∧
      (nxI one i d (mn (a.2 - d) (b.2 - e)) a).1 + (nxI other j e (mn (a.2 - d) (b.2 - e)) b).1 ≥ i + j + 1 := by
  have hd := I.d0.2 a ea
  have he := I.e0.2 b eb
  have hm := mn_or (a.2 - d) (b.2 - e)
  obtain ⟨r1, r2, r3, r4, r5⟩ := rem_step h1 ea (d := d) (m := mn (a.2 - d) (b.2 - e)) I.d0.1 (by omega) (by omega)
  obtain ⟨s1, s14, s15, s16, s17⟩ := rem_step h2 eb (d := e) (m := mn (a.2 - d) (b.2 - e)) I.e0.1 (by omega) (by omega)
  have more : (nxI one i d (mn (a.2 - d) (b.2 - e)) a).1 + (nxI other j e (mn (a.2 - d) (b.2 - e)) b).1 ≥ i + j + 1 := by
    unfold nxI
    split <;> split <;> simp only <;> omega
  have few := I.few
  have pos : 0 < mn (a.2 - d) (b.2 - e) := by omega
  have len := I.len
  have tell := I.tell
  rw [r1, s1] at len tell
  generalize hM : mn (a.2 - d) (b.2 - e) = m at *
  rw [List.length_append, List.length_append, rg_len, rg_len] at len
  refine ⟨⟨I.canon.snoc pos fun l hl z => I.sep l a b hl ea eb ⟨z.1, z.2⟩, ?_, by omega, ⟨r2, fun p hp => (r3 p hp).1⟩, ⟨s14, fun p hp => (s15 p hp).1⟩, fun l p q hl hp hq z => ?_, by simp only [List.length_append, List.length_cons, List.length_nil]; omega⟩, more⟩
  · rw [List.zip_append (by rw [rg_len, rg_len])] at tell
    rw [ex_app, ex, ex, List.append_nil, pr_zip, List.append_assoc]
    exact tell
  · have el : l = (a.1 + d, b.1 + e, m) := by simpa using hl.symm
    subst el
    obtain ⟨z1, z2⟩ := z
    simp only at z1 z2
    have p3 := r3 p hp
    have q3 := s15 q hq
    rcases hm.2.2 with y | y
    · have := p3.2.2 (by omega)
      omega
    · have := q3.2.2 (by omega)
      omega
theorem body25 (k : Nat) (one other : List (Int × Int)) (f : List Tr) (i j : Nat) (d e : Int) (h : Heap) (z : Option D) {a b : Int × Int} (ea : one[i]? = some a) (eb : other[j]? = some b) (hf : f.length < 16777216) :
    ∃ y, execs (callI T k) T.get b25_2 [some (.tup (sp one)), some (.tup (sp other)), some (.loc h.length), some (.int i), some (.int d), some (.int j), some (.int e), z] (h ++ [.lst (ts f)]) =
      some (.ok (.nx [some (.tup (sp one)), some (.tup (sp other)), some (.loc h.length), some (.int (nxI one i d (mn (a.2 - d) (b.2 - e)) a).1), some (.int (nxI one i d (mn (a.2 - d) (b.2 - e)) a).2), some (.int (nxI other j e (mn (a.2 - d) (b.2 - e)) b).1), some (.int (nxI other j e (mn (a.2 - d) (b.2 - e)) b).2), y])
        (h ++ [.lst (ts (f ++ [(a.1 + d, b.1 + e, mn (a.2 - d) (b.2 - e))]))])) := by
  refine ⟨some (.int (mn (a.2 - d) (b.2 - e))), ?_⟩
  have em : (if b.2 - e < a.2 - d then b.2 - e else a.2 - d) = mn (a.2 - d) (b.2 - e) := rfl
  generalize hM : mn (a.2 - d) (b.2 - e) = m at *
  unfold nxI
  by_cases c1 : d + m = a.2
  · by_cases c2 : e + m = b.2
    · simp [b25_2, sp, ea, eb, pairD, trD, em, c1, c2, hf, look]
    · simp [b25_2, sp, ea, eb, pairD, trD, em, c1, c2, hf, look]
  · by_cases c2 : e + m = b.2
    · simp [b25_2, sp, ea, eb, pairD, trD, em, c1, c2, hf, look]
    · simp [b25_2, sp, ea, eb, pairD, trD, em, c1, c2, hf, look]
theorem s25 (k : Nat) (one other : List (Int × Int)) (h : Heap) (h1 : Lot one) (h2 : Lot other) (n1 : one.length ≤ 1000) (n2 : other.length ≤ 1000) (hl : (cells one).length = (cells other).length) :
    ∃ f, callI T (k + 1) 25 [.tup (sp one), .tup (sp other)] h = some (.ok (.newL (ts f)) h) ∧ Canon f ∧ ex f = (cells one).zip (cells other) ∧ f.length ≤ 5000 := by
  obtain ⟨fl, h', e, q⟩ := whileD_inv (c := tst (eval (callI T k) T.get w25_1)) (f := execs (callI T k) T.get b25_2)
    (fun m g h1 => ∃ (i j : Nat) (d e : Int) (f : List Tr) (z : Option D), g = [some (.tup (sp one)), some (.tup (sp other)), some (.loc h.length), some (.int i), some (.int d), some (.int j), some (.int e), z] ∧ h1 = h ++ [.lst (ts f)] ∧ PaI one other i j d e f ∧ i ≤ one.length ∧ j ≤ other.length ∧ m = one.length + other.length - i - j)
    (fun _ _ => False) (fun g h1 => ∃ (f : List Tr) (z3 z4 z5 z6 z7 : Option D), g = [some (.tup (sp one)), some (.tup (sp other)), some (.loc h.length), z3, z4, z5, z6, z7] ∧ h1 = h ++ [.lst (ts f)] ∧ Canon f ∧ ex f = (cells one).zip (cells other) ∧ f.length ≤ 5000) (by
      rintro m g hh ⟨i, j, d, e, f, z, rfl, rfl, I, hi, hj, rfl⟩
      have few := I.few
      by_cases c1 : i < one.length
      · obtain ⟨a, ea⟩ := get_lt c1
        have c2 : j < other.length := by
          rcases Nat.lt_or_ge j other.length with z | z
          · exact z
          · exfalso
            have := I.len
            rw [rem_at ea, rem_none z, List.length_append, rg_len] at this
            have := I.d0.2 a ea
            simp only [List.length_nil] at *
            omega
        obtain ⟨b, eb⟩ := get_lt c2
        refine ⟨true, _, by simp [tst, w25_1, sp, c1]; rfl, ?_⟩
        rw [if_pos rfl]
        obtain ⟨y, e2⟩ := body25 k one other f i j d e h z ea eb (by omega)
        refine ⟨_, _, e2, ?_⟩
        obtain ⟨I2, more⟩ := pa_step h1 h2 I ea eb
        have b1 : (nxI one i d (mn (a.2 - d) (b.2 - e)) a).1 ≤ i + 1 := by unfold nxI; split <;> simp
        have b2 : (nxI other j e (mn (a.2 - d) (b.2 - e)) b).1 ≤ j + 1 := by unfold nxI; split <;> simp
        exact ⟨one.length + other.length - (nxI one i d (mn (a.2 - d) (b.2 - e)) a).1 - (nxI other j e (mn (a.2 - d) (b.2 - e)) b).1, by omega, _, _, _, _, _, _, rfl, rfl, I2, by omega, by omega, rfl⟩
      · refine ⟨false, _, by simp [tst, w25_1, sp, c1]; rfl, ?_⟩
        rw [if_neg Bool.false_ne_true]
        have tell := I.tell
        rw [rem_none (by omega), List.zip_nil_left, List.append_nil] at tell
        exact ⟨f, _, _, _, _, _, rfl, rfl, I.canon, tell, by omega⟩) _ _ _ ⟨0, 0, 0, 0, [], none, rfl, rfl, ⟨Canon.nil, by rw [rem_zero, rem_zero]; rfl, by rw [rem_zero, rem_zero]; exact hl, ⟨Int.le_refl _, fun p hp => h1.pos p (List.mem_of_getElem? hp)⟩, ⟨Int.le_refl _, fun p hp => h2.pos p (List.mem_of_getElem? hp)⟩, fun l p q e => by simp at e, by simp⟩, by omega, by omega, rfl⟩
  cases fl with
  | nx g =>
    obtain ⟨f, z3, z4, z5, z6, z7, rfl, rfl, a, b, c⟩ := q
    refine ⟨f, ?_, a, b, c⟩
    rw [call_of t25 rfl]
    simp only [Int.natCast_zero, List.map_nil] at e
    simp only [sp] at e
    simp [d25, sp, e]
    exact gc_locA (cl_ts _ _)
  | rt r => exact q.elim
  | bk _ => exact q.elim
  | ct _ => exact q.elim
end K03

/-! What the checks say of any value. -/
namespace K03
open MP

-- plain data
mutual
def pln : D → Bool
  | .non => true
  | .bl _ => true
  | .int _ => true
  | .str _ => true
  | .tup l => plnL l
  | .lst l => plnL l
  | .dic _ l => plnL l
  | _ => false
def plnL : List D → Bool
  | [] => true
  | d :: l => pln d && plnL l
end
theorem plnL_mem : ∀ {l : List D} {x : D}, plnL l = true → x ∈ l → pln x = true
  | d :: l, x, h, hx => by
    simp only [plnL, Bool.and_eq_true] at h
    rcases List.mem_cons.mp hx with rfl | hx
    · exact h.1
    · exact plnL_mem h.2 hx
def isI : D → Bool
  | .int _ => true
  | _ => false
theorem p0 (k : Nat) (v : D) (h : Heap) (hv : pln v = true) : callI T (k + 1) 0 [v] h = some (.ok (.v (.bl (isI v))) h) := by
  rw [call_of t0 rfl]
  cases v <;> first
    | (simp [pln] at hv; done)
    | (simp [d0, isI]; exact gc_bl _ _)
def wi (v : D) (a b : Int) : Bool := match v with
  | .int i => decide (a ≤ i ∧ i ≤ b)
  | _ => false
theorem p1 (k : Nat) (v : D) (a b : Int) (h : Heap) (hv : pln v = true) : callI T (k + 2) 1 [v, .int a, .int b] h = some (.ok (.v (.bl (wi v a b))) h) := by
  by_cases hi : ∃ i, v = .int i
  · obtain ⟨i, rfl⟩ := hi
    exact s1 k i a b h
  · have e : isI v = false := by
      cases v <;> first
        | rfl
        | exact absurd ⟨_, rfl⟩ hi
    have e2 : wi v a b = false := by
      cases v <;> first
        | rfl
        | exact absurd ⟨_, rfl⟩ hi
    rw [call_of t1 rfl]
    simp [d1, p0 k v h hv, e, e2]
    exact gc_bl _ _
theorem wi_int {v : D} {a b : Int} (h : wi v a b = true) : ∃ i, v = .int i ∧ a ≤ i ∧ i ≤ b := by
  cases v <;> first
    | (simp [wi] at h; done)
    | (simp only [wi, decide_eq_true_eq] at h; exact ⟨_, rfl, h⟩)
-- spans
def isSpan (v : D) : Bool := match v with
  | .tup [a, b] => wi a 0 MOST && (wi b 1 MOST && (match a, b with
    | .int x, .int y => decide (x + y ≤ MOST)
    | _, _ => false))
  | _ => false
theorem isSpan_ok {v : D} (h : isSpan v = true) : ∃ p, v = pairD p ∧ SpOk p := by
  unfold isSpan at h
  split at h
  · rename_i a b
    simp only [Bool.and_eq_true] at h
    obtain ⟨h1, h2, h3⟩ := h
    obtain ⟨x, rfl, x1, x2⟩ := wi_int h1
    obtain ⟨y, rfl, y1, y2⟩ := wi_int h2
    simp only [decide_eq_true_eq] at h3
    exact ⟨(x, y), rfl, x1, y1, h3⟩
  · cases h
theorem p15 (k : Nat) (v : D) (h : Heap) (hv : pln v = true) : callI T (k + 3) 15 [v] h = some (.ok (.v (.bl (isSpan v))) h) := by
  rw [call_of t15 rfl]
  by_cases ht : ∃ l, v = .tup l
  · obtain ⟨l, rfl⟩ := ht
    have hl : plnL l = true := by simpa [pln] using hv
    match l, hl with
    | [], _ =>
      simp [d15, isSpan, look]
      exact gc_bl _ _
    | [a], _ =>
      simp [d15, isSpan, look]
      exact gc_bl _ _
    | [a, b], hl =>
      have ha : pln a = true := plnL_mem hl (by simp)
      have hb : pln b = true := plnL_mem hl (by simp)
      cases c1 : wi a 0 MOST with
      | false =>
        simp [d15, look, p1 k a _ _ h ha, g0, c1, isSpan]
        exact gc_bl _ _
      | true =>
        cases c2 : wi b 1 MOST with
        | false =>
          simp [d15, look, p1 k a _ _ h ha, p1 k b _ _ h hb, g0, c1, c2, isSpan]
          exact gc_bl _ _
        | true =>
          obtain ⟨x, rfl, x1, x2⟩ := wi_int c1
          obtain ⟨y, rfl, y1, y2⟩ := wi_int c2
          simp [d15, look, s1, s14, g0, x1, x2, y1, y2, isSpan, wi]
          exact gc_bl _ _
    | a :: b :: c :: l, _ =>
      have e : isSpan (.tup (a :: b :: c :: l)) = false := rfl
      have n : ¬ ((l.length : Int) + 1 + 1 + 1 = 2) := by omega
      simp [d15, look, e, n]
      exact gc_bl _ _
  · have e : isSpan v = false := by
      cases v <;> first
        | rfl
        | exact absurd ⟨_, rfl⟩ ht
    cases v <;> first
      | exact absurd ⟨_, rfl⟩ ht
      | (simp [pln] at hv; done)
      | (simp [d15, e]; exact gc_bl _ _)
def isSpans (v : D) : Bool := match v with
  | .tup l => decide (l.length ≤ 5000) && l.all isSpan
  | _ => false
theorem isSpans_ok {v : D} (h : isSpans v = true) : ∃ ps, v = .tup (sp ps) ∧ (∀ p ∈ ps, SpOk p) ∧ ps.length ≤ 5000 := by
  unfold isSpans at h
  split at h
  · rename_i l
    simp only [Bool.and_eq_true, decide_eq_true_eq] at h
    obtain ⟨h1, h2⟩ := h
    have go : ∀ l : List D, l.all isSpan = true → ∃ ps, l = sp ps ∧ ∀ p ∈ ps, SpOk p := by
      intro l
      induction l with
      | nil => exact fun _ => ⟨[], rfl, by simp⟩
      | cons d l ih =>
        intro h
        simp only [List.all_cons, Bool.and_eq_true] at h
        obtain ⟨p, rfl, hp⟩ := isSpan_ok h.1
        obtain ⟨ps, rfl, hps⟩ := ih h.2
        exact ⟨p :: ps, rfl, fun q hq => by
          rcases List.mem_cons.mp hq with rfl | hq
          · exact hp
          · exact hps q hq⟩
    obtain ⟨ps, rfl, hps⟩ := go l h2
    exact ⟨ps, rfl, hps, by simpa using h1⟩
  · cases h
theorem p16 (k : Nat) (v : D) (h : Heap) (hv : pln v = true) : callI T (k + 4) 16 [v] h = some (.ok (.v (.bl (isSpans v))) h) := by
  rw [call_of t16 rfl]
  by_cases ht : ∃ l, v = .tup l
  · obtain ⟨l, rfl⟩ := ht
    have hl : plnL l = true := by simpa [pln] using hv
    by_cases hn : l.length ≤ 5000
    · have hn2 : (l.length : Int) ≤ 5000 := by omega
      have hn3 : l.length ≤ 16777216 := by omega
      have a : ∀ x ∈ l, lcF (l, none) (.slot 1) (wipes [some (.tup l), none] [1]) (tests (callI T (k + 3)) T.get []) (eval (callI T (k + 3)) T.get e16_1) x h = some (.ok (some (.bl (isSpan x))) h) := fun x hx => by
        simp [lcF, wipes, p15 k x h (plnL_mem hl hx), still_none, e16_1]
      have b := lcGo_map (fun x => some (.bl (isSpan x))) _ a
      rw [List.filterMap_eq_map'] at b
      have bb : bools (l.map fun x => D.bl (isSpan x)) = some (l.map isSpan) := bools_mapf _ _ _ fun _ => rfl
      have e : isSpans (.tup l) = l.all isSpan := by simp [isSpans, hn]
      simp [d16, g1, hn2, hn3, b, bi, bb, e]
      exact gc_bl _ _
    · have hn2 : ¬ (l.length : Int) ≤ 5000 := by omega
      have e : isSpans (.tup l) = false := by simp [isSpans, hn]
      simp [d16, g1, hn2, e]
      exact gc_bl _ _
  · have e : isSpans v = false := by
      cases v <;> first
        | rfl
        | exact absurd ⟨_, rfl⟩ ht
    cases v <;> first
      | exact absurd ⟨_, rfl⟩ ht
      | (simp [pln] at hv; done)
      | (simp [d16, e]; exact gc_bl _ _)
-- lots
def gapP (ps : List (Int × Int)) : Bool := (ps.zip ps.tail).all fun q => decide (q.1.1 + q.1.2 < q.2.1)
theorem gapP_ok : ∀ {ps : List (Int × Int)}, (∀ p ∈ ps, SpOk p) → gapP ps = true → Lot ps
  | [], _, _ => Lot.nil
  | [p], h, _ => ⟨fun q hq => by
      rw [List.mem_singleton.mp hq]
      have := (h p (by simp)).2.1
      omega, by simp⟩
  | p :: q :: ps, h, g => by
    unfold gapP at g
    simp only [List.tail_cons, List.zip_cons_cons, List.all_cons, Bool.and_eq_true, decide_eq_true_eq] at g
    have ih := gapP_ok (ps := q :: ps) (fun r hr => h r (by simp only [List.mem_cons] at hr ⊢; exact .inr hr)) (by unfold gapP; simpa using g.2)
    refine ⟨fun r hr => ?_, List.pairwise_cons.mpr ⟨fun r hr => ?_, ih.gap⟩⟩
    · rcases List.mem_cons.mp hr with rfl | hr
      · have := (h r (by simp)).2.1
        omega
      · exact ih.pos r hr
    · rcases List.mem_cons.mp hr with rfl | hr
      · exact g.1
      · have h1 := ih.head.2 r hr
        have h2 := ih.head.1
        omega
def unp : List D → List (Int × Int)
  | .tup [.int a, .int b] :: l => (a, b) :: unp l
  | _ => []
theorem unp_sp : ∀ ps : List (Int × Int), unp (sp ps) = ps
  | [] => rfl
  | p :: ps => by
    have := unp_sp ps
    show (p.1, p.2) :: unp (sp ps) = _
    rw [this]
def lotOf (v : D) : List (Int × Int) := match v with
  | .tup l => unp l
  | _ => []
def isLot (v : D) : Bool := isSpans v && gapP (lotOf v)
theorem isLot_ok {v : D} (h : isLot v = true) : v = .tup (sp (lotOf v)) ∧ LotB (lotOf v) := by
  unfold isLot at h
  simp only [Bool.and_eq_true] at h
  obtain ⟨ps, rfl, hp, hl⟩ := isSpans_ok h.1
  have e : lotOf (.tup (sp ps)) = ps := unp_sp ps
  rw [e] at h ⊢
  exact ⟨rfl, ⟨gapP_ok hp h.2, hp, hl⟩⟩
theorem p26 (k : Nat) (v : D) (h : Heap) (hv : pln v = true) : callI T (k + 5) 26 [v] h = some (.ok (.v (.bl (isLot v))) h) := by
  rw [call_of t26 rfl]
  cases c : isSpans v with
  | false =>
    simp [d26, p16 k v h hv, c, isLot]
    exact gc_bl _ _
  | true =>
    obtain ⟨ps, rfl, hp, hl⟩ := isSpans_ok c
    have el : lotOf (.tup (sp ps)) = ps := unp_sp ps
    have a : ∀ x ∈ (ps.zip ps.tail).map fun q => D.tup [pairD q.1, pairD q.2], lcF ((ps.zip ps.tail).map fun q => D.tup [pairD q.1, pairD q.2], none) (.tup [.slot 1, .slot 2]) (wipes [some (.tup (sp ps)), none, none] [1, 2]) (tests (callI T (k + 4)) T.get []) (eval (callI T (k + 4)) T.get e26_1) x h = some (.ok ((fun x => match x with
        | D.tup [.tup [.int a, .int b], .tup [.int c, _]] => some (D.bl (decide (a + b < c)))
        | _ => none) x) h) := fun x hx => by
      obtain ⟨q, hq, rfl⟩ := List.mem_map.mp hx
      simp [lcF, wipes, still_none, e26_1, pairD, s14]
    have b := lcGo_map _ _ a
    rw [List.filterMap_map] at b
    have b' : ((fun x => match x with
        | D.tup [.tup [.int a, .int b], .tup [.int c, _]] => some (D.bl (decide (a + b < c)))
        | _ => none) ∘ fun q : (Int × Int) × (Int × Int) => D.tup [pairD q.1, pairD q.2]) = fun q => some (D.bl (decide (q.1.1 + q.1.2 < q.2.1))) := by
      funext q
      rfl
    rw [b', List.filterMap_eq_map'] at b
    have bb : bools ((ps.zip ps.tail).map fun q => D.bl (decide (q.1.1 + q.1.2 < q.2.1))) = some ((ps.zip ps.tail).map fun q => decide (q.1.1 + q.1.2 < q.2.1)) := bools_mapf _ _ _ fun _ => rfl
    have hz2 : ps.length ≤ 16777217 := by omega
    have e : isLot (.tup (sp ps)) = ((ps.zip ps.tail).map fun q => decide (q.1.1 + q.1.2 < q.2.1)).all id := by
      unfold isLot
      rw [c, el]
      simp [gapP]
    rw [e]
    have sx := s16 k ps h hp hl
    simp only [sp] at sx b
    simp [d26, sx, zip_sp, b, bb, bi, hz2]
    exact gc_bl _ _
/-! ### errors -/
@[simp] theorem endI_exc (h h1 : Heap) (x : Ex) : endI h (some (.exc x h1)) = some (.exc x h1) := rfl
def xOp : Ex := ⟨PySem.Str.ofString "InvalidOperation", []⟩
def xCt (d : D) : Ex := ⟨PySem.Str.ofString "InvalidCount", [(PySem.Str.ofString "given", d)]⟩
def xMany (d : D) : Ex := ⟨PySem.Str.ofString "TooMany", [(PySem.Str.ofString "limit", d)]⟩
theorem p6 (k : Nat) (v : D) (h : Heap) (hv : pln v = true) : callI T (k + 3) 6 [v] h = if wi v (1 - MOSTN) (MOSTN - 1) = true then some (.ok (.v .non) h) else some (.exc (xCt v) h) := by
  rw [call_of t6 rfl]
  cases c : wi v (1 - MOSTN) (MOSTN - 1) with
  | true =>
    simp [d6, p1 k v _ _ h hv, g2, c]
    exact gc_non _
  | false =>
    simp [d6, p1 k v _ _ h hv, g2, c, xCt]
def isNums (v : D) : Bool := match v with
  | .tup l => decide (l.length ≤ 1000) && l.all fun x => wi x (1 - MOSTN) (MOSTN - 1)
  | _ => false
theorem p7 (k : Nat) (v : D) (h : Heap) (hv : pln v = true) : callI T (k + 3) 7 [v] h = if isNums v = true then some (.ok (.v .non) h) else some (.exc xOp h) := by
  rw [call_of t7 rfl]
  by_cases ht : ∃ l, v = .tup l
  · obtain ⟨l, rfl⟩ := ht
    have hl : plnL l = true := by simpa [pln] using hv
    by_cases hn : l.length ≤ 1000
    · have hn2 : ¬ (1000 : Int) < l.length := by omega
      have hn3 : l.length ≤ 16777216 := by omega
      have a : ∀ x ∈ l, lcF (l, none) (.slot 1) (wipes [some (.tup l), none] [1]) (tests (callI T (k + 2)) T.get []) (eval (callI T (k + 2)) T.get e7_1) x h = some (.ok (some (.bl (wi x (1 - MOSTN) (MOSTN - 1)))) h) := fun x hx => by
        simp [lcF, wipes, p1 k x _ _ h (plnL_mem hl hx), g2, still_none, e7_1]
      have b := lcGo_map (fun x => some (.bl (wi x (1 - MOSTN) (MOSTN - 1)))) _ a
      rw [List.filterMap_eq_map'] at b
      have bb : bools (l.map fun x => D.bl (wi x (1 - MOSTN) (MOSTN - 1))) = some (l.map fun x => wi x (1 - MOSTN) (MOSTN - 1)) := bools_mapf _ _ _ fun _ => rfl
      have e : isNums (.tup l) = (l.map fun x => wi x (1 - MOSTN) (MOSTN - 1)).all id := by simp [isNums, hn]
      cases c : isNums (.tup l) with
      | true =>
        rw [c] at e
        simp [d7, g3, hn2, hn3, b, bi, bb, ← e]
        exact gc_non _
      | false =>
        rw [c] at e
        simp [d7, g3, hn2, hn3, b, bi, bb, ← e, xOp]
    · have hn2 : (1000 : Int) < l.length := by omega
      have e : isNums (.tup l) = false := by simp [isNums, hn]
      simp [d7, g3, hn2, e, xOp]
  · have e : isNums v = false := by
      cases v <;> first
        | rfl
        | exact absurd ⟨_, rfl⟩ ht
    cases v <;> first
      | exact absurd ⟨_, rfl⟩ ht
      | (simp [pln] at hv; done)
      | (simp [d7, e, xOp]; done)
theorem p27 (k : Nat) (v : D) (h : Heap) (hv : pln v = true) : callI T (k + 6) 27 [v] h = if isLot v = true then some (.ok (.v .non) h) else some (.exc xOp h) := by
  rw [call_of t27 rfl]
  cases c : isLot v with
  | true =>
    simp [d27, p26 k v h hv, c]
    exact gc_non _
  | false =>
    simp [d27, p26 k v h hv, c, xOp]
theorem p28 (k : Nat) (v w : D) (h : Heap) (hv : pln v = true) (hw : pln w = true) : callI T (k + 7) 28 [v, w] h = if isLot v = true ∧ isLot w = true then some (.ok (.v .non) h) else some (.exc xOp h) := by
  rw [call_of t28 rfl]
  cases c : isLot v with
  | false => simp [d28, p27 k v h hv, c]
  | true =>
    cases c2 : isLot w with
    | false => simp [d28, p27 k v h hv, p27 k w h hw, c, c2]
    | true =>
      simp [d28, p27 k v h hv, p27 k w h hw, c, c2]
      exact gc_non _
theorem p29 (k : Nat) (v : D) (h : Heap) (hv : pln v = true) : callI T (k + 3) 29 [v] h = if wi v 0 MOST = true then some (.ok (.v .non) h) else some (.exc (xCt v) h) := by
  rw [call_of t29 rfl]
  cases c : wi v 0 MOST with
  | true =>
    simp [d29, p1 k v _ _ h hv, g0, c]
    exact gc_non _
  | false =>
    simp [d29, p1 k v _ _ h hv, g0, c, xCt]
end K03

/-! What the law's helpers say. -/
namespace K03
open MP

/-! ### texts -/
abbrev S (x : String) : PySem.Str := PySem.Str.ofString x
def okS (x : PySem.Str) : Bool := x.cps.all (· < 1114112)
theorem okS_app {a b : PySem.Str} (ha : okS a = true) (hb : okS b = true) : okS (a ++ b) = true := by
  unfold okS at *
  rw [Array.all_eq_true'] at *
  intro x hx
  have hx : x ∈ (a ++ b).cps.toList := by simpa using hx
  rw [PyProof.Rows.cps_toList_append] at hx
  rcases List.mem_append.mp hx with z | z
  · exact ha x (by simpa using z)
  · exact hb x (by simpa using z)
-- x is the repr of d
structure Rp (d : D) (x : PySem.Str) : Prop where
  eq : reprD d = some x
  len : x.length ≤ 10000
  ok : okS x = true
theorem rp_int (i : Int) (h : i.natAbs.log2 < 1000) : ∃ x, Rp (.int i) x := by
  have hl : (S (toString i)).length ≤ 1001 := by
    have e : (S (toString i)).length = (toString i).length := by
      show (S (toString i)).cps.size = _
      rw [← Array.length_toList, PyProof.Rows.signs_ofString, List.length_map]
      rfl
    rw [e]
    have hn : i.natAbs < 2 ^ 1000 := by
      by_cases z : i.natAbs = 0
      · rw [z]
        decide
      · exact (Nat.log2_lt z).mp h
    have r := PySem.nat_repr_length_le (by decide) hn
    cases i with
    | ofNat n =>
      have : toString (Int.ofNat n) = Nat.repr n := rfl
      rw [this]
      have r : (Nat.repr n).length ≤ 1000 := r
      omega
    | negSucc n =>
      have : toString (Int.negSucc n) = "-" ++ Nat.repr (n + 1) := rfl
      rw [this, String.length_append]
      have r : (Nat.repr (n + 1)).length ≤ 1000 := r
      have : "-".length = 1 := rfl
      omega
  refine ⟨S (toString i), ?_, by omega, ?_⟩
  · unfold reprD
    have e1 : pyD (.int i) = some (.int i) := rfl
    have e2 : PySem.PyData.shown (.int i) = S (toString i) := rfl
    rw [e1]
    dsimp only
    rw [if_pos ⟨by simp only [PySem.PyData.showable, decide_eq_true_eq]; omega, by simp only [PySem.PyData.depth]; omega, by rw [e2]; show _ ≤ 16777216; omega⟩]
    rfl
  · unfold okS
    rw [Array.all_eq_true']
    intro x hx
    have hx : x ∈ (S (toString i)).cps.toList := by simpa using hx
    rw [PyProof.Rows.signs_ofString] at hx
    obtain ⟨c, hc, rfl⟩ := List.mem_map.mp hx
    rw [decide_eq_true_eq]
    rcases PyProof.Rows.int_sign i c hc with z | z
    · have := (PyProof.Rows.digit_range z).2
      omega
    · rw [z]
      decide
/-! ### what is met -/
theorem m_ok (r : R) (h : Heap) : metM m0 (some (.ok r h)) = some (.ok (.v (.str (S "none"))) h) := rfl
theorem m_op (h : Heap) : metM m0 (some (.exc xOp h)) = some (.ok (.v (.str (S "operation"))) h) := by rfl
theorem m_ct (d : D) (h : Heap) {x : PySem.Str} (r : Rp d x) : metM m0 (some (.exc (xCt d) h)) = some (.ok (.v (.str (S "count " ++ x))) h) := by
  have e : metM m0 (some (.exc (xCt d) h)) = (match reprD d with
      | some s => if (S "count ").length + s.length ≤ lim then some (.ok (.v (.str (S "count " ++ s))) h) else none
      | none => none) := by rfl
  rw [e, r.eq]
  have := r.len
  have : (S "count ").length = 6 := rfl
  exact if_pos (show _ ≤ 16777216 by omega)
theorem m_many (h : Heap) : metM m0 (some (.exc (xMany (.int 5000)) h)) = some (.ok (.v (.str (S "many 5000"))) h) := by
  obtain ⟨x, r⟩ := rp_int 5000 (by decide)
  have e : metM m0 (some (.exc (xMany (.int 5000)) h)) = (match reprD (.int 5000) with
      | some s => if (S "many ").length + s.length ≤ lim then some (.ok (.v (.str (S "many " ++ s))) h) else none
      | none => none) := by rfl
  have e2 : reprD (.int 5000) = some (S "5000") := by rfl
  rw [e, e2]
  rfl
end K03

/-! The law's dice, picks and words. -/
namespace K03
open MP

theorem rollOk : RollOk T 43 := fun k h0 h p n t d hn h1 h2 => roll_spec (A := 86028157) (M1 := 2305843009213693951) (Bc := 179) (M2 := 2305843009213693907) (C := 15485867) (Ev := 65579) t43 (by decide) d hn h1 h2
theorem s42 (k : Nat) (ns : List Int) (h : Heap) (i : Nat) (hi : i < 2 ^ 32) : ∃ a b, callI T (k + 1) 42 [.scr (ns.map .int), .int i] h = some (.ok (.newL [.int a, .int b, .int 0]) h) ∧ 0 ≤ a ∧ a < 2 ^ 2000 ∧ 0 ≤ b ∧ b < 2 ^ 200 :=
  dice_spec (K1 := 149) (K2 := 53) (M := 2305843009213693921) (K4 := 67) (K5 := 743) (K6 := 37) (K7 := 29) t42 (by decide) ns h i hi
theorem pln_noLoc {d : D} (h : pln d = true) : noLoc d = true := by
  cases d <;> first
    | rfl
    | (simp [pln] at h; done)
mutual
theorem pln_cl (n : Nat) : ∀ d : D, pln d = true → cl n d = true
  | .non, _ => rfl
  | .bl _, _ => rfl
  | .int _, _ => rfl
  | .str _, _ => rfl
  | .tup l, h => by
    simp only [pln] at h
    simp only [cl]
    exact plnL_cl n l h
  | .lst l, h => by
    simp only [pln] at h
    simp only [cl]
    exact plnL_cl n l h
  | .dic _ l, h => by
    simp only [pln] at h
    simp only [cl]
    exact plnL_cl n l h
  | .loc _, h | .scr _, h | .exo _ _ _, h | .obj _ _, h | .own, h | .fn _, h => by simp [pln] at h
theorem plnL_cl (n : Nat) : ∀ l : List D, plnL l = true → clL n l = true
  | [], _ => rfl
  | d :: l, h => by
    simp only [plnL, Bool.and_eq_true] at h
    simp only [clL, pln_cl n d h.1, plnL_cl n l h.2, Bool.and_self]
end
theorem p44 (k : Nat) {h0 h : Heap} {p n : Nat} (d : Dice h0 p n h) (hn : (n : Int) < 2 ^ 90) {x : D} {l : List D} (hs : ∀ m h', Dice h0 p m h' → seqOf h' x = some l) (hp : plnL l = true) (hl : 0 < l.length) (hl2 : l.length < 1000) :
    ∃ y h', callI T (k + 2) 44 [.loc p, x] h = some (.ok (.v y) h') ∧ y ∈ l ∧ pln y = true ∧ Dice h0 p (n + 1) h' := by
  obtain ⟨r, h', e, r0, r1, d'⟩ := rollOk k h0 h p n l.length d (by omega) (by omega) (by
    have : (1000 : Int) < 2 ^ 9000 := by decide +kernel
    omega)
  have hr : r.toNat < l.length := by omega
  have hm : l[r.toNat] ∈ l := List.getElem_mem hr
  have hy := plnL_mem hp hm
  refine ⟨l[r.toNat], h', ?_, hm, hy, d'⟩
  rw [call_of t44 rfl]
  have e1 := hs n h d
  have e2 := hs _ h' d'
  simp only [d44, MP.start, execs, exec, eval, evals, bd_ok, MP.b1M, MP.b1, e1, Option.map_some, valR, R.frz_v, List.getElem?_cons_zero, List.getElem?_cons_succ, List.map_cons, List.map_nil, List.length_cons, List.length_nil, List.cons_append, List.nil_append, e, ixM, ixD, e2, atZ_nn _ r0, List.getElem?_eq_getElem hr, endI_rt]
  rw [gc_v2 (d.oldOk d') (pln_noLoc hy) (pln_cl _ _ hy), d.take d']
theorem p45 (k : Nat) {h0 h : Heap} {p n : Nat} (d : Dice h0 p n h) (hn : (n : Int) < 2 ^ 80) {r x : D} {l : List D} (hr : pln r = true) (hs : ∀ m h', Dice h0 p m h' → seqOf h' x = some l) (hp : plnL l = true) (hl : 0 < l.length) (hl2 : l.length < 1000) :
    ∃ y b h', callI T (k + 3) 45 [.loc p, r, x] h = some (.ok (.v (.tup [y, .bl b])) h') ∧ ((b = false ∧ y = r) ∨ (b = true ∧ y ∈ l)) ∧ pln y = true ∧ Dice h0 p (n + 2) h' := by
  obtain ⟨i, h1, e, i0, i1, d1⟩ := rollOk (k + 1) h0 h p n 3 d (by omega) (by decide) (by
    have : (1000 : Int) < 2 ^ 9000 := by decide +kernel
    omega)
  by_cases hi : 0 < i
  · refine ⟨r, false, h1, ?_, .inl ⟨rfl, rfl⟩, hr, d1.mono (by omega)⟩
    rw [call_of t45 rfl]
    simp [d45, e, hi]
    rw [gc_v2 (d.oldOk d1) rfl (by simp [cl, clL, pln_cl _ _ hr]), d.take d1]
  · obtain ⟨y, h2, e2, hy, py, d2⟩ := p44 k d1 (by omega) hs hp hl hl2
    refine ⟨y, true, h2, ?_, .inr ⟨rfl, hy⟩, py, d2⟩
    rw [call_of t45 rfl]
    simp [d45, e, hi, e2]
    rw [gc_v2 (d.oldOk d2) rfl (by simp [cl, clL, pln_cl _ _ py]), d.take d2]
/-! ### the first word that is due -/
def firstW : List (PySem.Str × Bool) → PySem.Str
  | [] => S "none"
  | r :: l => if r.2 = true then r.1 else firstW l
abbrev rD (r : PySem.Str × Bool) : D := .tup [.str r.1, .bl r.2]
def due (l : List (PySem.Str × Bool)) : List PySem.Str := (l.filter (·.2)).map (·.1)
theorem first_due : ∀ l : List (PySem.Str × Bool), firstW l = match due l with
    | [] => S "none"
    | w :: _ => w
  | [] => rfl
  | (w, b) :: l => by
    cases b with
    | true => rfl
    | false => exact first_due l
@[simp] theorem dok_str (n : Nat) (x : PySem.Str) : dok n (.str x) = okS x := by cases n <;> rfl
theorem dok_due (n : Nat) : ∀ l : List (PySem.Str × Bool), (∀ r ∈ l, okS r.1 = true) → dokL n ((due l).map .str) = true
  | [], _ => by cases n <;> rfl
  | (w, b) :: l, h => by
    have ih := dok_due n l fun r hr => h r (by simp [hr])
    cases b with
    | false => exact ih
    | true =>
      show dokL n (.str w :: (due l).map .str) = true
      rw [dokL_cons, dok_str, ih, h (w, true) (by simp)]
      rfl
theorem first_ok : ∀ l : List (PySem.Str × Bool), (∀ r ∈ l, okS r.1 = true) → okS (firstW l) = true
  | [], _ => by decide +kernel
  | (w, b) :: l, h => by
    unfold firstW
    split
    · exact h (w, b) (by simp)
    · exact first_ok l fun r hr => h r (by simp [hr])
theorem p46 (k : Nat) (x : D) (rs : List (PySem.Str × Bool)) (o : Option Nat) (h : Heap) (hs : seqIt x h = some (.ok (rs.map rD, o) h)) (st : still (rs.map rD, o) h = true) (ok : ∀ r ∈ rs, okS r.1 = true) (hl : rs.length ≤ 100) :
    callI T (k + 1) 46 [x] h = some (.ok (.v (.str (firstW rs))) h) := by
  rw [call_of t46 rfl]
  have a : ∀ z ∈ rs.map rD, lcF (rs.map rD, o) (.tup [.slot 2, .slot 3]) (wipes [some x, none, none, none] [2, 3]) (tests (callI T k) T.get [.var 3]) (eval (callI T k) T.get e46_1) z h = some (.ok ((fun z => match z with
      | D.tup [.str w, .bl b] => if b = true then some (D.str w) else none
      | _ => none) z) h) := fun z hz => by
    obtain ⟨r, hr, rfl⟩ := List.mem_map.mp hz
    obtain ⟨w, b⟩ := r
    cases b <;> simp [lcF, wipes, st, e46_1, rD]
  have b := lcGo_map _ _ a
  have c : (rs.map rD).filterMap (fun z => match z with
      | D.tup [.str w, .bl b] => if b = true then some (D.str w) else none
      | _ => none) = (due rs).map .str := by
    clear a b hs st ok hl
    induction rs with
    | nil => rfl
    | cons r rs ih =>
      obtain ⟨w, b⟩ := r
      rw [List.map_cons, List.filterMap_cons]
      cases b with
      | true =>
        show D.str w :: _ = D.str w :: _
        rw [ih]
        rfl
      | false =>
        show List.filterMap _ _ = _
        rw [ih]
        rfl
  rw [c] at b
  have ln : ((due rs).map D.str).length ≤ 16777216 := by
    simp only [List.length_map, due]
    have := List.length_filter_le (·.2) rs
    omega
  have dk := dok_due 59 rs ok
  have e1 : exec (callI T k) T.get (d46.body.getD 0 .never) [some x, none, none, none] h = some (.ok (.nx [some x, some (.lst ((due rs).map .str)), none, none]) h) := by
    show exec _ _ (.asg (.slot 1) (.lc e46_1 (.tup [.slot 2, .slot 3]) (.of (.var 0)) [.var 3] [2, 3])) _ _ = _
    simp only [exec, eval, items, List.getElem?_cons_zero, bd_ok, R.frz_v, hs, b, if_pos ln, assign, R.frz_newL, List.set]
  have e2 : exec (callI T k) T.get (d46.body.getD 1 .never) [some x, some (.lst ((due rs).map .str)), none, none] h = some (.ok (.rt (.v (.str (firstW rs)))) h) := by
    show exec _ _ (.ret (.ite (.cmp .ne (.var 1) (.lst [])) (.ix (.var 1) (.c (.int 0))) (.c (.str (S "none"))))) _ _ = _
    rw [first_due]
    cases c1 : due rs with
    | nil => simp [look]
    | cons w l =>
      rw [c1] at dk
      simp only [List.map_cons] at dk
      simp [look, dk]
  show endI h (execs _ _ (d46.body.drop 0) [some x, none, none, none] h) = _
  rw [execs_at 0 (by decide) e1, execs_rt 1 (by decide) e2, endI_rt]
  exact gc_v rfl rfl
end K03

/-! What is met of the functions of numbers. -/
namespace K03
open MP

abbrev nW (v : D) : Bool := wi v (1 - MOSTN) (MOSTN - 1)
abbrev cnt (x : PySem.Str) : PySem.Str := S "count " ++ x
theorem nW_int {v : D} (h : nW v = true) : ∃ i, v = .int i ∧ -MOSTN < i ∧ i < MOSTN := by
  obtain ⟨i, e, h1, h2⟩ := wi_int h
  exact ⟨i, e, by omega, by omega⟩
abbrev said (w : PySem.Str) (h : Heap) : Res R := some (.ok (.v (.str w)) h)
theorem q8 (k : Nat) (a b : D) (h : Heap) (pa : pln a = true) (pb : pln b = true) {x y : PySem.Str} (ra : Rp a x) (rb : Rp b y) : metM m0 (callI T (k + 4) 8 [a, b] h) = said (firstW [(cnt x, !nW a), (cnt y, !nW b)]) h := by
  cases c1 : nW a with
  | false =>
    have e : callI T (k + 4) 8 [a, b] h = some (.exc (xCt a) h) := by
      rw [call_of t8 rfl]
      simp [d8, p6 k a h pa, c1]
    rw [e, m_ct a h ra]
    rfl
  | true =>
    cases c2 : nW b with
    | false =>
      have e : callI T (k + 4) 8 [a, b] h = some (.exc (xCt b) h) := by
        rw [call_of t8 rfl]
        simp [d8, p6 k a h pa, p6 k b h pb, c1, c2]
      rw [e, m_ct b h rb]
      rfl
    | true =>
      obtain ⟨i, rfl, i1, i2⟩ := nW_int c1
      obtain ⟨j, rfl, j1, j2⟩ := nW_int c2
      rw [s8 k i j h i1 i2 j1 j2]
      rfl
def lt1 (v : D) : Bool := match v with
  | .int j => decide (j < 1)
  | _ => false
theorem q11 (k : Nat) (a b : D) (h : Heap) (pa : pln a = true) (pb : pln b = true) {x y : PySem.Str} (ra : Rp a x) (rb : Rp b y) : metM m0 (callI T (k + 4) 11 [a, b] h) = said (firstW [(cnt x, !nW a), (cnt y, !nW b), (S "operation", !nW b || lt1 b)]) h := by
  cases c1 : nW a with
  | false =>
    have e : callI T (k + 4) 11 [a, b] h = some (.exc (xCt a) h) := by
      rw [call_of t11 rfl]
      simp [d11, p6 k a h pa, c1]
    rw [e, m_ct a h ra]
    rfl
  | true =>
    cases c2 : nW b with
    | false =>
      have e : callI T (k + 4) 11 [a, b] h = some (.exc (xCt b) h) := by
        rw [call_of t11 rfl]
        simp [d11, p6 k a h pa, p6 k b h pb, c1, c2]
      rw [e, m_ct b h rb]
      rfl
    | true =>
      obtain ⟨i, rfl, i1, i2⟩ := nW_int c1
      obtain ⟨j, rfl, j1, j2⟩ := nW_int c2
      by_cases hj : j < 1
      · have e : callI T (k + 4) 11 [.int i, .int j] h = some (.exc xOp h) := by
          rw [call_of t11 rfl]
          simp [d11, s6 _ _ _ i1 i2, s6 _ _ _ j1 j2, hj, xOp]
        rw [e, m_op]
        simp [firstW, lt1, hj]
      · rw [s11 k i j h i1 i2 (by omega) j2, m_ok]
        simp [firstW, lt1, hj]
theorem isNums_ok {v : D} (h : isNums v = true) : ∃ l, v = .tup (l.map .int) ∧ Small l := by
  unfold isNums at h
  split at h
  · rename_i l
    simp only [Bool.and_eq_true, decide_eq_true_eq] at h
    obtain ⟨h1, h2⟩ := h
    have go : ∀ l : List D, (l.all fun x => nW x) = true → ∃ m : List Int, l = m.map .int ∧ ∀ x ∈ m, -MOSTN < x ∧ x < MOSTN := by
      intro l
      induction l with
      | nil => exact fun _ => ⟨[], rfl, by simp⟩
      | cons d l ih =>
        intro h
        simp only [List.all_cons, Bool.and_eq_true] at h
        obtain ⟨i, rfl, hi⟩ := nW_int h.1
        obtain ⟨m, rfl, hm⟩ := ih h.2
        exact ⟨i :: m, rfl, fun x hx => by
          rcases List.mem_cons.mp hx with rfl | hx
          · exact hi
          · exact hm x hx⟩
    obtain ⟨m, rfl, hm⟩ := go l h2
    exact ⟨m, rfl, by simpa using h1, hm⟩
  · cases h
theorem q9 (k : Nat) (v : D) (h : Heap) (pv : pln v = true) : metM m0 (callI T (k + 4) 9 [v] h) = said (firstW [(S "operation", !isNums v)]) h := by
  cases c : isNums v with
  | false =>
    have e : callI T (k + 4) 9 [v] h = some (.exc xOp h) := by
      rw [call_of t9 rfl]
      simp [d9, p7 k v h pv, c]
    rw [e, m_op]
    rfl
  | true =>
    obtain ⟨l, rfl, hs⟩ := isNums_ok c
    rw [s9 k l h hs]
    rfl
theorem q12 (k : Nat) (v : D) (h : Heap) (pv : pln v = true) : metM m0 (callI T (k + 4) 12 [v] h) = said (firstW [(S "operation", !isNums v)]) h := by
  cases c : isNums v with
  | false =>
    have e : callI T (k + 4) 12 [v] h = some (.exc xOp h) := by
      rw [call_of t12 rfl]
      simp [d12, p7 k v h pv, c]
    rw [e, m_op]
    rfl
  | true =>
    obtain ⟨l, rfl, hs⟩ := isNums_ok c
    rw [s12 k l h hs]
    rfl
theorem q10bad (k : Nat) (v : D) (h : Heap) (pv : pln v = true) (c : isNums v = false) : metM m0 (callI T (k + 4) 10 [v] h) = said (S "operation") h := by
  have e : callI T (k + 4) 10 [v] h = some (.exc xOp h) := by
    rw [call_of t10 rfl]
    simp [d10, p7 k v h pv, c]
  rw [e, m_op]
theorem q10zero (k : Nat) (h : Heap) : metM m0 (callI T (k + 4) 10 [.tup [.int 2, .int 0]] h) = said (S "operation") h := by
  have n : isNums (.tup [.int 2, .int 0]) = true := by decide +kernel
  have m : mem (.int 0) (.tup [.int 2, .int 0]) h = some true := rfl
  have e : callI T (k + 4) 10 [.tup [.int 2, .int 0]] h = some (.exc xOp h) := by
    rw [call_of t10 rfl]
    simp [d10, p7 k (.tup [.int 2, .int 0]) h rfl, n, m, xOp]
  rw [e, m_op]
theorem q10ok (k : Nat) (l : List Int) (h : Heap) (hs : Small l) (h0 : ∀ x ∈ l, x ≠ 0) (hb : ∀ x ∈ l, x.natAbs ≤ 100) (hn : l.length ≤ 8) : metM m0 (callI T (k + 4) 10 [.tup (l.map .int)] h) = said (S "none") h := by
  rw [s10 k l h hs h0 hb hn]
  rfl
theorem q13bad (k : Nat) (v t : D) (h : Heap) (pv : pln v = true) (c : isNums v = false) : metM m0 (callI T (k + 4) 13 [v, t] h) = said (S "operation") h := by
  have e : callI T (k + 4) 13 [v, t] h = some (.exc xOp h) := by
    rw [call_of t13 rfl]
    simp [d13, p7 k v h pv, c]
  rw [e, m_op]
theorem q13odd (k : Nat) (v t : D) (h : Heap) (pv : pln v = true) (pt : pln t = true) (c : isNums v = true) (c2 : isI t = false) {x : PySem.Str} (r : Rp t x) : metM m0 (callI T (k + 4) 13 [v, t] h) = said (cnt x) h := by
  have e : callI T (k + 4) 13 [v, t] h = some (.exc (xCt t) h) := by
    rw [call_of t13 rfl]
    simp [d13, p7 k v h pv, c, p0 (k + 2) t h pt, c2, xCt]
  rw [e, m_ct t h r]
theorem q13 (k : Nat) (l : List Int) (t : Int) (h : Heap) (hs : Small l) (hp : ∀ x ∈ l, 0 ≤ x) : metM m0 (callI T (k + 4) 13 [.tup (l.map .int), .int t] h) = said (firstW [(S "operation", !decide (0 ≤ t ∧ t < l.sum))]) h := by
  by_cases ht : 0 ≤ t ∧ t < l.sum
  · obtain ⟨a, r, _, e⟩ := s13 k l t h hs hp ht.1 ht.2
    rw [e, m_ok]
    simp [firstW, ht]
  · have e : callI T (k + 4) 13 [.tup (l.map .int), .int t] h = some (.exc xOp h) := by
      rw [call_of t13 rfl]
      have hl : l.length ≤ 16777216 := by have := hs.1; omega
      have a : ∀ x ∈ l.map D.int, lcF (l.map D.int, none) (.slot 2) (wipes [some (.tup (l.map .int)), some (.int t), none] [2]) (tests (callI T (k + 3)) T.get []) (eval (callI T (k + 3)) T.get e13_1) x h = some (.ok (some (.bl false)) h) := fun x hx => by
        obtain ⟨i, hi, rfl⟩ := List.mem_map.mp hx
        have b := hp i hi
        have c : ¬ i < 0 := by omega
        simp [lcF, wipes, still_none, e13_1, c]
      have b := lcGo_map (fun _ => some (.bl false)) _ a
      rw [List.filterMap_eq_map'] at b
      have bb : bools (l.map ((fun _ => D.bl false) ∘ D.int)) = some (l.map fun _ => false) := bools_mapf _ _ _ fun _ => rfl
      have be : (l.any fun _ => false) = false := by simp
      by_cases h0 : 0 ≤ t
      · have h1 : ¬ t < l.sum := fun z => ht ⟨h0, z⟩
        simp [d13, s7 _ _ _ hs, s0, b, hl, bi, bb, ints_map, be, h0, h1, xOp]
      · simp [d13, s7 _ _ _ hs, s0, b, hl, bi, bb, ints_map, be, h0, xOp]
    rw [e, m_op]
    simp [firstW, ht]
-- a number below 0
theorem q13neg (k : Nat) (h : Heap) : metM m0 (callI T (k + 4) 13 [.tup [.int 3, .int (-1), .int 5], .int 2] h) = said (S "operation") h := by
  have hs : Small [3, -1, 5] := ⟨by decide, fun x hx => by
    have b : (1000 : Int) < MOSTN := by decide +kernel
    simp only [List.mem_cons, List.not_mem_nil, or_false] at hx
    rcases hx with rfl | rfl | rfl <;> omega⟩
  have e : callI T (k + 4) 13 [.tup ([3, -1, 5].map D.int), .int 2] h = some (.exc xOp h) := by
    rw [call_of t13 rfl]
    have s := s7 k [3, -1, 5] h hs
    simp only [List.map_cons, List.map_nil] at s
    simp [d13, s, s0, lcGo, lcF, wipes, still_none, e13_1, bi, bools, xOp]
  have e : callI T (k + 4) 13 [.tup [.int 3, .int (-1), .int 5], .int 2] h = some (.exc xOp h) := e
  rw [e, m_op]
end K03

/-! Whether wrong numbers are refused. -/
namespace K03
open MP

theorem eqD_str (a b : PySem.Str) : eqD (.str a) (.str b) = (a == b) := rfl
/-! ### statements of the law's shape -/
section
variable {Φ : Nat → List D → Heap → Res R} {G : Nat → Option D}
theorem if_same {A B : E} {g : Env} {h : Heap} {w : PySem.Str} {body : List St} (eA : eval Φ G A g h = said w h) (eB : eval Φ G B g h = said w h) (ok : okS w = true) : exec Φ G (.if_ (.cmp .ne A B) body []) g h = some (.ok (.nx g) h) := by
  simp [eA, eB, look, ok, eqD_str]
theorem ret_same {A B : E} {g : Env} {h : Heap} {w : PySem.Str} (eA : eval Φ G A g h = said w h) (eB : eval Φ G B g h = said w h) (ok : okS w = true) : exec Φ G (.ret (.cmp .eq A B)) g h = some (.ok (.rt (.v (.bl true))) h) := by
  simp [eA, eB, look, ok, eqD_str]
end
-- one, is_wrong = _law_one(dice, _law_pick(dice, right), wrong)
theorem one_st (k : Nat) {h0 h : Heap} {p n : Nat} (d : Dice h0 p n h) (hn : (n : Int) < 2 ^ 70) {g : Env} {i j : Nat} {eR eW : E} {rR rW : R} {x : D} {lR lW : List D} (e0 : g[0]? = some (some (.loc p))) (eR_ : ∀ h, eval (callI T (k + 3)) T.get eR g h = some (.ok rR h)) (fR : rR.frz = .lst lR)
    (eW_ : ∀ h, eval (callI T (k + 3)) T.get eW g h = some (.ok rW h)) (fW : rW.frz = x) (hs : ∀ m h', Dice h0 p m h' → seqOf h' x = some lW) (p1 : plnL lR = true) (p2 : plnL lW = true) (l1 : 0 < lR.length) (l2 : lR.length < 1000) (l3 : 0 < lW.length) (l4 : lW.length < 1000) :
    ∃ y b h', exec (callI T (k + 3)) T.get (.asg (.tup [.slot i, .slot j]) (.call 45 [.var 0, .call 44 [.var 0, eR], eW])) g h = some (.ok (.nx ((g.set i (some y)).set j (some (.bl b)))) h') ∧ ((b = false ∧ y ∈ lR) ∨ (b = true ∧ y ∈ lW)) ∧ pln y = true ∧ Dice h0 p (n + 3) h' := by
  obtain ⟨y1, h1, e1, m1, q1, d1⟩ := p44 (k + 1) d (by omega) (x := .lst lR) (fun _ _ _ => rfl) p1 l1 l2
  obtain ⟨y, b, h2, e2, m2, q2, d2⟩ := p45 k d1 (by omega) q1 hs p2 l3 l4
  refine ⟨y, b, h2, ?_, ?_, q2, d2⟩
  · have ev : eval (callI T (k + 3)) T.get (.call 45 [.var 0, .call 44 [.var 0, eR], eW]) g h = some (.ok (.v (.tup [y, .bl b])) h2) := by
      simp only [eval, evals, e0, bd_ok, R.frz_v, eR_, fR, eW_, fW, e1, e2]
    show exec _ _ (.asg (.tup [.slot i, .slot j]) (.call 45 [.var 0, .call 44 [.var 0, eR], eW])) _ _ = _
    simp only [exec]
    rw [ev]
    rfl
  · rcases m2 with ⟨rfl, rfl⟩ | ⟨rfl, m2⟩
    · exact .inl ⟨rfl, m1⟩
    · exact .inr ⟨rfl, m2⟩
-- one, is_wrong = _law_one(dice, right, wrong)
theorem one_st0 (k : Nat) {h0 h : Heap} {p n : Nat} (d : Dice h0 p n h) (hn : (n : Int) < 2 ^ 70) {g : Env} {i j : Nat} {eR eW : E} {rW : R} {x r : D} {lW : List D} (e0 : g[0]? = some (some (.loc p))) (eR_ : ∀ h, eval (callI T (k + 3)) T.get eR g h = some (.ok (.v r) h)) (pr : pln r = true)
    (eW_ : ∀ h, eval (callI T (k + 3)) T.get eW g h = some (.ok rW h)) (fW : rW.frz = x) (hs : ∀ m h', Dice h0 p m h' → seqOf h' x = some lW) (p2 : plnL lW = true) (l3 : 0 < lW.length) (l4 : lW.length < 1000) :
    ∃ y b h', exec (callI T (k + 3)) T.get (.asg (.tup [.slot i, .slot j]) (.call 45 [.var 0, eR, eW])) g h = some (.ok (.nx ((g.set i (some y)).set j (some (.bl b)))) h') ∧ ((b = false ∧ y = r) ∨ (b = true ∧ y ∈ lW)) ∧ pln y = true ∧ Dice h0 p (n + 2) h' := by
  obtain ⟨y, b, h2, e2, m2, q2, d2⟩ := p45 k d (by omega) pr hs p2 l3 l4
  refine ⟨y, b, h2, ?_, m2, q2, d2⟩
  have ev : eval (callI T (k + 3)) T.get (.call 45 [.var 0, eR, eW]) g h = some (.ok (.v (.tup [y, .bl b])) h2) := by
    simp only [eval, evals, e0, bd_ok, R.frz_v, eR_, eW_, fW, e2]
  simp only [exec]
  rw [ev]
  rfl
/-! ### the values -/
def oddN : List D := [.int MOSTN, .int (0 - MOSTN), .non, .bl true, .str (S "1"), .tup [.int 1]]
def r1 : List D := [.int 0, .int (-5), .int (MOSTN - 1)]
def r2 : List D := [.int 0, .int 3, .int (-2)]
def badN : List D := [.non, .lst [.int 1], .tup [.bl true], .tup [.int MOSTN], .tup [.str (S "1")], .int 5, .tup [.int 1, .non], .tup (List.replicate 1001 [.int 0]).flatten]
def rS : List D := [.tup [.int 3, .int 4], .tup [.int 2, .int 0], .tup []]
def rT : List D := [.int 0, .int 1, .int 2, .int 7, .int (-1)]
def oddT : List D := [.non, .bl true, .str (S "1")]
theorem pl_oddN : plnL oddN = true := by decide +kernel
theorem pl_r1 : plnL r1 = true := by decide +kernel
theorem pl_r2 : plnL r2 = true := by decide +kernel
theorem pl_badN : plnL badN = true := by decide +kernel
theorem pl_rS : plnL rS = true := by decide +kernel
theorem pl_rT : plnL rT = true := by decide +kernel
theorem pl_oddT : plnL oddT = true := by decide +kernel
theorem of_all {l : List D} {f : D → Bool} (h : l.all f = true) {y : D} (hy : y ∈ l) : f y = true := List.all_eq_true.mp h y hy
theorem no_oddN : (oddN.all fun y => !nW y) = true := by decide +kernel
theorem yes_r1 : (r1.all fun y => nW y) = true := by decide +kernel
theorem yes_r2 : (r2.all fun y => nW y) = true := by decide +kernel
theorem no_badN : (badN.all fun y => !isNums y) = true := by decide +kernel
theorem yes_rS : (rS.all fun y => isNums y) = true := by decide +kernel
theorem no_oddT : (oddT.all fun y => !isI y) = true := by decide +kernel
theorem yes_rT : (rT.all fun y => isI y) = true := by decide +kernel
theorem rp_non : Rp .non (S "None") := ⟨rfl, by decide +kernel, by decide +kernel⟩
theorem rp_true : Rp (.bl true) (S "True") := ⟨rfl, by decide +kernel, by decide +kernel⟩
theorem rp_1 : Rp (.str (S "1")) (S "'1'") := ⟨by decide +kernel, by decide +kernel, by decide +kernel⟩
theorem rp_t1 : Rp (.tup [.int 1]) (S "(1,)") := ⟨by decide +kernel, by decide +kernel, by decide +kernel⟩
theorem rp_oddN {y : D} (hy : y ∈ oddN) : ∃ x, Rp y x := by
  simp only [oddN, List.mem_cons, List.not_mem_nil, or_false] at hy
  rcases hy with rfl | rfl | rfl | rfl | rfl | rfl
  · exact rp_int _ (by decide +kernel)
  · exact rp_int _ (by decide +kernel)
  · exact ⟨_, rp_non⟩
  · exact ⟨_, rp_true⟩
  · exact ⟨_, rp_1⟩
  · exact ⟨_, rp_t1⟩
theorem rp_r1 {y : D} (hy : y ∈ r1) : ∃ x, Rp y x := by
  simp only [r1, List.mem_cons, List.not_mem_nil, or_false] at hy
  rcases hy with rfl | rfl | rfl <;> exact rp_int _ (by decide +kernel)
theorem rp_r2 {y : D} (hy : y ∈ r2) : ∃ x, Rp y x := by
  simp only [r2, List.mem_cons, List.not_mem_nil, or_false] at hy
  rcases hy with rfl | rfl | rfl <;> exact rp_int _ (by decide +kernel)
theorem rp_rT {y : D} (hy : y ∈ rT) : ∃ x, Rp y x := by
  simp only [rT, List.mem_cons, List.not_mem_nil, or_false] at hy
  rcases hy with rfl | rfl | rfl | rfl | rfl <;> exact rp_int _ (by decide +kernel)
theorem rp_oddT {y : D} (hy : y ∈ oddT) : ∃ x, Rp y x := by
  simp only [oddT, List.mem_cons, List.not_mem_nil, or_false] at hy
  rcases hy with rfl | rfl | rfl
  · exact ⟨_, rp_non⟩
  · exact ⟨_, rp_true⟩
  · exact ⟨_, rp_1⟩
end K03

/-! The law's first half: numbers. -/
namespace K03
open MP

theorem dice_app {h0 h : Heap} {p n : Nat} (d : Dice h0 p n h) (x : O) : Dice (h0 ++ [x]) p n (h ++ [x]) := by
  have hl := d.lt
  obtain ⟨a, b, c, e, q⟩ := d.at_
  refine ⟨by simp [d.len], fun i hi => ?_, a, b, c, by rw [List.getElem?_append_left hl]; exact e, q⟩
  rcases Nat.lt_or_ge i h.length with z | z
  · rw [List.getElem?_append_left z, List.getElem?_append_left (by rw [← d.len]; exact z)]
    exact d.old i hi
  · rw [List.getElem?_append_right z, List.getElem?_append_right (by rw [← d.len]; exact z), d.len]
theorem dice_back {h0 h' : Heap} {p m : Nat} {x : O} (hp : p < h0.length) (d : Dice (h0 ++ [x]) p m h') : ∃ h'', h' = h'' ++ [x] ∧ Dice h0 p m h'' := by
  obtain ⟨a, b, c, e, q⟩ := d.at_
  have hl : h'.length = h0.length + 1 := by rw [d.len]; simp
  refine ⟨h'.take h0.length, ?_, by rw [List.length_take]; omega, fun i hi => ?_, a, b, c, by rw [List.getElem?_take_of_lt hp]; exact e, q⟩
  · apply List.ext_getElem?
    intro i
    rcases Nat.lt_or_ge i h0.length with z | z
    · rw [List.getElem?_append_left (by rw [List.length_take]; omega), List.getElem?_take_of_lt z]
    · rw [List.getElem?_append_right (by rw [List.length_take]; omega), d.old i (by omega), List.getElem?_append_right z]
      congr 1
      rw [List.length_take]
      omega
  · rcases Nat.lt_or_ge i h0.length with z | z
    · rw [List.getElem?_take_of_lt z, d.old i hi, List.getElem?_append_left z]
    · rw [List.getElem?_eq_none (by rw [List.length_take]; omega), List.getElem?_eq_none z]
theorem oldOk_trans_app {h h1 x : Heap} (o : OldOk h h1) : OldOk h (h1 ++ x) := by
  refine ⟨by rw [List.length_append]; have := o.1; omega, fun i hi => ?_⟩
  rw [List.getElem?_append_left (by have := o.1; omega)]
  exact o.2 i hi
theorem for_keep {f : D → Env → Heap → Res Fl} {h : Heap} {l : List D} (I : Env → Prop) : ∀ (xs : List D) (g : Env), I g → (∀ x ∈ xs, ∀ g, I g → ∃ g', f x g h = some (.ok (.nx g') h) ∧ I g') → ∃ g', forGo (l, none) f xs g h = some (.ok (.nx g') h) ∧ I g'
  | [], g, hi, _ => ⟨g, rfl, hi⟩
  | x :: xs, g, hi, hf => by
    obtain ⟨g1, e1, i1⟩ := hf x (by simp) g hi
    obtain ⟨g2, e2, i2⟩ := for_keep (l := l) I xs g1 i1 fun y hy => hf y (by simp [hy])
    exact ⟨g2, by simp [forGo, e1, still_none, e2], i2⟩
section
variable {Φ : Nat → List D → Heap → Res R} {G : Nat → Option D}
theorem ev_cnt {g : Env} {h : Heap} {i : Nat} {y : D} {x : PySem.Str} (e : g[i]? = some (some y)) (r : Rp y x) : eval Φ G (.bin .add (.c (.str (S "count "))) (.b1 .repr (.var i))) g h = said (cnt x) h := by
  have h1 := r.len
  have h2 : (S "count ").length = 6 := rfl
  have h3 : 6 + x.length ≤ 16777216 := by omega
  simp [e, r.eq, h2, h3]
theorem ev_or {g : Env} {h : Heap} {i : Nat} {b c : Bool} {B : E} (e : g[i]? = some (some (.bl b))) (eB : b = false → eval Φ G B g h = some (.ok (.v (.bl c)) h)) : eval Φ G (.or (.var i) B) g h = some (.ok (.v (.bl (b || c))) h) := by
  cases b with
  | true => simp [e]
  | false => simp [e, eB rfl]
theorem evs_nil {g : Env} {h : Heap} : evals Φ G [] g h = some (.ok [] h) := by simp
theorem evs_cons {g : Env} {h : Heap} {A B : E} {es : List E} {ds : List D} {w : PySem.Str} {b : Bool} (eA : eval Φ G A g h = said w h) (eB : eval Φ G B g h = some (.ok (.v (.bl b)) h)) (e : evals Φ G es g h = some (.ok ds h)) :
    evals Φ G (.tup [A, B] :: es) g h = some (.ok (rD (w, b) :: ds) h) := by simp [eA, eB, e]
theorem evs_var {g : Env} {h : Heap} {i : Nat} {r : D} {es : List E} {ds : List D} (e0 : g[i]? = some (some r)) (e : evals Φ G es g h = some (.ok ds h)) : evals Φ G (.var i :: es) g h = some (.ok (r :: ds) h) := by simp [e0, e]
theorem ev_lst {g : Env} {h : Heap} {es : List E} {ds : List D} (e : evals Φ G es g h = some (.ok ds h)) (hl : ds.length ≤ 100) : eval Φ G (.lst es) g h = some (.ok (.newL ds) h) := by
  have : ds.length ≤ 16777216 := by omega
  simp [e, this]
theorem ev_alloc {g : Env} {h : Heap} {es : List E} {ds : List D} (e : evals Φ G es g h = some (.ok ds h)) (hl : ds.length ≤ 100) : eval Φ G (.alloc (.lst es)) g h = some (.ok (.v (.loc h.length)) (h ++ [.lst ds])) := by
  have : ds.length ≤ 16777216 := by omega
  simp [e, this]
theorem ev_varb {g : Env} {h : Heap} {i : Nat} {b : Bool} (e : g[i]? = some (some (.bl b))) : eval Φ G (.var i) g h = some (.ok (.v (.bl b)) h) := by simp [e]
theorem ev_op {g : Env} {h : Heap} {w : PySem.Str} : eval Φ G (.c (.str w)) g h = said w h := by simp
-- met, called with two names, with one
theorem ev_met2 {g : Env} {h : Heap} {x : PySem.Str} {f i j : Nat} {a b : D} {w : PySem.Str} (ea : g[i]? = some (some a)) (eb : g[j]? = some (some b)) (e : metM m0 (Φ f [a, b] h) = said w h) : eval Φ G (.met x m0 (.call f [.var i, .var j])) g h = said w h := by
  have e2 : eval Φ G (.call f [.var i, .var j]) g h = Φ f [a, b] h := by simp [ea, eb]
  show metM m0 (eval Φ G (.call f [.var i, .var j]) g h) = _
  rw [e2]
  exact e
theorem ev_met1 {g : Env} {h : Heap} {x : PySem.Str} {f i : Nat} {a : D} {w : PySem.Str} (ea : g[i]? = some (some a)) (e : metM m0 (Φ f [a] h) = said w h) : eval Φ G (.met x m0 (.call f [.var i])) g h = said w h := by
  have e2 : eval Φ G (.call f [.var i]) g h = Φ f [a] h := by simp [ea]
  show metM m0 (eval Φ G (.call f [.var i]) g h) = _
  rw [e2]
  exact e
theorem ev_metv2 {g : Env} {h : Heap} {x y : PySem.Str} {fs : List (PySem.Str × Nat)} {v f i j : Nat} {a b : D} {w : PySem.Str} (ev : g[v]? = some (some (.fn y))) (ef : fs.lookup y = some f) (ea : g[i]? = some (some a)) (eb : g[j]? = some (some b)) (e : metM m0 (Φ f [a, b] h) = said w h) :
    eval Φ G (.met x m0 (.callv fs v [.var i, .var j])) g h = said w h := by
  have e2 : eval Φ G (.callv fs v [.var i, .var j]) g h = Φ f [a, b] h := by simp [ev, ef, ea, eb]
  show metM m0 (eval Φ G (.callv fs v [.var i, .var j]) g h) = _
  rw [e2]
  exact e
theorem ev_metv1 {g : Env} {h : Heap} {x y : PySem.Str} {fs : List (PySem.Str × Nat)} {v f i : Nat} {a : D} {w : PySem.Str} (ev : g[v]? = some (some (.fn y))) (ef : fs.lookup y = some f) (ea : g[i]? = some (some a)) (e : metM m0 (Φ f [a] h) = said w h) :
    eval Φ G (.met x m0 (.callv fs v [.var i])) g h = said w h := by
  have e2 : eval Φ G (.callv fs v [.var i]) g h = Φ f [a] h := by simp [ev, ef, ea]
  show metM m0 (eval Φ G (.callv fs v [.var i]) g h) = _
  rw [e2]
  exact e
theorem ev_46 {g : Env} {h : Heap} {A : E} {r : R} {w : PySem.Str} (eA : eval Φ G A g h = some (.ok r h)) (e : Φ 46 [r.frz] h = said w h) : eval Φ G (.call 46 [A]) g h = said w h := by
  simp [eA, e]
theorem turn_one {i : Nat} {s : St} {x : D} {g g' : Env} {h : Heap} (e : exec Φ G s (g.set i (some x)) h = some (.ok (.nx g') h)) : forF (.slot i) (execs Φ G [s]) x g h = some (.ok (.nx g') h) := by
  simp [forF, e]
theorem ev_add {g : Env} {h : Heap} {i q : Nat} {A : E} {l ds : List D} (e : g[i]? = some (some (.loc q))) (hq : h[q]? = some (.lst l)) (eA : eval Φ G A g h = some (.ok (.newL ds) h)) (hl : l.length + ds.length ≤ 100) : eval Φ G (.bin .add (.var i) A) g h = some (.ok (.newL (l ++ ds)) h) := by
  have : l.length + ds.length ≤ 16777216 := by omega
  simp [e, hq, eA, this]
theorem asg_st {g : Env} {h h' : Heap} {i : Nat} {A : E} {r : R} (eA : eval Φ G A g h = some (.ok r h')) : exec Φ G (.asg (.slot i) A) g h = some (.ok (.nx (g.set i (some r.frz))) h') := by
  simp only [exec]
  rw [eA]
  rfl
end
theorem ok_cnt {y : D} {x : PySem.Str} (r : Rp y x) : okS (cnt x) = true := okS_app (by decide +kernel) r.ok
theorem ok_op : okS (S "operation") = true := by decide +kernel
theorem p46l (k : Nat) (rs : List (PySem.Str × Bool)) (h : Heap) (ok : ∀ r ∈ rs, okS r.1 = true) (hl : rs.length ≤ 100) : callI T (k + 1) 46 [.lst (rs.map rD)] h = said (firstW rs) h := p46 k _ rs none h rfl rfl ok hl
theorem p46p (k : Nat) (q : Nat) (rs : List (PySem.Str × Bool)) (h : Heap) (e : h[q]? = some (.lst (rs.map rD))) (ok : ∀ r ∈ rs, okS r.1 = true) (hl : rs.length ≤ 100) : callI T (k + 1) 46 [.loc q] h = said (firstW rs) h :=
  p46 k _ rs (some q) h (by simp [e]) (still_some e) ok hl
theorem flag_N {b : Bool} {y : D} {l : List D} (yes : (l.all fun y => nW y) = true) (m : (b = false ∧ y ∈ l) ∨ (b = true ∧ y ∈ oddN)) : b = !nW y := by
  rcases m with ⟨rfl, m⟩ | ⟨rfl, m⟩
  · rw [of_all yes m]
    rfl
  · exact (of_all no_oddN m).symm
theorem lt_ev {Φ : Nat → List D → Heap → Res R} {G : Nat → Option D} {g : Env} {h : Heap} {i : Nat} {y : D} (e : g[i]? = some (some y)) (w : nW y = true) : eval Φ G (.cmp .lt (.var i) (.c (.int 1))) g h = some (.ok (.v (.bl (lt1 y))) h) := by
  obtain ⟨j, rfl, _⟩ := nW_int w
  simp [e, lt1]
abbrev e47 (p : Nat) (v3 v4 v5 v6 v7 v8 v9 v10 v11 v12 v13 v14 : Option D) : Env := [some (.loc p), some (.int MOSTN), some (.lst oddN), v3, v4, v5, v6, v7, v8, v9, v10, v11, v12, v13, v14]
theorem flag_S {b : Bool} {y : D} (m : (b = false ∧ y ∈ rS) ∨ (b = true ∧ y ∈ badN)) : b = !isNums y := by
  rcases m with ⟨rfl, m⟩ | ⟨rfl, m⟩
  · rw [of_all yes_rS m]
    rfl
  · exact (of_all no_badN m).symm
theorem flag_T {b : Bool} {y : D} (m : (b = false ∧ y ∈ rT) ∨ (b = true ∧ y ∈ oddT)) : b = !isI y := by
  rcases m with ⟨rfl, m⟩ | ⟨rfl, m⟩
  · rw [of_all yes_rT m]
    rfl
  · exact (of_all no_oddT m).symm
def rSl : List (List Int) := [[3, 4], [2, 0], []]
theorem rS_of {y : D} (m : y ∈ rS) : ∃ l ∈ rSl, y = .tup (l.map .int) := by
  simp only [rS, List.mem_cons, List.not_mem_nil, or_false] at m
  rcases m with rfl | rfl | rfl
  · exact ⟨[3, 4], by simp [rSl], rfl⟩
  · exact ⟨[2, 0], by simp [rSl], rfl⟩
  · exact ⟨[], by simp [rSl], rfl⟩
theorem rS_small {l : List Int} (m : l ∈ rSl) : Small l ∧ ∀ x ∈ l, 0 ≤ x := by
  have b : (1000 : Int) < MOSTN := by decide +kernel
  simp only [rSl, List.mem_cons, List.not_mem_nil, or_false] at m
  rcases m with rfl | rfl | rfl
  · exact ⟨⟨by decide, fun x hx => by
      simp only [List.mem_cons, List.not_mem_nil, or_false] at hx
      rcases hx with rfl | rfl <;> omega⟩, by decide⟩
  · exact ⟨⟨by decide, fun x hx => by
      simp only [List.mem_cons, List.not_mem_nil, or_false] at hx
      rcases hx with rfl | rfl <;> omega⟩, by decide⟩
  · exact ⟨⟨by decide, fun x hx => by simp at hx⟩, by decide⟩
-- least_common
def z0 (y : D) : Bool := match y with
  | .tup [.int 2, .int 0] => true
  | _ => false
theorem q10 (k : Nat) (y : D) (h : Heap) (py : pln y = true) (m : y ∈ rS ∨ y ∈ badN) : metM m0 (callI T (k + 4) 10 [y] h) = said (firstW [(S "operation", !isNums y || z0 y)]) h := by
  rcases m with m | m
  · have e := of_all yes_rS m
    rw [e]
    simp only [rS, List.mem_cons, List.not_mem_nil, or_false] at m
    have b : (1000 : Int) < MOSTN := by decide +kernel
    rcases m with rfl | rfl | rfl
    · exact q10ok k [3, 4] h ⟨by decide, fun x hx => by
        simp only [List.mem_cons, List.not_mem_nil, or_false] at hx
        rcases hx with rfl | rfl <;> omega⟩ (by decide) (by decide) (by decide)
    · exact q10zero k h
    · exact q10ok k [] h ⟨by decide, fun x hx => by simp at hx⟩ (by decide) (by decide) (by decide)
  · have e : isNums y = false := by simpa using of_all no_badN m
    rw [q10bad k y h py e, e]
    rfl
theorem mem_ev {Φ : Nat → List D → Heap → Res R} {G : Nat → Option D} {g : Env} {h : Heap} {i : Nat} {y : D} (e : g[i]? = some (some y)) (m : y ∈ rS) : eval Φ G (.cmp .mem (.c (.int 0)) (.var i)) g h = some (.ok (.v (.bl (z0 y))) h) := by
  simp only [rS, List.mem_cons, List.not_mem_nil, or_false] at m
  rcases m with rfl | rfl | rfl
  · have c : mem (.int 0) (.tup [.int 3, .int 4]) h = some false := rfl
    simp [e, c, z0]
  · have c : mem (.int 0) (.tup [.int 2, .int 0]) h = some true := rfl
    simp [e, c, z0]
  · have c : mem (.int 0) (.tup []) h = some false := rfl
    simp [e, c, z0]
theorem sum_ev {Φ : Nat → List D → Heap → Res R} {G : Nat → Option D} {g : Env} {h : Heap} {i j : Nat} {l : List Int} {t : Int} (e : g[i]? = some (some (.tup (l.map .int)))) (e2 : g[j]? = some (some (.int t))) :
    eval Φ G (.not (.cmp2 .le .lt (.c (.int 0)) (.var j) (.bi .sum (.of (.var i))))) g h = some (.ok (.v (.bl (!decide (0 ≤ t ∧ t < l.sum)))) h) := by
  by_cases h0 : 0 ≤ t
  · simp [e, e2, h0, bi, ints_map]
  · simp [e, e2, h0]
theorem isI_int {y : D} (h : isI y = true) : ∃ t, y = .int t := by
  cases y <;> first
    | exact ⟨_, rfl⟩
    | cases h
abbrev app14 : List St := [.expr (.meth .append (.var 5) [(.tup [(.c (.str (S "operation"))), (.not (.cmp2 .le .lt (.c (.int 0)) (.var 14) (.bi .sum (.of (.var 13)))))])])]
theorem s47 (k : Nat) {h0 h : Heap} {p n : Nat} (hp : p < h0.length) (d : Dice h0 p n h) (hn : (n : Int) < 2 ^ 60) : ∃ h', callI T (k + 9) 47 [.loc p] h = some (.ok (.v (.bl true)) h') ∧ Dice h0 p (n + 100) h' := by
  have G0 : exec (callI T (k + 8)) T.get (d47.body.getD 0 .never) [some (.loc p), none, none, none, none, none, none, none, none, none, none, none, none, none, none] h = some (.ok (.nx [some (.loc p), some (.int MOSTN), none, none, none, none, none, none, none, none, none, none, none, none, none]) h) := by
    have q1 : powOk 10 50 = true := by decide +kernel
    have m1 : mulOk (10 ^ 50) (10 ^ 50) = true := by decide +kernel
    have m2 : mulOk (10 ^ 100) (10 ^ 50) = true := by decide +kernel
    have m3 : mulOk (10 ^ 150) (10 ^ 50) = true := by decide +kernel
    have ev : eval (callI T (k + 8)) T.get (.bin .mul (.bin .mul (.bin .mul (.bin .pow (.c (.int 10)) (.c (.int 50))) (.bin .pow (.c (.int 10)) (.c (.int 50)))) (.bin .pow (.c (.int 10)) (.c (.int 50)))) (.bin .pow (.c (.int 10)) (.c (.int 50)))) [some (.loc p), none, none, none, none, none, none, none, none, none, none, none, none, none, none] h = some (.ok (.v (.int MOSTN)) h) := by
      have b50 : eval (callI T (k + 8)) T.get (.bin .pow (.c (.int 10)) (.c (.int 50))) [some (.loc p), none, none, none, none, none, none, none, none, none, none, none, none, none, none] h = some (.ok (.v (.int (10 ^ 50))) h) := by
        simp only [eval, bd_ok, R.frz_v, bin, if_pos q1]
        rfl
      have mul : ∀ (a b : E) (i j : Int), eval (callI T (k + 8)) T.get a [some (.loc p), none, none, none, none, none, none, none, none, none, none, none, none, none, none] h = some (.ok (.v (.int i)) h) → eval (callI T (k + 8)) T.get b [some (.loc p), none, none, none, none, none, none, none, none, none, none, none, none, none, none] h = some (.ok (.v (.int j)) h) → mulOk i j = true →
          eval (callI T (k + 8)) T.get (.bin .mul a b) [some (.loc p), none, none, none, none, none, none, none, none, none, none, none, none, none, none] h = some (.ok (.v (.int (i * j))) h) := fun a b i j ea eb m => by
        simp only [eval, ea, eb, bd_ok, R.frz_v, bin, if_pos m]
      have e2 := mul _ _ _ _ b50 b50 m1
      rw [show (10 : Int) ^ 50 * 10 ^ 50 = 10 ^ 100 by decide +kernel] at e2
      have e3 := mul _ _ _ _ e2 b50 m2
      rw [show (10 : Int) ^ 100 * 10 ^ 50 = 10 ^ 150 by decide +kernel] at e3
      have e4 := mul _ _ _ _ e3 b50 m3
      rw [show (10 : Int) ^ 150 * 10 ^ 50 = MOSTN by decide +kernel] at e4
      exact e4
    show exec _ _ (.asg (.slot 1) _) _ _ = _
    simp only [exec]
    rw [ev]
    rfl
  have G1 : exec (callI T (k + 8)) T.get (d47.body.getD 1 .never) [some (.loc p), some (.int MOSTN), none, none, none, none, none, none, none, none, none, none, none, none, none] h = some (.ok (.nx [some (.loc p), some (.int MOSTN), some (.lst oddN), none, none, none, none, none, none, none, none, none, none, none, none]) h) := by
    show exec _ _ (.asg (.slot 2) (.lst [(.var 1), (.bin .sub (.c (.int 0)) (.var 1)), (.c .non), (.c (.bl true)), (.c (.str (S "1"))), (.tup [(.c (.int 1))])])) _ _ = _
    simp [oddN]
  obtain ⟨y1, b1, h1, G2, m1, py1, d1⟩ := one_st (k + 5) d (by omega) (g := [some (.loc p), some (.int MOSTN), some (.lst oddN), none, none, none, none, none, none, none, none, none, none, none, none]) (i := 11) (j := 3)
    (eR := .lst [(.c (.int 0)), (.neg (.c (.int 5))), (.bin .sub (.var 1) (.c (.int 1)))]) (eW := .var 2) (rR := .newL r1) (rW := .v (.lst oddN)) (x := .lst oddN) (lR := r1) (lW := oddN) rfl (fun h => by simp [r1]) rfl (fun h => by simp) rfl (fun _ _ _ => rfl) pl_r1 pl_oddN (by decide) (by decide) (by decide) (by decide)
  obtain ⟨y2, b2, h2, G3, m2, py2, d2⟩ := one_st (k + 5) d1 (by omega) (g := [some (.loc p), some (.int MOSTN), some (.lst oddN), some (.bl b1), none, none, none, none, none, none, none, some y1, none, none, none]) (i := 12) (j := 4)
    (eR := .lst [(.c (.int 0)), (.c (.int 3)), (.neg (.c (.int 2)))]) (eW := .var 2) (rR := .newL r2) (rW := .v (.lst oddN)) (x := .lst oddN) (lR := r2) (lW := oddN) rfl (fun h => by simp [r2]) rfl (fun h => by simp) rfl (fun _ _ _ => rfl) pl_r2 pl_oddN (by decide) (by decide) (by decide) (by decide)
  have eb1 := flag_N yes_r1 m1
  have eb2 := flag_N yes_r2 m2
  obtain ⟨x1, rp1⟩ : ∃ x, Rp y1 x := by
    rcases m1 with ⟨_, m⟩ | ⟨_, m⟩
    · exact rp_r1 m
    · exact rp_oddN m
  obtain ⟨x2, rp2⟩ : ∃ x, Rp y2 x := by
    rcases m2 with ⟨_, m⟩ | ⟨_, m⟩
    · exact rp_r2 m
    · exact rp_oddN m
  subst eb1 eb2
  -- the rows
  let rows : List (PySem.Str × Bool) := [(cnt x1, !nW y1), (cnt x2, !nW y2)]
  let h3 : Heap := h2 ++ [.lst (rows.map rD)]
  let q := h2.length
  have G4 : exec (callI T (k + 8)) T.get (d47.body.getD 4 .never) [some (.loc p), some (.int MOSTN), some (.lst oddN), some (.bl !nW y1), some (.bl !nW y2), none, none, none, none, none, none, some y1, some y2, none, none] h2 = some (.ok (.nx [some (.loc p), some (.int MOSTN), some (.lst oddN), some (.bl !nW y1), some (.bl !nW y2), some (.loc q), none, none, none, none, none, some y1, some y2, none, none]) h3) := by
    have e1 := ev_cnt (Φ := callI T (k + 8)) (G := T.get) (g := [some (.loc p), some (.int MOSTN), some (.lst oddN), some (.bl !nW y1), some (.bl !nW y2), none, none, none, none, none, none, some y1, some y2, none, none]) (h := h2) (i := 11) rfl rp1
    have e2 := ev_cnt (Φ := callI T (k + 8)) (G := T.get) (g := [some (.loc p), some (.int MOSTN), some (.lst oddN), some (.bl !nW y1), some (.bl !nW y2), none, none, none, none, none, none, some y1, some y2, none, none]) (h := h2) (i := 12) rfl rp2
    show exec _ _ (.asg (.slot 5) (.alloc (.lst [(.tup [(.bin .add (.c (.str (S "count "))) (.b1 .repr (.var 11))), (.var 3)]), (.tup [(.bin .add (.c (.str (S "count "))) (.b1 .repr (.var 12))), (.var 4)])]))) _ _ = _
    exact asg_st (ev_alloc (evs_cons e1 (ev_varb rfl) (evs_cons e2 (ev_varb rfl) evs_nil)) (by simp))
  have hq : h3[q]? = some (.lst (rows.map rD)) := get_end _ _
  have okr : ∀ r ∈ rows, okS r.1 = true := fun r hr => by
    simp only [rows, List.mem_cons, List.not_mem_nil, or_false] at hr
    rcases hr with rfl | rfl
    · exact ok_cnt rp1
    · exact ok_cnt rp2
  have G5 : exec (callI T (k + 8)) T.get (d47.body.getD 5 .never) (e47 p (some (.bl !nW y1)) (some (.bl !nW y2)) (some (.loc q)) none none none none none (some y1) (some y2) none none) h3 = some (.ok (.nx (e47 p (some (.bl !nW y1)) (some (.bl !nW y2)) (some (.loc q)) none none none none none (some y1) (some y2) none none)) h3) :=
    if_same (ev_met2 rfl rfl (q8 (k + 4) y1 y2 h3 py1 py2 rp1 rp2)) (ev_46 (r := .v (.loc q)) (by simp) (p46p (k + 7) q rows h3 hq okr (by simp [rows]))) (first_ok rows okr)
  let rows2 : List (PySem.Str × Bool) := [(cnt x1, !nW y1), (cnt x2, !nW y2), (S "operation", !nW y2 || lt1 y2)]
  have okr2 : ∀ r ∈ rows2, okS r.1 = true := fun r hr => by
    simp only [rows2, List.mem_cons, List.not_mem_nil, or_false] at hr
    rcases hr with rfl | rfl | rfl
    · exact ok_cnt rp1
    · exact ok_cnt rp2
    · exact ok_op
  have G6 : exec (callI T (k + 8)) T.get (d47.body.getD 6 .never) (e47 p (some (.bl !nW y1)) (some (.bl !nW y2)) (some (.loc q)) none none none none none (some y1) (some y2) none none) h3 = some (.ok (.nx (e47 p (some (.bl !nW y1)) (some (.bl !nW y2)) (some (.loc q)) none none none none none (some y1) (some y2) none none)) h3) :=
    if_same (ev_met2 rfl rfl (q11 (k + 4) y1 y2 h3 py1 py2 rp1 rp2))
      (ev_46 (ev_add rfl hq (ev_lst (evs_cons ev_op (ev_or rfl fun hb => lt_ev rfl (by simpa using hb)) evs_nil) (by simp)) (by simp [rows])) (p46l (k + 7) rows2 h3 okr2 (by simp [rows2]))) (first_ok rows2 okr2)
  have d3 : Dice (h0 ++ [.lst (rows.map rD)]) p (n + 3 + 3) h3 := dice_app d2 _
  have hp3 : p < (h0 ++ [O.lst (rows.map rD)]).length := by simp; omega
  have em : eval (callI T (k + 8)) T.get (.bin .mul (.tup [(.c (.int 0))]) (.c (.int 1001))) (e47 p (some (.bl !nW y1)) (some (.bl !nW y2)) (some (.loc q)) none none none none none (some y1) (some y2) none none) h3 = some (.ok (.v (.tup (List.replicate 1001 [D.int 0]).flatten)) h3) := by
    simp only [eval, evals, bd_ok, R.frz_v, tupM, bin]
    rfl
  have ebad : evals (callI T (k + 8)) T.get [(.c .non), (.lst [(.c (.int 1))]), (.tup [(.c (.bl true))]), (.tup [(.var 1)]), (.tup [(.c (.str (S "1")))]), (.c (.int 5)), (.tup [(.c (.int 1)), (.c .non)]), (.bin .mul (.tup [(.c (.int 0))]) (.c (.int 1001)))] (e47 p (some (.bl !nW y1)) (some (.bl !nW y2)) (some (.loc q)) none none none none none (some y1) (some y2) none none) h3 = some (.ok badN h3) := by
    have one : ∀ (a : E) (es : List E) (g : Env) (h : Heap) (r : R) (ds : List D), eval (callI T (k + 8)) T.get a g h = some (.ok r h) → evals (callI T (k + 8)) T.get es g h = some (.ok ds h) → evals (callI T (k + 8)) T.get (a :: es) g h = some (.ok (r.frz :: ds) h) := fun a es g h r ds ea es_ => by simp [ea, es_]
    exact one _ _ _ _ (.v .non) _ (by simp) (one _ _ _ _ (.newL [.int 1]) _ (by simp) (one _ _ _ _ (.v (.tup [.bl true])) _ (by simp) (one _ _ _ _ (.v (.tup [.int MOSTN])) _ (by simp) (one _ _ _ _ (.v (.tup [.str (S "1")])) _ (by simp) (one _ _ _ _ (.v (.int 5)) _ (by simp) (one _ _ _ _ (.v (.tup [.int 1, .non])) _ (by simp) (one _ _ _ _ (.v (.tup (List.replicate 1001 [D.int 0]).flatten)) _ em evs_nil)))))))
  have G7 : exec (callI T (k + 8)) T.get (d47.body.getD 7 .never) (e47 p (some (.bl !nW y1)) (some (.bl !nW y2)) (some (.loc q)) none none none none none (some y1) (some y2) none none) h3 = some (.ok (.nx (e47 p (some (.bl !nW y1)) (some (.bl !nW y2)) (some (.loc q)) (some (.lst badN)) none none none none (some y1) (some y2) none none)) h3) :=
    asg_st (ev_lst ebad (by simp [badN]))
  obtain ⟨y3, b3, h4, G8, m3, py3, d4⟩ := one_st (k + 5) d3 (by omega) (g := e47 p (some (.bl !nW y1)) (some (.bl !nW y2)) (some (.loc q)) (some (.lst badN)) none none none none (some y1) (some y2) none none) (i := 13) (j := 7)
    (eR := .lst [(.tup [(.c (.int 3)), (.c (.int 4))]), (.tup [(.c (.int 2)), (.c (.int 0))]), (.tup [])]) (eW := .var 6) (rR := .newL rS) (rW := .v (.lst badN)) (x := .lst badN) (lR := rS) (lW := badN) rfl (fun h => by simp [rS]) rfl (fun h => by simp) rfl (fun _ _ _ => rfl) pl_rS pl_badN (by decide) (by decide) (by decide) (by decide)
  have eb3 := flag_S m3
  subst eb3
  have mm3 : y3 ∈ rS ∨ y3 ∈ badN := by
    rcases m3 with ⟨_, m⟩ | ⟨_, m⟩
    · exact .inl m
    · exact .inr m
  let fst : PySem.Str × Bool := (S "operation", !isNums y3)
  have okf : ∀ r ∈ [fst], okS r.1 = true := fun r hr => by
    rw [List.mem_singleton.mp hr]
    exact ok_op
  have G9 : exec (callI T (k + 8)) T.get (d47.body.getD 9 .never) (e47 p (some (.bl !nW y1)) (some (.bl !nW y2)) (some (.loc q)) (some (.lst badN)) (some (.bl !isNums y3)) none none none (some y1) (some y2) (some y3) none) h4 = some (.ok (.nx (e47 p (some (.bl !nW y1)) (some (.bl !nW y2)) (some (.loc q)) (some (.lst badN)) (some (.bl !isNums y3)) (some (rD fst)) none none (some y1) (some y2) (some y3) none)) h4) :=
    asg_st (A := .tup [(.c (.str (S "operation"))), (.var 7)]) (r := .v (rD fst)) (by simp [fst, rD])
  -- the loop
  obtain ⟨gL, eL, ⟨z10, rfl⟩⟩ := for_keep (f := forF (.slot 10) (execs (callI T (k + 8)) T.get b47_1)) (h := h4) (l := [.fn (S "common_of"), .fn (S "sums")])
    (fun g => ∃ z, g = e47 p (some (.bl !nW y1)) (some (.bl !nW y2)) (some (.loc q)) (some (.lst badN)) (some (.bl !isNums y3)) (some (rD fst)) none z (some y1) (some y2) (some y3) none) [.fn (S "common_of"), .fn (S "sums")] _ ⟨none, rfl⟩ (by
      rintro x hx g ⟨z, rfl⟩
      refine ⟨e47 p (some (.bl !nW y1)) (some (.bl !nW y2)) (some (.loc q)) (some (.lst badN)) (some (.bl !isNums y3)) (some (rD fst)) none (some x) (some y1) (some y2) (some y3) none, ?_, some x, rfl⟩
      have eB : ∀ x, eval (callI T (k + 8)) T.get (.call 46 [.lst [.var 8]]) (e47 p (some (.bl !nW y1)) (some (.bl !nW y2)) (some (.loc q)) (some (.lst badN)) (some (.bl !isNums y3)) (some (rD fst)) none (some x) (some y1) (some y2) (some y3) none) h4 = said (firstW [fst]) h4 := fun x =>
        ev_46 (ev_lst (evs_var rfl evs_nil) (by simp)) (p46l (k + 7) [fst] h4 okf (by simp))
      simp only [List.mem_cons, List.not_mem_nil, or_false] at hx
      rcases hx with rfl | rfl
      · exact turn_one (if_same (ev_metv1 (y := S "common_of") (f := 9) rfl (by decide +kernel) rfl (q9 (k + 4) y3 h4 py3)) (eB _) (first_ok [fst] okf))
      · exact turn_one (if_same (ev_metv1 (y := S "sums") (f := 12) rfl (by decide +kernel) rfl (q12 (k + 4) y3 h4 py3)) (eB _) (first_ok [fst] okf)))
  have G10 : exec (callI T (k + 8)) T.get (d47.body.getD 10 .never) (e47 p (some (.bl !nW y1)) (some (.bl !nW y2)) (some (.loc q)) (some (.lst badN)) (some (.bl !isNums y3)) (some (rD fst)) none none (some y1) (some y2) (some y3) none) h4 = some (.ok (.nx (e47 p (some (.bl !nW y1)) (some (.bl !nW y2)) (some (.loc q)) (some (.lst badN)) (some (.bl !isNums y3)) (some (rD fst)) none z10 (some y1) (some y2) (some y3) none)) h4) := by
    show exec _ _ (.for_ (.slot 10) (.of (.tup [(.fn (S "common_of")), (.fn (S "sums"))])) b47_1) _ _ = _
    have it : items (callI T (k + 8)) T.get (.of (.tup [(.fn (S "common_of")), (.fn (S "sums"))])) (e47 p (some (.bl !nW y1)) (some (.bl !nW y2)) (some (.loc q)) (some (.lst badN)) (some (.bl !isNums y3)) (some (rD fst)) none none (some y1) (some y2) (some y3) none) h4 = some (.ok ([.fn (S "common_of"), .fn (S "sums")], none) h4) := by simp
    simp only [exec]
    rw [it, bd_ok]
    exact eL
  -- from here on z10 is what the loop left
  have okz : ∀ r ∈ [(S "operation", !isNums y3 || z0 y3)], okS r.1 = true := fun r hr => by
    rw [List.mem_singleton.mp hr]
    exact ok_op
  have G11 : exec (callI T (k + 8)) T.get (d47.body.getD 11 .never) (e47 p (some (.bl !nW y1)) (some (.bl !nW y2)) (some (.loc q)) (some (.lst badN)) (some (.bl !isNums y3)) (some (rD fst)) none z10 (some y1) (some y2) (some y3) none) h4 = some (.ok (.nx (e47 p (some (.bl !nW y1)) (some (.bl !nW y2)) (some (.loc q)) (some (.lst badN)) (some (.bl !isNums y3)) (some (rD fst)) none z10 (some y1) (some y2) (some y3) none)) h4) :=
    if_same (ev_met1 rfl (q10 (k + 4) y3 h4 py3 mm3)) (ev_46 (ev_lst (evs_cons ev_op (ev_or rfl fun hb => mem_ev rfl (by
      rcases m3 with ⟨_, m⟩ | ⟨z, m⟩
      · exact m
      · rw [z] at hb; cases hb)) evs_nil) (by simp)) (p46l (k + 7) _ h4 okz (by simp))) (first_ok _ okz)
  obtain ⟨y4, b4, h5, G12, m4, py4, d5⟩ := one_st (k + 5) d4 (by omega) (g := e47 p (some (.bl !nW y1)) (some (.bl !nW y2)) (some (.loc q)) (some (.lst badN)) (some (.bl !isNums y3)) (some (rD fst)) none z10 (some y1) (some y2) (some y3) none) (i := 14) (j := 9)
    (eR := .lst [(.c (.int 0)), (.c (.int 1)), (.c (.int 2)), (.c (.int 7)), (.neg (.c (.int 1)))]) (eW := .lst [(.c .non), (.c (.bl true)), (.c (.str (S "1")))]) (rR := .newL rT) (rW := .newL oddT) (x := .lst oddT) (lR := rT) (lW := oddT) rfl (fun h => by simp [rT]) rfl (fun h => by simp [oddT]) rfl (fun _ _ _ => rfl) pl_rT pl_oddT (by decide) (by decide) (by decide) (by decide)
  have eb4 := flag_T m4
  obtain ⟨x4, rp4⟩ : ∃ x, Rp y4 x := by
    rcases m4 with ⟨_, m⟩ | ⟨_, m⟩
    · exact rp_rT m
    · exact rp_oddT m
  subst eb4
  let rows4 : List (PySem.Str × Bool) := [fst, (cnt x4, !isI y4)]
  let h6 : Heap := h5 ++ [.lst (rows4.map rD)]
  have G13 : exec (callI T (k + 8)) T.get (d47.body.getD 13 .never) (e47 p (some (.bl !nW y1)) (some (.bl !nW y2)) (some (.loc q)) (some (.lst badN)) (some (.bl !isNums y3)) (some (rD fst)) (some (.bl !isI y4)) z10 (some y1) (some y2) (some y3) (some y4)) h5 = some (.ok (.nx (e47 p (some (.bl !nW y1)) (some (.bl !nW y2)) (some (.loc h5.length)) (some (.lst badN)) (some (.bl !isNums y3)) (some (rD fst)) (some (.bl !isI y4)) z10 (some y1) (some y2) (some y3) (some y4))) h6) :=
    asg_st (A := .alloc (.lst [(.var 8), (.tup [(.bin .add (.c (.str (S "count "))) (.b1 .repr (.var 14))), (.var 9)])])) (ev_alloc (evs_var rfl (evs_cons (ev_cnt rfl rp4) (ev_varb rfl) evs_nil)) (by simp))
  -- what the third row tells
  obtain ⟨rows5, G14, q13', okr5, hl5⟩ : ∃ rows5 : List (PySem.Str × Bool), exec (callI T (k + 8)) T.get (d47.body.getD 14 .never) (e47 p (some (.bl !nW y1)) (some (.bl !nW y2)) (some (.loc h5.length)) (some (.lst badN)) (some (.bl !isNums y3)) (some (rD fst)) (some (.bl !isI y4)) z10 (some y1) (some y2) (some y3) (some y4)) h6 =
      some (.ok (.nx (e47 p (some (.bl !nW y1)) (some (.bl !nW y2)) (some (.loc h5.length)) (some (.lst badN)) (some (.bl !isNums y3)) (some (rD fst)) (some (.bl !isI y4)) z10 (some y1) (some y2) (some y3) (some y4))) (h5 ++ [.lst (rows5.map rD)])) ∧
      (∀ h, metM m0 (callI T (k + 8) 13 [y3, y4] h) = said (firstW rows5) h) ∧ (∀ r ∈ rows5, okS r.1 = true) ∧ rows5.length ≤ 100 := by
    have okr4 : ∀ r ∈ rows4, okS r.1 = true := fun r hr => by
      simp only [rows4, List.mem_cons, List.not_mem_nil, or_false] at hr
      rcases hr with rfl | rfl
      · exact ok_op
      · exact ok_cnt rp4
    have keep : ∀ b, (!isNums y3 || !isI y4) = true → exec (callI T (k + 8)) T.get (.if_ (.and (.not (.var 7)) (.not (.var 9))) b []) (e47 p (some (.bl !nW y1)) (some (.bl !nW y2)) (some (.loc h5.length)) (some (.lst badN)) (some (.bl !isNums y3)) (some (rD fst)) (some (.bl !isI y4)) z10 (some y1) (some y2) (some y3) (some y4)) h6 =
        some (.ok (.nx (e47 p (some (.bl !nW y1)) (some (.bl !nW y2)) (some (.loc h5.length)) (some (.lst badN)) (some (.bl !isNums y3)) (some (rD fst)) (some (.bl !isI y4)) z10 (some y1) (some y2) (some y3) (some y4))) h6) := fun b hb => by
      cases c1 : isNums y3 with
      | false => simp
      | true =>
        cases c2 : isI y4 with
        | false => simp
        | true => rw [c1, c2] at hb; cases hb
    cases c1 : isNums y3 with
    | false =>
      refine ⟨rows4, ?_, fun h => ?_, okr4, by simp [rows4]⟩
      · have := keep app14 (by rw [c1]; rfl)
        rw [c1] at this
        exact this
      · rw [q13bad (k + 4) y3 y4 h py3 c1]
        simp [rows4, fst, c1, firstW]
    | true =>
      cases c2 : isI y4 with
      | false =>
        refine ⟨rows4, ?_, fun h => ?_, okr4, by simp [rows4]⟩
        · have := keep app14 (by rw [c1, c2]; rfl)
          rw [c1, c2] at this
          exact this
        · rw [q13odd (k + 4) y3 y4 h py3 py4 c1 c2 rp4]
          simp [rows4, fst, c1, c2, firstW]
      | true =>
        obtain ⟨t, rfl⟩ := isI_int c2
        obtain ⟨l, hl, rfl⟩ : ∃ l ∈ rSl, y3 = .tup (l.map .int) := by
          rcases m3 with ⟨_, m⟩ | ⟨z, m⟩
          · exact rS_of m
          · rw [c1] at z; cases z
        obtain ⟨sm, po⟩ := rS_small hl
        refine ⟨rows4 ++ [(S "operation", !decide (0 ≤ t ∧ t < l.sum))], ?_, fun h => ?_, fun r hr => ?_, by simp [rows4]⟩
        · show exec _ _ (.if_ (.and (.not (.var 7)) (.not (.var 9))) [.expr (.meth .append (.var 5) [(.tup [(.c (.str (S "operation"))), (.not (.cmp2 .le .lt (.c (.int 0)) (.var 14) (.bi .sum (.of (.var 13)))))])])] []) _ _ = _
          have es := sum_ev (Φ := callI T (k + 8)) (G := T.get) (g := e47 p (some (.bl !nW y1)) (some (.bl !nW y2)) (some (.loc h5.length)) (some (.lst badN)) (some (.bl !true)) (some (rD fst)) (some (.bl !true)) z10 (some y1) (some y2) (some (.tup (l.map .int))) (some (.int t))) (h := h6) (i := 13) (j := 14) (l := l) (t := t) rfl rfl
          have ev := evs_cons (Φ := callI T (k + 8)) (G := T.get) (w := S "operation") ev_op es evs_nil
          have ap : exec (callI T (k + 8)) T.get (.expr (.meth .append (.var 5) [(.tup [(.c (.str (S "operation"))), (.not (.cmp2 .le .lt (.c (.int 0)) (.var 14) (.bi .sum (.of (.var 13)))))])])) (e47 p (some (.bl !nW y1)) (some (.bl !nW y2)) (some (.loc h5.length)) (some (.lst badN)) (some (.bl !true)) (some (rD fst)) (some (.bl !true)) z10 (some y1) (some y2) (some (.tup (l.map .int))) (some (.int t))) h6 =
              some (.ok (.nx (e47 p (some (.bl !nW y1)) (some (.bl !nW y2)) (some (.loc h5.length)) (some (.lst badN)) (some (.bl !true)) (some (rD fst)) (some (.bl !true)) z10 (some y1) (some y2) (some (.tup (l.map .int))) (some (.int t)))) (h5 ++ [.lst ((rows4 ++ [(S "operation", !decide (0 ≤ t ∧ t < l.sum))]).map rD)])) := by
            have e1 : eval (callI T (k + 8)) T.get (.var 5) (e47 p (some (.bl !nW y1)) (some (.bl !nW y2)) (some (.loc h5.length)) (some (.lst badN)) (some (.bl !true)) (some (rD fst)) (some (.bl !true)) z10 (some y1) (some y2) (some (.tup (l.map .int))) (some (.int t))) h6 = some (.ok (.v (.loc h5.length)) h6) := by simp
            have e6 : h6[h5.length]? = some (.lst (rows4.map rD)) := get_end _ _
            have l6 : (rows4.map rD).length < 16777216 := by simp [rows4]
            have e7 : eval (callI T (k + 8)) T.get (.meth .append (.var 5) [(.tup [(.c (.str (S "operation"))), (.not (.cmp2 .le .lt (.c (.int 0)) (.var 14) (.bi .sum (.of (.var 13)))))])]) (e47 p (some (.bl !nW y1)) (some (.bl !nW y2)) (some (.loc h5.length)) (some (.lst badN)) (some (.bl !true)) (some (rD fst)) (some (.bl !true)) z10 (some y1) (some y2) (some (.tup (l.map .int))) (some (.int t))) h6 =
                some (.ok (.v .non) (h5 ++ [.lst ((rows4 ++ [(S "operation", !decide (0 ≤ t ∧ t < l.sum))]).map rD)])) := by
              rw [eval, e1, bd_ok, R.frz_v, if_pos (by simp [e6]), ev, bd_ok]
              have l7 : (rows4.map rD).length < lim := l6
              simp only [meth, e6]
              rw [if_pos l7]
              simp [h6]
            simp only [exec]
            rw [e7]
            rfl
          have et : exec (callI T (k + 8)) T.get (.if_ (.and (.not (.var 7)) (.not (.var 9))) [.expr (.meth .append (.var 5) [(.tup [(.c (.str (S "operation"))), (.not (.cmp2 .le .lt (.c (.int 0)) (.var 14) (.bi .sum (.of (.var 13)))))])])] []) (e47 p (some (.bl !nW y1)) (some (.bl !nW y2)) (some (.loc h5.length)) (some (.lst badN)) (some (.bl !true)) (some (rD fst)) (some (.bl !true)) z10 (some y1) (some y2) (some (.tup (l.map .int))) (some (.int t))) h6 =
              execs (callI T (k + 8)) T.get [.expr (.meth .append (.var 5) [(.tup [(.c (.str (S "operation"))), (.not (.cmp2 .le .lt (.c (.int 0)) (.var 14) (.bi .sum (.of (.var 13)))))])])] (e47 p (some (.bl !nW y1)) (some (.bl !nW y2)) (some (.loc h5.length)) (some (.lst badN)) (some (.bl !true)) (some (rD fst)) (some (.bl !true)) z10 (some y1) (some y2) (some (.tup (l.map .int))) (some (.int t))) h6 := by
            have ec : eval (callI T (k + 8)) T.get (.and (.not (.var 7)) (.not (.var 9))) (e47 p (some (.bl !nW y1)) (some (.bl !nW y2)) (some (.loc h5.length)) (some (.lst badN)) (some (.bl !true)) (some (rD fst)) (some (.bl !true)) z10 (some y1) (some y2) (some (.tup (l.map .int))) (some (.int t))) h6 = some (.ok (.v (.bl true)) h6) := by simp
            rw [exec, ec]
            rfl
          rw [et, execs, ap]
          rfl
        · rw [q13 (k + 4) l t h sm po]
          simp [rows4, fst, c1, c2, firstW]
        · rcases List.mem_append.mp hr with z | z
          · exact okr4 r z
          · rw [List.mem_singleton.mp z]
            exact ok_op
  let h7 : Heap := h5 ++ [.lst (rows5.map rD)]
  have G15 : exec (callI T (k + 8)) T.get (d47.body.getD 15 .never) (e47 p (some (.bl !nW y1)) (some (.bl !nW y2)) (some (.loc h5.length)) (some (.lst badN)) (some (.bl !isNums y3)) (some (rD fst)) (some (.bl !isI y4)) z10 (some y1) (some y2) (some y3) (some y4)) h7 = some (.ok (.nx (e47 p (some (.bl !nW y1)) (some (.bl !nW y2)) (some (.loc h5.length)) (some (.lst badN)) (some (.bl !isNums y3)) (some (rD fst)) (some (.bl !isI y4)) z10 (some y1) (some y2) (some y3) (some y4))) h7) :=
    if_same (ev_met2 rfl rfl (q13' h7)) (ev_46 (r := .v (.loc h5.length)) (by simp) (p46p (k + 7) h5.length rows5 h7 (get_end _ _) okr5 hl5)) (first_ok rows5 okr5)
  have G16 : exec (callI T (k + 8)) T.get (d47.body.getD 16 .never) (e47 p (some (.bl !nW y1)) (some (.bl !nW y2)) (some (.loc h5.length)) (some (.lst badN)) (some (.bl !isNums y3)) (some (rD fst)) (some (.bl !isI y4)) z10 (some y1) (some y2) (some y3) (some y4)) h7 = some (.ok (.rt (.v (.bl true))) h7) := by
    refine ret_same (w := S "operation") ?_ (by simp) ok_op
    have e2 : eval (callI T (k + 8)) T.get (.call 13 [(.tup [(.c (.int 3)), (.neg (.c (.int 1))), (.c (.int 5))]), (.c (.int 2))]) (e47 p (some (.bl !nW y1)) (some (.bl !nW y2)) (some (.loc h5.length)) (some (.lst badN)) (some (.bl !isNums y3)) (some (rD fst)) (some (.bl !isI y4)) z10 (some y1) (some y2) (some y3) (some y4)) h7 = callI T (k + 8) 13 [.tup [.int 3, .int (-1), .int 5], .int 2] h7 := by simp
    show metM m0 (eval _ _ _ _ _) = _
    rw [e2]
    exact q13neg (k + 4) h7
  obtain ⟨h8, e8, d8⟩ := dice_back hp d5
  refine ⟨h8, ?_, d8.mono (by omega)⟩
  rw [call_of t47 rfl]
  show endI h (execs _ _ (d47.body.drop 0) [some (.loc p), none, none, none, none, none, none, none, none, none, none, none, none, none, none] h) = _
  rw [execs_at 0 (by decide) G0, execs_at 1 (by decide) G1, execs_at 2 (by decide) G2]
  show endI h (execs _ _ (d47.body.drop 3) [some (.loc p), some (.int MOSTN), some (.lst oddN), some (.bl !nW y1), none, none, none, none, none, none, none, some y1, none, none, none] h1) = _
  rw [execs_at 3 (by decide) G3]
  show endI h (execs _ _ (d47.body.drop 4) [some (.loc p), some (.int MOSTN), some (.lst oddN), some (.bl !nW y1), some (.bl !nW y2), none, none, none, none, none, none, some y1, some y2, none, none] h2) = _
  rw [execs_at 4 (by decide) G4, execs_at 5 (by decide) G5, execs_at 6 (by decide) G6, execs_at 7 (by decide) G7, execs_at 8 (by decide) G8]
  show endI h (execs _ _ (d47.body.drop 9) (e47 p (some (.bl !nW y1)) (some (.bl !nW y2)) (some (.loc q)) (some (.lst badN)) (some (.bl !isNums y3)) none none none (some y1) (some y2) (some y3) none) h4) = _
  rw [execs_at 9 (by decide) G9, execs_at 10 (by decide) G10, execs_at 11 (by decide) G11, execs_at 12 (by decide) G12]
  show endI h (execs _ _ (d47.body.drop 13) (e47 p (some (.bl !nW y1)) (some (.bl !nW y2)) (some (.loc q)) (some (.lst badN)) (some (.bl !isNums y3)) (some (rD fst)) (some (.bl !isI y4)) z10 (some y1) (some y2) (some y3) (some y4)) h5) = _
  rw [execs_at 13 (by decide) G13, execs_at 14 (by decide) G14, execs_at 15 (by decide) G15, execs_rt 16 (by decide) G16, endI_rt]
  have o : OldOk h h7 := by
    show OldOk h (h5 ++ _)
    rw [e8]
    exact oldOk_trans_app (oldOk_trans_app (d.oldOk d8))
  rw [gc_v2 o rfl rfl]
  have ht : h7.take h.length = h8 := by
    show (h5 ++ _).take h.length = _
    rw [e8, d.len, ← d8.len, List.append_assoc, List.take_left]
  rw [ht]
end K03

/-! What is met of the functions of lots. -/
namespace K03
open MP

theorem p30many (k : Nat) (l : List D) (h : Heap) (hl : 5000 < l.length) : callI T (k + 1) 30 [.tup l] h = some (.exc (xMany (.int 5000)) h) := by
  rw [call_of t30 rfl]
  have b : (5000 : Int) < l.length := by omega
  simp [d30, g1, b, xMany]
abbrev two (a b : D) : List (PySem.Str × Bool) := [(S "operation", !isLot a), (S "operation", !isLot b)]
theorem two_ok {a b : D} : ∀ r ∈ two a b, okS r.1 = true := fun r hr => by
  simp only [two, List.mem_cons, List.not_mem_nil, or_false] at hr
  rcases hr with rfl | rfl <;> exact ok_op
theorem two_bad {a b : D} (h : ¬ (isLot a = true ∧ isLot b = true)) : firstW (two a b) = S "operation" := by
  cases c : isLot a with
  | false => simp [two, firstW, c]
  | true =>
    cases c2 : isLot b with
    | false => simp [two, firstW, c, c2]
    | true => exact absurd ⟨c, c2⟩ h
theorem two_good {a b : D} (h1 : isLot a = true) (h2 : isLot b = true) : firstW (two a b) = S "none" := by simp [two, firstW, h1, h2]
-- lots that are few cells
def Few (a : D) : Prop := ∀ c, In (lotOf a) c → 0 ≤ c ∧ c < 1000
theorem few_len {a : D} (h : Few a) {f : List (Int × Int)} (l : Lot f) (hf : ∀ c, In f c → In (lotOf a) c) : f.length ≤ 1000 := by
  have := l.len (lo := 0) (hi := 1000) (by omega) (l.bounds fun c hc => h c (hf c hc))
  omega
theorem few_near {a : D} (h : Few a) : Near 0 (lotOf a) := fun c hc => by
  have := h c hc
  omega
theorem sp_app (ps qs : List (Int × Int)) : D.tup (sp (ps ++ qs)) = .tup (sp ps ++ sp qs) := by simp [sp]
theorem q32bad (k : Nat) (a b : D) (h : Heap) (pa : pln a = true) (pb : pln b = true) (hn : ¬ (isLot a = true ∧ isLot b = true)) : metM m0 (callI T (k + 8) 32 [a, b] h) = said (firstW (two a b)) h := by
  have e : callI T (k + 8) 32 [a, b] h = some (.exc xOp h) := by
    rw [call_of t32 rfl]
    simp [d32, p28 k a b h pa pb, hn]
  rw [e, m_op, two_bad hn]
theorem s32 (k : Nat) (ps qs : List (Int × Int)) (h : Heap) (hp : LotB ps) (hq : LotB qs) : callI T (k + 8) 32 [.tup (sp ps), .tup (sp qs)] h = if (leanS (ps ++ qs)).length ≤ 5000 then some (.ok (.v (.tup (sp (leanS (ps ++ qs))))) h) else some (.exc (xMany (.int 5000)) h) := by
  rw [call_of t32 rfl]
  have f1 := hp.few
  have f2 := hq.few
  have a := s17 (k + 5) (ps ++ qs) h (by simp; omega)
  have c : ps.length + qs.length ≤ 16777216 := by omega
  have rq := s28 k ps qs h hp hq
  by_cases hl : (leanS (ps ++ qs)).length ≤ 5000
  · have b := s30 (k + 6) (sp (leanS (ps ++ qs))) h (by simpa using hl) (cl_sp _ _)
    simp only [sp, List.map_append] at a b rq
    simp [d32, rq, c, a, b, hl]
    exact gc_tup (cl_sp _ _)
  · have b := p30many (k + 6) (sp (leanS (ps ++ qs))) h (by simp; omega)
    simp only [sp, List.map_append] at a b rq
    simp [d32, rq, c, a, b, hl]
theorem q32 (k : Nat) (a b : D) (h : Heap) (pa : pln a = true) (pb : pln b = true) (hl : isLot a = true → isLot b = true → (leanS (lotOf a ++ lotOf b)).length ≤ 5000) : metM m0 (callI T (k + 8) 32 [a, b] h) = said (firstW (two a b)) h := by
  by_cases hn : isLot a = true ∧ isLot b = true
  · obtain ⟨ea, la⟩ := isLot_ok hn.1
    obtain ⟨eb, lb⟩ := isLot_ok hn.2
    rw [ea, eb, s32 k _ _ h la lb, if_pos (hl hn.1 hn.2), m_ok, ← ea, ← eb, two_good hn.1 hn.2]
  · exact q32bad k a b h pa pb hn
theorem q33 (k : Nat) (a b : D) (h : Heap) (pa : pln a = true) (pb : pln b = true) (fa : isLot a = true → Few a) : metM m0 (callI T (k + 8) 33 [a, b] h) = said (firstW (two a b)) h := by
  by_cases hn : isLot a = true ∧ isLot b = true
  · obtain ⟨ea, la⟩ := isLot_ok hn.1
    obtain ⟨eb, lb⟩ := isLot_ok hn.2
    obtain ⟨f, e, l, t⟩ := s18 (k + 5) (lotOf a) (lotOf b) h la.toLot lb.toLot la.few lb.few
    have hl := few_len (fa hn.1) l fun c hc => ((t c).mp hc).1
    have b2 := s30 (k + 6) (sp f) h (by simp; omega) (cl_sp _ _)
    have rq := s28 k (lotOf a) (lotOf b) h la lb
    have e2 : callI T (k + 8) 33 [.tup (sp (lotOf a)), .tup (sp (lotOf b))] h = some (.ok (.v (.tup (sp f))) h) := by
      rw [call_of t33 rfl]
      simp [d33, rq, e, b2]
      exact gc_tup (cl_sp _ _)
    rw [ea, eb, e2, m_ok, ← ea, ← eb, two_good hn.1 hn.2]
  · have e : callI T (k + 8) 33 [a, b] h = some (.exc xOp h) := by
      rw [call_of t33 rfl]
      simp [d33, p28 k a b h pa pb, hn]
    rw [e, m_op, two_bad hn]
theorem s34 (k : Nat) (ps qs : List (Int × Int)) (h : Heap) (lo : Int) (hp : LotB ps) (hq : LotB qs) (hn : Near lo ps) : ∃ f, Lot f ∧ (∀ c, In f c ↔ In ps c ∧ ¬ In qs c) ∧ (f.length ≤ 5000 → callI T (k + 8) 34 [.tup (sp ps), .tup (sp qs)] h = some (.ok (.v (.tup (sp f))) h)) := by
  obtain ⟨f, e, l, t⟩ := s19 (k + 5) ps qs h lo hp.toLot hq.toLot hn hq.few
  refine ⟨f, l, t, fun hl => ?_⟩
  have b2 := s30 (k + 6) (sp f) h (by simpa using hl) (cl_sp _ _)
  rw [call_of t34 rfl]
  simp [d34, s28 k ps qs h hp hq, e, b2]
  exact gc_tup (cl_sp _ _)
theorem q34 (k : Nat) (a b : D) (h : Heap) (pa : pln a = true) (pb : pln b = true) (fa : isLot a = true → Few a) : metM m0 (callI T (k + 8) 34 [a, b] h) = said (firstW (two a b)) h := by
  by_cases hn : isLot a = true ∧ isLot b = true
  · obtain ⟨ea, la⟩ := isLot_ok hn.1
    obtain ⟨eb, lb⟩ := isLot_ok hn.2
    obtain ⟨f, l, t, e⟩ := s34 k (lotOf a) (lotOf b) h 0 la lb (few_near (fa hn.1))
    have hl := few_len (fa hn.1) l fun c hc => ((t c).mp hc).1
    rw [ea, eb, e (by omega), m_ok, ← ea, ← eb, two_good hn.1 hn.2]
  · have e : callI T (k + 8) 34 [a, b] h = some (.exc xOp h) := by
      rw [call_of t34 rfl]
      simp [d34, p28 k a b h pa pb, hn]
    rw [e, m_op, two_bad hn]
theorem q35 (k : Nat) (a b : D) (h : Heap) (pa : pln a = true) (pb : pln b = true) : metM m0 (callI T (k + 8) 35 [a, b] h) = said (firstW (two a b)) h := by
  by_cases hn : isLot a = true ∧ isLot b = true
  · obtain ⟨ea, la⟩ := isLot_ok hn.1
    obtain ⟨eb, lb⟩ := isLot_ok hn.2
    obtain ⟨f, e, l, t⟩ := s18 (k + 5) (lotOf a) (lotOf b) h la.toLot lb.toLot la.few lb.few
    have e2 : callI T (k + 8) 35 [.tup (sp (lotOf a)), .tup (sp (lotOf b))] h = some (.ok (.v (.bl (decide (f = [])))) h) := by
      rw [call_of t35 rfl]
      have hd := dok_sp 58 f
      have he := eqD_sp f []
      simp only [sp, List.map_nil] at hd he
      simp [d35, s28 k (lotOf a) (lotOf b) h la lb, e, look, hd, he]
      exact gc_bl _ _
    rw [ea, eb, e2, m_ok, ← ea, ← eb, two_good hn.1 hn.2]
  · have e : callI T (k + 8) 35 [a, b] h = some (.exc xOp h) := by
      rw [call_of t35 rfl]
      simp [d35, p28 k a b h pa pb, hn]
    rw [e, m_op, two_bad hn]
-- pairs
theorem q41 (k : Nat) (a b : D) (h : Heap) (pa : pln a = true) (pb : pln b = true) (fa : isLot a = true → Few a) (n2 : isLot b = true → (lotOf b).length ≤ 1000) :
    metM m0 (callI T (k + 8) 41 [a, b] h) = said (firstW [(S "operation", !isLot a), (S "operation", !isLot b), (S "operation", isLot a && (isLot b && !decide (size (lotOf a) = size (lotOf b))))]) h := by
  by_cases hn : isLot a = true ∧ isLot b = true
  · obtain ⟨ea, la⟩ := isLot_ok hn.1
    obtain ⟨eb, lb⟩ := isLot_ok hn.2
    have n1 := few_len (fa hn.1) la.toLot fun c hc => hc
    by_cases hs : size (lotOf a) = size (lotOf b)
    · have lp := cells_len (ps := lotOf a) fun p h => Int.le_of_lt (la.pos p h)
      have lq := cells_len (ps := lotOf b) fun p h => Int.le_of_lt (lb.pos p h)
      have hl' : (cells (lotOf a)).length = (cells (lotOf b)).length := by
        unfold size at hs
        omega
      obtain ⟨f, e, _, _, c⟩ := s25 (k + 6) (lotOf a) (lotOf b) h la.toLot lb.toLot (by omega) (by have := n2 hn.2; omega) hl'
      have d := s30l (k + 6) (ts f) h (by simp; omega) (cl_ts _ _)
      have e2 : callI T (k + 8) 41 [.tup (sp (lotOf a)), .tup (sp (lotOf b))] h = some (.ok (.v (.tup (ts f))) h) := by
        rw [call_of t41 rfl]
        simp [d41, s28 k (lotOf a) (lotOf b) h la lb, s20 (k + 6) (lotOf a) h la.few, s20 (k + 6) (lotOf b) h lb.few, hs, look, e, d]
        exact gc_tup (cl_ts _ _)
      rw [ea, eb, e2, m_ok, ← ea, ← eb]
      simp [firstW, hn.1, hn.2, hs]
    · have e2 : callI T (k + 8) 41 [.tup (sp (lotOf a)), .tup (sp (lotOf b))] h = some (.exc xOp h) := by
        rw [call_of t41 rfl]
        simp [d41, s28 k (lotOf a) (lotOf b) h la lb, s20 (k + 6) (lotOf a) h la.few, s20 (k + 6) (lotOf b) h lb.few, hs, look, xOp]
      rw [ea, eb, e2, m_op, ← ea, ← eb]
      simp [firstW, hn.1, hn.2, hs]
  · have e : callI T (k + 8) 41 [a, b] h = some (.exc xOp h) := by
      rw [call_of t41 rfl]
      simp [d41, p28 k a b h pa pb, hn]
    rw [e, m_op]
    cases c : isLot a with
    | false => simp [firstW]
    | true =>
      cases c2 : isLot b with
      | false => simp [firstW]
      | true => exact absurd ⟨c, c2⟩ hn
end K03

/-! What is met of the functions of a lot and a number. -/
namespace K03
open MP

theorem q36 (k : Nat) (a : D) (h : Heap) (pa : pln a = true) : metM m0 (callI T (k + 7) 36 [a] h) = said (firstW [(S "operation", !isLot a)]) h := by
  cases c : isLot a with
  | false =>
    have e : callI T (k + 7) 36 [a] h = some (.exc xOp h) := by
      rw [call_of t36 rfl]
      simp [d36, p27 k a h pa, c]
    rw [e, m_op]
    rfl
  | true =>
    obtain ⟨ea, la⟩ := isLot_ok c
    have e : callI T (k + 7) 36 [.tup (sp (lotOf a))] h = some (.ok (.v (.int (size (lotOf a)))) h) := by
      rw [call_of t36 rfl]
      simp [d36, s27 k (lotOf a) h la, s20 (k + 5) (lotOf a) h la.few]
      exact gc_int _ _
    rw [ea, e, m_ok]
    rfl
theorem q37 (k : Nat) (a v : D) (h : Heap) (pa : pln a = true) (pv : pln v = true) {x : PySem.Str} (r : Rp v x) : metM m0 (callI T (k + 7) 37 [a, v] h) = said (firstW [(S "operation", !isLot a), (cnt x, !wi v 0 MOST)]) h := by
  cases c : isLot a with
  | false =>
    have e : callI T (k + 7) 37 [a, v] h = some (.exc xOp h) := by
      rw [call_of t37 rfl]
      simp [d37, p27 k a h pa, c]
    rw [e, m_op]
    rfl
  | true =>
    obtain ⟨ea, la⟩ := isLot_ok c
    cases c2 : wi v 0 MOST with
    | false =>
      have e : callI T (k + 7) 37 [a, v] h = some (.exc (xCt v) h) := by
        rw [call_of t37 rfl]
        simp [d37, p27 k a h pa, c, p29 (k + 3) v h pv, c2]
      rw [e, m_ct v h r]
      rfl
    | true =>
      obtain ⟨i, rfl, i1, i2⟩ := wi_int c2
      have e : callI T (k + 7) 37 [.tup (sp (lotOf a)), .int i] h = some (.ok (.v (.bl (decide (In (lotOf a) i)))) h) := by
        rw [call_of t37 rfl]
        simp [d37, s27 k (lotOf a) h la, s29 (k + 3) i h i1 i2, s22 (k + 5) (lotOf a) i h la.few]
        exact gc_bl _ _
      rw [ea, e, m_ok]
      rfl
theorem q38 (k : Nat) (a v : D) (h : Heap) (pa : pln a = true) (pv : pln v = true) {x : PySem.Str} (r : Rp v x) : metM m0 (callI T (k + 7) 38 [a, v] h) = said (firstW [(S "operation", !isLot a), (cnt x, !wi v 0 MOST)]) h := by
  cases c : isLot a with
  | false =>
    have e : callI T (k + 7) 38 [a, v] h = some (.exc xOp h) := by
      rw [call_of t38 rfl]
      simp [d38, p27 k a h pa, c]
    rw [e, m_op]
    rfl
  | true =>
    obtain ⟨ea, la⟩ := isLot_ok c
    cases c2 : wi v 0 MOST with
    | false =>
      have e : callI T (k + 7) 38 [a, v] h = some (.exc (xCt v) h) := by
        rw [call_of t38 rfl]
        simp [d38, p27 k a h pa, c, p29 (k + 3) v h pv, c2]
      rw [e, m_ct v h r]
      rfl
    | true =>
      obtain ⟨i, rfl, i1, i2⟩ := wi_int c2
      have e : callI T (k + 7) 38 [.tup (sp (lotOf a)), .int i] h = some (.ok (.v (.int (rk (lotOf a) i))) h) := by
        rw [call_of t38 rfl]
        simp [d38, s27 k (lotOf a) h la, s29 (k + 3) i h i1 i2, s21 (k + 5) (lotOf a) i h la.few]
        exact gc_int _ _
      rw [ea, e, m_ok]
      rfl
theorem cell_some {ps : List (Int × Int)} (l : Lot ps) {i : Int} (h0 : 0 ≤ i) (h1 : i < size ps) : ∃ c, cellAt ps i = some c := by
  have hp : ∀ p ∈ ps, 0 ≤ p.2 := fun p h => Int.le_of_lt (l.pos p h)
  rw [cellAt_cells hp h0]
  have := cells_len hp
  have hi : i.toNat < (cells ps).length := by
    unfold size at h1
    omega
  exact ⟨_, List.getElem?_eq_getElem hi⟩
theorem q39 (k : Nat) (a v : D) (h : Heap) (pa : pln a = true) (pv : pln v = true) {x : PySem.Str} (r : Rp v x) {b : Bool} (hb : isLot a = true → b = !wi v 0 (size (lotOf a) - 1)) : metM m0 (callI T (k + 7) 39 [a, v] h) = said (firstW [(S "operation", !isLot a), (cnt x, b)]) h := by
  cases c : isLot a with
  | false =>
    have e : callI T (k + 7) 39 [a, v] h = some (.exc xOp h) := by
      rw [call_of t39 rfl]
      simp [d39, p27 k a h pa, c]
    rw [e, m_op]
    rfl
  | true =>
    obtain ⟨ea, la⟩ := isLot_ok c
    have hb := hb c
    subst hb
    generalize hps : lotOf a = ps at ea la
    cases c2 : wi v 0 (size ps - 1) with
    | false =>
      have e : callI T (k + 7) 39 [.tup (sp ps), v] h = some (.exc (xCt v) h) := by
        rw [call_of t39 rfl]
        simp [d39, s27 k ps h la, s20 (k + 5) ps h la.few, p1 (k + 4) v _ _ h pv, c2, xCt]
      rw [ea, e, m_ct v h r]
      simp [firstW]
    | true =>
      obtain ⟨i, rfl, i1, i2⟩ := wi_int c2
      obtain ⟨z, hz⟩ := cell_some la.toLot i1 (by omega)
      have e : callI T (k + 7) 39 [.tup (sp ps), .int i] h = some (.ok (.v (.int z)) h) := by
        rw [call_of t39 rfl]
        have bb : 0 ≤ i ∧ i ≤ size ps - 1 := ⟨i1, i2⟩
        simp [d39, s27 k ps h la, s20 (k + 5) ps h la.few, s1, bb, s23 (k + 5) ps i z h hz]
        exact gc_int _ _
      rw [ea, e, m_ok]
      simp [firstW]
theorem q40 (k : Nat) (a v : D) (h : Heap) (pa : pln a = true) (pv : pln v = true) {x : PySem.Str} (r : Rp v x) {b : Bool} (hb : isLot a = true → b = !wi v 0 (size (lotOf a))) : metM m0 (callI T (k + 7) 40 [a, v] h) = said (firstW [(S "operation", !isLot a), (cnt x, b)]) h := by
  cases c : isLot a with
  | false =>
    have e : callI T (k + 7) 40 [a, v] h = some (.exc xOp h) := by
      rw [call_of t40 rfl]
      simp [d40, p27 k a h pa, c]
    rw [e, m_op]
    rfl
  | true =>
    obtain ⟨ea, la⟩ := isLot_ok c
    have hb := hb c
    subst hb
    generalize hps : lotOf a = ps at ea la
    cases c2 : wi v 0 (size ps) with
    | false =>
      have e : callI T (k + 7) 40 [.tup (sp ps), v] h = some (.exc (xCt v) h) := by
        rw [call_of t40 rfl]
        simp [d40, s27 k ps h la, s20 (k + 5) ps h la.few, p1 (k + 4) v _ _ h pv, c2, xCt]
      rw [ea, e, m_ct v h r]
      simp [firstW]
    | true =>
      obtain ⟨i, rfl, i1, i2⟩ := wi_int c2
      have e : callI T (k + 7) 40 [.tup (sp ps), .int i] h = some (.ok (.v (.tup (sp (firstC ps i)))) h) := by
        rw [call_of t40 rfl]
        have bb : 0 ≤ i ∧ i ≤ size ps := ⟨i1, i2⟩
        simp [d40, s27 k ps h la, s20 (k + 5) ps h la.few, s1, bb, s24 (k + 5) ps i h la.few]
        exact gc_tup (cl_sp _ _)
      rw [ea, e, m_ok]
      simp [firstW]
theorem q31 (k : Nat) (a : D) (h : Heap) (pa : pln a = true) : metM m0 (callI T (k + 5) 31 [a] h) = said (firstW [(S "operation", !isSpans a)]) h := by
  cases c : isSpans a with
  | false =>
    have e : callI T (k + 5) 31 [a] h = some (.exc xOp h) := by
      rw [call_of t31 rfl]
      simp [d31, p16 k a h pa, c, xOp]
    rw [e, m_op]
    rfl
  | true =>
    obtain ⟨ps, rfl, hp, hl⟩ := isSpans_ok c
    have e : callI T (k + 5) 31 [.tup (sp ps)] h = some (.ok (.v (.tup (sp (leanS ps)))) h) := by
      rw [call_of t31 rfl]
      simp [d31, s16 k ps h hp hl, s17 (k + 2) ps h (by omega)]
      exact gc_tup (cl_sp _ _)
    rw [e, m_ok]
    rfl
theorem s49 (k : Nat) (ps : List (Int × Int)) (h : Heap) (hl : ps.length ≤ 5000) : callI T (k + 1) 49 [.tup (sp ps)] h = some (.ok (.v (.int (size ps))) h) := by
  have e : callI T (k + 1) 49 [.tup (sp ps)] h = callI T (k + 1) 20 [.tup (sp ps)] h := by
    rw [call_of t49 rfl, call_of t20 rfl]
    rfl
  rw [e]
  exact s20 k ps h hl
end K03

/-! The law's second half: lots: its values. -/
namespace K03
open MP

def rL1 : List D := [.tup [], .tup [.tup [.int 2, .int 3]], .tup [.tup [.int 0, .int 1], .tup [.int 5, .int 2]]]
def rL2 : List D := [.tup [.tup [.int 1, .int 3]], .tup [.tup [.int 0, .int MOST]]]
def oddA : List D := [.non, .int 0, .lst [.tup [.int 0, .int 1]], .tup [.tup [.int 0, .int 0]], .tup [.tup [.int (-1), .int 2]], .tup [.tup [.int 0, .int 2], .tup [.int 2, .int 1]], .tup [.tup [.int 3, .int 1], .tup [.int 0, .int 1]], .tup [.tup [.int 0]], .tup [.tup [.bl true, .int 1]], .dic [] []]
def oddL : List D := oddA ++ [.tup [.tup [.int MOST, .int 1]]]
def rC : List D := [.int 0, .int 4, .int MOST]
def oddC : List D := [.int (-1), .int (MOST + 1), .non, .bl true, .str (S "0")]
def badS : List D := [.non, .lst [.tup [.int 0, .int 1]], .tup [.tup [.int 0, .int 0]], .tup [.tup [.int (-1), .int 1]], .tup [.tup [.int 0]], .tup [.tup [.int MOST, .int 1]], .tup [.tup [.int 0, .bl true]], .int 5, .tup [.tup [.int 0, .int 1, .int 1]]]
def rSp : List D := [.tup [], .tup [.tup [.int 5, .int 2], .tup [.int 0, .int 9], .tup [.int 5, .int 2]], .tup [.tup [.int (MOST - 1), .int 1]]]
def wI (m : Int) : List D := [.int (-1), .int (m + 1), .non, .bl true, .str (S "0")]
theorem pl_rL1 : plnL rL1 = true := by decide +kernel
theorem pl_rL2 : plnL rL2 = true := by decide +kernel
theorem pl_oddL : plnL oddL = true := by decide +kernel
theorem pl_rC : plnL rC = true := by decide +kernel
theorem pl_oddC : plnL oddC = true := by decide +kernel
theorem pl_badS : plnL badS = true := by decide +kernel
theorem pl_rSp : plnL rSp = true := by decide +kernel
theorem pl_wI (m : Int) : plnL (wI m) = true := rfl
theorem yes_rL1 : (rL1.all fun y => isLot y) = true := by decide +kernel
theorem yes_rL2 : (rL2.all fun y => isLot y) = true := by decide +kernel
theorem no_oddL : (oddL.all fun y => !isLot y) = true := by decide +kernel
theorem yes_rC : (rC.all fun y => wi y 0 MOST) = true := by decide +kernel
theorem no_oddC : (oddC.all fun y => !wi y 0 MOST) = true := by decide +kernel
theorem yes_rSp : (rSp.all fun y => isSpans y) = true := by decide +kernel
theorem no_badS : (badS.all fun y => !isSpans y) = true := by decide +kernel
theorem flag {f : D → Bool} {b : Bool} {y : D} {l m : List D} (yes : (l.all fun y => f y) = true) (no : (m.all fun y => !f y) = true) (h : (b = false ∧ y ∈ l) ∨ (b = true ∧ y ∈ m)) : b = !f y := by
  rcases h with ⟨rfl, h⟩ | ⟨rfl, h⟩
  · rw [of_all yes h]
    rfl
  · exact (of_all no h).symm
theorem in_right {f : D → Bool} {b : Bool} {y : D} {l m : List D} (no : (m.all fun y => !f y) = true) (h : (b = false ∧ y ∈ l) ∨ (b = true ∧ y ∈ m)) (hy : f y = true) : y ∈ l := by
  rcases h with ⟨_, h⟩ | ⟨_, h⟩
  · exact h
  · have := of_all no h
    rw [hy] at this
    cases this
theorem rp_0 : Rp (.str (S "0")) (S "'0'") := ⟨by decide +kernel, by decide +kernel, by decide +kernel⟩
theorem rp_rC {y : D} (hy : y ∈ rC) : ∃ x, Rp y x := by
  simp only [rC, List.mem_cons, List.not_mem_nil, or_false] at hy
  rcases hy with rfl | rfl | rfl <;> exact rp_int _ (by decide +kernel)
theorem rp_oddC {y : D} (hy : y ∈ oddC) : ∃ x, Rp y x := by
  simp only [oddC, List.mem_cons, List.not_mem_nil, or_false] at hy
  rcases hy with rfl | rfl | rfl | rfl | rfl
  · exact rp_int _ (by decide +kernel)
  · exact rp_int _ (by decide +kernel)
  · exact ⟨_, rp_non⟩
  · exact ⟨_, rp_true⟩
  · exact ⟨_, rp_0⟩
theorem small_log {i : Int} (h1 : -100 ≤ i) (h2 : i ≤ 100) : i.natAbs.log2 < 1000 := by
  by_cases z : i.natAbs = 0
  · rw [z]
    decide
  · rw [Nat.log2_lt z]
    have : 100 < 2 ^ 1000 := by decide +kernel
    omega
theorem rp_wI {m : Int} (h1 : -10 ≤ m) (h2 : m ≤ 10) {y : D} (hy : y ∈ wI m) : ∃ x, Rp y x := by
  simp only [wI, List.mem_cons, List.not_mem_nil, or_false] at hy
  rcases hy with rfl | rfl | rfl | rfl | rfl
  · exact rp_int _ (by decide +kernel)
  · exact rp_int _ (small_log (by omega) (by omega))
  · exact ⟨_, rp_non⟩
  · exact ⟨_, rp_true⟩
  · exact ⟨_, rp_0⟩
-- right lots are few cells
theorem rL1_few {a : D} (h : a ∈ rL1) : Few a ∧ (lotOf a).length ≤ 2 ∧ 0 ≤ size (lotOf a) ∧ size (lotOf a) ≤ 3 := by
  simp only [rL1, List.mem_cons, List.not_mem_nil, or_false] at h
  rcases h with rfl | rfl | rfl
  · exact ⟨fun c hc => (in_nil.mp hc).elim, by decide, by decide, by decide⟩
  · refine ⟨fun c hc => ?_, by decide, by decide, by decide⟩
    have hc : In [(2, 3)] c := hc
    have := in_one.mp hc
    omega
  · refine ⟨fun c hc => ?_, by decide, by decide, by decide⟩
    have hc : In [(0, 1), (5, 2)] c := hc
    rcases in_cons.mp hc with z | z
    · omega
    · have := in_one.mp z
      omega
theorem rL2_len {a : D} (h : a ∈ rL2) : (lotOf a).length ≤ 1 := by
  simp only [rL2, List.mem_cons, List.not_mem_nil, or_false] at h
  rcases h with rfl | rfl <;> decide
theorem ins_len {α : Type} (le : α → α → Bool) (x : α) : ∀ l : List α, (insBy le x l).length = l.length + 1
  | [] => rfl
  | y :: l => by
    unfold insBy
    split
    · rfl
    · simp [ins_len le x l]
theorem sort_len {α : Type} (le : α → α → Bool) : ∀ l : List α, (sortBy le l).length = l.length
  | [] => rfl
  | x :: l => by
    unfold sortBy
    rw [ins_len, sort_len le l]
    rfl
theorem leanS_len (ps : List (Int × Int)) : (leanS ps).length ≤ ps.length := by
  unfold leanS
  have := foldS_len (sortBy leP ps) []
  rw [sort_len] at this
  simpa using this
def lt0 (v : D) : Bool := match v with
  | .int j => decide (j < 0)
  | _ => false
-- whether an index is wrong
theorem ix_flag {b : Bool} {y : D} {m : Int} (h : (b = false ∧ y = .int m) ∨ (b = true ∧ y ∈ wI m)) : (b || lt0 y) = !wi y 0 m := by
  rcases h with ⟨rfl, rfl⟩ | ⟨rfl, h⟩
  · simp only [lt0, wi, Bool.false_or]
    by_cases hm : m < 0
    · simp [hm]
    · simp [hm]
      omega
  · simp only [wI, List.mem_cons, List.not_mem_nil, or_false] at h
    rcases h with rfl | rfl | rfl | rfl | rfl
    · simp [wi]
    · simp [wi]
      omega
    · rfl
    · rfl
    · rfl
end K03

/-! The law's second half: lots: its statements. -/
namespace K03
open MP

abbrev e48 (p q : Nat) (v2 v3 v4 v5 v6 v7 v8 v9 v10 v11 v12 v13 v14 v15 v16 v17 v18 v19 : Option D) : Env := [some (.loc p), some (.loc q), v2, v3, v4, v5, v6, v7, v8, v9, v10, v11, v12, v13, v14, v15, v16, v17, v18, v19]
theorem pow_ok : powOk 10 61 = true := by decide +kernel
theorem pow_is : (10 : Int) ^ (61 : Int).toNat = MOST := by decide +kernel
section
variable {Φ : Nat → List D → Heap → Res R} {G : Nat → Option D} {g : Env} {h : Heap}
theorem p61 : eval Φ G (.bin .pow (.c (.int 10)) (.c (.int 61))) g h = some (.ok (.v (.int MOST)) h) := by
  simp only [eval, bd_ok, R.frz_v, bin, if_pos pow_ok]
  rw [pow_is]
theorem evs_c {A : E} {es : List E} {r : R} {ds : List D} (eA : eval Φ G A g h = some (.ok r h)) (e : evals Φ G es g h = some (.ok ds h)) : evals Φ G (A :: es) g h = some (.ok (r.frz :: ds) h) := by simp only [evals, eA, e, bd_ok]
theorem ev_tup {es : List E} {ds : List D} (e : evals Φ G es g h = some (.ok ds h)) (hl : ds.length ≤ 100 := by decide) : eval Φ G (.tup es) g h = some (.ok (.v (.tup ds)) h) := by
  have : ds.length ≤ 16777216 := by omega
  simp [e, this]
theorem ev_c (d : D) : eval Φ G (.c d) g h = some (.ok (.v d) h) := rfl
theorem evs_op {i : Nat} {b : Bool} {es : List E} {ds : List D} (e0 : g[i]? = some (some (.bl b))) (e : evals Φ G es g h = some (.ok ds h)) : evals Φ G (.tup [.c (.str (S "operation")), .var i] :: es) g h = some (.ok (rD (S "operation", b) :: ds) h) := evs_cons ev_op (ev_varb e0) e
end
-- 0
theorem st48_0 (k p : Nat) (h : Heap) : exec (callI T (k + 8)) T.get (d48.body.getD 0 .never) (some (.loc p) :: List.replicate 19 none) h = some (.ok (.nx (e48 p h.length none none none none none none none none none none none none none none none none none none)) (h ++ [.lst oddA])) := by
  show exec _ _ (.asg (.slot 1) (.alloc (.lst [(.c .non), (.c (.int 0)), (.lst [(.tup [(.c (.int 0)), (.c (.int 1))])]), (.tup [(.tup [(.c (.int 0)), (.c (.int 0))])]), (.tup [(.tup [(.neg (.c (.int 1))), (.c (.int 2))])]), (.tup [(.tup [(.c (.int 0)), (.c (.int 2))]), (.tup [(.c (.int 2)), (.c (.int 1))])]), (.tup [(.tup [(.c (.int 3)), (.c (.int 1))]), (.tup [(.c (.int 0)), (.c (.int 1))])]), (.tup [(.tup [(.c (.int 0))])]), (.tup [(.tup [(.c (.bl true)), (.c (.int 1))])]), .dct]))) _ _ = _
  exact asg_st (r := .v (.loc h.length)) (ev_alloc (by simp [oddA]) (by decide))
-- 1
theorem st48_1 (k p : Nat) (h : Heap) : exec (callI T (k + 8)) T.get (d48.body.getD 1 .never) (e48 p h.length none none none none none none none none none none none none none none none none none none) (h ++ [.lst oddA]) = some (.ok (.nx (e48 p h.length none none none none none none none none none none none none none none none none none none)) (h ++ [.lst oddL])) := by
  show exec _ _ (.expr (.meth .append (.var 1) [(.tup [(.tup [(.bin .pow (.c (.int 10)) (.c (.int 61))), (.c (.int 1))])])])) _ _ = _
  have e1 : eval (callI T (k + 8)) T.get (.var 1) (e48 p h.length none none none none none none none none none none none none none none none none none none) (h ++ [.lst oddA]) = some (.ok (.v (.loc h.length)) (h ++ [.lst oddA])) := by simp
  have e6 : (h ++ [O.lst oddA])[h.length]? = some (.lst oddA) := get_end _ _
  have ev := evs_c (Φ := callI T (k + 8)) (G := T.get) (g := e48 p h.length none none none none none none none none none none none none none none none none none none) (h := h ++ [.lst oddA]) (ev_tup (evs_c (ev_tup (evs_c p61 (evs_c (ev_c (.int 1)) evs_nil))) evs_nil)) evs_nil
  have e7 : eval (callI T (k + 8)) T.get (.meth .append (.var 1) [(.tup [(.tup [(.bin .pow (.c (.int 10)) (.c (.int 61))), (.c (.int 1))])])]) (e48 p h.length none none none none none none none none none none none none none none none none none none) (h ++ [.lst oddA]) = some (.ok (.v .non) (h ++ [.lst oddL])) := by
    rw [eval, e1, bd_ok, R.frz_v, if_pos (by simp [e6]), ev, bd_ok]
    have l7 : oddA.length < lim := by decide
    simp only [meth, e6]
    rw [if_pos l7]
    simp [oddL]
  simp only [exec]
  rw [e7]
  rfl
-- the ways to call a function of two lots
theorem m_two (k : Nat) (a b : D) (h : Heap) (pa : pln a = true) (pb : pln b = true) (fa : isLot a = true → Few a) (hl : isLot a = true → isLot b = true → (leanS (lotOf a ++ lotOf b)).length ≤ 5000) {f : Nat} (hf : f = 32 ∨ f = 33 ∨ f = 34 ∨ f = 35) : metM m0 (callI T (k + 8) f [a, b] h) = said (firstW (two a b)) h := by
  rcases hf with rfl | rfl | rfl | rfl
  · exact q32 k a b h pa pb hl
  · exact q33 k a b h pa pb fa
  · exact q34 k a b h pa pb fa
  · exact q35 k a b h pa pb
abbrev fnsL : List (PySem.Str × Nat) := [((PySem.Str.ofString "joined"), 32), ((PySem.Str.ofString "shared"), 33), ((PySem.Str.ofString "less"), 34), ((PySem.Str.ofString "are_apart"), 35), ((PySem.Str.ofString "holds"), 37), ((PySem.Str.ofString "rank"), 38), ((PySem.Str.ofString "cell_at"), 39), ((PySem.Str.ofString "first_cells"), 40)]
-- 5
theorem st48_5 (k p q : Nat) (a b : D) (h : Heap) (pa : pln a = true) (pb : pln b = true) (fa : isLot a = true → Few a) (hl : isLot a = true → isLot b = true → (leanS (lotOf a ++ lotOf b)).length ≤ 5000) :
    ∃ z, exec (callI T (k + 8)) T.get (d48.body.getD 5 .never) (e48 p q (some (.bl !isLot a)) (some (.bl !isLot b)) (some (rD (S "operation", !isLot a))) (some (rD (S "operation", !isLot b))) none none none none none none none none none none none (some a) (some b) none) h = some (.ok (.nx (e48 p q (some (.bl !isLot a)) (some (.bl !isLot b)) (some (rD (S "operation", !isLot a))) (some (rD (S "operation", !isLot b))) none none none none none none none none z none none (some a) (some b) none)) h) := by
  let En : Option D → Env := fun z => e48 p q (some (.bl !isLot a)) (some (.bl !isLot b)) (some (rD (S "operation", !isLot a))) (some (rD (S "operation", !isLot b))) none none none none none none none none z none none (some a) (some b) none
  let xs : List D := [.fn (S "joined"), .fn (S "shared"), .fn (S "less"), .fn (S "are_apart")]
  have it : items (callI T (k + 8)) T.get (.of (.tup [(.fn (S "joined")), (.fn (S "shared")), (.fn (S "less")), (.fn (S "are_apart"))])) (En none) h = some (.ok (xs, none) h) := by simp [xs]
  obtain ⟨g', eL, z, rfl⟩ := for_keep (f := forF (.slot 14) (execs (callI T (k + 8)) T.get b48_1)) (h := h) (l := xs) (fun g => ∃ z, g = En z) xs (En none) ⟨none, rfl⟩ (by
    rintro x hx g ⟨z, rfl⟩
    refine ⟨En (some x), ?_, some x, rfl⟩
    have eB : ∀ x, eval (callI T (k + 8)) T.get (.call 46 [.lst [.var 4, .var 5]]) (En x) h = said (firstW (two a b)) h := fun x =>
      ev_46 (ev_lst (evs_var rfl (evs_var rfl evs_nil)) (by simp)) (p46l (k + 7) (two a b) h two_ok (by simp))
    have w := fun {f} hf => m_two k a b h pa pb fa hl (f := f) hf
    simp only [xs, List.mem_cons, List.not_mem_nil, or_false] at hx
    rcases hx with rfl | rfl | rfl | rfl
    · exact turn_one (if_same (ev_metv2 (y := S "joined") (f := 32) rfl (by decide +kernel) rfl rfl (w (.inl rfl))) (eB _) (first_ok _ two_ok))
    · exact turn_one (if_same (ev_metv2 (y := S "shared") (f := 33) rfl (by decide +kernel) rfl rfl (w (.inr (.inl rfl)))) (eB _) (first_ok _ two_ok))
    · exact turn_one (if_same (ev_metv2 (y := S "less") (f := 34) rfl (by decide +kernel) rfl rfl (w (.inr (.inr (.inl rfl))))) (eB _) (first_ok _ two_ok))
    · exact turn_one (if_same (ev_metv2 (y := S "are_apart") (f := 35) rfl (by decide +kernel) rfl rfl (w (.inr (.inr (.inr rfl))))) (eB _) (first_ok _ two_ok)))
  refine ⟨z, ?_⟩
  show exec _ _ (.for_ (.slot 14) (.of (.tup [(.fn (S "joined")), (.fn (S "shared")), (.fn (S "less")), (.fn (S "are_apart"))])) b48_1) (En none) _ = _
  simp only [exec]
  rw [it, bd_ok]
  exact eL
-- 6
abbrev unl (a b : D) : Bool := isLot a && (isLot b && !decide (size (lotOf a) = size (lotOf b)))
theorem st48_6 (k p q : Nat) (a b : D) (h : Heap) (z : Option D) :
    exec (callI T (k + 8)) T.get (d48.body.getD 6 .never) (e48 p q (some (.bl !isLot a)) (some (.bl !isLot b)) (some (rD (S "operation", !isLot a))) (some (rD (S "operation", !isLot b))) none none none none none none none none z none none (some a) (some b) none) h = some (.ok (.nx (e48 p q (some (.bl !isLot a)) (some (.bl !isLot b)) (some (rD (S "operation", !isLot a))) (some (rD (S "operation", !isLot b))) (some (rD (S "operation", unl a b))) none none none none none none none z none none (some a) (some b) none)) h) := by
  show exec _ _ (.asg (.slot 6) (.tup [(.c (.str (S "operation"))), (.and (.not (.var 2)) (.and (.not (.var 3)) (.cmp .ne (.call 49 [(.var 17)]) (.call 49 [(.var 18)]))))])) _ _ = _
  cases c : isLot a with
  | false => simp [unl, c]
  | true =>
    cases c2 : isLot b with
    | false => simp [unl, c, c2]
    | true =>
      obtain ⟨ea, la⟩ := isLot_ok c
      obtain ⟨eb, lb⟩ := isLot_ok c2
      have s1 := s49 (k + 7) (lotOf a) h la.few
      have s2 := s49 (k + 7) (lotOf b) h lb.few
      rw [← ea] at s1
      rw [← eb] at s2
      simp [unl, c, c2, s1, s2, look]
-- 7, 8
theorem ok_ops {rs : List (PySem.Str × Bool)} (h : (rs.all fun r => okS r.1) = true) : ∀ r ∈ rs, okS r.1 = true := List.all_eq_true.mp h
theorem st48_7 (k p q : Nat) (a b : D) (h : Heap) (z : Option D) (pa : pln a = true) (pb : pln b = true) (fa : isLot a = true → Few a) (n2 : isLot b = true → (lotOf b).length ≤ 1000) :
    exec (callI T (k + 8)) T.get (d48.body.getD 7 .never) (e48 p q (some (.bl !isLot a)) (some (.bl !isLot b)) (some (rD (S "operation", !isLot a))) (some (rD (S "operation", !isLot b))) (some (rD (S "operation", unl a b))) none none none none none none none z none none (some a) (some b) none) h = some (.ok (.nx (e48 p q (some (.bl !isLot a)) (some (.bl !isLot b)) (some (rD (S "operation", !isLot a))) (some (rD (S "operation", !isLot b))) (some (rD (S "operation", unl a b))) none none none none none none none z none none (some a) (some b) none)) h) := by
  have ok : ∀ r ∈ [(S "operation", !isLot a), (S "operation", !isLot b), (S "operation", unl a b)], okS r.1 = true := fun r hr => by
    simp only [List.mem_cons, List.not_mem_nil, or_false] at hr
    rcases hr with rfl | rfl | rfl <;> exact ok_op
  exact if_same (ev_met2 rfl rfl (q41 k a b h pa pb fa n2)) (ev_46 (ev_lst (evs_var rfl (evs_var rfl (evs_var rfl evs_nil))) (by simp)) (p46l (k + 7) _ h ok (by simp))) (first_ok _ ok)
theorem ok_one {b : Bool} : ∀ r ∈ [(S "operation", b)], okS r.1 = true := fun r hr => by
  rw [List.mem_singleton.mp hr]
  exact ok_op
theorem st48_8 (k p q : Nat) (a : D) (h : Heap) (v2 v3 v5 v6 z v18 : Option D) (pa : pln a = true) :
    exec (callI T (k + 8)) T.get (d48.body.getD 8 .never) (e48 p q v2 v3 (some (rD (S "operation", !isLot a))) v5 v6 none none none none none none none z none none (some a) v18 none) h = some (.ok (.nx (e48 p q v2 v3 (some (rD (S "operation", !isLot a))) v5 v6 none none none none none none none z none none (some a) v18 none)) h) :=
  if_same (ev_met1 rfl (q36 (k + 1) a h pa)) (ev_46 (ev_lst (evs_var rfl evs_nil) (by simp)) (p46l (k + 7) _ h ok_one (by simp))) (first_ok _ ok_one)
-- 10
abbrev cel (a : D) (x : PySem.Str) (b : Bool) : List (PySem.Str × Bool) := [(S "operation", !isLot a), (cnt x, b)]
theorem cel_ok {a v : D} {x : PySem.Str} {b : Bool} (r : Rp v x) : ∀ r ∈ cel a x b, okS r.1 = true := fun y hy => by
  simp only [cel, List.mem_cons, List.not_mem_nil, or_false] at hy
  rcases hy with rfl | rfl
  · exact ok_op
  · exact ok_cnt r
theorem st48_10 (k p q : Nat) (a v : D) (h : Heap) (v2 v3 v5 v6 z v18 : Option D) (pa : pln a = true) (pv : pln v = true) {x : PySem.Str} (r : Rp v x) :
    ∃ z', exec (callI T (k + 8)) T.get (d48.body.getD 10 .never) (e48 p q v2 v3 (some (rD (S "operation", !isLot a))) v5 v6 (some (.bl !wi v 0 MOST)) none none none none none none z (some v) none (some a) v18 none) h = some (.ok (.nx (e48 p q v2 v3 (some (rD (S "operation", !isLot a))) v5 v6 (some (.bl !wi v 0 MOST)) none none none none none none z' (some v) none (some a) v18 none)) h) := by
  let En : Option D → Env := fun z => e48 p q v2 v3 (some (rD (S "operation", !isLot a))) v5 v6 (some (.bl !wi v 0 MOST)) none none none none none none z (some v) none (some a) v18 none
  let xs : List D := [.fn (S "holds"), .fn (S "rank")]
  have it : items (callI T (k + 8)) T.get (.of (.tup [(.fn (S "holds")), (.fn (S "rank"))])) (En z) h = some (.ok (xs, none) h) := by simp [xs]
  obtain ⟨g', eL, z', rfl⟩ := for_keep (f := forF (.slot 14) (execs (callI T (k + 8)) T.get b48_2)) (h := h) (l := xs) (fun g => ∃ z, g = En z) xs (En z) ⟨z, rfl⟩ (by
    rintro y hy g ⟨z, rfl⟩
    refine ⟨En (some y), ?_, some y, rfl⟩
    have eB : ∀ w, eval (callI T (k + 8)) T.get (.call 46 [.lst [.var 4, .tup [.bin .add (.c (.str (S "count "))) (.b1 .repr (.var 15)), .var 7]]]) (En w) h = said (firstW (cel a x (!wi v 0 MOST))) h := fun w =>
      ev_46 (ev_lst (evs_var rfl (evs_cons (ev_cnt rfl r) (ev_varb rfl) evs_nil)) (by simp)) (p46l (k + 7) (cel a x (!wi v 0 MOST)) h (cel_ok r) (by simp))
    simp only [xs, List.mem_cons, List.not_mem_nil, or_false] at hy
    rcases hy with rfl | rfl
    · exact turn_one (if_same (ev_metv2 (y := S "holds") (f := 37) rfl (by decide +kernel) rfl rfl (q37 (k + 1) a v h pa pv r)) (eB _) (first_ok _ (cel_ok r)))
    · exact turn_one (if_same (ev_metv2 (y := S "rank") (f := 38) rfl (by decide +kernel) rfl rfl (q38 (k + 1) a v h pa pv r)) (eB _) (first_ok _ (cel_ok r))))
  refine ⟨z', ?_⟩
  show exec _ _ (.for_ (.slot 14) (.of (.tup [(.fn (S "holds")), (.fn (S "rank"))])) b48_2) (En z) _ = _
  simp only [exec]
  rw [it, bd_ok]
  exact eL
-- 11
abbrev many (a : D) : Int := if isLot a = true then size (lotOf a) else 0
theorem st48_11 (k p q : Nat) (a : D) (h : Heap) (v3 v4 v5 v6 v7 z v15 v18 : Option D) :
    exec (callI T (k + 8)) T.get (d48.body.getD 11 .never) (e48 p q (some (.bl !isLot a)) v3 v4 v5 v6 v7 none none none none none none z v15 none (some a) v18 none) h = some (.ok (.nx (e48 p q (some (.bl !isLot a)) v3 v4 v5 v6 v7 (some (.int (many a))) none none none none none z v15 none (some a) v18 none)) h) := by
  show exec _ _ (.asg (.slot 8) (.ite (.var 2) (.c (.int 0)) (.call 49 [(.var 17)]))) _ _ = _
  cases c : isLot a with
  | false => simp [many, c]
  | true =>
    obtain ⟨ea, la⟩ := isLot_ok c
    have s1 := s49 (k + 7) (lotOf a) h la.few
    rw [← ea] at s1
    simp [many, c, s1]
end K03

/-! The law's second half: lots: the last loop. -/
namespace K03
open MP

section
variable {Φ : Nat → List D → Heap → Res R} {G : Nat → Option D}
theorem execs_3 {s1 s2 s3 : St} {g g1 g2 g3 : Env} {h h1 h2 h3 : Heap} (e1 : exec Φ G s1 g h = some (.ok (.nx g1) h1)) (e2 : exec Φ G s2 g1 h1 = some (.ok (.nx g2) h2)) (e3 : exec Φ G s3 g2 h2 = some (.ok (.nx g3) h3)) : execs Φ G [s1, s2, s3] g h = some (.ok (.nx g3) h3) := by
  simp [execs, e1, e2, e3]
theorem turn_two {i j : Nat} {ss : List St} {x y : D} {g g' : Env} {h h' : Heap} (e : execs Φ G ss ((g.set i (some x)).set j (some y)) h = some (.ok (.nx g') h')) : forF (.tup [.slot i, .slot j]) (execs Φ G ss) (.tup [x, y]) g h = some (.ok (.nx g') h') := by
  simp [forF, e]
theorem lt0_ev {g : Env} {h : Heap} {i : Nat} {m : Int} (e : g[i]? = some (some (.int m))) : eval Φ G (.cmp .lt (.var i) (.c (.int 0))) g h = some (.ok (.v (.bl (lt0 (.int m)))) h) := by
  simp [e, lt0]
theorem forGo_1 {its : Items} {f : D → Env → Heap → Res Fl} {x : D} {xs : List D} {g g1 : Env} {h h1 : Heap} {r : Res Fl} (e : f x g h = some (.ok (.nx g1) h1)) (st : still its h1 = true) (e2 : forGo its f xs g1 h1 = r) : forGo its f (x :: xs) g h = r := by
  simp [forGo, e, st, e2]
theorem still_n {l : List D} {h : Heap} : still (l, none) h = true := rfl
end
abbrev E3 (p q : Nat) (v2 v3 v4 v5 v6 v7 v8 v15 v17 v18 : Option D) (v9 v10 v11 v14 v16 : Option D) : Env := e48 p q v2 v3 v4 v5 v6 v7 v8 v9 v10 v11 none none v14 v15 v16 v17 v18 none
-- one turn
theorem turn3 (k p q f : Nat) (nm : PySem.Str) (hf : fnsL.lookup nm = some f) (a : D) (m : Int) (hm : -10 ≤ m ∧ m ≤ 10) {h0 h : Heap} {n : Nat} (d : Dice h0 p n h) (hn : (n : Int) < 2 ^ 70) (v2 v3 v5 v6 v7 v8 v15 v18 : Option D) (v9' v10' v11' v14' v16' : Option D)
    (hq : ∀ (v : D) (h : Heap) (x : PySem.Str) (b : Bool), pln v = true → Rp v x → ((isLot a = true → b = !wi v 0 m)) → metM m0 (callI T (k + 8) f [a, v] h) = said (firstW (cel a x b)) h) :
    ∃ v9 v10 v11 v14 v16 h', forF (.tup [.slot 14, .slot 9]) (execs (callI T (k + 8)) T.get b48_3) (.tup [.fn nm, .int m]) (E3 p q v2 v3 (some (rD (S "operation", !isLot a))) v5 v6 v7 v8 v15 (some a) v18 v9' v10' v11' v14' v16') h = some (.ok (.nx (E3 p q v2 v3 (some (rD (S "operation", !isLot a))) v5 v6 v7 v8 v15 (some a) v18 v9 v10 v11 v14 v16)) h') ∧ Dice h0 p (n + 2) h' := by
  obtain ⟨y, b, h1, e1, m1, py, d1⟩ := one_st0 (k + 5) d hn (g := E3 p q v2 v3 (some (rD (S "operation", !isLot a))) v5 v6 v7 v8 v15 (some a) v18 (some (.int m)) v10' v11' (some (.fn nm)) v16') (i := 16) (j := 10) (eR := .var 9) (eW := .lst [(.neg (.c (.int 1))), (.bin .add (.var 9) (.c (.int 1))), (.c .non), (.c (.bl true)), (.c (.str (PySem.Str.ofString "0")))]) (rW := .newL (wI m)) (x := .lst (wI m)) (r := .int m) (lW := wI m)
    rfl (fun h => by simp) rfl (fun h => by simp [wI]) rfl (fun _ _ _ => rfl) (pl_wI m) (by simp [wI]) (by simp [wI])
  obtain ⟨x, r⟩ : ∃ x, Rp y x := by
    rcases m1 with ⟨_, rfl⟩ | ⟨_, z⟩
    · exact rp_int _ (small_log (by omega) (by omega))
    · exact rp_wI hm.1 hm.2 z
  have fl := ix_flag m1
  let rows := cel a x (b || lt0 y)
  have e2 : exec (callI T (k + 8)) T.get (.asg (.slot 11) (.lst [(.var 4), (.tup [(.bin .add (.c (.str (PySem.Str.ofString "count "))) (.b1 .repr (.var 16))), (.or (.var 10) (.cmp .lt (.var 16) (.c (.int 0))))])])) (E3 p q v2 v3 (some (rD (S "operation", !isLot a))) v5 v6 v7 v8 v15 (some a) v18 (some (.int m)) (some (.bl b)) v11' (some (.fn nm)) (some y)) h1 = some (.ok (.nx (E3 p q v2 v3 (some (rD (S "operation", !isLot a))) v5 v6 v7 v8 v15 (some a) v18 (some (.int m)) (some (.bl b)) (some (.lst (rows.map rD))) (some (.fn nm)) (some y))) h1) :=
    asg_st (r := .newL (rows.map rD)) (ev_lst (evs_var rfl (evs_cons (ev_cnt rfl r) (ev_or rfl fun hb => by
      rcases m1 with ⟨_, rfl⟩ | ⟨z, _⟩
      · exact lt0_ev rfl
      · rw [z] at hb; cases hb) evs_nil)) (by simp [rows]))
  have e3 : exec (callI T (k + 8)) T.get (.if_ (.cmp .ne (.met (PySem.Str.ofString "_law_met") m0 (.callv fnsL 14 [(.var 17), (.var 16)])) (.call 46 [(.var 11)])) [.ret (.c (.bl false))] []) (E3 p q v2 v3 (some (rD (S "operation", !isLot a))) v5 v6 v7 v8 v15 (some a) v18 (some (.int m)) (some (.bl b)) (some (.lst (rows.map rD))) (some (.fn nm)) (some y)) h1 = some (.ok (.nx (E3 p q v2 v3 (some (rD (S "operation", !isLot a))) v5 v6 v7 v8 v15 (some a) v18 (some (.int m)) (some (.bl b)) (some (.lst (rows.map rD))) (some (.fn nm)) (some y))) h1) :=
    if_same (ev_metv2 (y := nm) (f := f) rfl hf rfl rfl (hq y h1 x (b || lt0 y) py r fun _ => fl)) (ev_46 (r := .v (.lst (rows.map rD))) (by simp) (p46l (k + 7) rows h1 (cel_ok r) (by simp [rows]))) (first_ok rows (cel_ok r))
  exact ⟨_, _, _, _, _, h1, turn_two (execs_3 e1 e2 e3), d1⟩
theorem st48_12 (k p q : Nat) (a : D) (hm : isLot a = true → 0 ≤ size (lotOf a) ∧ size (lotOf a) ≤ 3) (pa : pln a = true) {h0 h : Heap} {n : Nat} (d : Dice h0 p n h) (hn : (n : Int) < 2 ^ 60) (v2 v3 v5 v6 v7 v15 v18 v14 : Option D) :
    ∃ v9 v10 v11 v14' v16 h', exec (callI T (k + 8)) T.get (d48.body.getD 12 .never) (E3 p q v2 v3 (some (rD (S "operation", !isLot a))) v5 v6 v7 (some (.int (many a))) v15 (some a) v18 none none none v14 none) h = some (.ok (.nx (E3 p q v2 v3 (some (rD (S "operation", !isLot a))) v5 v6 v7 (some (.int (many a))) v15 (some a) v18 v9 v10 v11 v14' v16)) h') ∧ Dice h0 p (n + 4) h' := by
  have bm : 0 ≤ many a ∧ many a ≤ 3 := by
    unfold many
    split
    · rename_i c
      exact hm c
    · exact ⟨by decide, by decide⟩
  have em : isLot a = true → many a = size (lotOf a) := fun c => by simp [many, c]
  obtain ⟨a9, a10, a11, a14, a16, h1, f1, d1⟩ := turn3 k p q 39 (S "cell_at") (by decide +kernel) a (many a - 1) (by omega) d (by omega) v2 v3 v5 v6 v7 (some (.int (many a))) v15 v18 none none none v14 none fun v h x b pv r hb => q39 (k + 1) a v h pa pv r fun c => by rw [hb c, em c]
  obtain ⟨b9, b10, b11, b14, b16, h2, f2, d2⟩ := turn3 k p q 40 (S "first_cells") (by decide +kernel) a (many a) (by omega) d1 (by omega) v2 v3 v5 v6 v7 (some (.int (many a))) v15 v18 a9 a10 a11 a14 a16 fun v h x b pv r hb => q40 (k + 1) a v h pa pv r fun c => by rw [hb c, em c]
  refine ⟨b9, b10, b11, b14, b16, h2, ?_, d2⟩
  show exec _ _ (.for_ (.tup [(.slot 14), (.slot 9)]) (.of (.tup [(.tup [(.fn (PySem.Str.ofString "cell_at")), (.bin .sub (.var 8) (.c (.int 1)))]), (.tup [(.fn (PySem.Str.ofString "first_cells")), (.var 8)])])) b48_3) _ _ = _
  have it : items (callI T (k + 8)) T.get (.of (.tup [(.tup [(.fn (PySem.Str.ofString "cell_at")), (.bin .sub (.var 8) (.c (.int 1)))]), (.tup [(.fn (PySem.Str.ofString "first_cells")), (.var 8)])])) (E3 p q v2 v3 (some (rD (S "operation", !isLot a))) v5 v6 v7 (some (.int (many a))) v15 (some a) v18 none none none v14 none) h = some (.ok ([.tup [.fn (S "cell_at"), .int (many a - 1)], .tup [.fn (S "first_cells"), .int (many a)]], none) h) := by simp
  simp only [exec]
  rw [it, bd_ok]
  exact forGo_1 f1 still_n (forGo_1 f2 still_n rfl)
end K03

/-! The law's second half: lots. -/
namespace K03
open MP

theorem seq_q {h0 : Heap} {p : Nat} {l : List D} (hp : p < h0.length) : ∀ m h', Dice (h0 ++ [.lst l]) p m h' → seqOf h' (.loc h0.length) = some l := fun m h' d => by
  have e := d.old h0.length (by omega)
  rw [get_end] at e
  show (match h'[h0.length]? with | some (.lst l) => some l | _ => none) = _
  rw [e]
theorem s48 (k : Nat) {h0 h : Heap} {p n : Nat} (hp : p < h0.length) (d : Dice h0 p n h) (hn : (n : Int) < 2 ^ 58) : ∃ h', callI T (k + 9) 48 [.loc p] h = some (.ok (.v (.bl true)) h') ∧ Dice h0 p (n + 100) h' := by
  have G0 := st48_0 k p h
  have G1 := st48_1 k p h
  have dq := dice_app d (.lst oddL)
  have hq : h.length = h0.length := d.len
  generalize hgq : h.length = q at G0 G1 hq
  have sq : ∀ m h', Dice (h0 ++ [.lst oddL]) p m h' → seqOf h' (.loc q) = some oddL := hq ▸ seq_q hp
  obtain ⟨a, b1, h1, G2, m1, pa, d1⟩ := one_st (k + 5) dq (by omega) (g := e48 p q none none none none none none none none none none none none none none none none none none) (i := 17) (j := 2)
    (eR := .lst [(.tup []), (.tup [(.tup [(.c (.int 2)), (.c (.int 3))])]), (.tup [(.tup [(.c (.int 0)), (.c (.int 1))]), (.tup [(.c (.int 5)), (.c (.int 2))])])]) (eW := .var 1) (rR := .newL rL1) (rW := .v (.loc q)) (x := .loc q) (lR := rL1) (lW := oddL) rfl (fun h => by simp [rL1]) rfl (fun h => by simp) rfl sq pl_rL1 pl_oddL (by decide) (by decide) (by decide) (by decide)
  obtain ⟨b, b2, h2, G3, m2, pb, d2⟩ := one_st (k + 5) d1 (by omega) (g := e48 p q (some (.bl b1)) none none none none none none none none none none none none none none (some a) none none) (i := 18) (j := 3)
    (eR := .lst [(.tup [(.tup [(.c (.int 1)), (.c (.int 3))])]), (.tup [(.tup [(.c (.int 0)), (.bin .pow (.c (.int 10)) (.c (.int 61)))])])]) (eW := .var 1) (rR := .newL rL2) (rW := .v (.loc q)) (x := .loc q) (lR := rL2) (lW := oddL) rfl (fun h => by simp [rL2, ↓p61]) rfl (fun h => by simp) rfl sq pl_rL2 pl_oddL (by decide) (by decide) (by decide) (by decide)
  have eb1 := flag yes_rL1 no_oddL m1
  have eb2 := flag yes_rL2 no_oddL m2
  subst eb1 eb2
  have fa : isLot a = true → Few a ∧ (lotOf a).length ≤ 2 ∧ 0 ≤ size (lotOf a) ∧ size (lotOf a) ≤ 3 := fun c => rL1_few (in_right no_oddL m1 c)
  have fb : isLot b = true → (lotOf b).length ≤ 1 := fun c => rL2_len (in_right no_oddL m2 c)
  have G4 : exec (callI T (k + 8)) T.get (d48.body.getD 4 .never) (e48 p q (some (.bl !isLot a)) (some (.bl !isLot b)) none none none none none none none none none none none none none (some a) (some b) none) h2 = some (.ok (.nx (e48 p q (some (.bl !isLot a)) (some (.bl !isLot b)) (some (rD (S "operation", !isLot a))) (some (rD (S "operation", !isLot b))) none none none none none none none none none none none (some a) (some b) none)) h2) := by
    show exec _ _ (.par [4, 5] [(.tup [(.c (.str (PySem.Str.ofString "operation"))), (.var 2)]), (.tup [(.c (.str (PySem.Str.ofString "operation"))), (.var 3)])]) _ _ = _
    simp
  obtain ⟨z5, G5⟩ := st48_5 k p q a b h2 pa pb (fun c => (fa c).1) fun c c2 => by
    have l := leanS_len (lotOf a ++ lotOf b)
    rw [List.length_append] at l
    have l1 := (fa c).2.1
    have l2 := fb c2
    omega
  have G6 := st48_6 k p q a b h2 z5
  have G7 := st48_7 k p q a b h2 z5 pa pb (fun c => (fa c).1) fun c => by have := fb c; omega
  have G8 := st48_8 k p q a h2 (some (.bl !isLot a)) (some (.bl !isLot b)) (some (rD (S "operation", !isLot b))) (some (rD (S "operation", unl a b))) z5 (some b) pa
  obtain ⟨v, b3, h3, G9, m3, pv, d3⟩ := one_st (k + 5) d2 (by omega) (g := e48 p q (some (.bl !isLot a)) (some (.bl !isLot b)) (some (rD (S "operation", !isLot a))) (some (rD (S "operation", !isLot b))) (some (rD (S "operation", unl a b))) none none none none none none none z5 none none (some a) (some b) none) (i := 15) (j := 7)
    (eR := .lst [(.c (.int 0)), (.c (.int 4)), (.bin .pow (.c (.int 10)) (.c (.int 61)))]) (eW := .lst [(.neg (.c (.int 1))), (.bin .add (.bin .pow (.c (.int 10)) (.c (.int 61))) (.c (.int 1))), (.c .non), (.c (.bl true)), (.c (.str (PySem.Str.ofString "0")))]) (rR := .newL rC) (rW := .newL oddC) (x := .lst oddC) (lR := rC) (lW := oddC) rfl (fun h => by simp [rC, ↓p61]) rfl (fun h => by simp [oddC, ↓p61]) rfl (fun _ _ _ => rfl) pl_rC pl_oddC (by decide) (by decide) (by decide) (by decide)
  have eb3 := flag yes_rC no_oddC m3
  subst eb3
  obtain ⟨x3, rp3⟩ : ∃ x, Rp v x := by
    rcases m3 with ⟨_, m⟩ | ⟨_, m⟩
    · exact rp_rC m
    · exact rp_oddC m
  obtain ⟨z10, G10⟩ := st48_10 k p q a v h3 (some (.bl !isLot a)) (some (.bl !isLot b)) (some (rD (S "operation", !isLot b))) (some (rD (S "operation", unl a b))) z5 (some b) pa pv rp3
  have G11 := st48_11 k p q a h3 (some (.bl !isLot b)) (some (rD (S "operation", !isLot a))) (some (rD (S "operation", !isLot b))) (some (rD (S "operation", unl a b))) (some (.bl !wi v 0 MOST)) z10 (some v) (some b)
  obtain ⟨w9, w10, w11, w14, w16, h4, G12, d4⟩ := st48_12 k p q a (fun c => (fa c).2.2) pa d3 (by omega) (some (.bl !isLot a)) (some (.bl !isLot b)) (some (rD (S "operation", !isLot b))) (some (rD (S "operation", unl a b))) (some (.bl !wi v 0 MOST)) (some v) (some b) z10
  let En : Option D → Option D → Option D → Env := fun v12 v13 v19 => e48 p q (some (.bl !isLot a)) (some (.bl !isLot b)) (some (rD (S "operation", !isLot a))) (some (rD (S "operation", !isLot b))) (some (rD (S "operation", unl a b))) (some (.bl !wi v 0 MOST)) (some (.int (many a))) w9 w10 w11 v12 v13 w14 (some v) w16 (some a) (some b) v19
  have G13 : exec (callI T (k + 8)) T.get (d48.body.getD 13 .never) (En none none none) h4 = some (.ok (.nx (En (some (.lst badS)) none none)) h4) := by
    show exec _ _ (.asg (.slot 12) (.lst [(.c .non), (.lst [(.tup [(.c (.int 0)), (.c (.int 1))])]), (.tup [(.tup [(.c (.int 0)), (.c (.int 0))])]), (.tup [(.tup [(.neg (.c (.int 1))), (.c (.int 1))])]), (.tup [(.tup [(.c (.int 0))])]), (.tup [(.tup [(.bin .pow (.c (.int 10)) (.c (.int 61))), (.c (.int 1))])]), (.tup [(.tup [(.c (.int 0)), (.c (.bl true))])]), (.c (.int 5)), (.tup [(.tup [(.c (.int 0)), (.c (.int 1)), (.c (.int 1))])])])) _ _ = _
    exact asg_st (r := .newL badS) (by simp [badS, ↓p61])
  obtain ⟨u, b4, h5, G14, m4, pu, d5⟩ := one_st (k + 5) d4 (by omega) (g := En (some (.lst badS)) none none) (i := 19) (j := 13)
    (eR := .lst [(.tup []), (.tup [(.tup [(.c (.int 5)), (.c (.int 2))]), (.tup [(.c (.int 0)), (.c (.int 9))]), (.tup [(.c (.int 5)), (.c (.int 2))])]), (.tup [(.tup [(.bin .sub (.bin .pow (.c (.int 10)) (.c (.int 61))) (.c (.int 1))), (.c (.int 1))])])]) (eW := .var 12) (rR := .newL rSp) (rW := .v (.lst badS)) (x := .lst badS) (lR := rSp) (lW := badS) rfl (fun h => by simp [rSp, ↓p61]) rfl (fun h => by simp [En]) rfl (fun _ _ _ => rfl) pl_rSp pl_badS (by decide) (by decide) (by decide) (by decide)
  have eb4 := flag yes_rSp no_badS m4
  subst eb4
  have G15 : exec (callI T (k + 8)) T.get (d48.body.getD 15 .never) (En (some (.lst badS)) (some (.bl !isSpans u)) (some u)) h5 = some (.ok (.rt (.v (.bl true))) h5) :=
    ret_same (ev_met1 rfl (q31 (k + 3) u h5 pu)) (ev_46 (ev_lst (evs_op rfl evs_nil) (by simp)) (p46l (k + 7) _ h5 ok_one (by simp))) (first_ok _ ok_one)
  obtain ⟨h8, e8, d8⟩ := dice_back hp d5
  refine ⟨h8, ?_, d8.mono (by omega)⟩
  rw [call_of t48 rfl]
  show endI h (execs _ _ (d48.body.drop 0) (some (.loc p) :: List.replicate 19 none) h) = _
  rw [execs_at 0 (by decide) G0, execs_at 1 (by decide) G1, execs_at 2 (by decide) G2]
  show endI h (execs _ _ (d48.body.drop 3) (e48 p q (some (.bl !isLot a)) none none none none none none none none none none none none none none (some a) none none) h1) = _
  rw [execs_at 3 (by decide) G3]
  show endI h (execs _ _ (d48.body.drop 4) (e48 p q (some (.bl !isLot a)) (some (.bl !isLot b)) none none none none none none none none none none none none none (some a) (some b) none) h2) = _
  rw [execs_at 4 (by decide) G4, execs_at 5 (by decide) G5, execs_at 6 (by decide) G6, execs_at 7 (by decide) G7, execs_at 8 (by decide) G8, execs_at 9 (by decide) G9]
  show endI h (execs _ _ (d48.body.drop 10) (e48 p q (some (.bl !isLot a)) (some (.bl !isLot b)) (some (rD (S "operation", !isLot a))) (some (rD (S "operation", !isLot b))) (some (rD (S "operation", unl a b))) (some (.bl !wi v 0 MOST)) none none none none none none z5 (some v) none (some a) (some b) none) h3) = _
  rw [execs_at 10 (by decide) G10, execs_at 11 (by decide) G11, execs_at 12 (by decide) G12]
  show endI h (execs _ _ (d48.body.drop 13) (En none none none) h4) = _
  rw [execs_at 13 (by decide) G13, execs_at 14 (by decide) G14]
  show endI h (execs _ _ (d48.body.drop 15) (En (some (.lst badS)) (some (.bl !isSpans u)) (some u)) h5) = _
  rw [execs_rt 15 (by decide) G15, endI_rt]
  have o : OldOk h h5 := by
    rw [e8]
    exact oldOk_trans_app (d.oldOk d8)
  rw [gc_v2 o rfl rfl]
  have ht : h5.take h.length = h8 := by
    rw [e8, d.len, ← d8.len, List.take_left]
  rw [ht]
end K03

/-! Great lots. -/
namespace K03
open MP

-- n spans of width w, s far from one another, from o on
def comb (s o w : Int) (n : Nat) : List (Int × Int) := (List.range n).map fun (i : Nat) => (s * i + o, w)
theorem comb_len (s o w : Int) (n : Nat) : (comb s o w n).length = n := by simp [comb]
theorem comb_lot {s o w : Int} (hw : 0 < w) (hs : w < s) (n : Nat) : Lot (comb s o w n) := by
  refine ⟨fun p hp => ?_, List.pairwise_map.mpr (List.pairwise_lt_range.imp fun {a b} z => ?_)⟩
  · obtain ⟨i, _, rfl⟩ := List.mem_map.mp hp
    exact hw
  · have h1 : (a : Int) + 1 ≤ b := by omega
    have h2 := Int.mul_le_mul_of_nonneg_left h1 (by omega : 0 ≤ s)
    rw [Int.mul_add, Int.mul_one] at h2
    show s * a + o + w < s * b + o
    omega
theorem in_comb {s o w : Int} {n : Nat} {c : Int} : In (comb s o w n) c ↔ ∃ i : Nat, i < n ∧ s * i + o ≤ c ∧ c < s * i + o + w := by
  unfold In comb
  constructor
  · rintro ⟨p, hp, q⟩
    obtain ⟨i, hi, rfl⟩ := List.mem_map.mp hp
    exact ⟨i, List.mem_range.mp hi, q⟩
  · rintro ⟨i, hi, q⟩
    exact ⟨_, List.mem_map.mpr ⟨i, List.mem_range.mpr hi, rfl⟩, q⟩
def bigL := comb 4 0 1 3000
def bigR := comb 4 2 1 3000
theorem big_b {o : Int} (h0 : 0 ≤ o) (h1 : o ≤ 2) : LotB (comb 4 o 1 3000) := ⟨comb_lot (by decide) (by decide) _, fun p hp => by
  obtain ⟨i, hi, rfl⟩ := List.mem_map.mp hp
  have := List.mem_range.mp hi
  have b : (20000 : Int) < MOST := by decide +kernel
  exact ⟨by simp only; omega, Int.le_refl _, by simp only; omega⟩, by rw [comb_len]; decide⟩
theorem bigL_b : LotB bigL := big_b (by decide) (by decide)
theorem bigR_b : LotB bigR := big_b (by decide) (by decide)
theorem big_join : (leanS (bigL ++ bigR)).length = 6000 := by
  obtain ⟨l, t⟩ := leanS_lot (ps := bigL ++ bigR) fun p hp => by
    rcases List.mem_append.mp hp with z | z
    · exact bigL_b.pos p z
    · exact bigR_b.pos p z
  have e : leanS (bigL ++ bigR) = comb 2 0 1 6000 := Lot.uniq l (comb_lot (by decide) (by decide) _) fun c => by
    rw [t, in_app]
    unfold bigL bigR
    rw [in_comb, in_comb, in_comb]
    constructor
    · rintro (⟨i, h1, h2, h3⟩ | ⟨i, h1, h2, h3⟩)
      · exact ⟨2 * i, by omega, by omega, by omega⟩
      · exact ⟨2 * i + 1, by omega, by omega, by omega⟩
    · rintro ⟨i, h1, h2, h3⟩
      by_cases z : i % 2 = 0
      · exact .inl ⟨i / 2, by omega, by omega, by omega⟩
      · exact .inr ⟨i / 2, by omega, by omega, by omega⟩
  rw [e, comb_len]
theorem one_b : LotB [((0 : Int), (20000 : Int))] := ⟨⟨fun p hp => by
    rw [List.mem_singleton.mp hp]
    decide, by simp⟩, fun p hp => by
    rw [List.mem_singleton.mp hp]
    exact ⟨by decide, by decide, by decide +kernel⟩, by decide⟩
theorem big_less {f : List (Int × Int)} (l : Lot f) (t : ∀ c, In f c ↔ In [((0 : Int), (20000 : Int))] c ∧ ¬ In bigL c) : f.length = 3000 := by
  have lc : Lot (comb 4 1 3 2999 ++ [((11997 : Int), (8003 : Int))]) := (comb_lot (by decide) (by decide) _).snoc (by decide) fun p hp => by
    obtain ⟨i, hi, rfl⟩ := List.mem_map.mp hp
    have := List.mem_range.mp hi
    simp only
    omega
  have e : f = comb 4 1 3 2999 ++ [((11997 : Int), (8003 : Int))] := Lot.uniq l lc fun c => by
    rw [t, in_app, in_one, in_one]
    unfold bigL
    rw [in_comb, in_comb]
    simp only
    constructor
    · rintro ⟨⟨h1, h2⟩, h3⟩
      by_cases z : c < 11997
      · refine .inl ⟨(c / 4).toNat, ?_, ?_, ?_⟩
        · have : ¬ c = 11996 := fun hc => h3 ⟨2999, by omega, by omega, by omega⟩
          omega
        · have : ¬ c % 4 = 0 := fun hc => h3 ⟨(c / 4).toNat, by omega, by omega, by omega⟩
          omega
        · omega
      · exact .inr ⟨by omega, by omega⟩
    · rintro (⟨i, h1, h2, h3⟩ | ⟨h1, h2⟩)
      · refine ⟨⟨by omega, by omega⟩, ?_⟩
        rintro ⟨j, j1, j2, j3⟩
        omega
      · refine ⟨⟨by omega, by omega⟩, ?_⟩
        rintro ⟨j, j1, j2, j3⟩
        omega
  rw [e, List.length_append, comb_len]
  rfl
theorem q32big (k : Nat) (h : Heap) : metM m0 (callI T (k + 8) 32 [.tup (sp bigL), .tup (sp bigR)] h) = said (S "many 5000") h := by
  rw [s32 k _ _ h bigL_b bigR_b, big_join, if_neg (by decide), m_many]
theorem q34big (k : Nat) (h : Heap) : metM m0 (callI T (k + 8) 34 [.tup [.tup [.int 0, .int 20000]], .tup (sp bigL)] h) = said (S "none") h := by
  obtain ⟨f, l, t, e⟩ := s34 k [((0 : Int), (20000 : Int))] bigL h 0 one_b bigL_b fun c hc => by
    have := in_one.mp hc
    simp only at this
    omega
  have hf := big_less l t
  have e := e (by omega)
  have e2 : callI T (k + 8) 34 [.tup [.tup [.int 0, .int 20000]], .tup (sp bigL)] h = _ := e
  rw [e2, m_ok]
theorem q31big (k : Nat) (h : Heap) : metM m0 (callI T (k + 5) 31 [.tup (List.replicate 5001 (.tup [.int 0, .int 1]))] h) = said (S "operation") h := by
  have p : pln (.tup (List.replicate 5001 (.tup [.int 0, .int 1]))) = true := by decide +kernel
  have n : isSpans (.tup (List.replicate 5001 (.tup [.int 0, .int 1]))) = false := by simp [isSpans]
  rw [q31 k _ h p, n]
  rfl
end K03

/-! The law. -/
namespace K03
open MP

theorem rg_at {m : Int} {i : Nat} {x : D} (h : (rangeD 0 m)[i]? = some x) : x = .int i ∧ i < m.toNat := by
  unfold rangeD at h
  rw [List.getElem?_map] at h
  cases c : (List.range (m - 0).toNat)[i]? with
  | none => rw [c] at h; cases h
  | some a =>
    rw [c] at h
    obtain ⟨hl, ha⟩ := List.getElem?_eq_some_iff.mp c
    simp at hl ha h
    subst ha
    exact ⟨h.symm, by omega⟩
abbrev e50 (ns : List Int) (v1 v2 v3 v4 v5 v6 : Option D) : Env := [some (.scr (ns.map .int)), v1, v2, v3, v4, v5, v6, none]
theorem turn_ok (k : Nat) (ns : List Int) {h0 : Heap} {p : Nat} (hp : p < h0.length) (x : D) (z0 : Option D) (d : Dice h0 p 0 h0) :
    ∃ z h', forGo (rangeD 0 2, none) (forF (.slot 3) (execs (callI T (k + 9)) T.get b50_1)) (rangeD 0 2) (e50 ns (some x) (some (.loc p)) z0 none none none) h0 = some (.ok (.nx (e50 ns (some x) (some (.loc p)) z none none none)) h') := by
  obtain ⟨g', h', e, ⟨z, rfl⟩, _⟩ := forGo_go (its := (rangeD 0 2, none)) (f := forF (.slot 3) (execs (callI T (k + 9)) T.get b50_1)) (g := e50 ns (some x) (some (.loc p)) z0 none none none) (h := h0)
    (fun i g h => (∃ z, g = e50 ns (some x) (some (.loc p)) z none none none) ∧ Dice h0 p (200 * i) h) ⟨⟨z0, rfl⟩, d⟩ (by
      rintro i y g h hx ⟨⟨z, rfl⟩, d⟩
      obtain ⟨rfl, hi⟩ := rg_at hx
      have hi3 : i < 2 := by simpa using hi
      obtain ⟨h1, e1, d1⟩ := s47 k hp d (by omega)
      obtain ⟨h2, e2, d2⟩ := s48 k hp d1 (by omega)
      exact ⟨e50 ns (some x) (some (.loc p)) (some (.int i)) none none none, h2, by simp [forF, b50_1, e1, e2], still_none _ _, ⟨_, rfl⟩, d2⟩)
  exact ⟨z, h', e⟩
theorem spots_ok (k : Nat) (ns : List Int) (m : Int) (hm : m ≤ 64) :
    ∃ z1 z2 z3 h', forGo (rangeD 0 m, none) (forF (.slot 1) (execs (callI T (k + 9)) T.get b50_2)) (rangeD 0 m) (e50 ns none none none none none none) [] = some (.ok (.nx (e50 ns z1 z2 z3 none none none)) h') := by
  obtain ⟨g', h', e, z1, z2, z3, rfl⟩ := forGo_go (its := (rangeD 0 m, none)) (f := forF (.slot 1) (execs (callI T (k + 9)) T.get b50_2)) (g := e50 ns none none none none none none) (h := [])
    (fun i g h => ∃ z1 z2 z3, g = e50 ns z1 z2 z3 none none none) ⟨none, none, none, rfl⟩ (by
      rintro i y g h hx ⟨z1, z2, z3, rfl⟩
      obtain ⟨rfl, hi⟩ := rg_at hx
      obtain ⟨a, b, e, a1, a2, b1, b2⟩ := s42 (k + 8) ns h i (by omega)
      have d0 : Dice (h ++ [.lst [.int a, .int b, .int 0]]) h.length 0 (h ++ [.lst [.int a, .int b, .int 0]]) := ⟨rfl, fun _ _ => rfl, a, b, 0, get_end _ _, a1, a2, b1, b2, by decide, by decide⟩
      obtain ⟨z, h', e2⟩ := turn_ok k ns (h0 := h ++ [.lst [.int a, .int b, .int 0]]) (by simp) (.int i) z3 d0
      refine ⟨e50 ns (some (.int i)) (some (.loc h.length)) z none none none, h', ?_, still_none _ _, _, _, _, rfl⟩
      have S2 : small 2 = true := by decide
      simp [forF, b50_2, e, S2, e2])
  exact ⟨z1, z2, z3, h', e⟩
theorem rg3000 : rangeD 0 3000 = (List.range 3000).map fun (k : Nat) => D.int (0 + (k : Int)) := rfl
section
variable {Φ : Nat → List D → Heap → Res R} {G : Nat → Option D}
theorem lc_comb {ee : E} {o : Int} {g : Env} {h : Heap} (g7 : g.set 7 none = g) (he : ∀ (i : Nat) h, i < 3000 → eval Φ G ee (g.set 7 (some (.int (0 + (i : Int))))) h = some (.ok (.v (pairD (4 * i + o, 1))) h)) :
    eval Φ G (.bi .tuple (.of (.lc ee (.slot 7) (.range1 (.c (.int 3000))) [] [7]))) g h = some (.ok (.v (.tup (sp (comb 4 o 1 3000)))) h) := by
  have S3 : small 3000 = true := by decide
  have b := lcGo_mapf (f := lcF (rangeD 0 3000, none) (.slot 7) (wipes g [7]) (tests Φ G []) (eval Φ G ee)) (h := h) (fun (k : Nat) => D.int (0 + (k : Int))) (fun i => some (pairD (4 * (i : Int) + o, 1))) (List.range 3000) fun i hi => by
    have := he i h (List.mem_range.mp hi)
    simp [lcF, wipes, still_none, g7]
    rw [show (i : Int) = 0 + i by omega, this]
    simp
  rw [← rg3000, List.filterMap_eq_map'] at b
  have e : (List.range 3000).map (fun i : Nat => pairD (4 * (i : Int) + o, 1)) = sp (comb 4 o 1 3000) := by simp [sp, comb]
  rw [e] at b
  have ln : (comb 4 o 1 3000).length ≤ 16777216 := by rw [comb_len]; decide
  simp [S3, b, bi, ln]
end
theorem append_st {Φ : Nat → List D → Heap → Res R} {G : Nat → Option D} {g : Env} {h : Heap} {i : Nat} {A : E} {l : List D} {w : PySem.Str} (e : g[i]? = some (some (.loc h.length))) (eA : ∀ h, eval Φ G A g h = said w h) (hl : l.length < 100) : exec Φ G (.expr (.meth .append (.var i) [A])) g (h ++ [.lst l]) = some (.ok (.nx g) (h ++ [.lst (l ++ [.str w])])) := by
  have e1 : eval Φ G (.var i) g (h ++ [.lst l]) = some (.ok (.v (.loc h.length)) (h ++ [.lst l])) := by simp [e]
  have e6 : (h ++ [O.lst l])[h.length]? = some (.lst l) := get_end _ _
  have l7 : l.length < lim := by show _ < 16777216; omega
  have e7 : eval Φ G (.meth .append (.var i) [A]) g (h ++ [.lst l]) = some (.ok (.v .non) (h ++ [.lst (l ++ [.str w])])) := by
    rw [eval, e1, bd_ok, R.frz_v, if_pos (by simp [e6]), evs_c (eA _) evs_nil, bd_ok]
    simp only [meth, e6]
    rw [if_pos l7]
    simp
  simp only [exec]
  rw [e7]
  rfl
theorem ev_met {Φ : Nat → List D → Heap → Res R} {G : Nat → Option D} {g : Env} {h : Heap} {x w : PySem.Str} {f : Nat} {es : List E} {ds : List D} (e : evals Φ G es g h = some (.ok ds h)) (em : metM m0 (Φ f ds h) = said w h) : eval Φ G (.met x m0 (.call f es)) g h = said w h := by
  have e2 : eval Φ G (.call f es) g h = Φ f ds h := by simp only [eval, e, bd_ok]
  show metM m0 (eval Φ G (.call f es) g h) = _
  rw [e2]
  exact em
theorem mul4 {i : Nat} (h : i < 3000) : mulOk 4 i = true := mul_ok (m := 10) (n := 20) (by decide) (by decide) (by decide) (by decide) (by decide) (by omega) (by omega)
theorem val (ns : List Int) (hn : ns.length ≤ 63) : ∃ h', callI T 31 50 [.scr (ns.map .int)] [] = some (.ok (.v (.bl true)) h') := by
  obtain ⟨m, hm, hm2, em⟩ : ∃ m : Int, m ≤ 64 ∧ small m = true ∧ eval (callI T 30) T.get (.b2 .max (.c (.int 1)) (.b2 .min (.c (.int 8)) (.b1 .len (.var 0)))) (e50 ns none none none none none none) [] = some (.ok (.v (.int m)) []) := by
    refine ⟨if (if (ns.length : Int) < 8 then (ns.length : Int) else 8) > 1 then (if (ns.length : Int) < 8 then (ns.length : Int) else 8) else 1, by split <;> split <;> omega, ?_, by simp⟩
    unfold small
    exact decide_eq_true (by split <;> split <;> omega)
  obtain ⟨z1, z2, z3, h', e⟩ := spots_ok 21 ns m hm
  have x0 : exec (callI T 30) T.get (d50.body.getD 0 .never) (e50 ns none none none none none none) [] = some (.ok (.nx (e50 ns z1 z2 z3 none none none)) h') := by
    show exec _ _ (.for_ (.slot 1) (.range1 (.b2 .max (.c (.int 1)) (.b2 .min (.c (.int 8)) (.b1 .len (.var 0))))) b50_2) _ _ = _
    simp only [exec, items, em, bd_ok, R.frz_v, range1It, hm2, if_true]
    exact e
  have x1 : exec (callI T 30) T.get (d50.body.getD 1 .never) (e50 ns z1 z2 z3 none none none) h' = some (.ok (.nx (e50 ns z1 z2 z3 none (some (.tup (sp bigL))) none)) h') :=
    asg_st (lc_comb rfl fun i h hi => by simp [e50_3, pairD, mul4 hi])
  have x2 : exec (callI T 30) T.get (d50.body.getD 2 .never) (e50 ns z1 z2 z3 none (some (.tup (sp bigL))) none) h' = some (.ok (.nx (e50 ns z1 z2 z3 none (some (.tup (sp bigL))) (some (.tup (sp bigR))))) h') :=
    asg_st (lc_comb rfl fun i h hi => by simp [e50_4, pairD, mul4 hi])
  have x3 : exec (callI T 30) T.get (d50.body.getD 3 .never) (e50 ns z1 z2 z3 none (some (.tup (sp bigL))) (some (.tup (sp bigR)))) h' = some (.ok (.nx (e50 ns z1 z2 z3 (some (.loc h'.length)) (some (.tup (sp bigL))) (some (.tup (sp bigR))))) (h' ++ [.lst [.str (S "many 5000")]])) :=
    asg_st (ev_alloc (evs_c (ev_met2 rfl rfl (q32big 22 h')) evs_nil) (by decide))
  let en : Env := e50 ns z1 z2 z3 (some (.loc h'.length)) (some (.tup (sp bigL))) (some (.tup (sp bigR)))
  have x4 : exec (callI T 30) T.get (d50.body.getD 4 .never) en (h' ++ [.lst [.str (S "many 5000")]]) = some (.ok (.nx en) (h' ++ [.lst [.str (S "many 5000"), .str (S "operation")]])) :=
    append_st (l := [.str (S "many 5000")]) rfl (fun h => ev_met (ds := [.tup (List.replicate 5001 (.tup [.int 0, .int 1]))]) (by simp) (q31big 25 h)) (by decide)
  have x5 : exec (callI T 30) T.get (d50.body.getD 5 .never) en (h' ++ [.lst [.str (S "many 5000"), .str (S "operation")]]) = some (.ok (.nx en) (h' ++ [.lst [.str (S "many 5000"), .str (S "operation"), .str (S "none")]])) :=
    append_st (l := [.str (S "many 5000"), .str (S "operation")]) rfl (fun h => ev_met (ds := [.tup [.tup [.int 0, .int 20000]], .tup (sp bigL)]) (by simp [en]) (q34big 22 h)) (by decide)
  have x6 : exec (callI T 30) T.get (d50.body.getD 6 .never) en (h' ++ [.lst [.str (S "many 5000"), .str (S "operation"), .str (S "none")]]) = some (.ok (.rt (.v (.bl true))) (h' ++ [.lst [.str (S "many 5000"), .str (S "operation"), .str (S "none")]])) := by
    show exec _ _ (.ret (.cmp .eq (.var 4) (.lst [(.c (.str (PySem.Str.ofString "many 5000"))), (.c (.str (PySem.Str.ofString "operation"))), (.c (.str (PySem.Str.ofString "none")))]))) _ _ = _
    have o1 : okS (S "many 5000") = true := by decide +kernel
    have o2 : okS (S "operation") = true := by decide +kernel
    have o3 : okS (S "none") = true := by decide +kernel
    simp [en, look, o1, o2, o3, eqD_str]
  refine ⟨(h' ++ [O.lst [.str (S "many 5000"), .str (S "operation"), .str (S "none")]]).take ([] : Heap).length, ?_⟩
  rw [call_of t50 rfl]
  show endI [] (execs _ _ (d50.body.drop 0) (e50 ns none none none none none none) []) = _
  rw [execs_at 0 (by decide) x0, execs_at 1 (by decide) x1, execs_at 2 (by decide) x2, execs_at 3 (by decide) x3]
  show endI [] (execs _ _ (d50.body.drop 4) en _) = _
  rw [execs_at 4 (by decide) x4, execs_at 5 (by decide) x5, execs_rt 6 (by decide) x6, endI_rt, gc_v2 ⟨Nat.zero_le _, fun i hi => absurd hi (by simp)⟩ rfl rfl]
end K03

theorem PySem.Challenge.cw_spanswaps_k03_errors_of_numbers_and_lots_holds : PySem.Challenge.rw_spanswaps_k03_errors_of_numbers_and_lots.Holds := by
  exact K03.holds K03.val
