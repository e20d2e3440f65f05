import PyProof.Rows.All
import PySem.Str
import HandS.ExcInit
import HandS.ExcIs
import HandS.ExcField
import HandS.HeadHook1
import KE.KExcSuper
import KE.KSuper
import HandS.ExcValue
import HandS.ExcOwn
import HandS.ForExc
import HandS.Comp
import HandS.Iter
import HandS.Walk
import HandS.Flow
import HandS.Conv
import HandS.SortInts
import HandS.SortRule
import HandS.Zip
import HandS.IsInst
import HandS.Wide
import HandS.TupAny
import PyProof.Rows.RuleB_pow
import HandS.TupMul
import HandS.Style
import KE.GoesEnum
import PyProof.SumWalkG
import PyProof.WalksMore
import HandS.More
import HandS.Dict
import HandS.Codes
import HandS.Ends
import HandS.Defaults
import HandS.Head0
import HandS.Head1
import HandS.Head2
import HandS.HeadEnd
import HandS.HeadHook2
import HandS.HeadHook4
import HandS.Words
import PySem.Challenge.RW_spanswaps_k00_errors_as_they_are_derived
set_option Elab.async false
set_option linter.all false
/-! MP: a small language with values, a store of mutable objects, and an evaluator of its own. -/
namespace MP
open PySem

-- values: integers, texts, tuples, frozen lists, places of the store, exceptions (class, fields)
inductive D where
  | non | bl (b : Bool) | int (i : Int) | str (x : Str)
  | tup (l : List D) | lst (l : List D) | loc (p : Nat)
  | scr (l : List D)
  | dic (ks : List (Sum Int Str)) (vs : List D)
  | exo (x : Str) (fs : List Str) (l : List D)

-- what stands at a place of the store
inductive O where
  | lst (l : List D)
  | dic (l : List (Sum Int Str × D))

abbrev Heap := List O

-- an exception: its class's name, its fields
structure Ex where
  cls : Str
  fs : List (Str × D)

inductive Out (α : Type) where
  | ok (a : α) (h : Heap)
  | exc (x : Ex) (h : Heap)
abbrev Res (α : Type) := Option (Out α)

def bd {α β : Type} (m : Res α) (k : α → Heap → Res β) : Res β :=
  match m with
  | some (.ok a h) => k a h
  | some (.exc x h) => some (.exc x h)
  | none => none
@[simp] theorem bd_ok {α β : Type} (a : α) (h : Heap) (k : α → Heap → Res β) : bd (some (.ok a h)) k = k a h := rfl
@[simp] theorem bd_exc {α β : Type} (x : Ex) (h : Heap) (k : α → Heap → Res β) : bd (some (.exc x h) : Res α) k = some (.exc x h) := rfl
@[simp] theorem bd_none {α β : Type} (k : α → Heap → Res β) : bd (none : Res α) k = none := rfl

-- a result: a value, or a list (a dict) that nothing else holds
inductive R where
  | v (d : D)
  | newL (l : List D)
  | newD (l : List (Sum Int Str × D))
def R.frz : R → D
  | .v d => d
  | .newL l => .lst l
  | .newD l => .dic (l.map (·.1)) (l.map (·.2))
@[simp] theorem R.frz_v (d : D) : R.frz (.v d) = d := rfl
@[simp] theorem R.frz_newL (l : List D) : R.frz (.newL l) = .lst l := rfl
@[simp] theorem R.frz_newD (l : List (Sum Int Str × D)) : R.frz (.newD l) = .dic (l.map (·.1)) (l.map (·.2)) := rfl

abbrev Env := List (Option D)

/-! ### closedness: places below n -/
mutual
def cl (n : Nat) : D → Bool
  | .non => true
  | .bl _ => true
  | .int _ => true
  | .str _ => true
  | .tup l => clL n l
  | .lst l => clL n l
  | .loc p => decide (p < n)
  | .scr l => clL n l
  | .dic _ l => clL n l
  | .exo _ _ l => clL n l
def clL (n : Nat) : List D → Bool
  | [] => true
  | d :: ds => cl n d && clL n ds
end
def clO (n : Nat) : O → Bool
  | .lst l => clL n l
  | .dic l => clL n (l.map (·.2))

/-! ### operators -/
inductive BOp where
  | add | sub | mul | fdiv | mod | pow
  deriving DecidableEq
inductive COp where
  | eq | ne | lt | le | gt | ge | isN | notN | mem | nmem
  deriving DecidableEq
-- the limit of lengths
abbrev lim : Nat := 16777216

-- the content of a sequence
@[simp] def seqOf (h : Heap) : D → Option (List D)
  | .tup l => some l
  | .lst l => some l
  | .scr l => some l
  | .loc p => match h[p]? with
    | some (.lst l) => some l
    | _ => none
  | _ => none

-- a list's content, where it is surely the program's own
@[simp] def lstOf (h : Heap) : D → Option (List D)
  | .lst l => some l
  | .loc p => match h[p]? with
    | some (.lst l) => some l
    | _ => none
  | _ => none

-- data that == is told for: no places, not too deep
mutual
def dok : Nat → D → Bool
  | _, .non => true
  | _, .bl _ => true
  | _, .int _ => true
  | _, .str x => x.cps.all (· < 1114112)
  | 0, .tup _ => false
  | n + 1, .tup l => dokL n l
  | 0, .lst _ => false
  | n + 1, .lst l => dokL n l
  | _, .loc _ => false
  | _, .scr _ => false
  | _, .dic _ _ => false
  | _, .exo _ _ _ => false
def dokL : Nat → List D → Bool
  | _, [] => true
  | n, d :: ds => dok n d && dokL n ds
end
def b2i (b : Bool) : Int := if b then 1 else 0
mutual
def eqD : D → D → Bool
  | .non, .non => true
  | .bl a, .bl b => a == b
  | .bl a, .int j => b2i a == j
  | .int i, .bl b => i == b2i b
  | .int i, .int j => i == j
  | .str x, .str y => x == y
  | .tup l, .tup m => eqDL l m
  | .lst l, .lst m => eqDL l m
  | _, _ => false
def eqDL : List D → List D → Bool
  | [], [] => true
  | x :: xs, y :: ys => eqD x y && eqDL xs ys
  | _, _ => false
end
-- a place that holds a list, read as that list (the outermost level alone)
@[simp] def look (h : Heap) : D → D
  | .loc p => match h[p]? with
    | some (.lst l) => .lst l
    | _ => .loc p
  | d => d

def mulOk (i j : Int) : Bool := decide (i.natAbs.log2 + j.natAbs.log2 < 1000000)
def fdivOk (j : Int) : Bool := decide (0 < j ∧ j.natAbs.log2 < 9000)
def powOk (i j : Int) : Bool := decide (0 ≤ j ∧ j ≤ 10000 ∧ i.natAbs.log2 < 10000)

@[simp] def catL (l : List D) (o : Option (List D)) (h : Heap) : Res R := match o with
  | some m => if l.length + m.length ≤ lim then some (.ok (.newL (l ++ m)) h) else none
  | none => none
@[simp] def bin (op : BOp) (x y : D) (h : Heap) : Res R :=
  match op, x, y with
  | .add, .tup l, .tup m => if l.length + m.length ≤ lim then some (.ok (.v (.tup (l ++ m))) h) else none
  | .add, .lst l, y => catL l (lstOf h y) h
  | .add, .loc p, y => match h[p]? with
    | some (.lst l) => catL l (lstOf h y) h
    | _ => none
  | .mul, .tup l, .int j => if l ≠ [] ∧ 2 ≤ j ∧ j ≤ 1000 ∧ l.length ≤ 1000 then some (.ok (.v (.tup (List.replicate j.toNat l).flatten)) h) else none
  | .mul, .lst l, .int j => if 0 ≤ j ∧ j ≤ 1000 ∧ l.length ≤ 1000 then some (.ok (.newL (List.replicate j.toNat l).flatten) h) else none
  | .add, .str a, .str b => if a.length + b.length ≤ lim then some (.ok (.v (.str (a ++ b))) h) else none
  | .add, .int i, .int j => some (.ok (.v (.int (i + j))) h)
  | .sub, .int i, .int j => some (.ok (.v (.int (i - j))) h)
  | .mul, .int i, .int j => if mulOk i j then some (.ok (.v (.int (i * j))) h) else none
  | .fdiv, .int i, .int j => if fdivOk j then some (.ok (.v (.int (i / j))) h) else none
  | .mod, .int i, .int j => if 0 < j then some (.ok (.v (.int (i % j))) h) else if j ≠ 0 then some (.ok (.v (.int (Int.fmod i j))) h) else none
  | .pow, .int i, .int j => if powOk i j then some (.ok (.v (.int (i ^ j.toNat))) h) else none
  | _, _, _ => none

def flat : D → Bool
  | .non => true
  | .bl _ => true
  | .int _ => true
  | .str _ => true
  | _ => false
@[simp] def isNon : D → Bool
  | .non => true
  | _ => false
-- x is y, y None or a bool
@[simp] def isM (x y : D) : Option Bool := match y with
  | .non => some (isNon x)
  | .bl b => match x with
    | .bl a => some (a == b)
    | _ => none
  | _ => none
def mem (x : D) (y : D) (h : Heap) : Option Bool :=
  match seqOf h y with
  | some l => if flat x && l.all flat then some (l.any fun z => eqD z x) else none
  | none => none
@[simp] def cmp (op : COp) (x y : D) (h : Heap) : Option Bool :=
  match op with
  | .eq => if dok 60 (look h x) && dok 60 (look h y) then some (eqD (look h x) (look h y)) else none
  | .ne => if dok 60 (look h x) && dok 60 (look h y) then some (!eqD (look h x) (look h y)) else none
  | .lt => match x, y with
    | .int i, .int j => some (decide (i < j))
    | _, _ => none
  | .le => match x, y with
    | .int i, .int j => some (decide (i ≤ j))
    | _, _ => none
  | .gt => match x, y with
    | .int i, .int j => some (decide (j < i))
    | _, _ => none
  | .ge => match x, y with
    | .int i, .int j => some (decide (j ≤ i))
    | _, _ => none
  | .isN => isM x y
  | .notN => (isM x y).map (!·)
  | .mem => mem x y h
  | .nmem => (mem x y h).map (!·)
-- truth
def tru (h : Heap) : D → Option Bool
  | .non => some false
  | .bl b => some b
  | .int i => some (decide (i ≠ 0))
  | .str x => if x.length ≤ lim then some (decide (x.length ≠ 0)) else none
  | .tup l => some (!l.isEmpty)
  | .lst l => some (!l.isEmpty)
  | .scr l => some (!l.isEmpty)
  | .dic _ _ => none
  | .exo _ _ _ => none
  | .loc p => match h[p]? with
    | some (.lst l) => some (!l.isEmpty)
    | _ => none

/-! ### places in a sequence -/
def small (i : Int) : Bool := decide (-(2 ^ 62) ≤ i ∧ i < 2 ^ 62)
@[simp] def atN (n : Nat) (i : Int) : Option Nat := if 0 ≤ i then if i.toNat < n then some i.toNat else none else if -(n : Int) ≤ i then some (i + n).toNat else none
def atZ {α : Type} (l : List α) (i : Int) : Option α :=
  if 0 ≤ i then l[i.toNat]? else if -(l.length : Int) ≤ i then l[(i + l.length).toNat]? else none
-- an end of a slice: none: d
def cutAt (n d : Nat) : Option Int → Nat
  | none => d
  | some i => if i < 0 then (i + (n : Int)).toNat else min i.toNat n
def cutZ (l : List D) (lo hi : Option Int) : List D := (l.drop (cutAt l.length 0 lo)).take (cutAt l.length l.length hi - cutAt l.length 0 lo)
@[simp] def ixD (h : Heap) (x i : D) : Option D :=
  match seqOf h x, i with
  | some l, .int i => atZ l i
  | _, _ => none
@[simp] def sliceM (x : D) (lo hi : Option Int) (h : Heap) : Res R :=
  match x with
  | .tup l => some (.ok (.v (.tup (cutZ l lo hi))) h)
  | _ => match seqOf h x with
    | some l => some (.ok (.newL (cutZ l lo hi)) h)
    | none => none

/-! ### built-in functions -/
inductive B1 where
  | len | abs | int | str
  deriving DecidableEq
inductive B2 where
  | min | max
  deriving DecidableEq
inductive Ty where
  | int | bool | tuple | list | str
  deriving DecidableEq
inductive BI where
  | tuple | list | sum | all | any | sorted
  deriving DecidableEq
inductive M where
  | append | pop
  deriving DecidableEq

@[simp] def b1 (f : B1) (x : D) (h : Heap) : Option D :=
  match f with
  | .len => (seqOf h x).map fun l => .int l.length
  | .abs => match x with
    | .int i => some (.int (if i < 0 then -i else i))
    | _ => none
  | .int => match x with
    | .int i => some (.int i)
    | .bl b => some (.int (b2i b))
    | _ => none
  | .str => match x with
    | .int i => if i.natAbs.log2 < 1920 then some (.str (Str.ofString (toString i))) else none
    | _ => none
@[simp] def b2 (f : B2) (x y : D) : Option D :=
  match f, x, y with
  | .min, .int i, .int j => some (.int (if j < i then j else i))
  | .max, .int i, .int j => some (.int (if j > i then j else i))
  | _, _, _ => none
@[simp] def isTy (h : Heap) (t : Ty) : D → Option Bool
  | .non => some false
  | .bl _ => some (decide (t = .int ∨ t = .bool))
  | .int _ => some (decide (t = .int))
  | .str _ => some (decide (t = .str))
  | .tup _ => some (decide (t = .tuple))
  | .lst _ => some (decide (t = .list))
  | .scr _ => some (decide (t = .list))
  | .dic _ _ => some false
  | .exo _ _ _ => none
  | .loc p => match h[p]? with
    | some (.lst _) => some (decide (t = .list))
    | some (.dic _) => some false
    | _ => none

-- all are intsD
def intsD : List D → Option (List Int)
  | [] => some []
  | .int i :: r => (intsD r).map (i :: ·)
  | _ :: _ => none
def bools : List D → Option (List Bool)
  | [] => some []
  | .bl i :: r => (bools r).map (i :: ·)
  | _ :: _ => none
-- all are pairs of intsD
def pairs : List D → Option (List (Int × Int))
  | [] => some []
  | .tup [.int i, .int j] :: r => (pairs r).map ((i, j) :: ·)
  | _ :: _ => none
def insBy {α : Type} (le : α → α → Bool) (x : α) : List α → List α
  | [] => [x]
  | y :: r => if le x y then x :: y :: r else y :: insBy le x r
def sortBy {α : Type} (le : α → α → Bool) : List α → List α
  | [] => []
  | x :: r => insBy le x (sortBy le r)
def leI (a b : Int) : Bool := decide (a ≤ b)
def leP (a b : Int × Int) : Bool := decide (a.1 < b.1) || (decide (a.1 = b.1) && decide (a.2 ≤ b.2))
def pairD (p : Int × Int) : D := .tup [.int p.1, .int p.2]
def sortD (l : List D) : Option (List D) :=
  match intsD l with
  | some ns => some ((sortBy leI ns).map .int)
  | none => match pairs l with
    | some ps => some ((sortBy leP ps).map pairD)
    | none => none
def bi (f : BI) (l : List D) : Option R :=
  match f with
  | .tuple => if l.length ≤ lim then some (.v (.tup l)) else none
  | .list => if l.length ≤ lim then some (.newL l) else none
  | .sum => (intsD l).map fun ns => .v (.int ns.sum)
  | .all => (bools l).map fun bs => .v (.bl (bs.all id))
  | .any => (bools l).map fun bs => .v (.bl (bs.any id))
  | .sorted => (sortD l).map .newL

/-! ### dicts -/
-- in its place, or at the end
def putD (l : List (Sum Int Str × D)) (k : Sum Int Str) (d : D) : List (Sum Int Str × D) :=
  if (l.any fun kv => decide (kv.1 = k)) = true then l.map (fun kv => if kv.1 = k then (kv.1, d) else kv) else l ++ [(k, d)]
def getD (l : List (Sum Int Str × D)) (k : Sum Int Str) : Option D := (l.find? fun kv => decide (kv.1 = k)).map (·.2)
@[simp] def keyOf : D → Option (Sum Int Str)
  | .int i => some (.inl i)
  | .str x => some (.inr x)
  | _ => none
-- a dict read
@[simp] def dicOf (h : Heap) : D → Option (List (Sum Int Str × D))
  | .dic ks vs => some (ks.zip vs)
  | .loc p => match h[p]? with
    | some (.dic l) => some l
    | _ => none
  | _ => none
-- keys that are all ints
def intKs : List (Sum Int Str) → Option (List Int)
  | [] => some []
  | .inl i :: r => (intKs r).map (i :: ·)
  | .inr _ :: _ => none
@[simp] def srtDM (x : D) (h : Heap) : Res R := match dicOf h x with
  | some l => match intKs (l.map (·.1)) with
    | some ks => if ks.length < 64 then some (.ok (.newL ((sortBy leI ks).map .int)) h) else none
    | none => none
  | none => none

/-! ### the syntax -/
inductive Tg where
  | slot (i : Nat)
  | tup (ts : List Tg)
mutual
inductive E where
  | var (i : Nat)
  | c (d : D)
  | glob (k : Nat)
  | bin (op : BOp) (a b : E)
  | neg (a : E)
  | not (a : E)
  | cmp (op : COp) (a b : E)
  | cmp2 (o1 o2 : COp) (a b c : E)
  | and (a b : E)
  | or (a b : E)
  | ite (c a b : E)
  | tup (es : List E)
  | lst (es : List E)
  | ix (a b : E)
  | slice (a : E) (bl bh : Bool) (lo hi : E)
  | call (f : Nat) (es : List E)
  | b1 (f : B1) (a : E)
  | b2 (f : B2) (a b : E)
  | isinst (a : E) (t : Ty)
  | bi (f : BI) (i : I)
  | lc (elt : E) (tg : Tg) (it : I) (cond : List E) (ws : List Nat)
  | meth (m : M) (o : E) (es : List E)
  | alloc (e : E)
  | dct
  | srtD (a : E)
  | mkX (x : Str) (f : Option Str) (a : E)
  | isX (a : E) (t : Str) (yes no : List Str)
  | xf (a : E) (f : Str) (cs : List Str)
inductive I where
  | of (e : E)
  | range1 (a : E)
  | range2 (a b : E)
  | enum (a : E)
  | zip (a b : E)
end
inductive St where
  | asg (tg : Tg) (e : E)
  | par (is : List Nat) (es : List E)
  | aug (i : Nat) (op : BOp) (e : E)
  | setix (o k e : E)
  | expr (e : E)
  | ret (e : E)
  | ret0
  | if_ (c : E) (a b : List St)
  | for_ (tg : Tg) (it : I) (body : List St)
  | while_ (c : E) (body : List St)
  | pass | brk | cont
  | never

/-! ### the evaluator -/
mutual
@[simp] def assign : Tg → D → Env → Option Env
  | .slot i, d, g => some (g.set i (some d))
  | .tup ts, .tup l, g => assigns ts l g
  | .tup _, _, _ => none
@[simp] def assigns : List Tg → List D → Env → Option Env
  | [], [], g => some g
  | t :: ts, d :: ds, g => match assign t d g with
    | some g => assigns ts ds g
    | none => none
  | _, _, _ => none
end
mutual
-- the slots that a target stores
def slots : Tg → List Nat
  | .slot i => [i]
  | .tup ts => slotsL ts
def slotsL : List Tg → List Nat
  | [] => []
  | t :: ts => slots t ++ slotsL ts
end
def wipes (g : Env) : List Nat → Env
  | [] => g
  | i :: is => (wipes g is).set i none

def ofO {α : Type} (o : Option α) (h : Heap) : Res α := o.map fun a => .ok a h
@[simp] theorem ofO_some {α : Type} (a : α) (h : Heap) : ofO (some a) h = some (.ok a h) := rfl
@[simp] theorem ofO_none {α : Type} (h : Heap) : ofO (none : Option α) h = none := rfl

-- items of a walk; the place walked, if there is one
abbrev Items := List D × Option Nat
open Classical in
-- the place walked still holds what it held
noncomputable def still (it : Items) (h : Heap) : Bool := match it.2 with
  | none => true
  | some p => decide (h[p]? = some (.lst it.1))

-- whose methods these are
@[simp] def recv (m : M) (o : D) (h : Heap) : Bool := match o with
  | .loc p => match h[p]? with
    | some (.lst _) => true
    | _ => false
  | _ => false
-- methods of lists
@[simp] def meth (m : M) (o : D) (args : List D) (h : Heap) : Res R :=
  match m, o, args with
  | .append, .loc p, [d] => match h[p]? with
    | some (.lst l) => if l.length < lim then some (.ok (.v .non) (h.set p (.lst (l ++ [d])))) else none
    | _ => none
  | .pop, .loc p, [] => match h[p]? with
    | some (.lst l) => match l.getLast? with
      | some d => some (.ok (.v d) (h.set p (.lst l.dropLast)))
      | none => none
    | _ => none
  | .pop, .loc p, [.int i] => match h[p]? with
    | some (.lst l) => match atN l.length i with
      | some j => match l[j]? with
        | some d => if small i then some (.ok (.v d) (h.set p (.lst (l.eraseIdx j)))) else none
        | none => none
      | none => none
    | _ => none
  | _, _, _ => none

-- the turns of a comprehension: f gives the item's value, or none where a test fails
def lcGo (f : D → Heap → Res (Option D)) : List D → Heap → Res (List D)
  | [], h => some (.ok [] h)
  | x :: xs, h => match f x h with
    | some (.ok (some y) h) => match lcGo f xs h with
      | some (.ok ys h) => some (.ok (y :: ys) h)
      | _ => none
    | some (.ok none h) => lcGo f xs h
    | _ => none

noncomputable def lcF (its : Items) (tg : Tg) (g0 : Env) (tests : Env → Heap → Res Bool) (elt : Env → Heap → Res R) (d : D) (h : Heap) : Res (Option D) := match assign tg d g0 with
  | some g' => bd (tests g' h) fun b h => if b && still its h then bd (elt g' h) fun r h => if still its h then some (.ok (some r.frz) h) else none else if still its h then some (.ok none h) else none
  | none => none
def rangeD (lo hi : Int) : List D := (List.range (hi - lo).toNat).map fun (k : Nat) => D.int (lo + (k : Int))
def enumD (l : List D) : List D := (List.range l.length).zipWith (fun (k : Nat) d => D.tup [D.int (k : Int), d]) l

-- names stored one after another
@[simp] def setAll : List Nat → List D → Env → Option Env
  | [], [], g => some g
  | i :: is, d :: ds, g => setAll is ds (g.set i (some d))
  | _, _, _ => none
@[simp] def augD (op : BOp) (x y : D) : Option D := match op, x, y with
  | .add, .int i, .int j => some (.int (i + j))
  | .sub, .int i, .int j => some (.int (i - j))
  | _, _, _ => none
-- o[i] = d
@[simp] def setM (o i d : D) (h : Heap) : Option Heap := match o, i with
  | .loc p, .int i => match h[p]? with
    | some (.lst l) => match atN l.length i with
      | some j => some (h.set p (.lst (l.set j d)))
      | none => none
    | some (.dic l) => if l.length < lim then some (h.set p (.dic (putD l (.inl i) d))) else none
    | _ => none
  | .loc p, .str x => match h[p]? with
    | some (.dic l) => if l.length < lim then some (h.set p (.dic (putD l (.inr x) d))) else none
    | _ => none
  | _, _ => none
-- a part of a slice, if it is there
@[simp] def partM (b : Bool) (m : Heap → Res R) (h : Heap) : Res (Option Int) :=
  if b = true then bd (m h) fun r h => match r.frz with
    | .int i => some (.ok (some i) h)
    | _ => none
  else some (.ok none h)
@[simp] def allocM (r : R) (h : Heap) : Res R := match r with
  | .newL l => some (.ok (.v (.loc h.length)) (h ++ [.lst l]))
  | .newD l => some (.ok (.v (.loc h.length)) (h ++ [.dic l]))
  | .v _ => none
@[simp] def negM (d : D) (h : Heap) : Res R := match d with
  | .int i => some (.ok (.v (.int (-i))) h)
  | _ => none
@[simp] def boolR (o : Option Bool) (h : Heap) : Res R := match o with
  | some t => some (.ok (.v (.bl t)) h)
  | none => none
@[simp] def valR (o : Option D) (h : Heap) : Res R := match o with
  | some d => some (.ok (.v d) h)
  | none => none
@[simp] def cmpM (op : COp) (x y : D) (h : Heap) : Res R := boolR (cmp op x y h) h
@[simp] def ixM (x y : D) (h : Heap) : Res R := valR (ixD h x y) h
@[simp] def b1M (f : B1) (x : D) (h : Heap) : Res R := valR (b1 f x h) h
@[simp] def b2M (f : B2) (x y : D) (h : Heap) : Res R := valR (b2 f x y) h
@[simp] def tyM (t : Ty) (x : D) (h : Heap) : Res R := boolR (isTy h t x) h
-- exceptions: made, asked, read
@[simp] def mkXM (x : Str) (f : Option Str) (d : D) (h : Heap) : Res R := match f with
  | some f => some (.ok (.v (.exo x [f] [d])) h)
  | none => some (.ok (.v (.exo x [] [])) h)
@[simp] def isXM (yes no : List Str) (d : D) (h : Heap) : Res R := match d with
  | .exo x _ _ => if x ∈ yes then some (.ok (.v (.bl true)) h) else if x ∈ no then some (.ok (.v (.bl false)) h) else none
  | _ => none
@[simp] def xfM (f : Str) (cs : List Str) (d : D) (h : Heap) : Res R := match d with
  | .exo x fs l => if x ∈ cs ∧ fs.length = l.length then valR ((fs.zip l).lookup f) h else none
  | _ => none
@[simp] def tupM (ds : List D) (h : Heap) : Res R := if ds.length ≤ lim then some (.ok (.v (.tup ds)) h) else none
@[simp] def lstM (ds : List D) (h : Heap) : Res R := if ds.length ≤ lim then some (.ok (.newL ds) h) else none

@[simp] def seqIt (d : D) (h : Heap) : Res Items := match d with
  | .tup l => some (.ok (l, none) h)
  | .lst l => some (.ok (l, none) h)
  | .scr l => some (.ok (l, none) h)
  | .loc p => match h[p]? with
    | some (.lst l) => some (.ok (l, some p) h)
    | _ => none
  | _ => none
@[simp] def range1It (d : D) (h : Heap) : Res Items := match d with
  | .int i => if small i then some (.ok (rangeD 0 i, none) h) else none
  | _ => none
@[simp] def range2It (d e : D) (h : Heap) : Res Items := match d, e with
  | .int i, .int j => if small i && small j then some (.ok (rangeD i j, none) h) else none
  | _, _ => none
@[simp] def enumIt (d : D) (h : Heap) : Res Items := match d with
  | .tup l => some (.ok (enumD l, none) h)
  | .lst l => some (.ok (enumD l, none) h)
  | _ => none
@[simp] def zipIt (d e : D) (h : Heap) : Res Items := match d, e with
  | .tup l, .tup m => some (.ok (l.zipWith (fun x y => D.tup [x, y]) m, none) h)
  | .lst l, .lst m => some (.ok (l.zipWith (fun x y => D.tup [x, y]) m, none) h)
  | _, _ => none

section
variable (Φ : Nat → List D → Heap → Res R) (G : Nat → Option D)
mutual
@[simp] noncomputable def eval : E → Env → Heap → Res R
  | .var i, g, h => match g[i]? with
    | some (some d) => some (.ok (.v d) h)
    | _ => none
  | .c d, _, h => some (.ok (.v d) h)
  | .glob k, _, h => match G k with
    | some d => some (.ok (.v d) h)
    | none => none
  | .bin op a b, g, h => bd (eval a g h) fun x h => bd (eval b g h) fun y h => bin op x.frz y.frz h
  | .neg a, g, h => bd (eval a g h) fun x h => negM x.frz h
  | .not a, g, h => bd (eval a g h) fun x h => boolR ((tru h x.frz).map (!·)) h
  | .cmp op a b, g, h => bd (eval a g h) fun x h => bd (eval b g h) fun y h => cmpM op x.frz y.frz h
  | .cmp2 o1 o2 a b c, g, h => bd (eval a g h) fun x h => bd (eval b g h) fun y h => match cmp o1 x.frz y.frz h with
    | some false => some (.ok (.v (.bl false)) h)
    | some true => bd (eval c g h) fun z h => cmpM o2 y.frz z.frz h
    | none => none
  | .and a b, g, h => bd (eval a g h) fun x h => match tru h x.frz with
    | some true => bd (eval b g h) fun y h => some (.ok (.v y.frz) h)
    | some false => some (.ok (.v x.frz) h)
    | none => none
  | .or a b, g, h => bd (eval a g h) fun x h => match tru h x.frz with
    | some true => some (.ok (.v x.frz) h)
    | some false => bd (eval b g h) fun y h => some (.ok (.v y.frz) h)
    | none => none
  | .ite c a b, g, h => bd (eval c g h) fun x h => match tru h x.frz with
    | some true => eval a g h
    | some false => eval b g h
    | none => none
  | .tup es, g, h => bd (evals es g h) fun ds h => tupM ds h
  | .lst es, g, h => bd (evals es g h) fun ds h => lstM ds h
  | .ix a b, g, h => bd (eval a g h) fun x h => bd (eval b g h) fun y h => ixM x.frz y.frz h
  | .slice a bl bh lo hi, g, h => bd (eval a g h) fun x h => bd (partM bl (eval lo g) h) fun l h => bd (partM bh (eval hi g) h) fun u h => sliceM x.frz l u h
  | .call f es, g, h => bd (evals es g h) fun ds h => Φ f ds h
  | .b1 f a, g, h => bd (eval a g h) fun x h => b1M f x.frz h
  | .b2 f a b, g, h => bd (eval a g h) fun x h => bd (eval b g h) fun y h => b2M f x.frz y.frz h
  | .isinst a t, g, h => bd (eval a g h) fun x h => tyM t x.frz h
  | .bi f i, g, h => bd (items i g h) fun it h => ofO (bi f it.1) h
  | .lc elt tg it cond ws, g, h => bd (items it g h) fun its h =>
      bd (lcGo (lcF its tg (wipes g ws) (tests cond) (eval elt)) its.1 h) fun l h => if l.length ≤ lim then some (.ok (.newL l) h) else none
  | .meth m o es, g, h => bd (eval o g h) fun x h => if recv m x.frz h then bd (evals es g h) fun ds h => meth m x.frz ds h else none
  | .alloc e, g, h => bd (eval e g h) fun r h => allocM r h
  | .dct, _, h => some (.ok (.newD []) h)
  | .srtD a, g, h => bd (eval a g h) fun r h => srtDM r.frz h
  | .mkX x f a, g, h => bd (eval a g h) fun r h => mkXM x f r.frz h
  | .isX a _ yes no, g, h => bd (eval a g h) fun r h => isXM yes no r.frz h
  | .xf a f cs, g, h => bd (eval a g h) fun r h => xfM f cs r.frz h
@[simp] noncomputable def evals : List E → Env → Heap → Res (List D)
  | [], _, h => some (.ok [] h)
  | e :: es, g, h => bd (eval e g h) fun r h => bd (evals es g h) fun ds h => some (.ok (r.frz :: ds) h)
-- tests of a comprehension, one after another
noncomputable def tests : List E → Env → Heap → Res Bool
  | [], _, h => some (.ok true h)
  | e :: es, g, h => bd (eval e g h) fun r h => match tru h r.frz with
    | some true => tests es g h
    | some false => some (.ok false h)
    | none => none
@[simp] noncomputable def items : I → Env → Heap → Res Items
  | .of e, g, h => bd (eval e g h) fun r h => seqIt r.frz h
  | .range1 a, g, h => bd (eval a g h) fun r h => range1It r.frz h
  | .range2 a b, g, h => bd (eval a g h) fun r h => bd (eval b g h) fun q h => range2It r.frz q.frz h
  | .enum a, g, h => bd (eval a g h) fun r h => enumIt r.frz h
  | .zip a b, g, h => bd (eval a g h) fun r h => bd (eval b g h) fun q h => zipIt r.frz q.frz h
end

inductive Fl where
  | nx (g : Env) | rt (r : R) | bk (g : Env) | ct (g : Env)

-- the turns of a for
noncomputable def forGo (its : Items) (f : D → Env → Heap → Res Fl) : List D → Env → Heap → Res Fl
  | [], g, h => some (.ok (.nx g) h)
  | x :: xs, g, h => bd (f x g h) fun fl h => match fl with
    | .nx g => if still its h then forGo its f xs g h else none
    | .ct g => if still its h then forGo its f xs g h else none
    | .bk g => some (.ok (.nx g) h)
    | .rt r => some (.ok (.rt r) h)
-- one turn of a for
def forF (tg : Tg) (b : Env → Heap → Res Fl) : D → Env → Heap → Res Fl := fun d g h => match assign tg d g with
  | some g => b g h
  | none => none
-- a value as a test
def tst (m : Env → Heap → Res R) : Env → Heap → Res Bool := fun g h => bd (m g h) fun r h => ofO (tru h r.frz) h
-- k turns of a while at most
def whileGo (c : Env → Heap → Res Bool) (f : Env → Heap → Res Fl) : Nat → Env → Heap → Res Fl
  | 0, _, _ => none
  | k + 1, g, h => bd (c g h) fun b h => if b then bd (f g h) fun fl h => match fl with
      | .nx g => whileGo c f k g h
      | .ct g => whileGo c f k g h
      | .bk g => some (.ok (.nx g) h)
      | .rt r => some (.ok (.rt r) h)
    else some (.ok (.nx g) h)
open Classical in
-- as many turns as it wants
noncomputable def whileD (c : Env → Heap → Res Bool) (f : Env → Heap → Res Fl) (g : Env) (h : Heap) : Res Fl :=
  if q : ∃ k r, whileGo c f k g h = some r then some q.choose_spec.choose else none

mutual
@[simp] noncomputable def exec : St → Env → Heap → Res Fl
  | .asg tg e, g, h => bd (eval Φ G e g h) fun r h => match assign tg r.frz g with
    | some g => some (.ok (.nx g) h)
    | none => none
  | .par is es, g, h => bd (evals Φ G es g h) fun ds h => match setAll is ds g with
    | some g => some (.ok (.nx g) h)
    | none => none
  | .aug i op e, g, h => match g[i]? with
    | some (some x) => bd (eval Φ G e g h) fun r h => match augD op x r.frz with
      | some d => some (.ok (.nx (g.set i (some d))) h)
      | none => none
    | _ => none
  | .setix o k e, g, h => bd (eval Φ G e g h) fun r h => bd (eval Φ G o g h) fun x h => bd (eval Φ G k g h) fun y h => match setM x.frz y.frz r.frz h with
    | some h => some (.ok (.nx g) h)
    | none => none
  | .expr e, g, h => bd (eval Φ G e g h) fun _ h => some (.ok (.nx g) h)
  | .ret e, g, h => bd (eval Φ G e g h) fun r h => some (.ok (.rt r) h)
  | .ret0, _, h => some (.ok (.rt (.v .non)) h)
  | .if_ c a b, g, h => bd (eval Φ G c g h) fun r h => match tru h r.frz with
    | some true => execs a g h
    | some false => execs b g h
    | none => none
  | .for_ tg it body, g, h => bd (items Φ G it g h) fun its h => forGo its (forF tg (execs body)) its.1 g h
  | .while_ c body, g, h => whileD (tst (eval Φ G c)) (execs body) g h
  | .pass, g, h => some (.ok (.nx g) h)
  | .brk, g, h => some (.ok (.bk g) h)
  | .cont, g, h => some (.ok (.ct g) h)
  | .never, _, _ => none
@[simp] noncomputable def execs : List St → Env → Heap → Res Fl
  | [], g, h => some (.ok (.nx g) h)
  | s :: ss, g, h => bd (exec s g h) fun fl h => match fl with
    | .nx g => execs ss g h
    | .rt r => some (.ok (.rt r) h)
    | .bk g => some (.ok (.bk g) h)
    | .ct g => some (.ok (.ct g) h)
end
end

/-! ### calls -/
structure Def where
  np : Nat
  nl : Nat
  body : List St
structure Tab where
  defs : List Def
  globs : List D
def Tab.get (T : Tab) (i : Nat) : Option D := T.globs[i]?
-- the old part is as it was, or holds nothing new
def OldOk (h h1 : Heap) : Prop := h.length ≤ h1.length ∧ ∀ i, i < h.length → h1[i]? = h[i]? ∨ ∃ o, h1[i]? = some o ∧ clO h.length o = true
-- what a call leaves: new objects that nothing holds are dropped
open Classical in
noncomputable def gc (h : Heap) (r : R) (h1 : Heap) : Res R :=
  if OldOk h h1 then
    match r with
    | .newL l => if clL h.length l then some (.ok (.newL l) (h1.take h.length)) else none
    | .newD l => if clL h.length (l.map (·.2)) then some (.ok (.newD l) (h1.take h.length)) else none
    | .v (.loc p) => if p < h.length then some (.ok (.v (.loc p)) (h1.take h.length)) else
      match h1[p]? with
      | some (.lst l) => if clL h.length l then some (.ok (.newL l) (h1.take h.length)) else none
      | some (.dic l) => if clL h.length (l.map (·.2)) then some (.ok (.newD l) (h1.take h.length)) else none
      | _ => none
    | .v d => if cl h.length d then some (.ok (.v d) (h1.take h.length)) else none
  else none
def gcx (h : Heap) (x : Ex) (h1 : Heap) : Res R := some (.exc x h1)
@[simp] def start (d : Def) (args : List D) : Env := args.map some ++ List.replicate (d.nl - args.length) none
noncomputable def endI (h : Heap) : Res Fl → Res R
  | some (.ok (.rt r) h1) => gc h r h1
  | some (.ok (.nx _) h1) => gc h (.v .non) h1
  | some (.exc x h1) => gcx h x h1
  | _ => none
noncomputable def callI (T : Tab) : Nat → Nat → List D → Heap → Res R
  | 0, _, _, _ => none
  | k + 1, f, args, h => match T.defs[f]? with
    | none => none
    | some d => if args.length = d.np then endI h (execs (callI T k) T.get d.body (start d args) h) else none
end MP

set_option maxRecDepth 100000
set_option maxHeartbeats 4000000
/-! MP.Exc: an own exception whose __init__ says super().__init__(x) and keeps x. -/
namespace MP
open PySem PySem.Spec PyProof.Rows L2

/-! ### the built-in bases -/
inductive XB where
  | value | key | index | overflow | arith | look
  deriving DecidableEq
def XB.nm : XB → String
  | .value => "ValueError"
  | .key => "KeyError"
  | .index => "IndexError"
  | .overflow => "OverflowError"
  | .arith => "ArithmeticError"
  | .look => "LookupError"
-- whose __new__ it has
def XB.nB : XB → String
  | .key => "LookupError"
  | b => b.nm
def XB.newId : XB → String
  | .value => "ValueError.__new__"
  | .key => "LookupError.__new__"
  | .index => "IndexError.__new__"
  | .overflow => "OverflowError.__new__"
  | .arith => "ArithmeticError.__new__"
  | .look => "LookupError.__new__"
def XB.initId : XB → String
  | .value => "ValueError.__init__"
  | .key => "KeyError.__init__"
  | .index => "IndexError.__init__"
  | .overflow => "OverflowError.__init__"
  | .arith => "ArithmeticError.__init__"
  | .look => "LookupError.__init__"
def XB.bm : XB → List Value
  | .value => ["ValueError", "Exception", "BaseException", "object"].map .type
  | .key => ["KeyError", "LookupError", "Exception", "BaseException", "object"].map .type
  | .index => ["IndexError", "LookupError", "Exception", "BaseException", "object"].map .type
  | .overflow => ["OverflowError", "ArithmeticError", "Exception", "BaseException", "object"].map .type
  | .arith => ["ArithmeticError", "Exception", "BaseException", "object"].map .type
  | .look => ["LookupError", "Exception", "BaseException", "object"].map .type

structure XbOk (b : XB) : Prop where
  ends : b.newId.endsWith ".__new__" = true
  quiet : b.newId.startsWith "lifetime." = false
  owner : b.newId.dropRight 8 = b.nB
  entry : entryFor table b.newId = some Builtin.«BaseException.__new__»
  canon : Manifest.canonical b.newId = Manifest.canonical "BaseException.__new__"
  nSplit : splitId b.newId = some (b.nB, "__new__")
  nKind : builtinKind b.newId = some .builtinFn
  nRow : Manifest.signature? b.newId = some ⟨.any, b.nB, b.nB, .cls, [⟨"args", .varPos, false⟩, ⟨"kwargs", .varKw, false⟩]⟩
  iKind : builtinKind b.initId = some .slot
  iRow : Manifest.signature? b.initId = some ⟨.positional, "*", b.nm, .self, [⟨"args", .varPos, false⟩]⟩
  iEntry : entryFor table b.initId = some Builtin.«BaseException.__init__»
  iPlain : plainId b.initId = true
  star : (b.nm != "*") = true
  starN : (b.nB != "*") = true
  hasN : b.bm.contains (.type b.nB) = true
  noA : b.bm.contains (.type "AttributeError") = false
  noN : b.bm.contains (.type "NameError") = false
  kxs : PySem.W.KxsFacts b.nm b.initId
  store : StoreFacts b.nm b.bm "object.__setattr__" "object"
theorem xb_of {b : XB} (e : b.nB = b.nm) (f : ExcBaseFacts b.nm b.newId b.initId b.bm) (k : PySem.W.KxsFacts b.nm b.initId) (s : StoreFacts b.nm b.bm "object.__setattr__" "object") : XbOk b :=
  ⟨f.ends, f.quiet, by rw [e]; exact f.owner, f.entry, f.canon, by rw [e]; exact f.newSplit, f.newKind, by rw [e]; exact f.newRow, f.initKind, f.initRow, f.initEntry, f.init.plain, f.noStar, by rw [e]; exact f.noStar, by rw [e]; exact f.hasB, f.noAttr, f.noName, k, s⟩
theorem key_kxs : PySem.W.KxsFacts "KeyError" "KeyError.__init__" := by
  constructor
  · show builtinType _ = _
    rw [builtinType_eq_fast]
    kernel_rfl
  · kernel_rfl
theorem key_store : StoreFacts "KeyError" XB.key.bm "object.__setattr__" "object" := by
  refine { mro := ?mro, slot := ?slot, entry := F.store_IndexError.entry, kind := F.store_IndexError.kind, split := F.store_IndexError.split, hasOwner := ?ho, args := F.store_IndexError.args, passes := ?ps }
  case mro => rw [mroOf_type]; kernel_rfl
  case slot => exact Slot.of (owner := "object") (n := "__setattr__") (by rw [typeLookup_type, builtinLookup_eq_fast] <;> kernel_rfl) (by decide +kernel) (by decide +kernel) (by decide +kernel) (.inl (by decide +kernel)) (by rw [isSubtype_type] <;> kernel_rfl)
  case ho => decide +kernel
  case ps => intro self; kernel_rfl
theorem xb_key : XbOk .key := by
  have f := F.excBase_LookupError
  refine ⟨f.ends, f.quiet, f.owner, f.entry, f.canon, f.newSplit, f.newKind, f.newRow, ?_, ?_, ?_, ?_, ?_, ?_, ?_, ?_, ?_, key_kxs, key_store⟩
  · decide +kernel
  · kernel_rfl
  · exact entryFor_alias (id' := "BaseException.__init__") (by rw [fastTable_eq_tree] <;> kernel_rfl) (by decide +kernel) (by decide +kernel) (by rw [fastTable_eq_tree] <;> kernel_rfl)
  all_goals decide +kernel
theorem xb_ok : ∀ b : XB, XbOk b
  | .value => xb_of rfl F.excBase_ValueError PySem.W.kxs_ValueError F.store_ValueError
  | .key => xb_key
  | .index => xb_of rfl F.excBase_IndexError PySem.W.kxs_IndexError F.store_IndexError
  | .overflow => xb_of rfl F.excBase_OverflowError PySem.W.kxs_OverflowError F.store_OverflowError
  | .arith => xb_of rfl F.excBase_ArithmeticError PySem.W.kxs_ArithmeticError F.store_ArithmeticError
  | .look => xb_of rfl F.excBase_LookupError PySem.W.kxs_LookupError F.store_LookupError

/-! ### the class is called -/
abbrev xObj (C t : Addr) : Obj := { cls := .ref C, data := .fields #[.ref t, .none, .none, .none, .bool false, .none] }
section
variable {M : Model} {prog : Program} {w : PySem.World} {A : Around} {E : Value → Shared → Prop} {R : Result → Shared → Prop} {hp : PySem.Heap} {g : Array GenState} {dr : Drawn} {tk : Nat} {os : OsState}
variable {nm qn : Str} {C N : Addr} {bs bm : List Value} {hdct : Bool} {sn : List Str} {sub : List Value} {ab : Bool} {col : Option Bool} {dd : Option Addr} {k0 k1 k2 k3 k5 : Option Value} {b : XB}
theorem x_check_new (o : XbOk b) (hT : ∀ X : String, bm.contains (.type X) = b.bm.contains (.type X)) {us : List Value} {Q : Unit → Shared → Prop} (hC : hp.get? C = some (excClassObj nm qn C N bs bm hdct sn sub ab col dd k0 k1 k2 k3 k5 b.newId))
    (q : Q () ⟨hp, g, dr, tk, os⟩) : wpAny M A (checkBuiltinCall b.newId ⟨.ref C :: us, []⟩) Q E ⟨hp, g, dr, tk, os⟩ := by
  have c1 : (Value.ref C :: bm).contains (.type b.nB) = true := by rw [List.contains_cons, hT, o.hasN, Bool.or_true]
  have c2 := o.starN
  simp only [checkBuiltinCall, o.nKind, o.nSplit, o.nRow]
  repeat (first
    | refine wpAny_loadPart_at hC ?_
    | (refine wpAny_isSubtype_exc hC ?_
       rw [c1])
    | refine wpAny_staticBase_exc hC ?_
    | refine wpAny_madeBy_exc hC ?_
    | simp only [bne_self_eq_false, Bool.false_eq_true, if_false]
    | wp_step)
  exact q
theorem x_new (o : XbOk b) (hT : ∀ X : String, bm.contains (.type X) = b.bm.contains (.type X)) {us : List Value} (hC : hp.get? C = some (excClassObj nm qn C N bs bm hdct sn sub ab col dd k0 k1 k2 k3 k5 b.newId)) (hz : us.length ≤ sizeLine)
    (q : R (.ok (.ret (.ref (hp.objs.size + 1)))) ⟨(hp.push (PySem.W.kdv_tup us)).push (xObj C hp.objs.size), g, dr, tk, os⟩) :
    codeAny (model prog w) A (.builtin b.newId ⟨.ref C :: us, []⟩) R ⟨hp, g, dr, tk, os⟩ := by
  have c0 := o.ends
  have c1 : (Value.ref C :: bm).contains (.type b.nB) = true := by rw [List.contains_cons, hT, o.hasN, Bool.or_true]
  have c2 : (Value.ref C :: bm).contains (.type "AttributeError") = false := by rw [List.contains_cons, hT, o.noA, Bool.or_false]; rfl
  have c3 : (Value.ref C :: bm).contains (.type "NameError") = false := by rw [List.contains_cons, hT, o.noN, Bool.or_false]; rfl
  refine codeAny_builtinAt o.entry ?_
  unfold Builtin.«BaseException.__new__»
  refine PySem.wpAt_bind ?_
  show PySem.wpAt _ _ _ (PySem.stack >>= _) _ _ _
  refine PySem.wpAt_bind (PySem.wpAt_stack fun p rest => PySem.wpAt_of_wpAny ?_)
  wp_walk
  refine PySem.wpAt_of_wpAny ?_
  rw [o.owner]
  repeat (first
    | with_reducible refine wpAny_madeHere_exc o.canon hC ?_
    | with_reducible refine wpAny_loadPart_at hC ?_
    | (with_reducible refine wpAny_isSubtype_exc hC ?_
       first | rw [c1] | rw [c2] | rw [c3])
    | wp_step)
  show R _ _
  rw [Heap.size_push]
  exact q
theorem x_type_call (o : XbOk b) (hT : ∀ X : String, bm.contains (.type X) = b.bm.contains (.type X)) {us : List Value} {fI : Addr} {Q : Fin → Shared → Prop} (hC : hp.get? C = some (excClassObj nm qn C N bs bm hdct sn sub ab col dd k0 k1 k2 k3 k5 b.newId))
    (li : PySem.W.Looks (model prog w) hp (typeLookup (.ref C) "__init__") (some (.ref fI))) (lb : ∀ x, PySem.W.Looks (model prog w) hp (bindSpecial (.ref fI) x) (.ref fI, [x])) (hz : us.length ≤ sizeLine)
    (q : codeAny (model prog w) A (.call (.ref fI) ⟨.ref (hp.objs.size + 1) :: us, []⟩) (fun r s' => match r with
      | .ok (.ret v) => v = .none ∧ Q (.done (.ret (.ref (hp.objs.size + 1)))) s'
      | .ok _ => False
      | .error e => E e s') ⟨(hp.push (PySem.W.kdv_tup us)).push (xObj C hp.objs.size), g, dr, tk, os⟩) :
    wpAny (model prog w) A (Builtin.«type.__call__» ⟨.ref C :: us, []⟩) Q E ⟨hp, g, dr, tk, os⟩ := by
  repeat (first
    | with_reducible refine wpAny_loadPart_at hC ?_
    | with_reducible refine wpAny_madeBy_exc hC ?_
    | wp_step)
  refine codeAny_call_builtin_code (Code.quiet_builtin _ o.quiet) (x_check_new o hT hC (x_new o hT hC hz ?_))
  show wpAny _ _ _ _ _ _
  have up : ∀ a u, hp.get? a = some u → ((hp.push (PySem.W.kdv_tup us)).push (xObj C hp.objs.size)).get? a = some u := fun a u e => Heap.get?_push_of_some _ (Heap.get?_push_of_some _ e)
  have hC' := up _ _ hC
  have hx : ((hp.push (PySem.W.kdv_tup us)).push (xObj C hp.objs.size)).get? (hp.objs.size + 1) = some (xObj C hp.objs.size) := by heap_get
  have cC : (Value.ref C :: bm).contains (.ref C) = true := by simp
  have li' := li.keeps up
  have lb' := (lb (.ref (hp.objs.size + 1))).keeps up
  unfold isInstance
  repeat (first
    | with_reducible refine wpAny_loadPart_at hx ?_
    | (with_reducible refine wpAny_isSubtype_exc hC' ?_
       rw [cC])
    | wp_step)
  show wpAny _ _ (typeLookup (.ref C) _) _ _ _
  refine li'.at (wpAny_holding (wpAny_bind (lb'.at (wpAny_bind (wpAny_call (codeAny_mono q fun r s' z => ?_))))))
  cases r with
  | error e => exact z
  | ok fl =>
    cases fl with
    | ret v =>
      obtain ⟨rfl, z⟩ := z
      first
        | exact wpAny_pure (wpAny_pure z)
        | (wp_walk
           exact z)
    | next => exact z.elim
    | brk => exact z.elim
    | cont => exact z.elim
theorem x_call (o : XbOk b) (hT : ∀ X : String, bm.contains (.type X) = b.bm.contains (.type X)) {us : List Value} {fI : Addr} (hC : hp.get? C = some (excClassObj nm qn C N bs bm hdct sn sub ab col dd k0 k1 k2 k3 k5 b.newId))
    (li : PySem.W.Looks (model prog w) hp (typeLookup (.ref C) "__init__") (some (.ref fI))) (lb : ∀ x, PySem.W.Looks (model prog w) hp (bindSpecial (.ref fI) x) (.ref fI, [x])) (hz : us.length ≤ sizeLine)
    (q : codeAny (model prog w) (A.under (.builtin "type.__call__" ⟨.ref C :: us, []⟩)) (.call (.ref fI) ⟨.ref (hp.objs.size + 1) :: us, []⟩) (PySem.W.InitBack (hp.objs.size + 1) R) ⟨(hp.push (PySem.W.kdv_tup us)).push (xObj C hp.objs.size), g, dr, tk, os⟩) :
    codeAny (model prog w) A (.call (.ref C) ⟨us, []⟩) R ⟨hp, g, dr, tk, os⟩ := by
  have f1 := PySem.tc_lookup
  have f2 := PySem.tc_bind (.ref C)
  have ty : (⟨hp, g, dr, tk, os⟩ : Shared).TypeIs (.ref C) "type" := ⟨_, hC, rfl⟩
  refine codeAny_of_tree ?_
  show wpAny _ _ (callAny (.ref C) _) _ _ _
  repeat (any_goals (first
    | assumption
    | with_reducible refine wpAny_loadPart_at hC ?_
    | wp_step))
  refine ⟨rfl, codeAny_call_builtin_at (Code.quiet_builtin _ (by decide +kernel)) PySem.entry_typeCall (wpAny_check_type_call_sub hC (x_type_call o hT hC li lb hz (codeAny_mono q fun r s' z => ?_)))⟩
  cases r with
  | error e => exact z
  | ok fl => cases fl <;> exact z
-- a method's call with one plain argument
theorem x_methCall {y : PySem.Expr} {nm f : Str} {p2 p3 p4 : Pos} {env : PySem.Env} (e : (p2.endLine == p4.line) = true) :
    ∃ pl : Sem Bool, PySem.eval (.Call (.Attribute y nm p2) [.Name f p3] [] p4) env = (do
      let ov ← attributeBase y nm env (PySem.eval y env)
      standAt p2.atName
      let (a, l) ← holding [ov] (getMethod ov nm pl)
      callWith p4 a l (backTo p4 (starEach [.Name f p3] env)) []) := by
  refine ⟨do return (← importBound y env).getD true, ?_⟩
  rw [arm_eval_Call]
  unfold methodCall methodCallPos calleeOf
  have e1 : methodCallForm ([Expr.Name f p3].length + ([] : List Keyword).length) (backTo p4 (starEach [.Name f p3] env)) (backToKw p4 (keywordEach [] env)) = true := by rfl
  simp only [e1, e, Bool.not_true, Bool.false_or, if_true, pure_bind]
  rfl
-- super().__init__(..): the object's args are laid anew
theorem x_check_bound (o : XbOk b) {e : Addr} {oe : Obj} {us : List Value} {Q : Unit → Shared → Prop} (hC : hp.get? C = some (excClassObj nm qn C N bs bm hdct sn sub ab col dd k0 k1 k2 k3 k5 b.newId)) (he : hp.get? e = some oe) (ec : oe.cls = .ref C)
    (q : Q () ⟨hp, g, dr, tk, os⟩) : wpAny M A (checkBoundCall b.initId ⟨.ref e :: us, []⟩) Q E ⟨hp, g, dr, tk, os⟩ := by
  have c2 := o.star
  simp only [checkBoundCall, o.iKind, o.iRow]
  repeat (first
    | (with_reducible refine wpAny_loadPart_at he ?_
       rw [ec])
    | with_reducible refine wpAny_loadPart_at hC ?_
    | wp_step)
  refine wpAny_onRaise ?_
  have z : ∀ (x y : String) (n : Nat), Bind.check ⟨.positional, "*", b.nm, .self, [⟨"args", .varPos, false⟩]⟩ x y n (List.map (fun v => v.fst) ({ pos := Value.ref e :: us } : Args).kw) = pure () := fun x y n => check_star_args _ _ _ _ _ _
  rw [z]
  exact wpAny_pure q
theorem x_call_mw (o : XbOk b) {u e t0 : Addr} {us : List Value} {Q : Value → Shared → Prop} (hC : hp.get? C = some (excClassObj nm qn C N bs bm hdct sn sub ab col dd k0 k1 k2 k3 k5 b.newId)) (he : hp.get? e = some (xObj C t0)) (hu : hp.get? u = some (PySem.W.kxs_mw b.initId e)) (hz : us.length ≤ sizeLine)
    (q : ∀ h', (∀ a v, a ≠ e → hp.get? a = some v → h'.get? a = some v) → h'.get? e = some (xObj C hp.objs.size) → Q .none ⟨h', g, dr, tk, os⟩) :
    wpAny (model prog w) A (call (.ref u) us) Q E ⟨hp, g, dr, tk, os⟩ := by
  have t1 : (Value.type "method-wrapper" == Value.type "method" || Value.type "method-wrapper" == Value.type "builtin_function_or_method" || Value.type "method-wrapper" == Value.type "method-wrapper") = true := by decide
  refine wpAny_call (codeAny_of_tree ?_)
  show wpAny _ A.in1 (callAny (.ref u) ⟨us, []⟩) _ _ _
  simp only [callAny]
  refine wpAny_bind (wpAny_load hu ?_)
  simp only [PySem.W.kxs_mw, t1, if_true]
  refine PySem.W.KFB.if_so (by decide) (wpAny_bind (x_check_bound o hC he rfl (wpAny_bind (wpAny_pure (wpAny_pure ⟨PySem.plainId_quiet o.iPlain _, codeAny_builtin o.iEntry ?_⟩)))))
  exact PySem.W.exc_init_tree (cls := .ref C) (t0 := t0) (dv := none) (c2 := .none) (c3 := .none) (b4 := .bool false) he hz fun h' k1 k2 _ => q h' k1 k2
end

/-! ### what the written part says of such a class -/
def xbody (f : Str) (p0 p1 p2 p3 p4 p5 q0 q1 q2 q3 : Pos) : List Stmt := [.Expr (.Call (.Attribute (.Call (.Name "super" p0) [] [] p1) "__init__" p2) [.Name f p3] [] p4) p5, .Assign [.Attribute (.Name "self" q0) f q1] (.Name f q2) q3]
structure XFn (prog : Program) (K : PySem.W.Frag) (C : Addr) (f : Str) (fI : Addr) (fd : FuncData) (cc cda : Addr) : Prop where
  lk : ∃ (oc : Value) (od : Option Addr) (osl : Array (Option Value)), K.lookup fI = some ⟨oc, od, .func fd, osl⟩
  cdI : PySem.W.codeIn K fd.code fd.qualname = true
  body : ∃ p0 p1 p2 p3 p4 p5 q0 q1 q2 q3 : Pos, fd.body = .stmts (xbody f p0 p1 p2 p3 p4 p5 q0 q1 q2 q3) ∧ (p2.endLine == p4.line) = true
  gl : fd.globals = mainGlobals
  bl : fd.builtins = builtinsNs
  cl : fd.closure = [(("__class__" : Str), cc)]
  cd : fd.code = .ref cda
  ar : ∃ ar : Arg, (fd.params.posonlyargs ++ fd.params.args).head? = some ar ∧ ar.arg = ("self" : Str)
  cell : ∃ (c : Value) (d : Option Addr) (sl : Array (Option Value)), K.lookup cc = some ⟨c, d, .cell (some (.ref C)), sl⟩
  code : ∃ (c : Value) (d : Option Addr) (sl : Array (Option Value)) (vs : Array Value) (file : Str) (tf : Tok), K.lookup cda = some ⟨c, d, .fields vs, sl⟩ ∧ vs[2]? = some (.str file tf) ∧ ((prog.main.file : Str) == file) = true
  cells : ∀ x ∈ fd.scope.names, x.2 ≠ .cell
  n1 : fd.scope.names.lookup ("self" : Str) = some .local
  n2 : fd.scope.names.lookup f = some .local
  n3 : fd.scope.names.lookup ("super" : Str) = some .globalImplicit
  n4 : fd.scope.names.lookup ("__class__" : Str) = some .free
  kd : fd.scope.kind = .function
  co : fd.scope.isCoroutine = false
  ge : fd.scope.isGenerator = false
  bind : ∀ u0 u1 : Value, bindArgs fd ⟨[u0, u1], []⟩ = pure [(("self" : Str), u0), (f, u1)]
structure XMk (prog : Program) (K : PySem.W.Frag) (C : Addr) (f : Str) (b : XB) : Prop where
  init : ∃ (fI : Addr) (fd : FuncData) (cc cda : Addr), PySem.W.findIn K (.ref C) "__init__" = some (some (.ref fI)) ∧ PySem.W.typeIn K (.ref fI) = some (.type "function") ∧ XFn prog K C f fI fd cc cda
  ei : PySem.W.excInitIn K C b.bm b.newId = true
  cls : ∃ cd, PySem.W.clsIn K C = some cd
  mro : PySem.W.mroIn K C (.ref C) = some true
  sup : PySem.W.nsIn K mainGlobals "super" = some none
  top : (prog.main.scope.names.lookup ("super" : Str)).isSome = false
  si : PySem.W.ks_superIn K C C "__init__" = some (some (.builtin b.initId))
  sB : PySem.W.subIn K (.ref C) (.type b.nm) = some true
  tp : PySem.W.nsIn K cStatics "thirdparty.any" = some none
  sa : PySem.W.findIn K (.ref C) "__setattr__" = some (some (.builtin "object.__setattr__"))
  eo : PySem.W.excOver K C b.bm = true
  tk : PySem.W.takerIn K C f = some none
  hd : PySem.W.hasDictIn K C = true
  fne : f ≠ ("self" : Str)
  fdb : (f == ("__debug__" : Str)) = false
section
variable {prog : Program} {w : PySem.World} {A : Around} {E : Value → Shared → Prop} {R : Result → Shared → Prop} {K : PySem.W.Frag} {mg : Str → Option Value} {base hp : PySem.Heap} {g : Array GenState} {dr : Drawn} {tk : Nat} {os : OsState} {C : Addr} {f : Str} {b : XB}
theorem x_store (T : XMk prog K C f b) (X : K.In hp) {e t0 : Addr} {u : Value} (he : hp.get? e = some (xObj C t0)) {Q : Unit → Shared → Prop}
    (q : ∀ h' tk' dx, (∀ a v, a ≠ e → hp.get? a = some v → h'.get? a = some v) → hp.objs.size ≤ dx → dx ≠ e → h'.get? e = some { xObj C t0 with dict := some dx } → h'.Ns1 dx (fun y => if y = f then some u else none) → Q () ⟨h', g, dr, tk', os⟩) :
    wpAny (model prog w) A (setAttr (.ref e) f u) Q E ⟨hp, g, dr, tk, os⟩ := by
  have I : PySem.W.InstAt hp e (xObj C t0) C none := ⟨he, rfl, rfl, trivial⟩
  refine PySem.W.set_plain X I T.sa (PySem.W.osa_openX (xb_ok b).store X I T.eo T.tk fun _ => ?_)
  show wpAny _ _ (Builtin.ObjectAttr.storeInOwnDict _ _ _ _ _ _) _ _ _
  obtain ⟨cd, hc, hd⟩ := PySem.W.any_some T.hd
  have ne : e ≠ hp.objs.size := Nat.ne_of_lt (Heap.lt_size he)
  have lc : PySem.W.Looks (model prog w) hp (classData C) cd := PySem.W.looks_clsIn X hc
  obtain ⟨cnm, cbs, cmro, cns, cqn, chd, csn, csb, cab, ccol, cdel⟩ := cd
  dsimp only at hd
  subst hd
  unfold Builtin.ObjectAttr.storeInOwnDict Builtin.ObjectAttr.ownDictForStores
  repeat (first
    | with_reducible refine PySem.HandSPX.store_in_new ?_ ?_
    | with_reducible refine wpAny_loadPart_at he ?_
    | with_reducible refine lc.at ?_
    | wp_step)
  · exact ⟨_, #[], _, (Heap.get?_update_ne _ _ _ _ ne.symm).trans (Heap.get?_push_at rfl rfl), rfl, fun e he => absurd he (by simp), fun _ => rfl⟩
  · intro h' tk' n1 sb
    have z : (hp.push { cls := .type "dict", data := .dict #[] }).get? e = some (xObj C t0) := Heap.get?_push_of_some _ he
    refine q h' tk' hp.objs.size (fun a v ha hv => ?_) (Nat.le_refl _) ne.symm ?_ n1
    · exact (sb.2 a (Nat.ne_of_lt (Heap.lt_size hv))).trans ((Heap.get?_update_ne _ _ _ _ ha).trans (Heap.get?_push_of_some _ hv))
    · exact (sb.2 e ne).trans (Heap.get?_update_self _ z rfl)
theorem x_made (T : XMk prog K C f b) (X0 : K.In base) (G : base.Ns mainGlobals mg) (B : ∃ mb, base.Ns builtinsNs mb ∧ ∀ x : Str, x ≠ "__name__" → mb x = bootBuiltins x) (nl : base.NoLimit) (kp : ∀ a o, base.get? a = some o → hp.get? a = some o) (bz : base.objs.size ≤ hp.objs.size) (hr : L2.Room 1 A)
    {u : Value} {Q : Value → Shared → Prop} (q : ∀ h' tk' e dx t1, (∀ a o, hp.get? a = some o → h'.get? a = some o) → hp.get? e = none → hp.get? dx = none → dx ≠ e → h'.get? e = some { xObj C t1 with dict := some dx } → h'.Ns1 dx (fun y => if y = f then some u else none) → Q (.ref e) ⟨h', g, dr, tk', os⟩) :
    wpAny (model prog w) A (call (.ref C) [u]) Q E ⟨hp, g, dr, tk, os⟩ := by
  have X : K.In hp := X0.keeps kp
  have o := xb_ok b
  obtain ⟨fI, fd, cc, cda, hI, tI, F⟩ := T.init
  obtain ⟨nm, N, qn, bs, bm, hdct, sn, sub, ab, col, dd, k0, k1, k2, k3, k5, hC, hT⟩ := PySem.W.excInit_of X T.ei
  obtain ⟨oc, od, osl, lk⟩ := F.lk
  obtain ⟨p0, p1, p2, p3, p4, p5, q0, q1, q2, q3, eb, eln⟩ := F.body
  obtain ⟨ar, ea, es⟩ := F.ar
  obtain ⟨c1, d1, sl1, lc⟩ := F.cell
  obtain ⟨c2, d2, sl2, vs, file, tf, lcd, e2, efile⟩ := F.code
  obtain ⟨cd, hcd⟩ := T.cls
  have hz : ([u] : List Value).length ≤ sizeLine := by
    show 1 ≤ sizeLine
    rw [sizeLine_eq]
    decide
  refine wpAny_call (x_call o hT hC (PySem.W.looks_findIn X hI) (fun x => PySem.W.bind_fn X x tI) hz ?_)
  -- the object, not yet filled
  let e : Addr := hp.objs.size + 1
  let h1 : PySem.Heap := (hp.push (PySem.W.kdv_tup [u])).push (xObj C hp.objs.size)
  have up1 : ∀ a v, hp.get? a = some v → h1.get? a = some v := fun a v z => Heap.get?_push_of_some _ (Heap.get?_push_of_some _ z)
  have he1 : h1.get? e = some (xObj C hp.objs.size) := by
    show ((hp.push (PySem.W.kdv_tup [u])).push (xObj C hp.objs.size)).get? (hp.objs.size + 1) = _
    heap_get
  have X1 : K.In h1 := X.keeps up1
  have lt1 : h1.objs.size = hp.objs.size + 2 := by
    show ((hp.push (PySem.W.kdv_tup [u])).push (xObj C hp.objs.size)).objs.size = _
    rw [Heap.size_push, Heap.size_push]
  refine PySem.ks_codeAny_call_defAt (fd := fd) (body := xbody f p0 p1 p2 p3 p4 p5 q0 q1 q2 q3) (binds := [(("self" : Str), .ref e), (f, u)]) (hr.make C [u] []).depth (X1 _ _ lk) rfl (nl.keeps fun a o z => up1 a o (kp a o z)) (PySem.W.codeRec_of X1 F.cdI) eb (BindsTo.of_eq (F.bind _ _)) F.cells (fun x hx => ?_) (fun h2 hns up2 => ?_) F.co F.ge F.kd
  · simp only [List.mem_cons, List.not_mem_nil, or_false] at hx
    rcases hx with rfl | rfl
    · exact F.n1
    · exact F.n2
  have X2 : K.In h2 := X1.keeps up2
  have up02 : ∀ a v, base.get? a = some v → h2.get? a = some v := fun a v z => up2 _ _ (up1 _ _ (kp _ _ z))
  have m1 : ([(("self" : Str), Value.ref e), (f, u)].reverse.lookup ("self" : Str)) = some (.ref e) := by
    have hne : (("self" : Str) == f) = false := by
      rw [beq_eq_false_iff_ne]
      exact fun z => T.fne z.symm
    simp [List.lookup, hne]
  have m2 : ([(("self" : Str), Value.ref e), (f, u)].reverse.lookup f) = some u := by simp [List.lookup]
  have he2 := up2 _ _ he1
  have Fr2 : Fr hp h1.objs.size h2 (fun x => [(("self" : Str), Value.ref e), (f, u)].reverse.lookup x) := ⟨hns, fun a v z => up2 _ _ (up1 _ _ z), by omega⟩
  have eL : e ≠ h1.objs.size := by
    show hp.objs.size + 1 ≠ h1.objs.size
    omega
  have nb : hp.get? e = none := Heap.get?_none_of_le (Nat.le_succ _)
  have N2 : News hp h1.objs.size h2 [(e, xObj C hp.objs.size)] := fun p hp => by
    rw [List.mem_singleton.mp hp]
    exact ⟨he2, eL, nb⟩
  have I2 : PySem.W.InstAt h2 e (xObj C hp.objs.size) C none := ⟨he2, rfl, rfl, trivial⟩
  obtain ⟨oC, hC1, hC2⟩ : ∃ oC, h2.get? C = some oC ∧ oC.data = .cls cd := by
    unfold PySem.W.clsIn at hcd
    split at hcd
    · rename_i z1 z2 z3 z4 ho
      cases hcd
      exact ⟨_, X2 _ _ ho, rfl⟩
    · cases hcd
  obtain ⟨mb, Bn, Bb⟩ := B
  -- super()
  obtain ⟨pl, epl⟩ := x_methCall (y := .Call (.Name "super" p0) [] [] p1) (nm := "__init__") (f := f) (p3 := p3) (env := callEnv fd h1.objs.size fI) eln
  refine PySem.ks_wpAt_execs_cons (PySem.ks_wpAt_Expr_any (PySem.ks_wpAt_MethodCall (pl := pl) ?_ epl) (hi := by
    unfold interactive
    rw [show (callEnv fd h1.objs.size fI).scope.kind = .function from F.kd]
    rfl))
  refine PySem.ks_wpAt_super_base (env := callEnv fd h1.objs.size fI) F.n3 F.n4 rfl rfl (X2 _ _ lk) rfl ea F.cd (X2 _ _ lcd) rfl e2 efile T.top ?_
  refine PySem.W.ks_loadName_global F.kd F.n3 (Calls.loadGlobal_builtin (mg := mg) (mb := mb) (by rw [show (callEnv fd h1.objs.size fI).globals = mainGlobals from F.gl]; exact G.keeps up02) (PySem.W.mg_none_of X0 G T.sup) (by rw [show (callEnv fd h1.objs.size fI).builtins = builtinsNs from F.bl]; exact Bn.keeps up02) ((Bb _ (by decide +kernel)).trans (by first | rfl | decide +kernel | kernel_rfl)) ⟨rfl, ?_⟩)
  refine wpAny_loadName_free (c := cc) F.kd F.n4 (by rw [show (callEnv fd h1.objs.size fI).cells = fd.closure from rfl, F.cl]; rfl) ⟨_, X2 _ _ lc, rfl⟩ ?_
  rw [es]
  refine wpAny_loadName_local F.kd F.n1 hns m1 ?_
  refine PySem.ks_wpAny_isType_cls hC1 hC2 ⟨rfl, ?_⟩
  refine PySem.ks_wpAny_call_super hC1 hC2 he2 rfl (fun c z => nomatch z) (PySem.W.looks_mroIn X2 T.mro) (fun h3 hso up3 => ?_)
  obtain ⟨Fr3, N3, _⟩ := PySem.W.ks_newsPush (s := ⟨h2, g, dr, tk, os⟩) Fr2 N2 rfl hso up3
  have I3 : PySem.W.InstAt h3 e (xObj C hp.objs.size) C none := ⟨up3 _ _ he2, rfl, rfl, trivial⟩
  refine PySem.W.kxs_method o.kxs Fr3 X N3 List.mem_cons_self I3 T.tp T.si T.sB (by decide) (fun mw h4 Fr4 N4 _ => ?_)
  have he4 := (N4 (e, xObj C hp.objs.size) (by simp)).1
  have hmw := (N4 (mw, PySem.W.kxs_mw b.initId e) (by simp)).1
  have up4 : ∀ a v, hp.get? a = some v → a ≠ e := fun a v z => Nat.ne_of_lt (Nat.lt_of_lt_of_le (Heap.lt_size z) (Nat.le_succ _))
  refine PySem.W.kxs_callWith1 N4 List.mem_cons_self ?_
  show wpAny _ _ (spliced ((false, PySem.eval (.Name f p3) (callEnv fd h1.objs.size fI)) :: backTo p4 (starEach [] (callEnv fd h1.objs.size fI)))) _ _ _
  refine Calls.spliced_cons (wpAny_Name (wpAny_loadName_local F.kd F.n2 Fr4.ns m2 (Calls.spliced_nil ⟨PySem.W.kxs_at N4 List.mem_cons_self, ?_⟩)) T.fdb)
  refine x_call_mw o (Fr4.keep _ _ hC) he4 hmw hz fun h5 k5 he5 => ?_
  have X5 : K.In h5 := X.keeps fun a v z => k5 a v (up4 a v z) (Fr4.keep a v z)
  have ns5 : h5.Ns h1.objs.size (fun x => [(("self" : Str), Value.ref e), (f, u)].reverse.lookup x) := by
    obtain ⟨z1, z2, z3, z4, z5⟩ := Fr4.ns
    exact ⟨z1, z2, z3, k5 _ _ (Ne.symm eL) z4, z5⟩
  -- self.f = x
  refine PySem.ks_wpAt_execs_cons (PySem.ks_wpAt_Assign_Attr (PySem.wpAt_of_wpAny (wpAny_Name (wpAny_loadName_local F.kd F.n2 ns5 m2 ?_) T.fdb)))
  refine wpAny_Name (wpAny_loadName_local F.kd F.n1 ns5 m1 ?_) (by decide)
  refine x_store T X5 he5 fun h6 tk' dx k6 dn dne he6 n6 => ?_
  refine PySem.wpAt_of_wpAny (wpAny_execs_nil ⟨rfl, ?_⟩)
  refine q h6 tk' e dx _ (fun a v z => k6 a v (up4 a v z) (k5 a v (up4 a v z) (Fr4.keep a v z))) nb (Heap.get?_none_of_le ?_) dne he6 n6
  have z : h1.objs.size < h5.objs.size := Heap.lt_size (k5 _ _ (Ne.symm eL) Fr4.ns.choose_spec.choose_spec.choose_spec.1)
  omega
end
end MP

/-! MP.Exc2: own exceptions as values: made, asked, read. -/
namespace MP
open PySem PySem.Spec PyProof.Rows L2

section
variable {X : Cx} {pins : List (Addr × Obj)} {σ : L2.St} {H : Hp} {s : Shared} {C : Addr} {f : Str} {b : XB}
theorem exo_fr {a C : Addr} {d : Option Addr} {u : HO} (h : ∀ φ, u ≠ .ext φ) : exo a C d ≠ u := fun z => h _ z.symm
-- an exception with its dict is laid
theorem laid_exo {h' : PySem.Heap} {a dx t1 : Addr} {vfs : List (Str × V)} {mA : Str → Option Value} {tk : Nat} (I : Inv X pins σ H s) (k : ∀ b o, s.heap.get? b = some o → h'.get? b = some o) (ha : s.heap.get? a = none) (hd : s.heap.get? dx = none) (ne : dx ≠ a)
    (oa : h'.get? a = some { xObj C t1 with dict := some dx }) (od : h'.Ns1 dx mA) (rl : ∀ g, RelO (vfs.lookup g) (mA g)) :
    H a = none ∧ H dx = none ∧ Inv X pins σ (upd (upd H dx (.xd vfs)) a (exo a C (some dx))) { s with heap := h', toks := tk } := by
  have na : H a = none := I.hok.gone ha
  have nd : H dx = none := I.hok.gone hd
  have n1 : ∀ {b : Addr} {o : Obj}, s.heap.get? b = some o → b ≠ a ∧ b ≠ dx := fun {b o} z => ⟨fun e => (by rw [e, ha] at z; cases z), fun e => (by rw [e, hd] at z; cases z)⟩
  have n2 : ∀ {b : Addr} {u : HO}, H b = some u → b ≠ a ∧ b ≠ dx := fun {b u} z => ⟨ne_of_none z na, ne_of_none z nd⟩
  refine ⟨na, nd, I.un (t' := tk) ?_ fun b u z => ?_⟩
  · exact { keep := fun b o q _ _ _ => k b o q
            slot := fun b o q _ _ _ => ⟨o.slots, k b o q⟩
            free := fun b o q n _ => by rw [upd_ne (n1 q).1, upd_ne (n1 q).2]; exact n
            there := fun b o q _ => ⟨o, k b o q⟩
            tups := fun b xs q => by rw [upd_ne (n2 q).1, upd_ne (n2 q).2]; exact q
            frzs := fun b o v q => by rw [upd_ne (n2 q).1, upd_ne (n2 q).2]; exact q
            tbls := fun b ps q => ⟨#[], by rw [upd_ne (n2 q).1, upd_ne (n2 q).2, q]; simp⟩ }
  · by_cases hb : b = a
    · subst hb
      rw [upd_same] at z
      cases z
      exact exo_ok oa
    · rw [upd_ne hb] at z
      by_cases hb2 : b = dx
      · subst hb2
        rw [upd_same] at z
        cases z
        exact ⟨mA, od, rl⟩
      · rw [upd_ne hb2] at z
        exact (I.hok b u z).stay (fun c v _ q => k c v q) (fun c q => by rw [upd_ne (n2 q).1, upd_ne (n2 q).2]; exact q) fun c xs q => by rw [upd_ne (n2 q).1, upd_ne (n2 q).2]; exact q
-- C(e), C with an own __init__
def tMkX (C : Addr) (f : Str) (ta : TE) : TE := fun σ H Q => ta σ H fun y H1 => ∀ a dx, H1 a = none → H1 dx = none → dx ≠ a → Q (.ref a) (upd (upd H1 dx (.xd [(f, y)])) a (exo a C (some dx)))
theorem pe_mkX {x : Str} {e : Expr} {ta : TE} {p pos : Pos} {k : Nat} (T : XMk X.prog X.K C f b) (gC : X.mg x = some (.ref C)) (kC : PySem.W.keepIn X.K (.ref C) = true) (hg : Gl X x) (hr : L2.Room (k + 1) X.A)
    (he : PE X e ta) (hs : starEach [e] X.env = (false, PySem.eval e X.env) :: starEach [] X.env) (hdb : (x == ("__debug__" : Str)) = false) :
    PE X (.Call (.Name x p) [e] [] pos) (tMkX C f ta) := by
  refine ⟨fun pins s σ H Q I h => ?_⟩
  refine wpAny_Call_Name_kw (ld_glob I hg gC ?_ hdb)
  refine PySem.W.callWith_K (h₀ := X.base) I.ok.mod.kin kC ?_ hs (by rfl)
  rw [hs]
  show wpAny _ _ (spliced ((false, PySem.eval e X.env) :: backTo pos (starEach [] X.env))) _ _ s
  refine Calls.spliced_cons (thn (he.run pins s σ H _ I h) fun u s1 ⟨v, H1, I1, r1, q1⟩ => Calls.spliced_nil ⟨I1.kIn, ?_⟩)
  show wpAny _ _ (call (.ref C) [u]) _ _ _
  obtain ⟨hp, g, dr, tk, os⟩ := s1
  refine x_made T I1.mod.kin I1.mod.glob I1.mod.blt I1.mod.nolimit I1.bk (Nat.le_trans I1.ok.bsz I1.sz) (hr.mono (by omega)) fun h' tk' a dx t1 k' ha hd ne oa od => ?_
  obtain ⟨na, nd, I2⟩ := laid_exo (tk := tk') (vfs := [(f, v)]) I1 k' ha hd ne oa od (relO_put (fs := []) r1 fun _ => trivial)
  exact ⟨.ref a, _, I2, rfl, q1 a dx na nd ne⟩
-- C(e), C with a built-in __init__
def tMkM (C : Addr) (ta : TE) : TE := fun σ H Q => ta σ H fun _ H1 => ∀ a, H1 a = none → Q (.ref a) (upd H1 a (exo a C none))
theorem pe_mkM {bmB : List Value} {B newId initId : String} {x : Str} {e : Expr} {ta : TE} {p pos : Pos} (F : ExcBaseFacts B newId initId bmB) (q : PySem.W.excIn X.K C bmB newId = true) (gC : X.mg x = some (.ref C)) (kC : PySem.W.keepIn X.K (.ref C) = true) (hg : Gl X x)
    (he : PE X e ta) (hs : starEach [e] X.env = (false, PySem.eval e X.env) :: starEach [] X.env) (hdb : (x == ("__debug__" : Str)) = false) :
    PE X (.Call (.Name x p) [e] [] pos) (tMkM C ta) := by
  refine ⟨fun pins s σ H Q I h => ?_⟩
  refine wpAny_Call_Name_kw (ld_glob I hg gC ?_ hdb)
  refine PySem.W.callWith_K (h₀ := X.base) I.ok.mod.kin kC ?_ hs (by rfl)
  rw [hs]
  show wpAny _ _ (spliced ((false, PySem.eval e X.env) :: backTo pos (starEach [] X.env))) _ _ s
  refine Calls.spliced_cons (thn (he.run pins s σ H _ I h) fun u s1 ⟨v, H1, I1, r1, q1⟩ => Calls.spliced_nil ⟨I1.kIn, ?_⟩)
  show wpAny _ _ (call (.ref C) [u]) _ _ _
  obtain ⟨bm, N, nm, qn, bs, hdct, sn, sub, ab, col, dd, k0, k1, k2, k3, k5, mN, hC, hN, hni, T⟩ := exc_obj I1.kIn q
  refine wpAny_call_exc_subT F T hC hN hni (fun h' a hm => ?_) (by show 1 ≤ sizeLine; rw [sizeLine_eq]; decide)
  have hn : H1 a = none := I1.hok.gone hm.new
  obtain ⟨t, ht, _, _⟩ := hm.there
  exact ⟨.ref a, _, I1.laidN hm.keeps hm.new hn (exo_ok ht), rfl, q1 a hn⟩

/-! ### isinstance -/
-- the exception's object, its dict
theorem exo_inst {a C : Addr} {d : Option Addr} {H : Hp} {h : PySem.Heap} (hok : HOk X.prog X.w H h) (e : Rd H a (exo a C d)) (ed : ∀ dx, d = some dx → ∃ vfs, Rd H dx (.xd vfs)) :
    ∃ (ox : Obj) (od : Option Obj), PySem.W.InstAt h a ox C od ∧ ∀ dx vfs, d = some dx → Rd H dx (.xd vfs) → ∃ (o : Obj) (mA : Str → Option Value), od = some o ∧ (∀ name, PySem.W.lookIn name o = some (mA name)) ∧ ∀ g, RelO (vfs.lookup g) (mA g) := by
  have x : ObjOk X.prog X.w H h a (.ext fun h => ∃ t1 : Addr, h.get? a = some ({ cls := .ref C, dict := d, data := .fields #[.ref t1, .none, .none, .none, .bool false, .none] } : Obj)) := e.ok hok
  obtain ⟨t1, oa⟩ := x.1
  cases d with
  | none => exact ⟨_, none, ⟨oa, rfl, rfl, trivial⟩, fun dx vfs z => nomatch z⟩
  | some dx =>
    obtain ⟨vfs, e2⟩ := ed dx rfl
    have x : ObjOk X.prog X.w H h dx (.xd vfs) := e2.ok hok
    obtain ⟨mA, hns, hr⟩ := x
    obtain ⟨o, ho, hl⟩ := lookIn_ns hns
    refine ⟨_, some o, ⟨oa, rfl, rfl, ho⟩, fun dx' vfs' z z2 => ?_⟩
    cases z
    have x2 : ObjOk X.prog X.w H h dx (.xd vfs') := z2.ok hok
    obtain ⟨mA2, hns2, hr2⟩ := x2
    obtain ⟨o2, ho2, hl2⟩ := lookIn_ns hns2
    rw [ho] at ho2
    cases ho2
    exact ⟨o, mA2, rfl, hl2, hr2⟩
end
section
variable {prog : Program} {w : PySem.World} {A : Around} {E : Value → Shared → Prop} {s : Shared} {K : PySem.W.Frag} {x D : Addr} {ox : Obj} {od : Option Obj}
open PySem.W in
theorem x_class {Q : Option Value → Shared → Prop} (c : ExcC K D) (X : K.In s.heap) (I : PySem.W.InstAt s.heap x ox D od) (q : Q (some (.ref D)) { s with toks := s.toks + 1 }) : wpAny (model prog w) A (getAttr? (.ref x) "__class__") Q E s := by
  have hf : findObj K D od "__class__" = some (.bind (.builtin "getset_descriptor.__get__") (.builtin "object.__class__")) := by
    obtain ⟨cd, hc, _⟩ := any_some c.hd
    unfold findObj
    rw [hc, Option.bind_some, c.ha, Option.bind_some]
    simp [c.hn, c.ht]
  obtain ⟨hp, g, dr, tk, os⟩ := s
  have l0 := I.type (M := model prog w)
  have l1 := looks_findIn (M := model prog w) X c.hg
  have l2 := looks_findIn (M := model prog w) X c.hk
  have l3 := looks_find (M := model prog w) X I hf
  have sb : Looks (model prog w) hp (isInstance (.ref x) (.type "BaseException")) true := l0.andThen (looks_subIn X c.hs)
  have z1 : (Value.builtin "BaseException.__getattribute__" == Value.builtin "object.__getattribute__") = false := by decide +kernel
  have z2 : (onTheHeap (Value.ref D) && Value.builtin "BaseException.__getattribute__" == Value.builtin "object.__getattribute__") = false := by rw [z1] <;> rfl
  have z3 : (false && onTheHeap (Value.builtin "BaseException.__getattribute__")) = false := rfl
  unfold getAttr? getAttrBy? getAttrBy
  refine wpAny_bind (wpAny_mkText (wpAny_bind (wpAny_attempt (wpAny_holding (wpAny_bind (l0.at (wpAny_bind (l1.at ?_))))))))
  show wpAny _ _ (if (onTheHeap (Value.ref D) && Value.builtin "BaseException.__getattribute__" == Value.builtin "object.__getattribute__") = true then _ else _) _ _ _
  rw [z2, if_neg Bool.false_ne_true]
  unfold getAttrByItsOwn hookBefore
  refine wpAny_bind ?_
  rw [if_pos (show onTheHeap (Value.ref D) = true from rfl)]
  refine l2.at (wpAny_bind (wpAny_attempt (wpAny_holding ?_)))
  unfold callGetattribute
  rw [z3, if_neg Bool.false_ne_true]
  unfold boundAndCalled
  rw [PySem.F.excAttr_ValueError.ga.bind (.ref x)]
  refine wpAny_bind (wpAny_pure ?_)
  show wpAny _ _ (call (.builtin "BaseException.__getattribute__") [.ref x, .str "__class__" tk]) _ _ _
  refine wpAny_call (codeAny_call_builtin PySem.F.excAttr_ValueError.ga.plain PySem.F.entry_bexc_ga (@check_slot (model prog w) _ _ ⟨hp, g, dr, tk + 1, os⟩ "BaseException.__getattribute__" "BaseException" "__getattribute__" (.ref x) [.str "__class__" tk] [] _ (by decide +kernel) (by decide +kernel) sb (PySem.F.args_bexc_ga (.ref x) (.str "__class__" tk)) ?_))
  unfold Builtin.«object.__getattribute__»
  refine wpAny_bind (wpAny_of_eq (a := ((Value.ref x : Value), [Value.str "__class__" tk])) (by first | rfl | (simp only [slotArgs]; rfl)) (wpAny_bind (wpAny_pure (wpAny_bind (l0.at (wpAny_bind (l3.at ?_)))))))
  show wpAny _ _ (holding [Value.builtin "object.__class__"] (call (.builtin "getset_descriptor.__get__") [.builtin "object.__class__", .ref x, .ref D]) >>= ret) _ _ _
  refine wpAny_bind (wpAny_holding (wpAny_call (class_get (s := ⟨hp, g, dr, tk + 1, os⟩) (ox := ox) (od := od) X I c.hm (wpAny_pure ?_))))
  show wpAny _ _ (handedOut (.ref D)) _ _ _
  rw [handedOut_of (v := .ref D) rfl]
  first
    | exact wpAny_pure (wpAny_pure q)
    | exact wpAny_pure q
    | exact wpAny_pure (wpAny_bind (wpAny_pure (wpAny_pure q)))
theorem x_kit (c : ExcC K D) : PySem.W.KitX K (.ref x) (.ref D) (fun h => ∃ ox od, PySem.W.InstAt h x ox D od) := by
  obtain ⟨cd, hc, _⟩ := PySem.W.any_some c.hd
  have at_ : ∃ o : Obj, K.lookup D = some o ∧ o.data = .cls cd := by
    unfold PySem.W.clsIn at hc
    split at hc
    · rename_i z1 z2 z3 z4 ho
      cases hc
      exact ⟨_, ho, rfl⟩
    · cases hc
  obtain ⟨o, lo, eo⟩ := at_
  refine ⟨fun M h X q => ?_, fun M h X q => ?_, fun h tp dd its n sl X htp => ?_, fun X q k => ?_⟩
  · obtain ⟨ox, od, I⟩ := q
    exact I.type
  · intro A' Q' E' s' k q'
    unfold isType loadHead
    refine wpAny_bind (wpAny_loadPart (k _ _ (X _ _ lo)) ?_)
    rw [eo]
    exact wpAny_pure q'
  · refine Bool.eq_false_iff.mpr fun q => ?_
    have e : D = tp := Value.ref.inj (beq_iff_eq.mp q)
    subst e
    have z := (X _ _ lo).symm.trans htp
    cases z
    cases eo
  · obtain ⟨ox, od, I⟩ := q
    exact x_class c X I k
end
section
variable {X : Cx}
-- isinstance(e, c), e an exception of ours
def rIsX (K : PySem.W.Frag) : List V → Hp → VK → Prop := fun xs H Q => ∃ (a D : Addr) (d : Option Addr) (c : V) (cv : Value) (b : Bool), xs = [.ref a, c] ∧ Rd H a (exo a D d) ∧ (∀ dx, d = some dx → ∃ vfs, Rd H dx (.xd vfs)) ∧ ExcC K D ∧ (∀ u, RelV c u → u = cv) ∧ PySem.W.kitOne K (.ref D) cv = some b ∧ Q (.bl b) H
theorem call_isX : CallR X (.builtin "isinstance") (rIsX X.K) := by
  intro pins s σ H xs us Q I r h
  obtain ⟨a, D, d, c, cv, b, rfl, e1, e2, C, hcv, e, q⟩ := h
  cases r with
  | cons rx rr =>
    cases rr with
    | cons rt rr =>
      cases rr
      cases rx
      have ec := hcv _ rt
      subst ec
      obtain ⟨ox, od, J, _⟩ := exo_inst I.hok e1 e2
      exact PySem.W.kia_one (x_kit C) I.kIn ⟨ox, od, J⟩ e (fun z => nomatch z) fun tk => ⟨.bl b, H, I.kept (t' := tk) fun _ _ z => z, rfl, q⟩
-- e.f
def tXr (C : Addr) (f : Str) (te : TE) : TE := fun σ H Q => te σ H fun x H1 => ∃ (a dx : Addr) (vfs : List (Str × V)) (v : V), x = .ref a ∧ Rd H1 a (exo a C (some dx)) ∧ Rd H1 dx (.xd vfs) ∧ vfs.lookup f = some v ∧ Q v H1
theorem pe_xr {C : Addr} {e : Expr} {te : TE} {pos : Pos} {f : Str} (T : XfC X.K C) (hno : PySem.W.findIn X.K (.ref C) f = some none) (he : PE X e te) (hb : attributeBase e f X.env (PySem.eval e X.env) = PySem.eval e X.env) :
    PE X (.Attribute e f pos) (tXr C f te) := by
  refine ⟨fun pins s σ H Q I h => ?_⟩
  refine attr_of hb (thn (he.run pins s σ H _ I h) fun u s1 hh => ?_)
  obtain ⟨x, H1, I1, rx, a, dx, vfs, v, ex, e1, e2, l, q⟩ := hh
  subst ex
  obtain rfl : u = Value.ref a := rx
  obtain ⟨ox, od, J, k⟩ := exo_inst I1.hok e1 (fun dx' z => by cases z; exact ⟨vfs, e2⟩)
  obtain ⟨o, mA, rfl, hl, hr⟩ := k dx vfs rfl e2
  obtain ⟨u, hu, ru⟩ := RelO.some_of (v := v) (o := mA f) (by rw [← l]; exact hr f)
  exact PySem.HandSPX.exc_get I1.kIn J T.ga T.gg T.exC (PySem.W.findObj_own T.hdC hno rfl (by rw [hl, hu])) (handed_of ru) ⟨v, H1, I1.tok _, ru, q⟩
end
end MP

set_option maxHeartbeats 2000000
/-! MP.Rel: values of MP beside values of the model. -/
namespace MP
open PySem PySem.Spec PyProof.Rows L2

-- where the places of the store stand; s: addresses that may change all the same
structure Mu where
  f : Nat → Addr
  s : Addr → Prop
instance : CoeFun Mu (fun _ => Nat → Addr) := ⟨Mu.f⟩
-- a list of the written part
def KL (K : PySem.W.Frag) (a : Addr) (xs : List V) : Prop :=
  ∃ (o : Obj) (its : Array Value) (n : Nat), K.lookup a = some o ∧ o.cls = .type "list" ∧ o.dict = none ∧ o.data = .seq its n ∧ its.size ≤ sizeLine ∧ Vals xs its.toList
-- a frozen thing: no place of the store is its own
def Fz (μ : Mu) (n : Nat) (H : Hp) (a : Addr) (u : HO) : Prop := Rd H a u ∧ (∀ p, p < n → μ p ≠ a) ∧ ¬ μ.s a
def FzL (K : PySem.W.Frag) (μ : Mu) (n : Nat) (H : Hp) (a : Addr) (xs : List V) : Prop :=
  KL K a xs ∨ Fz μ n H a (.lst xs)
theorem FzL.imp {K : PySem.W.Frag} {μ μ' : Mu} {n n' : Nat} {H H' : Hp} {a : Addr} {xs : List V} (q : FzL K μ n H a xs) (f : ∀ a u, Fz μ n H a u → Fz μ' n' H' a u) : FzL K μ' n' H' a xs := Or.imp id (f a _) q
-- what stands at a place: it may be changed
def Chg : HO → Prop
  | .lst _ => True
  | .dK _ => True
  | _ => False
theorem FzL.sqk {K : PySem.W.Frag} {μ : Mu} {n : Nat} {H : Hp} {a : Addr} {xs : List V} (h : FzL K μ n H a xs) : SqL K H a xs := by
  rcases h with h | ⟨h, _⟩
  · exact .inr h
  · exact .inl h
theorem FzL.rd {μ : Mu} {n : Nat} {H : Hp} {a : Addr} {xs : List V} (h : FzL [] μ n H a xs) : Rd H a (.lst xs) := by
  rcases h with ⟨_, _, _, e, _⟩ | ⟨h, _⟩
  · cases e
  · exact h
theorem FzL.sq {K : PySem.W.Frag} {μ : Mu} {n : Nat} {H : Hp} {a : Addr} {xs : List V} (h : FzL [] μ n H a xs) : SqL K H a xs := .inl h.rd
mutual
def RD (K : PySem.W.Frag) (μ : Mu) (n : Nat) (H : Hp) : D → V → Prop
  | .non, v => v = .non
  | .bl b, v => v = .bl b
  | .int i, v => v = .int i
  | .str x, v => v = .str x
  | .tup l, v => ∃ a vs, v = .ref a ∧ SqT K H a vs ∧ RDs K μ n H l vs
  | .lst l, v => ∃ a vs, v = .ref a ∧ FzL [] μ n H a vs ∧ RDs K μ n H l vs
  | .scr l, v => ∃ a vs, v = .ref a ∧ FzL K μ n H a vs ∧ RDs K μ n H l vs
  | .dic ks l, v => ∃ (a : Addr) (kvs : List (Key × V)), v = .ref a ∧ Fz μ n H a (.dK kvs) ∧ kvs.map (·.1) = ks ∧ RDs K μ n H l (kvs.map (·.2))
  | .exo x fs l, v => ∃ (a : Addr) (dd : Option Addr) (vfs : List (Str × V)), v = .ref a ∧ Fz μ n H a (exo a (He.ga K x) dd) ∧ (∀ dx, dd = some dx → Fz μ n H dx (.xd vfs)) ∧ (dd = none → fs = []) ∧ vfs.map (·.1) = fs ∧ RDs K μ n H l (vfs.map (·.2))
  | .loc p, v => p < n ∧ v = .ref (μ p)
def RDs (K : PySem.W.Frag) (μ : Mu) (n : Nat) (H : Hp) : List D → List V → Prop
  | [], vs => vs = []
  | d :: ds, vs => ∃ v r, vs = v :: r ∧ RD K μ n H d v ∧ RDs K μ n H ds r
end
def RO (K : PySem.W.Frag) (μ : Mu) (n : Nat) (H : Hp) (a : Addr) : O → Prop
  | .lst l => ∃ vs, H a = some (.lst vs) ∧ RDs K μ n H l vs
  | .dic l => ∃ kvs : List (Key × V), H a = some (.dK kvs) ∧ kvs.map (·.1) = l.map (·.1) ∧ RDs K μ n H (l.map (·.2)) (kvs.map (·.2))
structure HR (K : PySem.W.Frag) (μ : Mu) (h : Heap) (H : Hp) : Prop where
  sn : ∀ a, μ.s a → H a ≠ none
  sp : ∀ a, μ.s a → ∀ p, p < h.length → μ p ≠ a
  inj : ∀ p q, p < h.length → q < h.length → μ p = μ q → p = q
  ob : ∀ p o, h[p]? = some o → RO K μ h.length H (μ p) o
structure Post (K : PySem.W.Frag) (μ : Mu) (h : Heap) (H : Hp) (μ' : Mu) (h' : Heap) (H' : Hp) : Prop where
  len : h.length ≤ h'.length
  sd1 : ∀ a, μ.s a → μ'.s a
  sd2 : ∀ a, μ'.s a → μ.s a ∨ H a = none
  ext : ∀ p, p < h.length → μ' p = μ p
  hr : HR K μ' h' H'
  fresh : ∀ p, h.length ≤ p → p < h'.length → H (μ' p) = none
  keep : ∀ b o, H b = some o → (∀ p, p < h.length → μ p ≠ b) → H' b = some o

section
variable {K : PySem.W.Frag} {μ μ' μ1 μ2 : Mu} {h h' h1 h2 : Heap} {H H' H1 H2 : Hp} {n : Nat}
theorem HR.at (r : HR K μ h H) {p : Nat} (hp : p < h.length) : ∃ u, H (μ p) = some u ∧ Chg u := by
  have e : h[p]? = some h[p] := List.getElem?_eq_getElem hp
  have q := r.ob p _ e
  cases c : h[p] with
  | lst l =>
    rw [c] at q
    obtain ⟨vs, e, _⟩ := q
    exact ⟨_, e, trivial⟩
  | dic l =>
    rw [c] at q
    obtain ⟨vs, e, _⟩ := q
    exact ⟨_, e, trivial⟩
theorem HR.ne_tup (r : HR K μ h H) {a : Addr} {xs : List V} (e : H a = some (.tup xs)) : ∀ p, p < h.length → μ p ≠ a := fun p hp z => by
  obtain ⟨u, e2, c⟩ := r.at hp
  rw [z, e] at e2
  cases e2
  exact c
theorem HR.ne_frz (r : HR K μ h H) {a : Addr} {o : Obj} {u : HO} (e : H a = some (.frz o u)) : ∀ p, p < h.length → μ p ≠ a := fun p hp z => by
  obtain ⟨u, e2, c⟩ := r.at hp
  rw [z, e] at e2
  cases e2
  exact c
theorem HR.ne_none (r : HR K μ h H) {a : Addr} (e : H a = none) : ∀ p, p < h.length → μ p ≠ a := fun p hp z => by
  obtain ⟨u, e2, c⟩ := r.at hp
  rw [z, e] at e2
  cases e2
theorem Post.rdT (P : Post K μ h H μ' h' H') (r : HR K μ h H) {a : Addr} {xs : List V} (q : SqT K H a xs) : SqT K H' a xs := by
  rcases q with (q | ⟨o, q⟩) | q
  · exact .inl (.inl (P.keep a _ q (r.ne_tup q)))
  · exact .inl (.inr ⟨o, P.keep a _ q (r.ne_frz q)⟩)
  · exact .inr q
theorem Post.fzu (P : Post K μ h H μ' h' H') (r : HR K μ h H) {a : Addr} {u : HO} (q : Fz μ h.length H a u) : Fz μ' h'.length H' a u := by
  obtain ⟨q, ne, ns⟩ := q
  have q' : Rd H' a u := by
    rcases q with q | ⟨o, q⟩
    · exact .inl (P.keep a _ q ne)
    · exact .inr ⟨o, P.keep a _ q (r.ne_frz q)⟩
  have ta : H a ≠ none := by
    rcases q with q | ⟨o, q⟩ <;> rw [q] <;> exact fun z => nomatch z
  refine ⟨q', fun p hp => ?_, fun z => (P.sd2 a z).elim ns ta⟩
  by_cases hl : p < h.length
  · rw [P.ext p hl]
    exact ne p hl
  · intro z
    have f := P.fresh p (by omega) hp
    rw [z] at f
    rcases q with q | ⟨o, q⟩ <;> rw [q] at f <;> cases f
theorem Post.fz (P : Post K μ h H μ' h' H') (r : HR K μ h H) {L : PySem.W.Frag} {a : Addr} {xs : List V} (q : FzL L μ h.length H a xs) : FzL L μ' h'.length H' a xs := q.imp fun _ _ => P.fzu r
mutual
-- the general step: what is kept of tuples, frozen lists, places (below m)
theorem RD.gen {n' m : Nat} (ht : ∀ a xs, SqT K H a xs → SqT K H' a xs) (hf : ∀ a u, Fz μ n H a u → Fz μ' n' H' a u) (hl : ∀ p, p < n → p < m → p < n' ∧ μ' p = μ p) :
    ∀ (d : D) (v : V), cl m d = true → RD K μ n H d v → RD K μ' n' H' d v
  | .non, _, _, q => q
  | .bl _, _, _, q => q
  | .int _, _, _, q => q
  | .str _, _, _, q => q
  | .tup l, v, c, q => by
    simp only [RD, cl] at q c ⊢
    obtain ⟨a, vs, e, s, t⟩ := q
    exact ⟨a, vs, e, ht _ _ s, RDs.gen ht hf hl l vs c t⟩
  | .lst l, v, c, q => by
    simp only [RD, cl] at q c ⊢
    obtain ⟨a, vs, e, s, t⟩ := q
    exact ⟨a, vs, e, s.imp hf, RDs.gen ht hf hl l vs c t⟩
  | .scr l, v, c, q => by
    simp only [RD, cl] at q c ⊢
    obtain ⟨a, vs, e, s, t⟩ := q
    exact ⟨a, vs, e, s.imp hf, RDs.gen ht hf hl l vs c t⟩
  | .dic ks l, v, c, q => by
    simp only [RD, cl] at q c ⊢
    obtain ⟨a, kvs, e, s, ek, t⟩ := q
    exact ⟨a, kvs, e, hf _ _ s, ek, RDs.gen ht hf hl l _ c t⟩
  | .exo x fs l, v, c, q => by
    simp only [RD, cl] at q c ⊢
    obtain ⟨a, dd, vfs, e, s1, s2, z, ek, t⟩ := q
    exact ⟨a, dd, vfs, e, hf _ _ s1, fun dx w => hf _ _ (s2 dx w), z, ek, RDs.gen ht hf hl l _ c t⟩
  | .loc p, v, c, q => by
    simp only [RD, cl, decide_eq_true_eq] at q c ⊢
    obtain ⟨h1, h2⟩ := hl p q.1 c
    exact ⟨h1, by rw [h2]; exact q.2⟩
theorem RDs.gen {n' m : Nat} (ht : ∀ a xs, SqT K H a xs → SqT K H' a xs) (hf : ∀ a u, Fz μ n H a u → Fz μ' n' H' a u) (hl : ∀ p, p < n → p < m → p < n' ∧ μ' p = μ p) :
    ∀ (ds : List D) (vs : List V), clL m ds = true → RDs K μ n H ds vs → RDs K μ' n' H' ds vs
  | [], _, _, q => q
  | d :: ds, vs, c, q => by
    simp only [RDs, clL, Bool.and_eq_true] at q c ⊢
    obtain ⟨v, r', e, q1, q2⟩ := q
    exact ⟨v, r', e, RD.gen ht hf hl d v c.1 q1, RDs.gen ht hf hl ds r' c.2 q2⟩
end
mutual
theorem RD.cl : ∀ (d : D) (v : V), RD K μ n H d v → cl n d = true
  | .non, _, _ => rfl
  | .bl _, _, _ => rfl
  | .int _, _, _ => rfl
  | .str _, _, _ => rfl
  | .tup l, v, q => by
    simp only [RD, MP.cl] at q ⊢
    obtain ⟨a, vs, e, s, t⟩ := q
    exact RDs.cl l vs t
  | .lst l, v, q => by
    simp only [RD, MP.cl] at q ⊢
    obtain ⟨a, vs, e, s, t⟩ := q
    exact RDs.cl l vs t
  | .scr l, v, q => by
    simp only [RD, MP.cl] at q ⊢
    obtain ⟨a, vs, e, s, t⟩ := q
    exact RDs.cl l vs t
  | .dic ks l, v, q => by
    simp only [RD, MP.cl] at q ⊢
    obtain ⟨a, kvs, e, s, ek, t⟩ := q
    exact RDs.cl l _ t
  | .exo x fs l, v, q => by
    simp only [RD, MP.cl] at q ⊢
    obtain ⟨a, dd, vfs, e, s1, s2, z, ek, t⟩ := q
    exact RDs.cl l _ t
  | .loc p, v, q => by
    simp only [RD, MP.cl, decide_eq_true_eq] at q ⊢
    exact q.1
theorem RDs.cl : ∀ (ds : List D) (vs : List V), RDs K μ n H ds vs → clL n ds = true
  | [], _, _ => rfl
  | d :: ds, vs, q => by
    simp only [RDs, clL, Bool.and_eq_true] at q ⊢
    obtain ⟨v, r', e, q1, q2⟩ := q
    exact ⟨RD.cl d v q1, RDs.cl ds r' q2⟩
end
theorem Post.rl (P : Post K μ h H μ' h' H') : ∀ p, p < h.length → p < h.length → p < h'.length ∧ μ' p = μ p := fun p hp _ => ⟨Nat.lt_of_lt_of_le hp P.len, P.ext p hp⟩
theorem RD.mono (P : Post K μ h H μ' h' H') (r : HR K μ h H) (d : D) (v : V) (q : RD K μ h.length H d v) : RD K μ' h'.length H' d v :=
  RD.gen (fun _ _ => P.rdT r) (fun _ _ => P.fzu r) P.rl d v (RD.cl d v q) q
theorem RDs.mono (P : Post K μ h H μ' h' H') (r : HR K μ h H) (ds : List D) (vs : List V) (q : RDs K μ h.length H ds vs) : RDs K μ' h'.length H' ds vs :=
  RDs.gen (fun _ _ => P.rdT r) (fun _ _ => P.fzu r) P.rl ds vs (RDs.cl ds vs q) q
theorem Post.refl (r : HR K μ h H) : Post K μ h H μ h H :=
  ⟨Nat.le_refl _, fun _ z => z, fun _ z => .inl z, fun _ _ => rfl, r, fun p h1 h2 => absurd h2 (by omega), fun _ _ e _ => e⟩
-- what was nowhere stays so in what was before
theorem Post.none_back (P : Post K μ h H μ1 h1 H1) {a : Addr} (e : H1 a = none) : H a = none := by
  cases q : H a with
  | none => rfl
  | some o =>
    by_cases hx : ∃ p, p < h.length ∧ μ p = a
    · obtain ⟨p, hp, rfl⟩ := hx
      obtain ⟨xs, e2, _⟩ := P.hr.at (Nat.lt_of_lt_of_le hp P.len)
      rw [P.ext p hp, e] at e2
      cases e2
    · have := P.keep a o q fun p hp z => hx ⟨p, hp, z⟩
      rw [e] at this
      cases this
theorem Post.trans (P : Post K μ h H μ1 h1 H1) (P2 : Post K μ1 h1 H1 μ2 h2 H2) : Post K μ h H μ2 h2 H2 := by
  refine ⟨Nat.le_trans P.len P2.len, fun a z => P2.sd1 a (P.sd1 a z), fun a z => (P2.sd2 a z).elim (P.sd2 a) fun e => .inr (P.none_back e), fun p hp => ?_, P2.hr, fun p h3 h4 => ?_, fun b o e ne => ?_⟩
  · rw [P2.ext p (Nat.lt_of_lt_of_le hp P.len), P.ext p hp]
  · by_cases hl : p < h1.length
    · rw [P2.ext p hl]
      exact P.fresh p h3 hl
    · exact P.none_back (P2.fresh p (by omega) h4)
  · refine P2.keep b o (P.keep b o e ne) fun p hp z => ?_
    by_cases hl : p < h.length
    · rw [P.ext p hl] at z
      exact ne p hl z
    · have f := P.fresh p (by omega) hp
      rw [z, e] at f
      cases f
-- a new object of the model, told by no place
theorem Post.new (r : HR K μ h H) {p : Addr} {o : HO} (e : H p = none) : Post K μ h H μ h (upd H p o) := by
  have k : ∀ b u, H b = some u → upd H p o b = some u := fun b u q => by rw [upd_ne (ne_of_none q e)]; exact q
  have P : ∀ r', Post K μ h H μ h (upd H p o) := fun r' => ⟨Nat.le_refl _, fun _ z => z, fun _ z => .inl z, fun _ _ => rfl, r', fun p h1 h2 => absurd h2 (by omega), fun b u q _ => k b u q⟩
  have tupk : ∀ a xs, SqT K H a xs → SqT K (upd H p o) a xs := fun a xs q => by
    rcases q with (q | ⟨o, q⟩) | q
    · exact .inl (.inl (k _ _ q))
    · exact .inl (.inr ⟨o, k _ _ q⟩)
    · exact .inr q
  have fzk : ∀ a u, Fz μ h.length H a u → Fz μ h.length (upd H p o) a u := fun a u q => by
    rcases q with ⟨q | ⟨o, q⟩, ne⟩
    · exact ⟨.inl (k _ _ q), ne⟩
    · exact ⟨.inr ⟨o, k _ _ q⟩, ne⟩
  have mono : ∀ l vs, RDs K μ h.length H l vs → RDs K μ h.length (upd H p o) l vs := fun l vs q =>
    RDs.gen tupk fzk (fun p hp _ => ⟨hp, rfl⟩) l vs (RDs.cl l vs q) q
  refine P ⟨fun a sa => (by
    have := r.sn a sa
    cases q : H a with
    | none => exact absurd q this
    | some u => rw [k _ _ q]; exact fun z => nomatch z), r.sp, r.inj, fun q o' eq => ?_⟩
  have := r.ob q o' eq
  cases o' with
  | lst l =>
    obtain ⟨vs, e1, e2⟩ := this
    exact ⟨vs, k _ _ e1, mono l vs e2⟩
  | dic l =>
    obtain ⟨vs, e1, ek, e2⟩ := this
    exact ⟨vs, k _ _ e1, ek, mono _ _ e2⟩
-- an address that may change is written
theorem RD.updS {D0 : Addr} {vs ws : List V} (sD : μ.s D0) (e : H D0 = some (.lst vs)) : (∀ (d : D) (v : V), RD K μ n H d v → RD K μ n (upd H D0 (.lst ws)) d v) ∧ ∀ (ds : List D) (us : List V), RDs K μ n H ds us → RDs K μ n (upd H D0 (.lst ws)) ds us := by
  have tupk : ∀ a xs, SqT K H a xs → SqT K (upd H D0 (.lst ws)) a xs := fun a xs q => by
    rcases q with (q | ⟨o, q⟩) | q
    · refine .inl (.inl ?_)
      rw [upd_ne]
      · exact q
      · intro z
        rw [z, e] at q
        cases q
    · refine .inl (.inr ⟨o, ?_⟩)
      rw [upd_ne]
      · exact q
      · intro z
        rw [z, e] at q
        cases q
    · exact .inr q
  have fzk : ∀ a u, Fz μ n H a u → Fz μ n (upd H D0 (.lst ws)) a u := fun a u q => by
    obtain ⟨q, ne, ns⟩ := q
    have na : a ≠ D0 := fun z => ns (z ▸ sD)
    refine ⟨?_, ne, ns⟩
    rcases q with q | ⟨o, q⟩
    · exact .inl (by rw [upd_ne na]; exact q)
    · exact .inr ⟨o, by rw [upd_ne na]; exact q⟩
  exact ⟨fun d v q => RD.gen tupk fzk (fun p hp _ => ⟨hp, rfl⟩) d v (RD.cl d v q) q, fun ds us q => RDs.gen tupk fzk (fun p hp _ => ⟨hp, rfl⟩) ds us (RDs.cl ds us q) q⟩
theorem HR.updS (r : HR K μ h H) {D0 : Addr} {vs ws : List V} (sD : μ.s D0) (e : H D0 = some (.lst vs)) : HR K μ h (upd H D0 (.lst ws)) := by
  refine ⟨fun a sa => ?_, r.sp, r.inj, fun p o q => ?_⟩
  · by_cases ha : a = D0
    · rw [ha, upd_same]; exact fun z => nomatch z
    · rw [upd_ne ha]; exact r.sn a sa
  · have hp : p < h.length := by
      rcases Nat.lt_or_ge p h.length with z | z
      · exact z
      · rw [List.getElem?_eq_none z] at q; cases q
    have := r.ob p o q
    cases o with
    | lst l =>
      obtain ⟨us, e1, e2⟩ := this
      exact ⟨us, by rw [upd_ne (r.sp _ sD p hp)]; exact e1, (RD.updS sD e).2 _ _ e2⟩
    | dic l =>
      obtain ⟨us, e1, ek, e2⟩ := this
      exact ⟨us, by rw [upd_ne (r.sp _ sD p hp)]; exact e1, ek, (RD.updS sD e).2 _ _ e2⟩
-- without what stands at a
def del (H : Hp) (a : Addr) : Hp := fun b => if b = a then none else H b
theorem del_same (H : Hp) (a : Addr) : del H a a = none := if_pos rfl
theorem del_ne {H : Hp} {a b : Addr} (h : b ≠ a) : del H a b = H b := if_neg h
theorem del_some {H : Hp} {a b : Addr} {o : HO} (h : del H a b = some o) : b ≠ a ∧ H b = some o := by
  by_cases e : b = a
  · rw [e, del_same] at h; cases h
  · rw [del_ne e] at h; exact ⟨e, h⟩
theorem del_upd {H : Hp} {a : Addr} {o : HO} (h : H a = none) : del (upd H a o) a = H := by
  funext b
  by_cases e : b = a
  · rw [e, del_same, h]
  · rw [del_ne e, upd_ne e]
theorem upd_del {H : Hp} {a : Addr} {o : HO} (h : H a = some o) : upd (del H a) a o = H := by
  funext b
  by_cases e : b = a
  · rw [e, upd_same, h]
  · rw [upd_ne e, del_ne e]
-- without a, where nothing holds a
theorem Post.del (P : Post K μ h H μ' h' H') {a : Addr} (r : HR K μ' h' (del H' a)) (e : H a = none) : Post K μ h H μ' h' (del H' a) :=
  ⟨P.len, P.sd1, P.sd2, P.ext, r, P.fresh, fun b o q ne => by rw [del_ne (ne_of_none q e)]; exact P.keep b o q ne⟩
-- an address that may change is held by nothing
theorem RD.delS {D0 : Addr} {vs : List V} (sD : μ.s D0) (e : H D0 = some (.lst vs)) {μ0 : Mu} (hf : ∀ p, p < n → μ0 p = μ p) (hs : ∀ a, μ0.s a → μ.s a) : (∀ (d : D) (v : V), RD K μ n H d v → RD K μ0 n (MP.del H D0) d v) ∧ ∀ (ds : List D) (us : List V), RDs K μ n H ds us → RDs K μ0 n (MP.del H D0) ds us := by
  have k : ∀ {b : Addr} {u : HO}, H b = some u → (∀ zs, u ≠ .lst zs) → b ≠ D0 := fun {b u} q k z => by
    rw [z, e] at q
    cases q
    exact k _ rfl
  have tupk : ∀ a xs, SqT K H a xs → SqT K (MP.del H D0) a xs := fun a xs q => by
    rcases q with (q | ⟨o, q⟩) | q
    · exact .inl (.inl (by rw [del_ne (k q fun _ z => nomatch z)]; exact q))
    · exact .inl (.inr ⟨o, by rw [del_ne (k q fun _ z => nomatch z)]; exact q⟩)
    · exact .inr q
  have fzk : ∀ a u, Fz μ n H a u → Fz μ0 n (MP.del H D0) a u := fun a u q => by
    obtain ⟨q, ne, ns⟩ := q
    have na : a ≠ D0 := fun z => ns (z ▸ sD)
    refine ⟨?_, fun p hp => by rw [hf p hp]; exact ne p hp, fun z => ns (hs a z)⟩
    rcases q with q | ⟨o, q⟩
    · exact .inl (by rw [del_ne na]; exact q)
    · exact .inr ⟨o, by rw [del_ne na]; exact q⟩
  exact ⟨fun d v q => RD.gen tupk fzk (fun p hp _ => ⟨hp, hf p hp⟩) d v (RD.cl d v q) q, fun ds us q => RDs.gen tupk fzk (fun p hp _ => ⟨hp, hf p hp⟩) ds us (RDs.cl ds us q) q⟩
theorem HR.delS (r : HR K μ h H) {D0 : Addr} {vs : List V} (sD : μ.s D0) (e : H D0 = some (.lst vs)) {μ0 : Mu} (hf : ∀ p, p < h.length → μ0 p = μ p) (hs : ∀ a, μ0.s a → μ.s a) (hn : ¬ μ0.s D0) : HR K μ0 h (MP.del H D0) := by
  refine ⟨fun a sa => ?_, fun a sa p hp => by rw [hf p hp]; exact r.sp a (hs a sa) p hp, fun p q hp hq e => r.inj p q hp hq (by rw [← hf p hp, ← hf q hq]; exact e), fun p ob q => ?_⟩
  · have na : a ≠ D0 := fun z => hn (z ▸ sa)
    rw [del_ne na]
    exact r.sn a (hs a sa)
  have hp : p < h.length := by
    rcases Nat.lt_or_ge p h.length with z | z
    · exact z
    · rw [List.getElem?_eq_none z] at q; cases q
  have := r.ob p ob q
  rw [hf p hp]
  cases ob with
  | lst l =>
    obtain ⟨us, e1, e2⟩ := this
    exact ⟨us, by rw [del_ne (r.sp _ sD p hp)]; exact e1, (RD.delS sD e hf hs).2 _ _ e2⟩
  | dic l =>
    obtain ⟨us, e1, ek, e2⟩ := this
    exact ⟨us, by rw [del_ne (r.sp _ sD p hp)]; exact e1, ek, (RD.delS sD e hf hs).2 _ _ e2⟩
-- a new place
def Mu.put (μ : Mu) (n : Nat) (a : Addr) : Mu := ⟨fun p => if p = n then a else μ.f p, μ.s⟩
theorem Mu.put_same (μ : Mu) (n : Nat) (a : Addr) : (μ.put n a) n = a := if_pos rfl
theorem Mu.put_ne (μ : Mu) {n p : Nat} (a : Addr) (hp : p ≠ n) : (μ.put n a) p = μ p := if_neg hp
theorem RD.put {a : Addr} {o : HO} (e : H a = none) : (∀ (d : D) (v : V), RD K μ n H d v → RD K (μ.put n a) (n + 1) (upd H a o) d v) ∧ ∀ (ds : List D) (us : List V), RDs K μ n H ds us → RDs K (μ.put n a) (n + 1) (upd H a o) ds us := by
  have k : ∀ {b : Addr} {u : HO}, H b = some u → b ≠ a := fun {b u} q => ne_of_none q e
  have tupk : ∀ b xs, SqT K H b xs → SqT K (upd H a o) b xs := fun b xs q => by
    rcases q with (q | ⟨u, q⟩) | q
    · exact .inl (.inl (by rw [upd_ne (k q)]; exact q))
    · exact .inl (.inr ⟨u, by rw [upd_ne (k q)]; exact q⟩)
    · exact .inr q
  have fzk : ∀ b u, Fz μ n H b u → Fz (μ.put n a) (n + 1) (upd H a o) b u := fun b u q => by
    obtain ⟨q, ne, ns⟩ := q
    have na : b ≠ a := by
      rcases q with q | ⟨u, q⟩
      · exact k q
      · exact k q
    refine ⟨?_, fun p hp => ?_, ns⟩
    · rcases q with q | ⟨u, q⟩
      · exact .inl (by rw [upd_ne na]; exact q)
      · exact .inr ⟨u, by rw [upd_ne na]; exact q⟩
    · by_cases hq : p = n
      · rw [hq, Mu.put_same]; exact Ne.symm na
      · rw [Mu.put_ne _ _ hq]; exact ne p (by omega)
  have pl : ∀ p, p < n → p < n → p < n + 1 ∧ (μ.put n a) p = μ p := fun p hp _ => ⟨by omega, Mu.put_ne _ _ (by omega)⟩
  exact ⟨fun d v q => RD.gen tupk fzk pl d v (RD.cl d v q) q, fun ds us q => RDs.gen tupk fzk pl ds us (RDs.cl ds us q) q⟩
theorem Post.putO (r : HR K μ h H) {a : Addr} {o : O} {u : HO} (e : H a = none) (t : RO K (μ.put h.length a) (h.length + 1) (upd H a u) a o) : Post K μ h H (μ.put h.length a) (h ++ [o]) (upd H a u) := by
  have hl : (h ++ [o]).length = h.length + 1 := by simp
  have np : ∀ p, p < h.length → μ p ≠ a := r.ne_none e
  have na : ∀ b, μ.s b → b ≠ a := fun b sb z => r.sn b sb (by rw [z]; exact e)
  refine ⟨by omega, fun _ z => z, fun _ z => .inl z, fun p hp => Mu.put_ne _ _ (by omega), ⟨fun b sb => ?_, fun b sb p hp => ?_, fun p q hp hq ee => ?_, fun p ob q => ?_⟩, fun p h1 h2 => ?_, fun b o q _ => by rw [upd_ne (ne_of_none q e)]; exact q⟩
  · rw [upd_ne (na b sb)]
    exact r.sn b sb
  · by_cases hq : p = h.length
    · rw [hq, Mu.put_same]; exact Ne.symm (na b sb)
    · rw [Mu.put_ne _ _ hq]; exact r.sp b sb p (by omega)
  · by_cases hp' : p = h.length
    · by_cases hq' : q = h.length
      · rw [hp', hq']
      · rw [hp', Mu.put_same, Mu.put_ne _ _ hq'] at ee
        exact absurd ee.symm (np q (by omega))
    · by_cases hq' : q = h.length
      · rw [hq', Mu.put_same, Mu.put_ne _ _ hp'] at ee
        exact absurd ee (np p (by omega))
      · rw [Mu.put_ne _ _ hp', Mu.put_ne _ _ hq'] at ee
        exact r.inj p q (by omega) (by omega) ee
  · rw [hl]
    by_cases hp' : p = h.length
    · subst hp'
      rw [List.getElem?_append_right (Nat.le_refl _)] at q
      simp only [Nat.sub_self, List.getElem?_cons_zero, Option.some.injEq] at q
      subst q
      rw [Mu.put_same]
      exact t
    · rw [Mu.put_ne _ _ hp']
      have hlt : p < h.length := by
        rcases Nat.lt_or_ge p h.length with z | z
        · exact z
        · rw [List.getElem?_eq_none (by rw [hl]; omega)] at q; cases q
      rw [List.getElem?_append_left hlt] at q
      have := r.ob p ob q
      cases ob with
      | lst m =>
        obtain ⟨us, e1, e2⟩ := this
        exact ⟨us, by rw [upd_ne (np p hlt)]; exact e1, (RD.put e).2 _ _ e2⟩
      | dic m =>
        obtain ⟨us, e1, ek, e2⟩ := this
        exact ⟨us, by rw [upd_ne (np p hlt)]; exact e1, ek, (RD.put e).2 _ _ e2⟩
  · have : p = h.length := by omega
    rw [this, Mu.put_same]
    exact e
theorem Post.put (r : HR K μ h H) {a : Addr} {l : List D} {vs : List V} (e : H a = none) (t : RDs K μ h.length H l vs) : Post K μ h H (μ.put h.length a) (h ++ [.lst l]) (upd H a (.lst vs)) :=
  Post.putO r e ⟨vs, upd_same, (RD.put e).2 _ _ t⟩
theorem Post.putD (r : HR K μ h H) {a : Addr} {l : List (Sum Int Str × D)} {kvs : List (Key × V)} (e : H a = none) (ek : kvs.map (·.1) = l.map (·.1)) (t : RDs K μ h.length H (l.map (·.2)) (kvs.map (·.2))) : Post K μ h H (μ.put h.length a) (h ++ [.dic l]) (upd H a (.dK kvs)) :=
  Post.putO r e ⟨kvs, upd_same, ek, (RD.put e).2 _ _ t⟩
def Mu.add (μ : Mu) (D0 : Addr) : Mu := ⟨μ.f, fun a => μ.s a ∨ a = D0⟩
-- a new address is made one that may change
theorem RD.addS {D0 : Addr} {o : HO} (e : H D0 = none) : (∀ (d : D) (v : V), RD K μ n H d v → RD K (μ.add D0) n (upd H D0 o) d v) ∧ ∀ (ds : List D) (us : List V), RDs K μ n H ds us → RDs K (μ.add D0) n (upd H D0 o) ds us := by
  have k : ∀ b u, H b = some u → b ≠ D0 := fun b u q z => by rw [z, e] at q; cases q
  have tupk : ∀ a xs, SqT K H a xs → SqT K (upd H D0 o) a xs := fun a xs q => by
    rcases q with (q | ⟨o, q⟩) | q
    · exact .inl (.inl (by rw [upd_ne (k _ _ q)]; exact q))
    · exact .inl (.inr ⟨o, by rw [upd_ne (k _ _ q)]; exact q⟩)
    · exact .inr q
  have fzk : ∀ a u, Fz μ n H a u → Fz (μ.add D0) n (upd H D0 o) a u := fun a u q => by
    obtain ⟨q, ne, ns⟩ := q
    have na : a ≠ D0 := by
      rcases q with q | ⟨o, q⟩
      · exact k _ _ q
      · exact k _ _ q
    refine ⟨?_, ne, fun z => z.elim ns na⟩
    rcases q with q | ⟨o, q⟩
    · exact .inl (by rw [upd_ne na]; exact q)
    · exact .inr ⟨o, by rw [upd_ne na]; exact q⟩
  exact ⟨fun d v q => RD.gen tupk fzk (fun p hp _ => ⟨hp, rfl⟩) d v (RD.cl d v q) q, fun ds us q => RDs.gen tupk fzk (fun p hp _ => ⟨hp, rfl⟩) ds us (RDs.cl ds us q) q⟩
theorem HR.addS (r : HR K μ h H) {D0 : Addr} {o : HO} (e : H D0 = none) : HR K (μ.add D0) h (upd H D0 o) := by
  have np : ∀ p, p < h.length → μ p ≠ D0 := r.ne_none e
  refine ⟨fun a sa => ?_, fun a sa p hp => ?_, r.inj, fun p ob q => ?_⟩
  · by_cases ha : a = D0
    · rw [ha, upd_same]; exact fun z => nomatch z
    · rw [upd_ne ha]; exact r.sn a (sa.resolve_right ha)
  · rcases sa with sa | sa
    · exact r.sp a sa p hp
    · rw [sa]; exact np p hp
  · have hp : p < h.length := by
      rcases Nat.lt_or_ge p h.length with z | z
      · exact z
      · rw [List.getElem?_eq_none z] at q; cases q
    have := r.ob p ob q
    cases ob with
    | lst l =>
      obtain ⟨us, e1, e2⟩ := this
      exact ⟨us, by rw [show (μ.add D0) p = μ p from rfl, upd_ne (np p hp)]; exact e1, (RD.addS e).2 _ _ e2⟩
    | dic l =>
      obtain ⟨us, e1, ek, e2⟩ := this
      exact ⟨us, by rw [show (μ.add D0) p = μ p from rfl, upd_ne (np p hp)]; exact e1, ek, (RD.addS e).2 _ _ e2⟩
-- fewer addresses that may change
theorem RD.less {μ0 : Mu} (hf : ∀ p, p < n → μ0 p = μ p) (hs : ∀ a, μ0.s a → μ.s a) : (∀ (d : D) (v : V), RD K μ n H d v → RD K μ0 n H d v) ∧ ∀ (ds : List D) (us : List V), RDs K μ n H ds us → RDs K μ0 n H ds us := by
  have fzk : ∀ a u, Fz μ n H a u → Fz μ0 n H a u := fun a u ⟨q, ne, ns⟩ => ⟨q, fun p hp => by rw [hf p hp]; exact ne p hp, fun z => ns (hs a z)⟩
  exact ⟨fun d v q => RD.gen (fun _ _ z => z) fzk (fun p hp _ => ⟨hp, hf p hp⟩) d v (RD.cl d v q) q, fun ds us q => RDs.gen (fun _ _ z => z) fzk (fun p hp _ => ⟨hp, hf p hp⟩) ds us (RDs.cl ds us q) q⟩
theorem HR.less (r : HR K μ h H) {μ0 : Mu} (hf : ∀ p, p < h.length → μ0 p = μ p) (hs : ∀ a, μ0.s a → μ.s a) : HR K μ0 h H := by
  refine ⟨fun a sa => r.sn a (hs a sa), fun a sa p hp => by rw [hf p hp]; exact r.sp a (hs a sa) p hp, fun p q hp hq e => r.inj p q hp hq (by rw [← hf p hp, ← hf q hq]; exact e), fun p ob q => ?_⟩
  have hp : p < h.length := by
    rcases Nat.lt_or_ge p h.length with z | z
    · exact z
    · rw [List.getElem?_eq_none z] at q; cases q
  have := r.ob p ob q
  rw [hf p hp]
  cases ob with
  | lst l =>
    obtain ⟨us, e1, e2⟩ := this
    exact ⟨us, e1, (RD.less hf hs).2 _ _ e2⟩
  | dic l =>
    obtain ⟨us, e1, ek, e2⟩ := this
    exact ⟨us, e1, ek, (RD.less hf hs).2 _ _ e2⟩
-- a new address D0 that may change: from its making on
theorem Post.startS (r : HR K μ h H) {D0 : Addr} {o : HO} (e : H D0 = none) : Post K μ h H (μ.add D0) h (upd H D0 o) :=
  ⟨Nat.le_refl _, fun _ z => .inl z, fun a z => z.elim .inl fun q => .inr (by rw [q]; exact e), fun _ _ => rfl, r.addS e, fun p h1 h2 => absurd h2 (by omega), fun b u q _ => by rw [upd_ne (ne_of_none q e)]; exact q⟩
-- it is written
theorem Post.updS (P : Post K μ h H μ' h' H') {D0 : Addr} (e1 : H D0 = none) (sD : μ'.s D0) {vs ws : List V} (e : H' D0 = some (.lst vs)) : Post K μ h H μ' h' (upd H' D0 (.lst ws)) :=
  ⟨P.len, P.sd1, P.sd2, P.ext, P.hr.updS sD e, P.fresh, fun b o q ne => by rw [upd_ne (ne_of_none q e1)]; exact P.keep b o q ne⟩
-- it is left
theorem Post.endS (P : Post K μ h H μ' h' H') : Post K μ h H ⟨μ'.f, μ.s⟩ h' H' :=
  ⟨P.len, fun _ z => z, fun _ z => .inl z, P.ext, P.hr.less (μ0 := ⟨μ'.f, μ.s⟩) (fun _ _ => rfl) P.sd1, P.fresh, P.keep⟩
end
end MP

/-! MP.Read: the evaluator's results as readings. -/
namespace MP
open PySem PySem.Spec PyProof.Rows L2

abbrev Rel (α β : Type) := (Mu) → Heap → Hp → Hp → α → β → Prop
-- an exception: its class by its name, its fields
def RX (K : PySem.W.Frag) (μ : Mu) (n : Nat) (H : Hp) (x : Ex) (c : Value) (d : Option Addr) : Prop :=
  ∃ C, PySem.W.nsIn K mainGlobals x.cls = some (some (.ref C)) ∧ c = .ref C ∧
    (x.fs = [] ∨ ∃ dx vfs, d = some dx ∧ H dx = some (.xd vfs) ∧ ∀ f dv, (f, dv) ∈ x.fs → ∃ v, vfs.lookup f = some v ∧ RD K μ n H dv v)
def RR (K : PySem.W.Frag) : Rel R V := fun μ hp H0 H r v => match r with
  | .v d => RD K μ hp.length H d v
  | .newL l => ∃ a vs, v = .ref a ∧ H a = some (.lst vs) ∧ HR K μ hp (del H a) ∧ H0 a = none ∧ RDs K μ hp.length (del H a) l vs
  | .newD l => ∃ (a : Addr) (kvs : List (Key × V)), v = .ref a ∧ H a = some (.dK kvs) ∧ HR K μ hp (del H a) ∧ H0 a = none ∧ kvs.map (·.1) = l.map (·.1) ∧ RDs K μ hp.length (del H a) (l.map (·.2)) (kvs.map (·.2))
def RA (K : PySem.W.Frag) : Rel (List D) (List V) := fun μ hp _ H ds vs => RDs K μ hp.length H ds vs
def RB : Rel Bool Bool := fun _ _ _ _ a b => a = b
def ER (K : PySem.W.Frag) (μ : Mu) (n : Nat) (H : Hp) (g : Env) (σ : L2.St) : Prop :=
  g.length = σ.length ∧ ∀ (i : Nat) (d : D), g[i]? = some (some d) → ∃ v : V, σ[i]? = some (some v) ∧ RD K μ n H d v

def Fin {α β : Type} (K : PySem.W.Frag) (W : XK) (ρ : Rel α β) (μ : Mu) (h : Heap) (H : Hp) : Res α → (β → Hp → Prop) → Prop
  | some (.ok a h'), Q => ∀ b H' μ', Post K μ h H μ' h' H' → ρ μ' h' H H' a b → Q b H'
  | some (.exc x h'), _ => ∀ c d H' μ', Post K μ h H μ' h' H' → RX K μ' h'.length H' x c d → W c d H'
  | none, _ => False
def Back {α β : Type} (K : PySem.W.Frag) (ρ : Rel α β) : Prop := ∀ {μ μ1 μ2 : Mu} {h h1 h2 : Heap} {H H1 H2 : Hp} {a : α} {b : β}, Post K μ h H μ1 h1 H1 → ρ μ2 h2 H1 H2 a b → ρ μ2 h2 H H2 a b

section
variable {α β γ δ : Type} {K : PySem.W.Frag} {W : XK} {ρ : Rel α β} {ρ' : Rel γ δ} {μ μ' μ1 μ2 : Mu} {h h' h1 h2 : Heap} {H H' H1 H2 : Hp} {n : Nat}
theorem back_RR : Back K (RR K) := fun {μ μ1 μ2 h h1 h2 H H1 H2 r v} P q => by
  cases r with
  | v d => exact q
  | newL l =>
    obtain ⟨a, vs, e, e1, hr, e0, t⟩ := q
    exact ⟨a, vs, e, e1, hr, P.none_back e0, t⟩
  | newD l =>
    obtain ⟨a, vs, e, e1, hr, e0, t⟩ := q
    exact ⟨a, vs, e, e1, hr, P.none_back e0, t⟩
theorem RR.mk {H0 : Hp} {p : Addr} {l : List D} {vs : List V} (r : HR K μ h H) (hp : H p = none) (h0 : H0 p = none) (t : RDs K μ h.length H l vs) : RR K μ h H0 (upd H p (.lst vs)) (.newL l) (.ref p) :=
  ⟨p, vs, rfl, upd_same, by rw [del_upd hp]; exact r, h0, by rw [del_upd hp]; exact t⟩
theorem RR.mkD {H0 : Hp} {p : Addr} {l : List (Sum Int Str × D)} {kvs : List (Key × V)} (r : HR K μ h H) (hp : H p = none) (h0 : H0 p = none) (ek : kvs.map (·.1) = l.map (·.1)) (t : RDs K μ h.length H (l.map (·.2)) (kvs.map (·.2))) : RR K μ h H0 (upd H p (.dK kvs)) (.newD l) (.ref p) :=
  ⟨p, kvs, rfl, upd_same, by rw [del_upd hp]; exact r, h0, ek, by rw [del_upd hp]; exact t⟩
theorem back_RA : Back K (RA K) := fun _ q => q
theorem back_RB : Back K RB := fun _ q => q
theorem RR.frz {H0 : Hp} {r : R} {v : V} (q : RR K μ h H0 H r v) : RD K μ h.length H r.frz v := by
  cases r with
  | v d => exact q
  | newL l =>
    obtain ⟨a, vs, e, e1, hr, e0, t⟩ := q
    have Pn := Post.new (o := .lst vs) hr (del_same H a)
    have t2 := RDs.mono Pn hr _ _ t
    rw [upd_del e1] at t2
    simp only [R.frz_newL, RD]
    exact ⟨a, vs, e, .inr ⟨.inl e1, hr.ne_none (del_same H a), fun z => hr.sn a z (del_same H a)⟩, t2⟩
  | newD l =>
    obtain ⟨a, kvs, e, e1, hr, e0, ek, t⟩ := q
    have Pn := Post.new (o := .dK kvs) hr (del_same H a)
    have t2 := RDs.mono Pn hr _ _ t
    rw [upd_del e1] at t2
    simp only [R.frz_newD, RD]
    exact ⟨a, kvs, e, ⟨.inl e1, hr.ne_none (del_same H a), fun z => hr.sn a z (del_same H a)⟩, ek, t2⟩
theorem ER.mono {g : Env} {σ : L2.St} (P : Post K μ h H μ' h' H') (r : HR K μ h H) (q : ER K μ h.length H g σ) : ER K μ' h'.length H' g σ :=
  ⟨q.1, fun i d e => by
    obtain ⟨v, e1, e2⟩ := q.2 i d e
    exact ⟨v, e1, RD.mono P r d v e2⟩⟩
theorem ER.set {g : Env} {σ : L2.St} (q : ER K μ n H g σ) {i : Nat} {d : D} {v : V} (rd : RD K μ n H d v) : ER K μ n H (g.set i (some d)) (σ.set i (some v)) := by
  refine ⟨by simp [q.1], fun j d' e => ?_⟩
  by_cases hj : i = j
  · subst hj
    rw [List.getElem?_set] at e
    simp only [if_true] at e
    split at e
    · rename_i hl
      cases e
      refine ⟨v, ?_, rd⟩
      rw [List.getElem?_set]
      simp [← q.1, hl]
    · cases e
  · rw [List.getElem?_set_ne hj] at e
    obtain ⟨w, e1, e2⟩ := q.2 j d' e
    exact ⟨w, by rw [List.getElem?_set_ne hj]; exact e1, e2⟩
theorem ER.wipe {g : Env} {σ : L2.St} (q : ER K μ n H g σ) : ∀ ws : List Nat, ER K μ n H (wipes g ws) (wipe σ ws)
  | [] => q
  | w :: ws => by
    have ih := ER.wipe q ws
    refine ⟨by simp [wipes, L2.wipe, ih.1], fun j d e => ?_⟩
    simp only [wipes, L2.wipe] at e ⊢
    by_cases hj : w = j
    · subst hj
      rw [List.getElem?_set] at e
      simp only [if_true] at e
      split at e <;> cases e
    · rw [List.getElem?_set_ne hj] at e
      obtain ⟨w', e1, e2⟩ := ih.2 j d e
      exact ⟨w', by rw [List.getElem?_set_ne hj]; exact e1, e2⟩
theorem Fin.from {res : Res α} {Q : β → Hp → Prop} (F : Fin K W ρ μ h H res Q) (P : Post K μ h H μ1 h1 H1) (bk : Back K ρ) : Fin K W ρ μ1 h1 H1 res Q := by
  cases res with
  | none => exact F
  | some o =>
    cases o with
    | ok a h2 => exact fun b H2 μ2 P2 q => F b H2 μ2 (P.trans P2) (bk P q)
    | exc x h2 => exact fun c d H2 μ2 P2 q => F c d H2 μ2 (P.trans P2) q
theorem Fin.bind {m : Res α} {k : α → Heap → Res γ} {Q : δ → Hp → Prop} {Q1 : β → Hp → Prop} (F : Fin K W ρ' μ h H (bd m k) Q)
    (hk : ∀ a h1 b H1 μ1, Post K μ h H μ1 h1 H1 → ρ μ1 h1 H H1 a b → Fin K W ρ' μ h H (k a h1) Q → Q1 b H1) : Fin K W ρ μ h H m Q1 := by
  cases m with
  | none => exact F
  | some o =>
    cases o with
    | ok a h2 => exact fun b H2 μ2 P2 q => hk a h2 b H2 μ2 P2 q F
    | exc x h2 => exact F
theorem Fin.ok {a : α} {Q : β → Hp → Prop} (F : Fin K W ρ μ h H (some (.ok a h)) Q) (r : HR K μ h H) {b : β} (q : ρ μ h H H a b) : Q b H := F b H μ (Post.refl r) q
theorem Fin.imp {res : Res α} {Q Q' : β → Hp → Prop} (F : Fin K W ρ μ h H res Q) (i : ∀ b H', Q b H' → Q' b H') : Fin K W ρ μ h H res Q' := by
  cases res with
  | none => exact F
  | some o =>
    cases o with
    | ok a h2 => exact fun b H2 μ2 P2 q => i _ _ (F b H2 μ2 P2 q)
    | exc x h2 => exact F
theorem Fin.okP {a : α} {Q : β → Hp → Prop} (F : Fin K W ρ μ h H (some (.ok a h')) Q) (P : Post K μ h H μ' h' H') {b : β} (q : ρ μ' h' H H' a b) : Q b H' := F b H' μ' P q
end

-- a reading by the evaluator
def rd {α β : Type} (K : PySem.W.Frag) (W : XK) (ρ : Rel α β) (m : Env → Heap → Res α) : L2.St → Hp → (β → Hp → Prop) → Prop := fun σ H Q =>
  ∃ μ g h, HR K μ h H ∧ ER K μ h.length H g σ ∧ Fin K W ρ μ h H (m g h) Q
abbrev rE (K : PySem.W.Frag) (W : XK) (m : Env → Heap → Res R) : TE := rd K W (RR K) m
abbrev rA (K : PySem.W.Frag) (W : XK) (m : Env → Heap → Res (List D)) : TA := rd K W (RA K) m
abbrev rT (K : PySem.W.Frag) (W : XK) (m : Env → Heap → Res Bool) : TT := rd K W RB m

section
variable {α β γ δ : Type} {K : PySem.W.Frag} {W : XK} {ρ : Rel α β} {ρ' : Rel γ δ} {σ : L2.St} {H : Hp}
-- first m, then what follows
theorem rd_bind {m : Env → Heap → Res α} {k : Env → α → Heap → Res γ} {Q : δ → Hp → Prop} {Q1 : β → Hp → Prop} (q : rd K W ρ' (fun g h => bd (m g h) (k g)) σ H Q) (bk : Back K ρ')
    (hk : ∀ μ1 g h1 H1 a b H0, HR K μ1 h1 H1 → ER K μ1 h1.length H1 g σ → ρ μ1 h1 H0 H1 a b → Fin K W ρ' μ1 h1 H1 (k g a h1) Q → Q1 b H1) : rd K W ρ m σ H Q1 := by
  obtain ⟨μ, g, h, r, er, F⟩ := q
  exact ⟨μ, g, h, r, er, F.bind fun a h1 b H1 μ1 P q F1 => hk μ1 g h1 H1 a b H P.hr (er.mono P r) q (F1.from P bk)⟩
end

-- an operator of two values
def r2 (K : PySem.W.Frag) (W : XK) (f : D → D → Heap → Res R) : R2 := fun x y H Q => ∃ μ h d1 d2, HR K μ h H ∧ RD K μ h.length H d1 x ∧ RD K μ h.length H d2 y ∧ Fin K W (RR K) μ h H (f d1 d2 h) Q
def r1 (K : PySem.W.Frag) (W : XK) (f : D → Heap → Res R) : V → Hp → VK → Prop := fun x H Q => ∃ μ h d1, HR K μ h H ∧ RD K μ h.length H d1 x ∧ Fin K W (RR K) μ h H (f d1 h) Q
def rL (K : PySem.W.Frag) (W : XK) (f : List D → Heap → Res R) : List V → Hp → VK → Prop := fun xs H Q => ∃ μ h ds, HR K μ h H ∧ RDs K μ h.length H ds xs ∧ Fin K W (RR K) μ h H (f ds h) Q
section
variable {K : PySem.W.Frag} {W : XK} {σ : L2.St} {H : Hp} {Q : VK} {ma mb mc : Env → Heap → Res R}
theorem rd_two {f : D → D → Heap → Res R} (q : rE K W (fun g h => bd (ma g h) fun x h => bd (mb g h) fun y h => f x.frz y.frz h) σ H Q) : tOp (r2 K W f) (rE K W ma) (rE K W mb) σ H Q := by
  refine rd_bind (ρ := RR K) q back_RR fun μ1 g h1 H1 r1 v1 H0 hr er q1 F => ?_
  refine ⟨μ1, g, h1, hr, er, F.bind fun r2 h2 v2 H2 μ2 P q2 F2 => ?_⟩
  exact ⟨μ2, h2, _, _, P.hr, RD.mono P hr _ _ q1.frz, q2.frz, F2.from P back_RR⟩
theorem rd_one {f : D → Heap → Res R} (q : rE K W (fun g h => bd (ma g h) fun x h => f x.frz h) σ H Q) : tUn (r1 K W f) (rE K W ma) σ H Q := by
  refine rd_bind (ρ := RR K) q back_RR fun μ1 g h1 H1 r1 v1 H0 hr er q1 F => ?_
  exact ⟨μ1, h1, _, hr, q1.frz, F⟩
theorem rd_args {ms : Env → Heap → Res (List D)} {f : List D → Heap → Res R} (q : rE K W (fun g h => bd (ms g h) fun ds h => f ds h) σ H Q) : tCB (rL K W f) (rA K W ms) σ H Q := by
  refine rd_bind (ρ := RA K) q back_RR fun μ1 g h1 H1 r1 v1 H0 hr er q1 F => ?_
  exact ⟨μ1, h1, _, hr, q1, F⟩
end

section
variable {X : Cx}
theorem PE_imp {e : Expr} {t t' : TE} (p : PE X e t) (i : ∀ σ H Q, t' σ H Q → t σ H Q) : PE X e t' := ⟨fun pins s σ H Q I q => p.run pins s σ H Q I (i σ H Q q)⟩
theorem PT_imp {e : Expr} {t t' : TT} (p : PT X e t) (i : ∀ σ H Q, t' σ H Q → t σ H Q) : PT X e t' := ⟨fun pins s σ H Q I q => p.run pins s σ H Q I (i σ H Q q)⟩
theorem PA_imp {e : List Expr} {t t' : TA} (p : PA X e t) (i : ∀ σ H Q, t' σ H Q → t σ H Q) : PA X e t' := ⟨fun pos pins s σ H Q I q => p.run pos pins s σ H Q I (i σ H Q q)⟩
theorem PS_imp {e : Stmt} {t t' : TS} (p : PS X e t) (i : ∀ D σ H, t' D σ H → t D σ H) : PS X e t' := ⟨fun pins s σ H D I q => p.run pins s σ H D I (i D σ H q)⟩
theorem PSs_imp {e : List Stmt} {t t' : TS} (p : PSs X e t) (i : ∀ D σ H, t' D σ H → t D σ H) : PSs X e t' := ⟨fun pins s σ H D I q => p.run pins s σ H D I (i D σ H q)⟩
theorem OpR_imp {f : Value → Value → Sem Value} {r r' : R2} (p : OpR X f r) (i : ∀ x y H Q, r' x y H Q → r x y H Q) : OpR X f r' := fun pins s σ H x y v u Q I rx ry q => p pins s σ H x y v u Q I rx ry (i x y H Q q)
theorem UnR_imp {f : Value → Sem Value} {r r' : V → Hp → VK → Prop} (p : UnR X f r) (i : ∀ x H Q, r' x H Q → r x H Q) : UnR X f r' := fun pins s σ H x v Q I rx q => p pins s σ H x v Q I rx (i x H Q q)
theorem CallR_imp {f : Value} {r r' : List V → Hp → VK → Prop} (p : CallR X f r) (i : ∀ xs H Q, r' xs H Q → r xs H Q) : CallR X f r' := fun pins s σ H vs us Q I rx q => p pins s σ H vs us Q I rx (i vs H Q q)
theorem IxR_imp {r r' : R2} (p : IxR X r) (i : ∀ x y H Q, r' x y H Q → r x y H Q) : IxR X r' := fun va sl pins s σ H x y v u Q I rx ry q hs => p va sl pins s σ H x y v u Q I rx ry (i x y H Q q) hs
theorem MtR_imp {id : String} {r r' : V → List V → Hp → VK → Prop} (p : MtR X id r) (i : ∀ x xs H Q, r' x xs H Q → r x xs H Q) : MtR X id r' := fun pins s σ H x xs v us Q I rx ry q => p pins s σ H x xs v us Q I rx ry (i x xs H Q q)
theorem SlR_imp {r r' : V → Option Int → Option Int → Hp → VK → Prop} (p : L2.SlR X r) (i : ∀ x lo hi H Q, r' x lo hi H Q → r x lo hi H Q) : L2.SlR X r' := by
  intro pins s σ H x v vl vu lo hi sl Q I rx hs pl pu q
  exact p pins s σ H x v vl vu lo hi sl Q I rx hs pl pu (i x lo hi H Q q)
end
end MP

/-! MP.Chk: is a text of the model this text of MP? -/
namespace MP
open PySem PySem.Spec PyProof.Rows L2

structure PInfo where
  names : List Str
  globs : List (Str × D)
  -- own exceptions, each with the field of its __init__; which is of which class
  exs : List (Str × Option Str) := []
  sub : List (Str × Str × Bool) := []

def visB (sc : Scope) (x : Str) : Bool := match sc.names.lookup x with
  | some .local => true
  | some .cell => true
  | some .free => true
  | _ => false
def locB (sc : Scope) (x : Str) : Bool := match sc.names.lookup x with
  | some .local => true
  | some .cell => true
  | _ => false
def gloB (sc : Scope) (x : Str) : Bool := decide (sc.names.lookup x = some .globalImplicit) && !(x == ("__debug__" : Str)) && !decide (x = ("__name__" : Str))
theorem visB_ok {sc : Scope} {x : Str} (h : visB sc x = true) : Vis sc x := by
  unfold visB at h
  unfold Vis
  cases e : sc.names.lookup x with
  | none => rw [e] at h; cases h
  | some k => rw [e] at h; cases k <;> first | exact .inl rfl | exact .inr (.inl rfl) | exact .inr (.inr rfl) | cases h
theorem locB_ok {sc : Scope} {x : Str} (h : locB sc x = true) : L2.Loc sc x := by
  unfold locB at h
  unfold L2.Loc
  cases e : sc.names.lookup x with
  | none => rw [e] at h; cases h
  | some k => rw [e] at h; cases k <;> first | exact .inl rfl | exact .inr rfl | cases h

def bopB : BOp → Operator → Bool
  | .add, .Add => true
  | .sub, .Sub => true
  | .mul, .Mult => true
  | .fdiv, .FloorDiv => true
  | .mod, .Mod => true
  | .pow, .Pow => true
  | _, _ => false
def copB : COp → CmpOp → Bool
  | .eq, .Eq => true
  | .ne, .NotEq => true
  | .lt, .Lt => true
  | .le, .LtE => true
  | .gt, .Gt => true
  | .ge, .GtE => true
  | .isN, .Is => true
  | .notN, .IsNot => true
  | .mem, .In => true
  | .nmem, .NotIn => true
  | _, _ => false
def constB : D → Const → Bool
  | .non, .none => true
  | .bl b, .bool c => b == c
  | .int i, .int j => decide (i = j)
  | .str x, .str y => decide (x = y)
  | _, _ => false
def b1N : B1 → Str
  | .len => "len"
  | .abs => "abs"
  | .int => "int"
  | .str => "str"
def b2N : B2 → Str
  | .min => "min"
  | .max => "max"
def tyN : Ty → String
  | .int => "int"
  | .bool => "bool"
  | .tuple => "tuple"
  | .list => "list"
  | .str => "str"
def biN : BI → Str
  | .tuple => "tuple"
  | .list => "list"
  | .sum => "sum"
  | .all => "all"
  | .any => "any"
  | .sorted => "sorted"
def meN : M → Str
  | .append => "append"
  | .pop => "pop"

def tupI : I → Bool
  | .enum _ => true
  | .zip _ _ => true
  | _ => false
def isTupE : Expr → Bool
  | .Tuple _ _ _ => true
  | _ => false
def biOk : BI → I → Bool
  | .tuple, .of _ => true
  | .tuple, .range1 _ => true
  | .tuple, .range2 _ _ => true
  | .list, .of _ => true
  | .list, .range1 _ => true
  | .list, .range2 _ _ => true
  | .sum, .of _ => true
  | .all, .of _ => true
  | .any, .of _ => true
  | .sorted, .of _ => true
  | _, _ => false
mutual
def chkT (ck : Bool) (N : List Str) (sc : Scope) : Tg → Expr → Bool
  | .slot i, x => match x with
    | .Name n _ => decide (N[i]? = some n) && (decide (sc.names.lookup n = some .local) || (ck && decide (sc.names.lookup n = some .cell)))
    | _ => false
  | .tup ts, x => match x with
    | .Tuple es _ _ => chkTs ck N sc ts es
    | _ => false
def chkTs (ck : Bool) (N : List Str) (sc : Scope) : List Tg → List Expr → Bool
  | [], es => match es with
    | [] => true
    | _ => false
  | t :: ts, es => match es with
    | [] => false
    | e :: es => chkT ck N sc t e && chkTs ck N sc ts es
end
-- a block's scope within a scope
def relS (scope sc : Scope) : Scope := { scope with names := scope.names.map fun (n, k) => if k == .free && sc.kind == .function && sc.names.lookup n == some .cell then (n, .cell) else (n, k) }

-- e as a test, where its truth is its value's
def plainT : Expr → Bool
  | .UnaryOp .Not _ _ => false
  | .BoolOp _ _ _ => false
  | .IfExp _ _ _ _ => false
  | .Compare _ _ _ _ => false
  | _ => true
section
variable (P : PInfo) (N : List Str)
mutual
def chk (sc : Scope) : E → Expr → Bool
  | .var i, x => match x with
    | .Name n _ => decide (N[i]? = some n) && (visB sc n && (!(n == ("__debug__" : Str)) && !(n == ("__classdict__" : Str))))
    | _ => false
  | .c d, x => match x with
    | .Constant k _ _ => constB d k
    | _ => false
  | .glob k, x => match x with
    | .Name n _ => decide ((P.globs[k]?).map Prod.fst = some n) && gloB sc n
    | _ => false
  | .bin op a b, x => match x with
    | .BinOp a' o b' _ => bopB op o && (chk sc a a' && chk sc b b')
    | _ => false
  | .neg a, x => match x with
    | .UnaryOp .USub a' _ => chk sc a a'
    | _ => false
  | .not a, x => match x with
    | .UnaryOp .Not a' _ => chk sc a a'
    | _ => false
  | .cmp op a b, x => match x with
    | .Compare a' [o] [b'] _ => copB op o && (chk sc a a' && chk sc b b')
    | _ => false
  | .cmp2 o1 o2 a b c, x => match x with
    | .Compare a' [p1, p2] [b', c'] _ => (copB o1 p1 && copB o2 p2) && (chk sc a a' && (chk sc b b' && chk sc c c'))
    | _ => false
  | .and a b, x => match x with
    | .BoolOp .And (a' :: r) pos => chk sc a a' && (match r with
      | [] => false
      | [b'] => chk sc b b'
      | b' :: c' :: r' => chk sc b (.BoolOp .And (b' :: c' :: r') pos))
    | _ => false
  | .or a b, x => match x with
    | .BoolOp .Or (a' :: r) pos => chk sc a a' && (match r with
      | [] => false
      | [b'] => chk sc b b'
      | b' :: c' :: r' => chk sc b (.BoolOp .Or (b' :: c' :: r') pos))
    | _ => false
  | .ite c a b, x => match x with
    | .IfExp c' a' b' _ => chk sc c c' && (chk sc a a' && chk sc b b')
    | _ => false
  | .tup es, x => match x with
    | .Tuple es' _ _ => chks sc es es'
    | _ => false
  | .lst es, x => match x with
    | .List es' _ => chks sc es es'
    | _ => false
  | .ix a b, x => match x with
    | .Subscript a' b' _ => chk sc a a' && chk sc b b'
    | _ => false
  | .slice a bl bh lo hi, x => match x with
    | .Subscript a' (.Slice lo' hi' none _) _ => chk sc a a' && ((match lo' with
      | none => !bl
      | some y => bl && chk sc lo y) && (match hi' with
      | none => !bh
      | some y => bh && chk sc hi y))
    | _ => false
  | .call f es, x => match x with
    | .Call (.Name n _) (e' :: es') [] _ => decide (P.names[f]? = some n) && (gloB sc n && chks sc es (e' :: es'))
    | _ => false
  | .b1 f a, x => match x with
    | .Call (.Name n _) [a'] [] _ => decide (n = b1N f) && (gloB sc n && chk sc a a')
    | _ => false
  | .b2 f a b, x => match x with
    | .Call (.Name n _) [a', b'] [] _ => decide (n = b2N f) && (gloB sc n && (chk sc a a' && chk sc b b'))
    | _ => false
  | .isinst a t, x => match x with
    | .Call (.Name n _) [a', .Name m _] [] _ => decide (n = ("isinstance" : Str)) && (gloB sc n && (decide (m = Str.ofString (tyN t)) && (gloB sc m && chk sc a a')))
    | _ => false
  | .bi f i, x => match x with
    | .Call (.Name n _) [a'] [] _ => decide (n = biN f) && (biOk f i && (gloB sc n && chkI sc i a'))
    | _ => false
  | .lc elt tg it cond ws, x => match x with
    | .ListComp elt' [⟨tg', it', ifs', 0⟩] scope _ => blkC N sc scope (ws.map fun i => (N.getD i ⟨#[]⟩, i)) && (chkI sc it it' && (chkT false N (relS scope sc) tg tg' && (chks (relS scope sc) cond ifs' && (chk (relS scope sc) elt elt' && (decide (cond.length ≤ 1) && ((slots tg).all (ws.contains ·) && (!tupI it || isTupE tg')))))))
    | _ => false
  | .meth m o es, x => match x with
    | .Call (.Attribute o' n p) es' [] q => decide (n = meN m) && ((p.endLine == q.line) && (decide (es'.length < 29) && (chk sc o o' && chks sc es es')))
    | _ => false
  | .alloc e, x => plainT x && chk sc e x
  | .dct, x => match x with
    | .Dict [] [] _ => true
    | _ => false
  | .srtD a, x => match x with
    | .Call (.Name n _) [a'] [] _ => decide (n = ("sorted" : Str)) && (gloB sc n && chk sc a a')
    | _ => false
  | .mkX y f a, x => match x with
    | .Call (.Name n _) [a'] [] _ => decide (n = y) && (P.exs.contains (y, f) && (gloB sc n && chk sc a a'))
    | _ => false
  | .isX a t yes no, x => match x with
    | .Call (.Name n _) [a', .Name m _] [] _ => (decide (n = ("isinstance" : Str)) && decide (m = t)) && (((yes.all fun y => P.sub.contains (y, t, true)) && (no.all fun y => P.sub.contains (y, t, false))) && ((!(yes.isEmpty && no.isEmpty)) && (gloB sc n && (gloB sc m && chk sc a a'))))
    | _ => false
  | .xf a f cs, x => match x with
    | .Attribute a' n _ => decide (n = f) && ((cs.all fun y => P.exs.contains (y, some f)) && chk sc a a')
    | _ => false
def chks (sc : Scope) : List E → List Expr → Bool
  | [], xs => match xs with
    | [] => true
    | _ => false
  | e :: es, xs => match xs with
    | [] => false
    | x :: xs => chk sc e x && chks sc es xs
def chkI (sc : Scope) : I → Expr → Bool
  | .of e, x => chk sc e x
  | .range1 a, x => match x with
    | .Call (.Name n _) [a'] [] _ => decide (n = ("range" : Str)) && (gloB sc n && chk sc a a')
    | _ => false
  | .range2 a b, x => match x with
    | .Call (.Name n _) [a', b'] [] _ => decide (n = ("range" : Str)) && (gloB sc n && (chk sc a a' && chk sc b b'))
    | _ => false
  | .enum a, x => match x with
    | .Call (.Name n _) [a'] [] _ => decide (n = ("enumerate" : Str)) && (gloB sc n && chk sc a a')
    | _ => false
  | .zip a b, x => match x with
    | .Call (.Name n _) [a', b'] [] _ => decide (n = ("zip" : Str)) && (gloB sc n && (chk sc a a' && chk sc b b'))
    | _ => false
end
end

-- [..] for a name, made in place
def swB (sc : Scope) (e t : Expr) : Bool := match e, t with
  | .ListComp _ _ s p, .Name y py => (decide (sc.names.lookup y = some .local) && (py.line == p.line)) && !(s.names.any fun (n, k) => n == y && (k == .local || k == .cell))
  | _, _ => false
def noComp : Expr → Bool
  | .ListComp _ _ _ _ => false
  | .SetComp _ _ _ _ => false
  | .DictComp _ _ _ _ _ => false
  | _ => true
def isLc : Expr → Bool
  | .ListComp _ _ _ _ => true
  | _ => false
-- the plain names among targets
def nmS (sc : Scope) (ts : List Expr) : List Str := ts.filterMap fun
  | .Name id pos => if sc.names.lookup id == some .local && pos.line == (ts.head?.map (·.pos.line)).getD 0 then some id else none
  | _ => none
-- a, b = x, y: surely not stored from the right
def swN (sc : Scope) (t e : Expr) : Bool := match t, e with
  | .Tuple ts _ _, .Tuple vs _ _ => ((!(ts.length == 2 || ts.length == 3) || vs.length != ts.length) || (nmS sc ts).length != ts.length) || vs.all (foldedForSure 8)
  | .List _ _, _ => false
  | _, _ => true
-- a, b = x, y: surely stored from the right
def swY (sc : Scope) (ts vs : List Expr) : Option (List Str) := if (ts.length == 2 || ts.length == 3) && (vs.length == ts.length) && (nmS sc ts).length == ts.length && (nmS sc ts).eraseDups.length == (nmS sc ts).length && !vs.all (foldedForSure 8) && !vs.all (constantsAlone 8) then some (nmS sc ts) else none
section
variable (P : PInfo) (N : List Str)
mutual
def chkS (sc : Scope) : St → Stmt → Bool
  | .asg tg e, x => match x with
    | .Assign [t] e' _ => chkT true N sc tg t && (chk P N sc e e' && ((noComp e' || isLc e') && swN sc t e'))
    | _ => false
  | .par is es, x => match is, x with
    | [i, j], .Assign [.Tuple [.Name a p, .Name b q] kt pt] (.Tuple [u, v] k2 p2) _ => (decide (N[i]? = some a) && (decide (N[j]? = some b) && (decide (i ≠ j) && (decide (sc.names.lookup a = some .local) && decide (sc.names.lookup b = some .local))))) &&
      (chks P N sc es [u, v] && decide (swY sc [.Name a p, .Name b q] [u, v] = some [a, b]))
    | [i, j, l], .Assign [.Tuple [.Name a p, .Name b q, .Name c r] kt pt] (.Tuple [u, v, w] k2 p2) _ => (decide (N[i]? = some a) && (decide (N[j]? = some b) && (decide (N[l]? = some c) && ((decide (i ≠ j) && (decide (i ≠ l) && decide (j ≠ l))) && (decide (sc.names.lookup a = some .local) && (decide (sc.names.lookup b = some .local) && decide (sc.names.lookup c = some .local))))))) &&
      (chks P N sc es [u, v, w] && decide (swY sc [.Name a p, .Name b q, .Name c r] [u, v, w] = some [a, b, c]))
    | _, _ => false
  | .aug i op e, x => match x with
    | .AugAssign (.Name n _) o e' _ => decide (N[i]? = some n) && (locB sc n && (chk P N sc e e' && (bopB op o && (op == .add || op == .sub))))
    | _ => false
  | .setix o k e, x => match x with
    | .Assign [.Subscript o' k' _] e' _ => chk P N sc o o' && (chk P N sc k k' && (chk P N sc e e' && (noComp e' || isLc e')))
    | _ => false
  | .expr e, x => match x with
    | .Expr e' _ => chk P N sc e e' && noComp e'
    | _ => false
  | .ret e, x => match x with
    | .Return (some e') _ => chk P N sc e e'
    | _ => false
  | .ret0, x => match x with
    | .Return none _ => true
    | _ => false
  | .if_ c a b, x => match x with
    | .If c' a' b' _ => chk P N sc c c' && (chkSs sc a a' && chkSs sc b b')
    | _ => false
  | .for_ tg it body, x => match x with
    | .For tg' it' body' [] _ => chkT true N sc tg tg' && (chkI P N sc it it' && (chkSs sc body body' && (!tupI it || isTupE tg')))
    | _ => false
  | .while_ c body, x => match x with
    | .While c' body' [] _ => chk P N sc c c' && chkSs sc body body'
    | _ => false
  | .pass, x => match x with
    | .Pass _ => true
    | .Expr (.Constant (.str _) _ _) _ => true
    | _ => false
  | .brk, x => match x with
    | .Break _ => true
    | _ => false
  | .cont, x => match x with
    | .Continue _ => true
    | _ => false
  | .never, _ => true
def chkSs (sc : Scope) : List St → List Stmt → Bool
  | [], xs => match xs with
    | [] => true
    | _ => false
  | e :: es, xs => match xs with
    | [] => false
    | x :: xs => chkS sc e x && chkSs sc es xs
end
end

-- the promise of a def
def spI (K : PySem.W.Frag) (np : Nat) (f : List D → Heap → Res R) : Sp := fun vs H Q E => vs.length = np ∧ ∃ μ h ds, HR K μ h H ∧ RDs K μ h.length H ds vs ∧ Fin K E (RR K) μ h H (f ds h) Q

def blts : List Str := ["len", "abs", "int", "min", "max", "isinstance", "bool", "tuple", "list", "str", "sum", "all", "any", "sorted", "range", "enumerate", "zip"]
-- a plain value of the module
def RG : D → V → Prop
  | .non, v => v = .non
  | .bl b, v => v = .bl b
  | .int i, v => v = .int i
  | .str x, v => v = .str x
  | _, _ => False
-- the module's own exceptions
structure XIs (prog : Program) (K : PySem.W.Frag) (mg : Str → Option Value) (x t : Str) (b : Bool) : Prop where
  cls : ExcC K (He.ga K x)
  ans : (∃ ts : String, t = Str.ofString ts ∧ mg t = none ∧ bootBuiltins t = some (.type ts) ∧ PySem.W.kitOne K (.ref (He.ga K x)) (.type ts) = some b) ∨ (mg t = some (.ref (He.ga K t)) ∧ PySem.W.kitOne K (.ref (He.ga K x)) (.ref (He.ga K t)) = some b)
structure XOwn (K : PySem.W.Frag) (mg : Str → Option Value) (x : Str) : Prop where
  mga : mg x = some (.ref (He.ga K x))
  kp : PySem.W.keepIn K (.ref (He.ga K x)) = true
structure XFacts (P : PInfo) (prog : Program) (K : PySem.W.Frag) (mg : Str → Option Value) : Prop where
  mx : ∀ x f, (x, some f) ∈ P.exs → XOwn K mg x ∧ (∃ b, XMk prog K (He.ga K x) f b) ∧ XfC K (He.ga K x) ∧ PySem.W.findIn K (.ref (He.ga K x)) f = some none
  mm : ∀ x, (x, none) ∈ P.exs → XOwn K mg x ∧ PySem.W.excIn K (He.ga K x) XB.value.bm XB.value.newId = true
  is_ : ∀ x t b, (x, t, b) ∈ P.sub → XIs prog K mg x t b
structure Good (P : PInfo) (Φ : Nat → List D → Heap → Res R) (G : Nat → Option D) (k : Nat) (X : Cx) (W : XK) : Prop where
  nd : X.N.Nodup
  calm : X.calm = true
  room : Room k X.A
  pos : 0 < k
  tk : Takes X (fun c d _ H => W c d H)
  blt : ∀ x ∈ blts, X.mg x = none
  glob : ∀ i x d, P.globs[i]? = some (x, d) → G i = some d ∧ ∃ v u, X.mg x = some u ∧ RelV v u ∧ RG d v
  xs : XFacts P X.prog X.K X.mg
  fns : ∀ f x, P.names[f]? = some x → ∃ a fd ps, X.mg x = some (.ref a) ∧ PySem.W.keepIn X.K (.ref a) = true ∧ Binds X.K fd ps [] ∧ FnOk X.prog X.w X.K X.mg X.base (L2.CX X.prog X.w) k a fd ps (spI X.K ps.length (Φ f)) ∧ ∀ ds h, Φ f ds h ≠ none → ds.length = ps.length
theorem RG.rd {d : D} {v : V} (q : RG d v) (K : PySem.W.Frag) (μ : Mu) (n : Nat) (H : Hp) : RD K μ n H d v := by
  cases d <;> first | exact q | exact q.elim
end MP

/-! MP.Snd1: the evaluator is right: shapes, names, operators. -/
namespace MP
open PySem PySem.Spec PyProof.Rows L2

def shape : Expr → Bool
  | .Starred _ _ => false
  | .Set _ _ _ => false
  | .Slice _ _ _ _ => false
  | _ => true
section
variable {P : PInfo} {N : List Str} {sc : Scope}
theorem chk_star (y : Expr) (p : Pos) : ∀ e : E, chk P N sc e (.Starred y p) = false
  | .alloc e => by
    have := chk_star y p e
    simp only [chk, this, Bool.and_false]
  | .var _ | .c _ | .glob _ | .bin _ _ _ | .neg _ | .not _ | .cmp _ _ _ | .cmp2 _ _ _ _ _ | .and _ _ | .or _ _ | .ite _ _ _ | .tup _ | .lst _ | .ix _ _ | .slice _ _ _ _ _ | .call _ _ | .b1 _ _ | .b2 _ _ _ | .isinst _ _ | .bi _ _ | .lc _ _ _ _ _ | .meth _ _ _ | .dct | .srtD _ | .mkX _ _ _ | .isX _ _ _ _ | .xf _ _ _ => by simp only [chk]
theorem chk_set (y : List Expr) (k : Nat) (p : Pos) : ∀ e : E, chk P N sc e (.Set y k p) = false
  | .alloc e => by
    have := chk_set y k p e
    simp only [chk, this, Bool.and_false]
  | .var _ | .c _ | .glob _ | .bin _ _ _ | .neg _ | .not _ | .cmp _ _ _ | .cmp2 _ _ _ _ _ | .and _ _ | .or _ _ | .ite _ _ _ | .tup _ | .lst _ | .ix _ _ | .slice _ _ _ _ _ | .call _ _ | .b1 _ _ | .b2 _ _ _ | .isinst _ _ | .bi _ _ | .lc _ _ _ _ _ | .meth _ _ _ | .dct | .srtD _ | .mkX _ _ _ | .isX _ _ _ _ | .xf _ _ _ => by simp only [chk]
theorem chk_slice (a b c : Option Expr) (p : Pos) : ∀ e : E, chk P N sc e (.Slice a b c p) = false
  | .alloc e => by
    have := chk_slice a b c p e
    simp only [chk, this, Bool.and_false]
  | .var _ | .c _ | .glob _ | .bin _ _ _ | .neg _ | .not _ | .cmp _ _ _ | .cmp2 _ _ _ _ _ | .and _ _ | .or _ _ | .ite _ _ _ | .tup _ | .lst _ | .ix _ _ | .slice _ _ _ _ _ | .call _ _ | .b1 _ _ | .b2 _ _ _ | .isinst _ _ | .bi _ _ | .lc _ _ _ _ _ | .meth _ _ _ | .dct | .srtD _ | .mkX _ _ _ | .isX _ _ _ _ | .xf _ _ _ => by simp only [chk]
theorem chk_shape {e : E} {x : Expr} (h : chk P N sc e x = true) : shape x = true := by
  cases x <;> first | rfl | (rw [chk_star] at h; cases h) | (rw [chk_set] at h; cases h) | (rw [chk_slice] at h; cases h)
end
theorem shape_star {x : Expr} (h : shape x = true) (es : List Expr) (env : PySem.Env) : starEach (x :: es) env = (false, PySem.eval x env) :: starEach es env := by
  cases x <;> first | rfl | cases h
theorem shape_ix {x : Expr} (h : shape x = true) : PlainIx x := fun o i => by
  cases x <;> first | rfl | cases h
theorem shape_iter {x : Expr} (h : shape x = true) (env : PySem.Env) (v : Value) : foldedSetIterable x env v = pure v := by
  cases x <;> first | rfl | cases h
theorem shape_marks {x : Expr} (h : shape x = true) (op : CmpOp) : behindInMarks op x = false := by
  cases x <;> first | rfl | cases h
theorem shapes_any : ∀ {es : List Expr} (pos : Pos) (env : PySem.Env), (∀ x ∈ es, shape x = true) → (backTo pos (starEach es env)).any (·.1) = false
  | [], _, _, _ => rfl
  | x :: es, pos, env, h => by
    rw [shape_star (h x (by simp))]
    show (false || (backTo pos (starEach es env)).any (·.1)) = false
    rw [shapes_any pos env fun y hy => h y (by simp [hy])]
    rfl
theorem chks_shape {P : PInfo} {N : List Str} {sc : Scope} : ∀ {es : List E} {xs : List Expr}, chks P N sc es xs = true → ∀ x ∈ xs, shape x = true
  | [], [], _ => by simp
  | [], _ :: _, h => by simp [chks] at h
  | _ :: _, [], h => by simp [chks] at h
  | e :: es, x :: xs, h => by
    simp only [chks, Bool.and_eq_true] at h
    intro y hy
    rcases List.mem_cons.mp hy with rfl | hy
    · exact chk_shape h.1
    · exact chks_shape h.2 y hy
theorem gloB_ok {X : Cx} {x : Str} (h : gloB X.env.scope x = true) : Gl X x ∧ (x == ("__debug__" : Str)) = false ∧ x ≠ "__name__" := by
  unfold gloB at h
  simp only [Bool.and_eq_true, decide_eq_true_eq, Bool.not_eq_true', decide_eq_false_iff_not] at h
  exact ⟨h.1.1, h.1.2, h.2⟩
theorem plainT_ok {e : Expr} (h : plainT e = true) (env : PySem.Env) (whole : Sem Value) : isTrue e env whole = (do let v ← whole; standAt e.pos; holding [v] (truthy v)) := by
  cases e with
  | UnaryOp o a p => cases o <;> first | rfl | cases h
  | BoolOp _ _ _ => cases h
  | IfExp _ _ _ _ => cases h
  | Compare _ _ _ _ => cases h
  | _ => rfl
theorem lim_line : (sizeLine : Nat) = lim := by rw [sizeLine_eq]

section
variable {K : PySem.W.Frag} {W : XK} {μ : Mu} {h : Heap} {H : Hp}
-- a sequence, read
theorem seq_of (r : HR K μ h H) {d : D} {v : V} {l : List D} (q : RD K μ h.length H d v) (e : seqOf h d = some l) :
    ∃ a vs, v = .ref a ∧ (SqL K H a vs ∨ SqT K H a vs) ∧ RDs K μ h.length H l vs := by
  cases d with
  | tup m =>
    simp only [seqOf, Option.some.injEq] at e
    subst e
    simp only [RD] at q
    obtain ⟨a, vs, rfl, s, t⟩ := q
    exact ⟨a, vs, rfl, .inr s, t⟩
  | lst m =>
    simp only [seqOf, Option.some.injEq] at e
    subst e
    simp only [RD] at q
    obtain ⟨a, vs, rfl, s, t⟩ := q
    exact ⟨a, vs, rfl, .inl s.sq, t⟩
  | scr m =>
    simp only [seqOf, Option.some.injEq] at e
    subst e
    simp only [RD] at q
    obtain ⟨a, vs, rfl, s, t⟩ := q
    exact ⟨a, vs, rfl, .inl s.sqk, t⟩
  | loc p =>
    simp only [seqOf] at e
    cases c : h[p]? with
    | none => rw [c] at e; cases e
    | some o =>
      rw [c] at e
      cases o with
      | dic _ => cases e
      | lst m =>
        simp only [Option.some.injEq] at e
        subst e
        obtain ⟨vs, e1, t⟩ := r.ob p _ c
        simp only [RD] at q
        exact ⟨μ p, vs, q.2, .inl (.inl (.inl e1)), t⟩
  | _ => cases e
theorem RDs.length : ∀ {l : List D} {vs : List V} {n : Nat}, RDs K μ n H l vs → vs.length = l.length
  | [], vs, _, q => by
    simp only [RDs] at q
    subst q
    rfl
  | d :: l, vs, _, q => by
    simp only [RDs] at q
    obtain ⟨v, r, rfl, _, t⟩ := q
    simp [RDs.length t]
theorem RDs.get : ∀ {l : List D} {vs : List V} {n : Nat}, RDs K μ n H l vs → ∀ (i : Nat) (d : D), l[i]? = some d → ∃ v, vs[i]? = some v ∧ RD K μ n H d v
  | [], vs, _, q, i, d, e => by simp at e
  | c :: l, vs, _, q, i, d, e => by
    simp only [RDs] at q
    obtain ⟨v, r, rfl, q1, t⟩ := q
    cases i with
    | zero =>
      simp only [List.getElem?_cons_zero, Option.some.injEq] at e
      subst e
      exact ⟨v, rfl, q1⟩
    | succ i =>
      simp only [List.getElem?_cons_succ] at e ⊢
      exact RDs.get t i d e
theorem RDs.isEmpty {l : List D} {vs : List V} {n : Nat} (q : RDs K μ n H l vs) : vs.isEmpty = l.isEmpty := by
  cases l with
  | nil =>
    simp only [RDs] at q
    subst q
    rfl
  | cons d l =>
    simp only [RDs] at q
    obtain ⟨v, r, rfl, _, _⟩ := q
    rfl
-- truth
theorem tru_of (r : HR K μ h H) {d : D} {v : V} {b : Bool} (q : RD K μ h.length H d v) (e : tru h d = some b) : TruV K v H b := by
  cases d with
  | non =>
    cases q
    cases e
    rfl
  | bl c =>
    cases q
    cases e
    rfl
  | int i =>
    cases q
    cases e
    show _ = (i != 0)
    by_cases hi : i = 0 <;> simp [hi]
  | str x =>
    cases q
    simp only [tru] at e
    split at e
    · rename_i hl
      cases e
      refine ⟨by rw [lim_line]; exact hl, ?_⟩
      by_cases hx : x.length = 0 <;> simp [hx]
    · cases e
  | tup l =>
    cases e
    simp only [RD] at q
    obtain ⟨a, vs, rfl, s, t⟩ := q
    exact .inr (.inl ⟨vs, s, by rw [t.isEmpty]⟩)
  | lst l =>
    cases e
    simp only [RD] at q
    obtain ⟨a, vs, rfl, s, t⟩ := q
    exact .inl ⟨vs, s.sq, by rw [t.isEmpty]⟩
  | scr l =>
    cases e
    simp only [RD] at q
    obtain ⟨a, vs, rfl, s, t⟩ := q
    exact .inl ⟨vs, s.sqk, by rw [t.isEmpty]⟩
  | dic ks l => cases e
  | exo x fs l => cases e
  | loc p =>
    simp only [tru] at e
    cases c : h[p]? with
    | none => rw [c] at e; cases e
    | some o =>
      rw [c] at e
      cases o with
      | dic _ => cases e
      | lst m =>
        cases e
        obtain ⟨vs, e1, t⟩ := r.ob p _ c
        simp only [RD] at q
        rw [q.2]
        exact .inl ⟨vs, .inl (.inl e1), by rw [t.isEmpty]⟩
end

section
variable {X : Cx} {W : XK}
-- a value as a test
theorem pt_plain {e : Expr} {m : Env → Heap → Res R} (he : PE X e (rE X.K W m)) (hp : plainT e = true) : PT X e (rT X.K W (tst m)) := by
  refine PT_imp (pt_truth he fun whole => plainT_ok hp X.env whole) fun σ H Q q => ?_
  refine rd_bind (ρ := RR X.K) q back_RB fun μ1 g h1 H1 r v H0 hr er q1 F => ?_
  cases e1 : tru h1 r.frz with
  | none => rw [e1] at F; exact F.elim
  | some b =>
    rw [e1] at F
    exact ⟨b, tru_of hr q1.frz e1, Fin.ok F hr rfl⟩
end
end MP

/-! MP.Snd2: operators by values. -/
namespace MP
open PySem PySem.Spec PyProof.Rows L2

section
variable {X : Cx} {W : XK}
-- what int operators are
theorem bin_add {d1 d2 : D} {h : Heap} {ρ : Rel R V} {K : PySem.W.Frag} {μ : Mu} {H : Hp} {Q : VK} {x y : V} {n : Nat}
    (q1 : RD K μ n H d1 x) (q2 : RD K μ n H d2 y) (F : Fin K W ρ μ h H (bin .add d1 d2 h) Q) : (∃ i j, d1 = .int i ∧ d2 = .int j ∧ x = .int i ∧ y = .int j) ∨ (∃ a b, d1 = .str a ∧ d2 = .str b ∧ x = .str a ∧ y = .str b ∧ a.length + b.length ≤ lim) ∨ (∃ l m, d1 = .tup l ∧ d2 = .tup m ∧ l.length + m.length ≤ lim) ∨
      (∃ l m, lstOf h d1 = some l ∧ lstOf h d2 = some m ∧ l.length + m.length ≤ lim ∧ bin .add d1 d2 h = some (.ok (.newL (l ++ m)) h)) := by
  have cat : ∀ (l : List D) (b : Res R), b = catL l (lstOf h d2) h → Fin K W ρ μ h H b Q → ∃ m, lstOf h d2 = some m ∧ l.length + m.length ≤ lim ∧ b = some (.ok (.newL (l ++ m)) h) := fun l b e F => by
    subst e
    unfold catL at F ⊢
    cases c : lstOf h d2 with
    | none => rw [c] at F; exact F.elim
    | some m =>
      rw [c] at F
      simp only at F
      split at F
      · rename_i hl
        exact ⟨m, rfl, hl, by simp only [hl, if_true]⟩
      · exact F.elim
  cases d1 with
  | int i =>
    cases d2 with
    | int j => exact .inl ⟨i, j, rfl, rfl, q1, q2⟩
    | _ => exact F.elim
  | str a =>
    cases d2 with
    | str b =>
      simp only [bin] at F
      split at F
      · rename_i hl
        exact .inr (.inl ⟨a, b, rfl, rfl, q1, q2, hl⟩)
      · exact F.elim
    | _ => exact F.elim
  | tup l =>
    cases d2 with
    | tup m =>
      simp only [bin] at F
      split at F
      · rename_i hl
        exact .inr (.inr (.inl ⟨l, m, rfl, rfl, hl⟩))
      · exact F.elim
    | _ => exact F.elim
  | lst l =>
    obtain ⟨m, e1, e2, e3⟩ := cat l _ (by simp only [bin]) F
    exact .inr (.inr (.inr ⟨l, m, rfl, e1, e2, e3⟩))
  | loc p =>
    cases c : h[p]? with
    | none =>
      have e : bin .add (.loc p) d2 h = none := by simp only [bin, c]
      rw [e] at F
      exact F.elim
    | some o =>
      cases o with
      | dic l =>
        have e : bin .add (.loc p) d2 h = none := by simp only [bin, c]
        rw [e] at F
        exact F.elim
      | lst l =>
        obtain ⟨m, e1, e2, e3⟩ := cat l _ (by simp only [bin, c]) F
        exact .inr (.inr (.inr ⟨l, m, by simp only [lstOf, c], e1, e2, e3⟩))
  | _ => exact F.elim
-- lists of the program's own, read
theorem lst_of {K : PySem.W.Frag} {μ : Mu} {h : Heap} {H : Hp} (r : HR K μ h H) {d : D} {v : V} {l : List D} (q : RD K μ h.length H d v) (e : lstOf h d = some l) :
    ∃ a vs, v = .ref a ∧ Rd H a (.lst vs) ∧ RDs K μ h.length H l vs := by
  cases d with
  | lst m =>
    simp only [lstOf, Option.some.injEq] at e
    subst e
    simp only [RD] at q
    obtain ⟨a, vs, rfl, s, t⟩ := q
    exact ⟨a, vs, rfl, s.rd, t⟩
  | loc p =>
    simp only [lstOf] at e
    cases c : h[p]? with
    | none => rw [c] at e; cases e
    | some o =>
      rw [c] at e
      cases o with
      | dic _ => cases e
      | lst m =>
        simp only [Option.some.injEq] at e
        subst e
        obtain ⟨vs, e1, t⟩ := r.ob p _ c
        simp only [RD] at q
        exact ⟨μ p, vs, q.2, .inl e1, t⟩
  | _ => cases e
-- list + list, one of them known perhaps
def rCatR : R2 := fun x y H Q => ∃ l b xs zs, x = .ref l ∧ y = .ref b ∧ Rd H l (.lst xs) ∧ Rd H b (.lst zs) ∧ xs.length + zs.length ≤ sizeLine ∧ ∀ p, H p = none → Q (.ref p) (upd H p (.lst (xs ++ zs)))
theorem op_catR : OpR X (binaryOp .Add) rCatR := by
  intro pins s σ H x y v u Q I rx ry h
  obtain ⟨l, b, xs, zs, rfl, rfl, hH, hB, hz, q⟩ := h
  cases rx
  cases ry
  obtain ⟨z, its, n, r, e⟩ := hH.ok I.hok
  obtain ⟨z2, its2, n2, r2, e2⟩ := hB.ok I.hok
  refine PySem.P.add_list e e2 ?_ (by rw [List.size_toArray, List.size_toArray, ← r.length, ← r2.length]; omega)
  have ea : its.toArray ++ its2.toArray = (its ++ its2).toArray := by simp
  rw [ea]
  exact ⟨.ref _, _, I.lnew (t' := s.toks) (r.append r2) (by rw [List.length_append]; omega), rfl, q _ I.fresh⟩
-- list * int, the list known perhaps
def rRepR : R2 := fun x y H Q => ∃ l k xs, x = .ref l ∧ y = .int k ∧ Rd H l (.lst xs) ∧ 0 ≤ k ∧ k < 2 ^ 63 ∧ xs.length * k.toNat ≤ sizeLine ∧ ∀ p, H p = none → Q (.ref p) (upd H p (.lst (List.replicate k.toNat xs).flatten))
theorem op_repR : OpR X (binaryOp .Mult) rRepR := by
  intro pins s σ H x y v u Q I rx ry h
  obtain ⟨l, k, xs, rfl, rfl, hH, h1, h2, hz, q⟩ := h
  cases rx
  obtain ⟨tk, rfl⟩ := ry
  obtain ⟨z, its, n, r, e⟩ := hH.ok I.hok
  have el : its.toArray.size = xs.length := by rw [List.size_toArray, r.length]
  have c1 : its.toArray.size * k.toNat ≤ sizeLine := by rw [el]; exact hz
  have c2 : ¬ its.toArray.size * k.toNat > (2 ^ 63 - 1) / 8 := fun w => by
    have : (sizeLine : Nat) ≤ (2 ^ 63 - 1) / 8 := by decide
    omega
  have c3 : ¬ (!Builtin.List.listFitsIndex k) = true := by rw [fitsIndex_both (by omega) h2]; exact Bool.false_ne_true
  have c4 : ¬ Builtin.List.listTooLong (its.toArray.size * k.toNat) = true := by rw [notLongL c1]; exact Bool.false_ne_true
  have fold : ∀ m : Nat, List.foldl (fun a b => a ++ b) #[] (List.replicate m its.toArray) = (List.replicate m its).flatten.toArray := fun m => (by
    have w := foldl_rep its m []
    rw [List.nil_append] at w
    exact w)
  have new : List.foldl (fun a b => a ++ b) #[] (List.replicate (if its.toArray.isEmpty = true then 0 else k.toNat) its.toArray) = (List.replicate k.toNat its).flatten.toArray := by
    rw [fold]
    cases its with
    | nil => simp
    | cons a m => rw [if_neg (by simp)]
  have T1 := typeIs_int s k tk
  have T2 : s.TypeIs (.ref l) "list" := ⟨_, e, rfl⟩
  have fin := call_meets (prog := X.prog) (w := X.w) F.slot_list_mul T2 F.entry_list_mul (F.args_list_mul_2 _ _) (AutoListH.list___mul___list_int_3 l its.toArray n k tk c3 c2 c4) (Q := fun v s' => EP X pins σ Q v s') (E := X.xe) (A := X.A) ⟨e, by
    rw [new]
    exact ⟨.ref _, _, I.lnew (t' := s.toks) (r.rep k.toNat) (by rw [PyProof.Rows.lm_len_rep_flat, Nat.mul_comm]; exact hz), rfl, q _ I.fresh⟩⟩
  exact wpAny_binaryOp_repeat_ref (T := "list") (U := "int") (by decide) T2 (fun s' => typeIs_int s' k tk) noFill_list_mul F.fills_int_mul F.slot_int_rmul repeat_list F.slot_int_index.lookup
    (call_meets F.slot_int_rmul T1 F.entry_int_rmul (F.args_int_rmul_2 _ _) (int___rmul___int_list k tk l its.toArray n) ⟨e, rfl, T2, fin⟩)
theorem RDs.app' {K : PySem.W.Frag} {μ : Mu} {n : Nat} {H : Hp} : ∀ {l m : List D} {us vs : List V}, RDs K μ n H l us → RDs K μ n H m vs → RDs K μ n H (l ++ m) (us ++ vs)
  | [], m, us, vs, a, b => by
    simp only [RDs] at a
    subst a
    exact b
  | d :: l, m, us, vs, a, b => by
    simp only [RDs] at a
    obtain ⟨v, r, rfl, q, t⟩ := a
    simp only [List.cons_append, RDs]
    exact ⟨v, _, rfl, q, RDs.app' t b⟩
theorem RDs.rep {K : PySem.W.Frag} {μ : Mu} {n : Nat} {H : Hp} {l : List D} {us : List V} (q : RDs K μ n H l us) : ∀ m : Nat, RDs K μ n H (List.replicate m l).flatten (List.replicate m us).flatten
  | 0 => by simp only [List.replicate_zero, List.flatten_nil, RDs]
  | m + 1 => by
    rw [List.replicate_succ, List.replicate_succ, List.flatten_cons, List.flatten_cons]
    exact RDs.app' q (RDs.rep q m)
theorem bin_ints {op : BOp} (hop : op ≠ .add) (hm : op ≠ .mul) {d1 d2 : D} {h : Heap} {ρ : Rel R V} {K : PySem.W.Frag} {μ : Mu} {H : Hp} {Q : VK} {x y : V} {n : Nat}
    (q1 : RD K μ n H d1 x) (q2 : RD K μ n H d2 y) (F : Fin K W ρ μ h H (bin op d1 d2 h) Q) : ∃ i j, d1 = .int i ∧ d2 = .int j ∧ x = .int i ∧ y = .int j := by
  cases op <;> first
    | exact absurd rfl hop
    | exact absurd rfl hm
    | (cases d1 <;> first
      | exact F.elim
      | (cases d2 <;> first
          | exact F.elim
          | exact ⟨_, _, rfl, rfl, q1, q2⟩))
theorem pow_bits {i j : Int} (h0 : 0 ≤ j) (h1 : j ≤ 10000) (h2 : i.natAbs.log2 < 10000) : (Builtin.Int.intBits i : Int) * j ≤ 2 ^ 27 := by
  have b : Builtin.Int.intBits i ≤ i.natAbs.log2 + 1 := by
    unfold Builtin.Int.intBits
    split <;> omega
  have b2 : (Builtin.Int.intBits i : Int) ≤ 10000 := by omega
  have := Int.mul_le_mul b2 h1 h0 (by omega)
  omega
theorem opr_bin (op : BOp) (o : Operator) (ho : bopB op o = true) : OpR X (binaryOp o) (r2 X.K W (bin op)) := by
  cases op <;> cases o <;> first | cases ho | skip
  · refine OpR_imp (OpR.or op_add (OpR.or op_add_str (OpR.or (op_catA) op_catR))) fun x y H Q ⟨μ, h, d1, d2, r, q1, q2, F⟩ => ?_
    rcases bin_add q1 q2 F with ⟨i, j, rfl, rfl, rfl, rfl⟩ | ⟨i, j, rfl, rfl, rfl, rfl, hl⟩ | ⟨l, m, rfl, rfl, hl⟩ | ⟨l, m, e1, e2, hl, e3⟩
    · exact .inl ⟨i, j, rfl, rfl, Fin.ok F r rfl⟩
    · simp only [bin, if_pos hl] at F
      exact .inr (.inl ⟨i, j, rfl, rfl, by rw [lim_line]; exact hl, Fin.ok F r rfl⟩)
    · simp only [bin, if_pos hl] at F
      simp only [RD] at q1 q2
      obtain ⟨a, vs, rfl, s, t⟩ := q1
      obtain ⟨b, ws, rfl, s2, t2⟩ := q2
      have nil : ∀ {z : List D} {zs : List V}, RDs X.K μ h.length H z zs → zs = [] → z = [] := fun {z zs} q e => by
        have := q.length
        rw [e] at this
        exact List.length_eq_zero_iff.mp this.symm
      refine .inr (.inr (.inl ⟨a, b, vs, ws, rfl, rfl, s, s2, by rw [t.length, t2.length, lim_line]; exact hl, fun e => ?_, fun _ e => ?_, fun _ _ p hp => ?_⟩))
      · have e' := nil t e
        subst e'
        refine Fin.ok F r ?_
        show RD X.K μ h.length H (.tup ([] ++ m)) (.ref b)
        rw [List.nil_append]
        simp only [RD]
        exact ⟨b, ws, rfl, s2, t2⟩
      · have e' := nil t2 e
        subst e'
        refine Fin.ok F r ?_
        show RD X.K μ h.length H (.tup (l ++ [])) (.ref a)
        rw [List.append_nil]
        simp only [RD]
        exact ⟨a, vs, rfl, s, t⟩
      · have Pn := Post.new (o := .tup (vs ++ ws)) r hp
        refine F.okP Pn ?_
        show RD X.K μ h.length _ (.tup (l ++ m)) (.ref p)
        simp only [RD]
        exact ⟨p, _, rfl, .inl (.inl upd_same), RDs.mono Pn r _ _ (t.app' t2)⟩
    · rw [e3] at F
      obtain ⟨a, vs, rfl, s, t⟩ := lst_of r q1 e1
      obtain ⟨b, ws, rfl, s2, t2⟩ := lst_of r q2 e2
      refine .inr (.inr (.inr ⟨a, b, vs, ws, rfl, rfl, s, s2, by rw [t.length, t2.length, lim_line]; exact hl, fun p hp => ?_⟩))
      have Pn := Post.new (o := .lst (vs ++ ws)) r hp
      exact F.okP Pn (RR.mk r hp hp (t.app' t2))
  · refine OpR_imp op_sub fun x y H Q ⟨μ, h, d1, d2, r, q1, q2, F⟩ => ?_
    obtain ⟨i, j, rfl, rfl, rfl, rfl⟩ := bin_ints (by decide) (by decide) q1 q2 F
    exact ⟨i, j, rfl, rfl, Fin.ok F r rfl⟩
  · refine OpR_imp (OpR.or op_mulW (OpR.or op_repT op_repR)) fun x y H Q ⟨μ, h, d1, d2, r, q1, q2, F⟩ => ?_
    cases d2 with
    | int j =>
      cases q2
      cases d1 with
      | int i =>
        cases q1
        simp only [bin] at F
        split at F
        · rename_i hm
          exact .inl ⟨i, j, rfl, rfl, (show CMulW i j from of_decide_eq_true (p := i.natAbs.log2 + j.natAbs.log2 < 1000000) hm), Fin.ok F r rfl⟩
        · exact F.elim
      | tup l =>
        simp only [RD] at q1
        obtain ⟨a, vs, rfl, s, t⟩ := q1
        simp only [bin] at F
        split at F
        · rename_i hm
          obtain ⟨m1, m2, m3, m4⟩ := hm
          refine .inr (.inl ⟨a, j, vs, rfl, rfl, s, fun e => m1 ?_, m2, m3, by rw [t.length]; exact m4, fun p hp => ?_⟩)
          · have := t.length
            rw [e] at this
            exact List.length_eq_zero_iff.mp this.symm
          · have Pn := Post.new (o := .tup (List.replicate j.toNat vs).flatten) r hp
            refine F.okP Pn ?_
            show RD X.K μ h.length _ (.tup (List.replicate j.toNat l).flatten) (.ref p)
            simp only [RD]
            exact ⟨p, _, rfl, .inl (.inl upd_same), RDs.mono Pn r _ _ (t.rep _)⟩
        · exact F.elim
      | lst l =>
        simp only [RD] at q1
        obtain ⟨a, vs, rfl, s, t⟩ := q1
        simp only [bin] at F
        split at F
        · rename_i hm
          obtain ⟨m1, m2, m3⟩ := hm
          have hz : vs.length * j.toNat ≤ sizeLine := by
            rw [t.length, lim_line]
            have : l.length * j.toNat ≤ 1000 * 1000 := Nat.mul_le_mul m3 (by omega)
            show _ ≤ 16777216
            omega
          refine .inr (.inr ⟨a, j, vs, rfl, rfl, s.rd, m1, by omega, hz, fun p hp => ?_⟩)
          have Pn := Post.new (o := .lst (List.replicate j.toNat vs).flatten) r hp
          exact F.okP Pn (RR.mk r hp hp (t.rep _))
        · exact F.elim
      | _ => exact F.elim
    | _ => cases d1 <;> exact F.elim
  · refine OpR_imp op_fdivW fun x y H Q ⟨μ, h, d1, d2, r, q1, q2, F⟩ => ?_
    obtain ⟨i, j, rfl, rfl, rfl, rfl⟩ := bin_ints (by decide) (by decide) q1 q2 F
    simp only [bin] at F
    split at F
    · rename_i hm
      exact ⟨i, j, rfl, rfl, (show CDivW i j from of_decide_eq_true (p := 0 < j ∧ j.natAbs.log2 < 9000) hm), Fin.ok F r rfl⟩
    · exact F.elim
  · refine OpR_imp op_modN fun x y H Q ⟨μ, h, d1, d2, r, q1, q2, F⟩ => ?_
    obtain ⟨i, j, rfl, rfl, rfl, rfl⟩ := bin_ints (by decide) (by decide) q1 q2 F
    simp only [bin] at F
    split at F
    · rename_i hm
      refine ⟨i, j, rfl, rfl, (show j ≠ 0 by omega), ?_⟩
      show Q (.int (Int.fmod i j)) H
      rw [Int.fmod_eq_emod_of_nonneg i (by omega)]
      exact Fin.ok F r rfl
    · split at F
      · rename_i hm
        exact ⟨i, j, rfl, rfl, hm, Fin.ok F r rfl⟩
      · exact F.elim
  · have pw : OpR X (binaryOp .Pow) (rI (fun i j => 0 ≤ j ∧ j ≤ 10000 ∧ i.natAbs.log2 < 10000) fun i j => .int (i ^ j.toNat)) := opI fun _ _ _ _ _ _ _ hc q => pow_int hc.1 (pow_bits hc.1 hc.2.1 hc.2.2) q
    refine OpR_imp pw fun x y H Q ⟨μ, h, d1, d2, r, q1, q2, F⟩ => ?_
    obtain ⟨i, j, rfl, rfl, rfl, rfl⟩ := bin_ints (by decide) (by decide) q1 q2 F
    simp only [bin] at F
    split at F
    · rename_i hm
      exact ⟨i, j, rfl, rfl, of_decide_eq_true hm, Fin.ok F r rfl⟩
    · exact F.elim
theorem unr_neg : UnR X (unaryOp .USub) (r1 X.K W negM) := by
  refine UnR_imp un_neg fun x H Q ⟨μ, h, d1, r, q1, F⟩ => ?_
  cases d1 <;> first | exact F.elim | skip
  cases q1
  exact ⟨_, rfl, Fin.ok F r rfl⟩

/-! ### == and != -/
mutual
def toP : D → PyData
  | .non => .none
  | .bl b => .bool b
  | .int i => .int i
  | .str x => .str x
  | .tup l => .tuple (toPs l)
  | .lst l => .list (toPs l)
  | .loc _ => .none
  | .scr _ => .none
  | .dic _ _ => .none
  | .exo _ _ _ => .none
def toPs : List D → List PyData
  | [] => []
  | d :: ds => toP d :: toPs ds
end
mutual
theorem dok_P : ∀ (n : Nat) (d : D), dok n d = true → (toP d).canLay0 = true ∧ (toP d).depth ≤ n + 1
  | n, .non, _ => by simp [toP, PyData.canLay0, PyData.depth]
  | n, .bl _, _ => by simp [toP, PyData.canLay0, PyData.depth]
  | n, .int _, _ => by simp [toP, PyData.canLay0, PyData.depth]
  | n, .str x, h => by
    refine ⟨?_, by simp [toP, PyData.depth]⟩
    simp only [dok] at h
    simp only [toP, PyData.canLay0]
    exact h
  | 0, .tup _, h => by simp [dok] at h
  | 0, .lst _, h => by simp [dok] at h
  | n + 1, .tup l, h => by
    simp only [dok] at h
    obtain ⟨a, b⟩ := dok_Ps n l h
    simp only [toP, PyData.canLay0, PyData.depth]
    exact ⟨a, by omega⟩
  | n + 1, .lst l, h => by
    simp only [dok] at h
    obtain ⟨a, b⟩ := dok_Ps n l h
    simp only [toP, PyData.canLay0, PyData.depth]
    exact ⟨a, by omega⟩
  | _, .loc _, h => by simp [dok] at h
  | _, .scr _, h => by simp [dok] at h
  | _, .dic _ _, h => by simp [dok] at h
  | _, .exo _ _ _, h => by simp [dok] at h
theorem dok_Ps : ∀ (n : Nat) (l : List D), dokL n l = true → PyData.canLayAll0 (toPs l) = true ∧ PyData.depthAll (toPs l) ≤ n + 1
  | n, [], _ => by simp [toPs, PyData.canLayAll0, PyData.depthAll]
  | n, d :: ds, h => by
    simp only [dokL, Bool.and_eq_true] at h
    obtain ⟨a, b⟩ := dok_P n d h.1
    obtain ⟨c, e⟩ := dok_Ps n ds h.2
    simp only [toPs, PyData.canLayAll0, PyData.depthAll, Bool.and_eq_true]
    exact ⟨⟨a, c⟩, by omega⟩
end
theorem shaped_of {d : D} (h : dok 60 d = true) : SeqAt.shaped (toP d) = true := by
  obtain ⟨a, b⟩ := dok_P 60 d h
  unfold SeqAt.shaped
  simp only [Bool.and_eq_true, decide_eq_true_eq]
  exact ⟨a, by omega⟩
mutual
theorem eqv_D : ∀ (n m : Nat) (a b : D), dok n a = true → dok m b = true → PyData.eqv (toP a) (toP b) = eqD a b
  | _, _, .non, .non, _, _ => by simp [toP, PyData.eqv, eqD]
  | _, _, .non, .bl _, _, _ => by simp [toP, PyData.eqv, eqD]
  | _, _, .non, .int _, _, _ => by simp [toP, PyData.eqv, eqD]
  | _, _, .non, .str _, _, _ => by simp [toP, PyData.eqv, eqD]
  | _, _, .non, .tup _, _, _ => by simp [toP, PyData.eqv, eqD]
  | _, _, .non, .lst _, _, _ => by simp [toP, PyData.eqv, eqD]
  | _, _, .bl _, .non, _, _ => by simp [toP, PyData.eqv, eqD]
  | _, _, .bl _, .bl _, _, _ => by simp [toP, PyData.eqv, eqD]
  | _, _, .bl _, .int _, _, _ => by simp [toP, PyData.eqv, eqD, b2i]
  | _, _, .bl _, .str _, _, _ => by simp [toP, PyData.eqv, eqD]
  | _, _, .bl _, .tup _, _, _ => by simp [toP, PyData.eqv, eqD]
  | _, _, .bl _, .lst _, _, _ => by simp [toP, PyData.eqv, eqD]
  | _, _, .int _, .non, _, _ => by simp [toP, PyData.eqv, eqD]
  | _, _, .int _, .bl _, _, _ => by simp [toP, PyData.eqv, eqD, b2i]
  | _, _, .int _, .int _, _, _ => by simp [toP, PyData.eqv, eqD]
  | _, _, .int _, .str _, _, _ => by simp [toP, PyData.eqv, eqD]
  | _, _, .int _, .tup _, _, _ => by simp [toP, PyData.eqv, eqD]
  | _, _, .int _, .lst _, _, _ => by simp [toP, PyData.eqv, eqD]
  | _, _, .str _, .non, _, _ => by simp [toP, PyData.eqv, eqD]
  | _, _, .str _, .bl _, _, _ => by simp [toP, PyData.eqv, eqD]
  | _, _, .str _, .int _, _, _ => by simp [toP, PyData.eqv, eqD]
  | _, _, .str _, .str _, _, _ => by simp [toP, PyData.eqv, eqD]
  | _, _, .str _, .tup _, _, _ => by simp [toP, PyData.eqv, eqD]
  | _, _, .str _, .lst _, _, _ => by simp [toP, PyData.eqv, eqD]
  | _, _, .tup _, .non, _, _ => by simp [toP, PyData.eqv, eqD]
  | _, _, .tup _, .bl _, _, _ => by simp [toP, PyData.eqv, eqD]
  | _, _, .tup _, .int _, _, _ => by simp [toP, PyData.eqv, eqD]
  | _, _, .tup _, .str _, _, _ => by simp [toP, PyData.eqv, eqD]
  | n + 1, m + 1, .tup a, .tup b, h1, h2 => by
    simp only [dok] at h1 h2
    simp only [toP, PyData.eqv, eqD]
    exact eqv_Ds n m a b h1 h2
  | 0, _, .tup a, .tup b, h1, _ => by simp [dok] at h1
  | _, 0, .tup a, .tup b, _, h1 => by simp [dok] at h1
  | _, _, .tup _, .lst _, _, _ => by simp [toP, PyData.eqv, eqD]
  | _, _, .lst _, .non, _, _ => by simp [toP, PyData.eqv, eqD]
  | _, _, .lst _, .bl _, _, _ => by simp [toP, PyData.eqv, eqD]
  | _, _, .lst _, .int _, _, _ => by simp [toP, PyData.eqv, eqD]
  | _, _, .lst _, .str _, _, _ => by simp [toP, PyData.eqv, eqD]
  | _, _, .lst _, .tup _, _, _ => by simp [toP, PyData.eqv, eqD]
  | n + 1, m + 1, .lst a, .lst b, h1, h2 => by
    simp only [dok] at h1 h2
    simp only [toP, PyData.eqv, eqD]
    exact eqv_Ds n m a b h1 h2
  | 0, _, .lst a, .lst b, h1, _ => by simp [dok] at h1
  | _, 0, .lst a, .lst b, _, h1 => by simp [dok] at h1
  | _, _, .loc _, _, h1, _ => by simp [dok] at h1
  | _, _, .scr _, _, h1, _ => by simp [dok] at h1
  | _, _, .dic _ _, _, h1, _ => by simp [dok] at h1
  | _, _, .exo _ _ _, _, h1, _ => by simp [dok] at h1
  | _, _, _, .loc _, _, h1 => by simp [dok] at h1
  | _, _, _, .scr _, _, h1 => by simp [dok] at h1
  | _, _, _, .dic _ _, _, h1 => by simp [dok] at h1
  | _, _, _, .exo _ _ _, _, h1 => by simp [dok] at h1
theorem eqv_Ds : ∀ (n m : Nat) (a b : List D), dokL n a = true → dokL m b = true → PyData.eqvAll (toPs a) (toPs b) = eqDL a b
  | _, _, [], [], _, _ => by simp [toPs, PyData.eqvAll, eqDL]
  | _, _, [], _ :: _, _, _ => by simp [toPs, PyData.eqvAll, eqDL]
  | _, _, _ :: _, [], _, _ => by simp [toPs, PyData.eqvAll, eqDL]
  | n, m, x :: xs, y :: ys, h1, h2 => by
    simp only [dokL, Bool.and_eq_true] at h1 h2
    simp only [toPs, PyData.eqvAll, eqDL]
    rw [eqv_D n m x y h1.1 h2.1, eqv_Ds n m xs ys h1.2 h2.2]
end
section
variable {K : PySem.W.Frag} {μ : Mu} {n : Nat} {H : Hp}
mutual
theorem dp_of : ∀ (k : Nat) (d : D) (v : V), dok k d = true → RD K μ n H d v → Dp K H v (toP d)
  | _, .non, v, _, q => by cases q; exact .non
  | _, .bl b, v, _, q => by cases q; exact .bl b
  | _, .int b, v, _, q => by cases q; exact .int b
  | _, .str b, v, _, q => by cases q; exact .str b
  | 0, .tup _, _, h, _ => by simp [dok] at h
  | 0, .lst _, _, h, _ => by simp [dok] at h
  | k + 1, .tup l, v, h, q => by
    simp only [dok] at h
    simp only [RD] at q
    obtain ⟨a, vs, rfl, s, t⟩ := q
    exact .tup s (dp_all k l vs h t)
  | k + 1, .lst l, v, h, q => by
    simp only [dok] at h
    simp only [RD] at q
    obtain ⟨a, vs, rfl, s, t⟩ := q
    exact .lst s.sq (dp_all k l vs h t)
  | _, .loc _, _, h, _ => by simp [dok] at h
  | _, .scr _, _, h, _ => by simp [dok] at h
  | _, .dic _ _, _, h, _ => by simp [dok] at h
  | _, .exo _ _ _, _, h, _ => by simp [dok] at h
theorem dp_all : ∀ (k : Nat) (l : List D) (vs : List V), dokL k l = true → RDs K μ n H l vs → DpAll K H vs (toPs l)
  | _, [], vs, _, q => by
    simp only [RDs] at q
    subst q
    exact .nil
  | k, d :: l, vs, h, q => by
    simp only [dokL, Bool.and_eq_true] at h
    simp only [RDs] at q
    obtain ⟨v, r, rfl, q1, t⟩ := q
    exact .cons (dp_of k d v h.1 q1) (dp_all k l r h.2 t)
end
end
theorem dp_look {K : PySem.W.Frag} {μ : Mu} {h : Heap} {H : Hp} {d : D} {v : V} (r : HR K μ h H) (q : RD K μ h.length H d v) (hd : dok 60 (look h d) = true) : Dp K H v (toP (look h d)) := by
  cases d with
  | loc p =>
    simp only [look] at hd ⊢
    cases c : h[p]? with
    | none => rw [c] at hd; simp [dok] at hd
    | some o =>
      rw [c] at hd
      cases o with
      | dic _ => simp [dok] at hd
      | lst m =>
        obtain ⟨vs, e1, t⟩ := r.ob p _ c
        simp only [RD] at q
        rw [q.2]
        simp only [dok] at hd
        exact .lst (.inl (.inl e1)) (dp_all 59 m vs hd t)
  | _ => exact dp_of 60 _ v hd q
theorem flat_V {K : PySem.W.Frag} {μ : Mu} {n : Nat} {H : Hp} {d : D} {v : V} (q : RD K μ n H d v) (hf : flat d = true) : flatV v = true := by
  cases d <;> first | (cases q; rfl) | cases hf
theorem eqV_D {K : PySem.W.Frag} {μ : Mu} {n : Nat} {H : Hp} {d e : D} {v w : V} (q : RD K μ n H d v) (q2 : RD K μ n H e w) (hf : flat d = true) (hg : flat e = true) : eqV v w = eqD d e := by
  cases d <;> cases e <;> first | (cases q; cases q2; first | rfl | (simp [eqV, eqD, b2i]; done)) | (cases hf; done) | (cases hg; done)
theorem flat_Vs {K : PySem.W.Frag} {μ : Mu} {n : Nat} {H : Hp} : ∀ {l : List D} {vs : List V}, RDs K μ n H l vs → l.all flat = true → vs.all flatV = true
  | [], vs, q, _ => by
    simp only [RDs] at q
    subst q
    rfl
  | d :: l, vs, q, h => by
    simp only [RDs] at q
    obtain ⟨v, r, rfl, q1, t⟩ := q
    simp only [List.all_cons, Bool.and_eq_true] at h ⊢
    exact ⟨flat_V q1 h.1, flat_Vs t h.2⟩
theorem any_Vs {K : PySem.W.Frag} {μ : Mu} {n : Nat} {H : Hp} {d : D} {v : V} (q : RD K μ n H d v) (hf : flat d = true) : ∀ {l : List D} {vs : List V}, RDs K μ n H l vs → l.all flat = true → (vs.any fun y => eqV y v) = l.any fun z => eqD z d
  | [], vs, q, _ => by
    simp only [RDs] at q
    subst q
    rfl
  | c :: l, vs, q2, h => by
    simp only [RDs] at q2
    obtain ⟨w, r, rfl, q1, t⟩ := q2
    simp only [List.all_cons, Bool.and_eq_true] at h
    simp only [List.any_cons]
    rw [eqV_D q1 q h.1 hf, any_Vs q hf t h.2]
theorem cmp_fin {K : PySem.W.Frag} {μ : Mu} {h : Heap} {H : Hp} {op : COp} {d1 d2 : D} {Q : VK} {W : XK} (F : Fin K W (RR K) μ h H (cmpM op d1 d2 h) Q) (r : HR K μ h H) : ∃ b, cmp op d1 d2 h = some b ∧ Q (.bl b) H := by
  unfold cmpM at F
  cases e : cmp op d1 d2 h with
  | none => rw [e] at F; exact F.elim
  | some b =>
    rw [e] at F
    exact ⟨b, rfl, Fin.ok F r rfl⟩
theorem cmp_ints {op : COp} {d1 d2 : D} {h : Heap} {b : Bool} (ho : op = .lt ∨ op = .le ∨ op = .gt ∨ op = .ge) (e : cmp op d1 d2 h = some b) : ∃ i j, d1 = .int i ∧ d2 = .int j := by
  rcases ho with rfl | rfl | rfl | rfl <;> cases d1 <;> first | (cases e; done) | (cases d2 <;> first | exact ⟨_, _, rfl, rfl⟩ | (cases e; done))
theorem mem_of {K : PySem.W.Frag} {μ : Mu} {h : Heap} {H : Hp} {d1 d2 : D} {x y : V} {b : Bool} (r : HR K μ h H) (q1 : RD K μ h.length H d1 x) (q2 : RD K μ h.length H d2 y) (e : mem d1 d2 h = some b) :
    ∃ p xs, y = .ref p ∧ (SqL K H p xs ∨ SqT K H p xs) ∧ flatV x = true ∧ xs.all flatV = true ∧ inV x xs = b := by
  unfold mem at e
  cases c : seqOf h d2 with
  | none => rw [c] at e; cases e
  | some l =>
    rw [c] at e
    obtain ⟨a, vs, rfl, s, t⟩ := seq_of r q2 c
    simp only at e
    split at e
    · rename_i hf
      simp only [Bool.and_eq_true] at hf
      cases e
      exact ⟨a, vs, rfl, s, flat_V q1 hf.1, flat_Vs t hf.2, any_Vs q1 hf.1 t hf.2⟩
    · cases e
theorem beq_decide (a b : Bool) : (a == b) = decide (a = b) := by cases a <;> cases b <;> rfl
theorem is_of {K : PySem.W.Frag} {μ : Mu} {n : Nat} {H : Hp} {d1 d2 : D} {x y : V} {b : Bool} (q1 : RD K μ n H d1 x) (q2 : RD K μ n H d2 y) (e : isM d1 d2 = some b) :
    (y = .non ∧ ∀ Q : Bool → Hp → Prop, Q b H → Q (decide (x = .non)) H) ∨ ∃ a c, x = .bl a ∧ y = .bl c ∧ b = (a == c) := by
  cases d2 with
  | non =>
    cases q2
    cases e
    refine .inl ⟨rfl, fun Q q => ?_⟩
    cases d1 <;> first
      | (cases q1; exact q)
      | (simp only [RD] at q1; obtain ⟨a, vs, rfl, _⟩ := q1; exact q)
      | (simp only [RD] at q1; obtain ⟨a, dd, vs, rfl, _⟩ := q1; exact q)
      | (simp only [RD] at q1; rw [q1.2]; exact q)
  | bl c =>
    cases q2
    cases d1 with
    | bl a =>
      cases q1
      cases e
      exact .inr ⟨a, c, rfl, rfl, rfl⟩
    | _ => cases e
  | _ => cases e
theorem opr_cmp (hu : X.A.units + 64 < cLine) (op : COp) (o : CmpOp) (ho : copB op o = true) : OpR X (compareOp o) (r2 X.K W (cmpM op)) := by
  cases op <;> cases o <;> first | cases ho | skip
  · refine OpR_imp (op_eqD hu) fun x y H Q ⟨μ, h, d1, d2, r, q1, q2, F⟩ => ?_
    obtain ⟨b, e, q⟩ := cmp_fin F r
    simp only [cmp] at e
    split at e
    · rename_i hk
      simp only [Bool.and_eq_true] at hk
      cases e
      exact ⟨_, _, dp_look r q1 hk.1, dp_look r q2 hk.2, shaped_of hk.1, shaped_of hk.2, by rw [eqv_D 60 60 _ _ hk.1 hk.2]; exact q⟩
    · cases e
  · refine OpR_imp (op_neD hu) fun x y H Q ⟨μ, h, d1, d2, r, q1, q2, F⟩ => ?_
    obtain ⟨b, e, q⟩ := cmp_fin F r
    simp only [cmp] at e
    split at e
    · rename_i hk
      simp only [Bool.and_eq_true] at hk
      cases e
      exact ⟨_, _, dp_look r q1 hk.1, dp_look r q2 hk.2, shaped_of hk.1, shaped_of hk.2, by rw [eqv_D 60 60 _ _ hk.1 hk.2]; exact q⟩
    · cases e
  · refine OpR_imp op_lt fun x y H Q ⟨μ, h, d1, d2, r, q1, q2, F⟩ => ?_
    obtain ⟨b, e, q⟩ := cmp_fin F r
    obtain ⟨i, j, rfl, rfl⟩ := cmp_ints (.inl rfl) e
    cases q1
    cases q2
    cases e
    exact ⟨_, _, rfl, rfl, q⟩
  · refine OpR_imp op_le fun x y H Q ⟨μ, h, d1, d2, r, q1, q2, F⟩ => ?_
    obtain ⟨b, e, q⟩ := cmp_fin F r
    obtain ⟨i, j, rfl, rfl⟩ := cmp_ints (.inr (.inl rfl)) e
    cases q1
    cases q2
    cases e
    exact ⟨_, _, rfl, rfl, q⟩
  · refine OpR_imp op_gt fun x y H Q ⟨μ, h, d1, d2, r, q1, q2, F⟩ => ?_
    obtain ⟨b, e, q⟩ := cmp_fin F r
    obtain ⟨i, j, rfl, rfl⟩ := cmp_ints (.inr (.inr (.inl rfl))) e
    cases q1
    cases q2
    cases e
    exact ⟨_, _, rfl, rfl, q⟩
  · refine OpR_imp op_ge fun x y H Q ⟨μ, h, d1, d2, r, q1, q2, F⟩ => ?_
    obtain ⟨b, e, q⟩ := cmp_fin F r
    obtain ⟨i, j, rfl, rfl⟩ := cmp_ints (.inr (.inr (.inr rfl))) e
    cases q1
    cases q2
    cases e
    exact ⟨_, _, rfl, rfl, q⟩
  · refine OpR_imp (OpR.or op_isN op_isBl) fun x y H Q ⟨μ, h, d1, d2, r, q1, q2, F⟩ => ?_
    obtain ⟨b, e, q⟩ := cmp_fin F r
    simp only [cmp] at e
    rcases is_of q1 q2 e with ⟨rfl, e2⟩ | ⟨a, c, rfl, rfl, rfl⟩
    · exact .inl ⟨rfl, e2 (fun t H => Q (.bl t) H) q⟩
    · exact .inr ⟨a, c, rfl, rfl, by rw [beq_decide] at q; exact q⟩
  · refine OpR_imp (OpR.or op_notN op_notBl) fun x y H Q ⟨μ, h, d1, d2, r, q1, q2, F⟩ => ?_
    obtain ⟨b, e, q⟩ := cmp_fin F r
    simp only [cmp] at e
    cases c : isM d1 d2 with
    | none => rw [c] at e; cases e
    | some b' =>
      rw [c] at e
      cases e
      rcases is_of q1 q2 c with ⟨rfl, e2⟩ | ⟨a, a2, rfl, rfl, rfl⟩
      · exact .inl ⟨rfl, e2 (fun t H => Q (.bl (!t)) H) q⟩
      · exact .inr ⟨a, a2, rfl, rfl, by rw [beq_decide] at q; exact q⟩
  · refine OpR_imp op_in_seq fun x y H Q ⟨μ, h, d1, d2, r, q1, q2, F⟩ => ?_
    obtain ⟨b, e, q⟩ := cmp_fin F r
    obtain ⟨p, xs, rfl, s, f1, f2, e2⟩ := mem_of r q1 q2 e
    exact ⟨p, xs, rfl, s, f1, f2, by simp only [e2]; exact q⟩
  · refine OpR_imp op_notIn_seq fun x y H Q ⟨μ, h, d1, d2, r, q1, q2, F⟩ => ?_
    obtain ⟨b, e, q⟩ := cmp_fin F r
    simp only [cmp] at e
    cases c : mem d1 d2 h with
    | none => rw [c] at e; cases e
    | some b' =>
      rw [c] at e
      cases e
      obtain ⟨p, xs, rfl, s, f1, f2, e2⟩ := mem_of r q1 q2 c
      exact ⟨p, xs, rfl, s, f1, f2, by simp only [e2]; exact q⟩
end
end MP

/-! MP.Snd3: expressions. -/
namespace MP
open PySem PySem.Spec PyProof.Rows L2

theorem bd_assoc {α β γ : Type} (m : Res α) (k : α → Heap → Res β) (k' : β → Heap → Res γ) : bd (bd m k) k' = bd m fun a h => bd (k a h) k' := by
  cases m with
  | none => rfl
  | some o => cases o <;> rfl
theorem boolR_bl {o : Option Bool} {h h' : Heap} {r : R} (e : boolR o h = some (.ok r h')) : ∃ b, r = .v (.bl b) := by
  cases o with
  | none => cases e
  | some b =>
    cases e
    exact ⟨b, rfl⟩
section
variable {K : PySem.W.Frag} {W : XK} {σ : L2.St} {H : Hp}
theorem rd_tst {m : Env → Heap → Res R} {Q : Bool → Hp → Prop} (q : rT K W (tst m) σ H Q) (hb : ∀ g h r h', m g h = some (.ok r h') → ∃ b, r = .v (.bl b)) : rE K W m σ H (fun x H' => ∃ k, x = .bl k ∧ Q k H') := by
  obtain ⟨μ, g, h, r, er, F⟩ := q
  refine ⟨μ, g, h, r, er, ?_⟩
  unfold tst at F
  cases e : m g h with
  | none => rw [e] at F; exact F
  | some o =>
    rw [e] at F
    cases o with
    | exc x h' => exact F
    | ok r h' =>
      obtain ⟨b, rfl⟩ := hb _ _ _ _ e
      intro v H' μ' P rv
      cases rv
      exact ⟨b, rfl, F b H' μ' P rfl⟩
end

section
variable (P : PInfo) (Φ : Nat → List D → Heap → Res R) (G : Nat → Option D) (k : Nat)
def SE (e : E) : Prop := ∀ (X : Cx) (W : XK) (x : Expr), Good P Φ G k X W → chk P X.N X.env.scope e x = true → PE X x (rE X.K W (eval Φ G e)) ∧ PT X x (rT X.K W (tst (eval Φ G e)))
def SEs (es : List E) : Prop := ∀ (X : Cx) (W : XK) (xs : List Expr), Good P Φ G k X W → chks P X.N X.env.scope es xs = true → PA X xs (rA X.K W (evals Φ G es))
end
section
variable {P : PInfo} {Φ : Nat → List D → Heap → Res R} {G : Nat → Option D} {k : Nat}
theorem Good.un {X : Cx} {W : XK} (g : Good P Φ G k X W) : X.A.units + 64 < cLine := g.room.units

theorem se_var (i : Nat) : SE P Φ G k (.var i) := fun X W x gd hc => by
  cases x with
  | Name n pos =>
    simp only [chk, Bool.and_eq_true, decide_eq_true_eq, Bool.not_eq_true'] at hc
    obtain ⟨h1, h2, h3, h4⟩ := hc
    have pe : PE X (.Name n pos) (rE X.K W (eval Φ G (.var i))) := by
      refine PE_imp (pe_var h1 (visB_ok h2) h3 h4) fun σ H Q ⟨μ, g, h, r, er, F⟩ => ?_
      simp only [eval] at F
      split at F
      · rename_i d e
        obtain ⟨v, e1, e2⟩ := er.2 i d e
        exact ⟨v, e1, Fin.ok F r e2⟩
      · exact F.elim
    exact ⟨pe, pt_plain pe rfl⟩
  | _ => simp [chk] at hc
theorem se_c (d : D) : SE P Φ G k (.c d) := fun X W x gd hc => by
  cases x with
  | Constant c j pos =>
    simp only [chk] at hc
    have fin : ∀ v, (∀ (μ : Mu) (n : Nat) (H : Hp), RD X.K μ n H d v) → ∀ (σ : L2.St) (H : Hp) (Q : VK), rE X.K W (eval Φ G (.c d)) σ H Q → tC v σ H Q := fun v hv σ H Q ⟨μ, g, h, r, er, F⟩ => by
      simp only [eval] at F
      exact Fin.ok F r (hv _ _ _)
    have pe : PE X (.Constant c j pos) (rE X.K W (eval Φ G (.c d))) := by
      cases d <;> cases c <;> first
        | (cases hc; done)
        | exact PE_imp pe_non (fin _ fun _ _ _ => rfl)
        | (simp only [constB, beq_iff_eq] at hc; subst hc; exact PE_imp pe_bl (fin _ fun _ _ _ => rfl))
        | (simp only [constB, decide_eq_true_eq] at hc; subst hc; first | exact PE_imp pe_int (fin _ fun _ _ _ => rfl) | exact PE_imp pe_str (fin _ fun _ _ _ => rfl))
    exact ⟨pe, pt_plain pe rfl⟩
  | _ => simp [chk] at hc
theorem se_glob (i : Nat) : SE P Φ G k (.glob i) := fun X W x gd hc => by
  cases x with
  | Name n pos =>
    simp only [chk, Bool.and_eq_true, decide_eq_true_eq] at hc
    obtain ⟨h1, h2⟩ := hc
    obtain ⟨hg, hdb, hn⟩ := gloB_ok h2
    cases e : P.globs[i]? with
    | none => rw [e] at h1; cases h1
    | some p =>
      obtain ⟨y, d⟩ := p
      rw [e] at h1
      simp only [Option.map_some, Option.some.injEq] at h1
      subst h1
      obtain ⟨e1, v, u, e2, ru, rg⟩ := gd.glob i y d e
      have pe : PE X (.Name y pos) (rE X.K W (eval Φ G (.glob i))) := by
        refine PE_imp (pe_glob hg e2 ru hdb) fun σ H Q ⟨μ, g, h, r, er, F⟩ => ?_
        simp only [eval, e1] at F
        exact Fin.ok F r (rg.rd _ _ _ _)
      exact ⟨pe, pt_plain pe rfl⟩
  | _ => simp [chk] at hc
theorem se_bin (op : BOp) (a b : E) (ha : SE P Φ G k a) (hb : SE P Φ G k b) : SE P Φ G k (.bin op a b) := fun X W x gd hc => by
  cases x with
  | BinOp a' o b' pos =>
    simp only [chk, Bool.and_eq_true] at hc
    obtain ⟨h1, h2, h3⟩ := hc
    have pe : PE X (.BinOp a' o b' pos) (rE X.K W (eval Φ G (.bin op a b))) := by
      refine PE_imp (pe_op (opr_bin (W := W) op o h1) (ha X W a' gd h2).1 (hb X W b' gd h3).1) fun σ H Q q => rd_two (f := bin op) ?_
      simpa only [eval] using q
    exact ⟨pe, pt_plain pe rfl⟩
  | _ => simp [chk] at hc
theorem se_neg (a : E) (ha : SE P Φ G k a) : SE P Φ G k (.neg a) := fun X W x gd hc => by
  cases x with
  | UnaryOp o a' pos =>
    cases o <;> simp only [chk] at hc <;> first | (cases hc; done) | skip
    have pe : PE X (.UnaryOp .USub a' pos) (rE X.K W (eval Φ G (.neg a))) := by
      refine PE_imp (pe_un (unr_neg (W := W)) (ha X W a' gd hc).1) fun σ H Q q => rd_one (f := negM) ?_
      simpa only [eval] using q
    exact ⟨pe, pt_plain pe rfl⟩
  | _ => simp [chk] at hc
theorem se_not (a : E) (ha : SE P Φ G k a) : SE P Φ G k (.not a) := fun X W x gd hc => by
  cases x with
  | UnaryOp o a' pos =>
    cases o <;> simp only [chk] at hc <;> first | (cases hc; done) | skip
    have ih := ha X W a' gd hc
    refine ⟨PE_imp (pe_notT ih.1) fun σ H Q q => ?_, PT_imp (pt_not ih.2) fun σ H Q q => ?_⟩
    · simp only [eval] at q
      refine rd_bind (ρ := RR X.K) q back_RR fun μ1 g h1 H1 r v H0 hr er q1 F => ?_
      cases e1 : tru h1 r.frz with
      | none => rw [e1] at F; exact F.elim
      | some b =>
        rw [e1] at F
        exact ⟨b, tru_of hr q1.frz e1, Fin.ok F hr rfl⟩
    · have e : tst (eval Φ G (.not a)) = fun g h => bd (tst (eval Φ G a) g h) fun b h => some (.ok (!b) h) := by
        funext g h
        simp only [tst, eval, bd_assoc]
        congr 1
        funext r h1
        cases tru h1 r.frz <;> rfl
      rw [e] at q
      refine rd_bind (ρ := RB) q back_RB fun μ1 g h1 H1 r v H0 hr er q1 F => ?_
      cases q1
      exact Fin.ok F hr rfl
  | _ => simp [chk] at hc
theorem se_cmp (op : COp) (a b : E) (ha : SE P Φ G k a) (hb : SE P Φ G k b) : SE P Φ G k (.cmp op a b) := fun X W x gd hc => by
  cases x with
  | Compare a' os bs pos =>
    match os, bs, hc with
    | [o], [b'], hc =>
      simp only [chk, Bool.and_eq_true] at hc
      obtain ⟨h1, h2, h3⟩ := hc
      have hm := shape_marks (chk_shape h3) o
      have e : eval Φ G (.cmp op a b) = fun g h => bd (eval Φ G a g h) fun x h => bd (eval Φ G b g h) fun y h => cmpM op x.frz y.frz h := by
        funext g h
        simp only [eval]
      refine ⟨PE_imp (pe_cmpR (opr_cmp (W := W) gd.un op o h1) (ha X W a' gd h2).1 (hb X W b' gd h3).1 hm) fun σ H Q q => rd_two (f := cmpM op) ?_,
        PT_imp (pt_cmpR (opr_cmp (W := W) gd.un op o h1) (ha X W a' gd h2).1 (hb X W b' gd h3).1 hm) fun σ H Q q => rd_two (f := cmpM op) (rd_tst ?_ fun g h r h' er => ?_)⟩
      · rw [e] at q; exact q
      · rw [e] at q; exact q
      · cases c1 : eval Φ G a g h with
        | none => rw [c1] at er; cases er
        | some o1 =>
          rw [c1] at er
          cases o1 with
          | exc _ _ => cases er
          | ok r1 h1 =>
            simp only [bd_ok] at er
            cases c2 : eval Φ G b g h1 with
            | none => rw [c2] at er; cases er
            | some o2 =>
              rw [c2] at er
              cases o2 with
              | exc _ _ => cases er
              | ok r2 h2 =>
                simp only [bd_ok, cmpM] at er
                exact boolR_bl er
    | [], _, hc => simp [chk] at hc
    | [_], [], hc => simp [chk] at hc
    | [_], _ :: _ :: _, hc => simp [chk] at hc
    | _ :: _ :: _, _, hc => simp [chk] at hc
  | _ => simp [chk] at hc
end
end MP

/-! MP.Snd4: expressions: chains, and, or, choices, displays, subscripts. -/
namespace MP
open PySem PySem.Spec PyProof.Rows L2

section
variable {P : PInfo} {Φ : Nat → List D → Heap → Res R} {G : Nat → Option D} {k : Nat}

def cmp2K (o1 o2 : COp) (mc : Env → Heap → Res R) (x y : D) (g : Env) (h : Heap) : Res R := match cmp o1 x y h with
  | some false => some (.ok (.v (.bl false)) h)
  | some true => bd (mc g h) fun z h => cmpM o2 y z.frz h
  | none => none
theorem rd_chain {K : PySem.W.Frag} {W : XK} {σ : L2.St} {H : Hp} {Q : VK} {o1 o2 : COp} {ma mb mc : Env → Heap → Res R}
    (q : rE K W (fun g h => bd (ma g h) fun x h => bd (mb g h) fun y h => cmp2K o1 o2 mc x.frz y.frz g h) σ H Q) :
    tChain (r2 K W (cmpM o1)) (r2 K W (cmpM o2)) (rE K W ma) (rE K W mb) (rE K W mc) σ H Q := by
  refine rd_bind (ρ := RR K) q back_RR fun μ1 g h1 H1 r1 v1 H0 hr er q1 F => ?_
  refine ⟨μ1, g, h1, hr, er, F.bind fun r2 h2 v2 H2 μ2 P q2 F2 => ?_⟩
  have q1' := RD.mono P hr _ _ q1.frz
  have q2' := q2.frz
  have F3 := F2.from P back_RR
  refine ⟨μ2, h2, _, _, P.hr, q1', q2', ?_⟩
  unfold cmp2K at F3
  unfold cmpM
  cases e : cmp o1 r1.frz r2.frz h2 with
  | none => rw [e] at F3; exact F3.elim
  | some t =>
    rw [e] at F3
    intro v H' μ' P' rv
    cases rv
    refine ⟨t, rfl, ?_⟩
    cases t with
    | false => exact F3 _ H' μ' P' rfl
    | true =>
      have er' := (er.mono P hr).mono P' P.hr
      refine ⟨μ', g, h2, P'.hr, er', (F3.from P' back_RR).bind fun r3 h3 v3 H3 μ3 P3 q3 F4 => ?_⟩
      exact ⟨μ3, h3, _, _, P3.hr, RD.mono P3 P'.hr _ _ (RD.mono P' P.hr _ _ q2'), q3.frz, F4.from P3 back_RR⟩
theorem se_cmp2 (o1 o2 : COp) (a b c : E) (ha : SE P Φ G k a) (hb : SE P Φ G k b) (hcc : SE P Φ G k c) : SE P Φ G k (.cmp2 o1 o2 a b c) := fun X W x gd hc => by
  cases x with
  | Compare a' os bs pos =>
    match os, bs, hc with
    | [p1, p2], [b', c'], hc =>
      simp only [chk, Bool.and_eq_true] at hc
      obtain ⟨⟨h1, h2⟩, h3, h4, h5⟩ := hc
      have hm : lastMarks [p1, p2] [b', c'] = false := by
        show behindInMarks p2 c' = false
        exact shape_marks (chk_shape h5) p2
      have e : eval Φ G (.cmp2 o1 o2 a b c) = fun g h => bd (eval Φ G a g h) fun x h => bd (eval Φ G b g h) fun y h => cmp2K o1 o2 (eval Φ G c) x.frz y.frz g h := by
        funext g h
        simp only [eval]
        rfl
      have isb : ∀ g h r h', eval Φ G (.cmp2 o1 o2 a b c) g h = some (.ok r h') → ∃ b, r = .v (.bl b) := fun g h r h' er => by
        rw [e] at er
        simp only at er
        cases c1 : eval Φ G a g h with
        | none => rw [c1] at er; cases er
        | some o1 =>
          rw [c1] at er
          cases o1 with
          | exc _ _ => cases er
          | ok r1 h1 =>
            simp only [bd_ok] at er
            cases c2 : eval Φ G b g h1 with
            | none => rw [c2] at er; cases er
            | some o2 =>
              rw [c2] at er
              cases o2 with
              | exc _ _ => cases er
              | ok r2 h2 =>
                simp only [bd_ok, cmp2K] at er
                split at er
                · cases er
                  exact ⟨_, rfl⟩
                · cases c3 : eval Φ G c g h2 with
                  | none => rw [c3] at er; cases er
                  | some o3 =>
                    rw [c3] at er
                    cases o3 with
                    | exc _ _ => cases er
                    | ok r3 h3 => exact boolR_bl er
                · cases er
      have A1 := (ha X W a' gd h3).1
      have A2 := (hb X W b' gd h4).1
      have A3 := (hcc X W c' gd h5).1
      refine ⟨PE_imp (pe_chain (opr_cmp (W := W) gd.un o1 p1 h1) (opr_cmp (W := W) gd.un o2 p2 h2) A1 A2 A3 hm) fun σ H Q q => rd_chain ?_,
        PT_imp (pt_chain (opr_cmp (W := W) gd.un o1 p1 h1) (opr_cmp (W := W) gd.un o2 p2 h2) A1 A2 A3 hm) fun σ H Q q => rd_chain ?_⟩
      · rw [e] at q; exact q
      · have q2 := rd_tst q isb
        rw [e] at q2
        exact q2
    | [], _, hc => simp [chk] at hc
    | [_], _, hc => simp [chk] at hc
    | [_, _], [], hc => simp [chk] at hc
    | [_, _], [_], hc => simp [chk] at hc
    | [_, _], _ :: _ :: _ :: _, hc => simp [chk] at hc
    | _ :: _ :: _ :: _, _, hc => simp [chk] at hc
  | _ => simp [chk] at hc

theorem tst_and (a b : E) : tst (eval Φ G (.and a b)) = fun g h => bd (tst (eval Φ G a) g h) fun c h => if c = true then tst (eval Φ G b) g h else some (.ok false h) := by
  funext g h
  simp only [tst, eval, bd_assoc]
  congr 1
  funext r h1
  cases e : tru h1 r.frz with
  | none => rfl
  | some c => cases c <;> simp [ofO, bd_assoc, e]
theorem tst_or (a b : E) : tst (eval Φ G (.or a b)) = fun g h => bd (tst (eval Φ G a) g h) fun c h => if c = true then some (.ok true h) else tst (eval Φ G b) g h := by
  funext g h
  simp only [tst, eval, bd_assoc]
  congr 1
  funext r h1
  cases e : tru h1 r.frz with
  | none => rfl
  | some c => cases c <;> simp [ofO, bd_assoc, e]
theorem tst_ite (c a b : E) : tst (eval Φ G (.ite c a b)) = fun g h => bd (tst (eval Φ G c) g h) fun t h => if t = true then tst (eval Φ G a) g h else tst (eval Φ G b) g h := by
  funext g h
  simp only [tst, eval, bd_assoc]
  congr 1
  funext r h1
  cases e : tru h1 r.frz with
  | none => rfl
  | some c => cases c <;> simp [ofO, bd_assoc, e]
theorem eval_ite (c a b : E) : eval Φ G (.ite c a b) = fun g h => bd (tst (eval Φ G c) g h) fun t h => if t = true then eval Φ G a g h else eval Φ G b g h := by
  funext g h
  simp only [tst, eval, bd_assoc]
  congr 1
  funext r h1
  cases e : tru h1 r.frz with
  | none => rfl
  | some c => cases c <;> simp [ofO]
-- a test, whatever its whole is
theorem pw_of {X : Cx} {op : PySem.BoolOp} {es : List Expr} {pos : Pos} {t : TT} (h : PT X (.BoolOp op es pos) t) : PW X (.BoolOp op es pos) t := ⟨fun whole => h.run⟩
theorem rdT_if {K : PySem.W.Frag} {W : XK} {σ : L2.St} {H : Hp} {Q : Bool → Hp → Prop} {ma : Env → Heap → Res Bool} {mb mc : Env → Heap → Res Bool} {T1 T2 : L2.St → Hp → Prop}
    (q : rT K W (fun g h => bd (ma g h) fun c h => if c = true then mb g h else mc g h) σ H Q)
    (h1 : ∀ H1, rT K W mb σ H1 Q → T1 σ H1) (h2 : ∀ H1, rT K W mc σ H1 Q → T2 σ H1) : rT K W ma σ H (fun c H1 => if c = true then T1 σ H1 else T2 σ H1) := by
  refine rd_bind (ρ := RB) q back_RB fun μ1 g h1' H1 c c' H0 hr er q1 F => ?_
  cases q1
  cases c with
  | true => exact iteT (h1 H1 ⟨μ1, g, h1', hr, er, F⟩)
  | false => exact iteF (h2 H1 ⟨μ1, g, h1', hr, er, F⟩)
theorem rT_ret {K : PySem.W.Frag} {W : XK} {σ : L2.St} {H : Hp} {Q : Bool → Hp → Prop} {b : Bool} (q : rT K W (fun _ h => some (.ok b h)) σ H Q) : Q b H := by
  obtain ⟨μ, g, h, r, er, F⟩ := q
  exact Fin.ok F r rfl
theorem se_and (a b : E) (ha : SE P Φ G k a) (hb : SE P Φ G k b) : SE P Φ G k (.and a b) := fun X W x gd hc => by
  cases x with
  | BoolOp o es pos =>
    match o, es, hc with
    | .And, [], hc => simp [chk] at hc
    | .Or, _, hc => simp [chk] at hc
    | .And, [_], hc => simp [chk] at hc
    | .And, a' :: b' :: rest, hc =>
      have h12 : chk P X.N X.env.scope a a' = true ∧ PE X (.BoolOp .And (b' :: rest) pos) (rE X.K W (eval Φ G b)) ∧ PW X (.BoolOp .And (b' :: rest) pos) (rT X.K W (tst (eval Φ G b))) := by
        cases rest with
        | nil =>
          simp only [chk, Bool.and_eq_true] at hc
          have ih := hb X W b' gd hc.2
          exact ⟨hc.1, pe_one ih.1, pw_and1 ih.2⟩
        | cons c' r' =>
          simp only [chk, Bool.and_eq_true] at hc
          have ih := hb X W _ gd hc.2
          exact ⟨hc.1, ih.1, pw_of ih.2⟩
      obtain ⟨h1, h2, h3⟩ := h12
      have ih := ha X W a' gd h1
      refine ⟨PE_imp (pe_andT ih.1 h2) fun σ H Q q => ?_, PT_imp (pw_and ih.2 h3).pt fun σ H Q q => ?_⟩
      · simp only [eval] at q
        refine rd_bind (ρ := RR X.K) q back_RR fun μ1 g h1 H1 r v H0 hr er q1 F => ?_
        cases e1 : tru h1 r.frz with
        | none => rw [e1] at F; exact F.elim
        | some c =>
          rw [e1] at F
          refine ⟨c, tru_of hr q1.frz e1, ?_⟩
          cases c with
          | false => exact iteF (Fin.ok F hr q1.frz)
          | true =>
            refine iteT ⟨μ1, g, h1, hr, er, F.bind fun r2 h2 v2 H2 μ2 P2 q2 F2 => ?_⟩
            exact (F2.from P2 back_RR).ok P2.hr q2.frz
      · rw [tst_and] at q
        exact rdT_if (T1 := fun σ H1 => rT X.K W (tst (eval Φ G b)) σ H1 Q) (T2 := fun _ H1 => Q false H1) q (fun H1 q => q) fun H1 q => rT_ret q
  | _ => simp [chk] at hc
theorem se_or (a b : E) (ha : SE P Φ G k a) (hb : SE P Φ G k b) : SE P Φ G k (.or a b) := fun X W x gd hc => by
  cases x with
  | BoolOp o es pos =>
    match o, es, hc with
    | .Or, [], hc => simp [chk] at hc
    | .And, _, hc => simp [chk] at hc
    | .Or, [_], hc => simp [chk] at hc
    | .Or, a' :: b' :: rest, hc =>
      have h12 : chk P X.N X.env.scope a a' = true ∧ PE X (.BoolOp .Or (b' :: rest) pos) (rE X.K W (eval Φ G b)) ∧ PW X (.BoolOp .Or (b' :: rest) pos) (rT X.K W (tst (eval Φ G b))) := by
        cases rest with
        | nil =>
          simp only [chk, Bool.and_eq_true] at hc
          have ih := hb X W b' gd hc.2
          exact ⟨hc.1, pe_one ih.1, pw_or1 ih.2⟩
        | cons c' r' =>
          simp only [chk, Bool.and_eq_true] at hc
          have ih := hb X W _ gd hc.2
          exact ⟨hc.1, ih.1, pw_of ih.2⟩
      obtain ⟨h1, h2, h3⟩ := h12
      have ih := ha X W a' gd h1
      refine ⟨PE_imp (pe_orT ih.1 h2) fun σ H Q q => ?_, PT_imp (pw_or ih.2 h3).pt fun σ H Q q => ?_⟩
      · simp only [eval] at q
        refine rd_bind (ρ := RR X.K) q back_RR fun μ1 g h1 H1 r v H0 hr er q1 F => ?_
        cases e1 : tru h1 r.frz with
        | none => rw [e1] at F; exact F.elim
        | some c =>
          rw [e1] at F
          refine ⟨c, tru_of hr q1.frz e1, ?_⟩
          cases c with
          | true => exact iteT (Fin.ok F hr q1.frz)
          | false =>
            refine iteF ⟨μ1, g, h1, hr, er, F.bind fun r2 h2 v2 H2 μ2 P2 q2 F2 => ?_⟩
            exact (F2.from P2 back_RR).ok P2.hr q2.frz
      · rw [tst_or] at q
        exact rdT_if (T1 := fun _ H1 => Q true H1) (T2 := fun σ H1 => rT X.K W (tst (eval Φ G b)) σ H1 Q) q (fun H1 q => rT_ret q) fun H1 q => q
  | _ => simp [chk] at hc
-- a if c else b as a test
theorem pt_ifExp {X : Cx} {c a b : Expr} {pos : Pos} {tc ta tb : TT} (hc : PT X c tc) (ha : PT X a ta) (hb : PT X b tb) : PT X (.IfExp c a b pos) (fun σ H Q => tc σ H fun d H1 => if d = true then ta σ H1 Q else tb σ H1 Q) := by
  refine ⟨fun pins s σ H Q I h => ?_⟩
  have e : isTrue (.IfExp c a b pos) X.env (PySem.eval (.IfExp c a b pos) X.env) = (do if ← isTrue c X.env (PySem.eval c X.env) then isTrue a X.env (PySem.eval a X.env) else isTrue b X.env (PySem.eval b X.env)) := rfl
  rw [e]
  refine wpAny_bind (thn (hc.run pins s σ H _ I h) fun d s1 ⟨H1, I1, q1⟩ => ?_)
  cases d with
  | true => exact ha.run pins s1 σ H1 Q I1 q1
  | false => exact hb.run pins s1 σ H1 Q I1 q1
theorem se_ite (c a b : E) (hcc : SE P Φ G k c) (ha : SE P Φ G k a) (hb : SE P Φ G k b) : SE P Φ G k (.ite c a b) := fun X W x gd hc => by
  cases x with
  | IfExp c' a' b' pos =>
    simp only [chk, Bool.and_eq_true] at hc
    obtain ⟨h1, h2, h3⟩ := hc
    have ic := hcc X W c' gd h1
    have ia := ha X W a' gd h2
    have ib := hb X W b' gd h3
    refine ⟨PE_imp (pe_ifExp ic.2 ia.1 ib.1) fun σ H Q q => ?_, PT_imp (pt_ifExp ic.2 ia.2 ib.2) fun σ H Q q => ?_⟩
    · rw [eval_ite] at q
      refine rd_bind (ρ := RB) q back_RR fun μ1 g h1' H1 c c' H0 hr er q1 F => ?_
      cases q1
      cases c with
      | true => exact iteT ⟨μ1, g, h1', hr, er, F⟩
      | false => exact iteF ⟨μ1, g, h1', hr, er, F⟩
    · rw [tst_ite] at q
      exact rdT_if (T1 := fun σ H1 => rT X.K W (tst (eval Φ G a)) σ H1 Q) (T2 := fun σ H1 => rT X.K W (tst (eval Φ G b)) σ H1 Q) q (fun H1 q => q) fun H1 q => q
  | _ => simp [chk] at hc
theorem ses_nil : SEs P Φ G k [] := fun X W xs gd hc => by
  cases xs with
  | nil =>
    refine PA_imp pa_nil fun σ H Q ⟨μ, g, h, r, er, F⟩ => ?_
    simp only [evals] at F
    exact Fin.ok F r (by simp [RA, RDs])
  | cons _ _ => simp [chks] at hc
theorem ses_cons (e : E) (es : List E) (he : SE P Φ G k e) (hes : SEs P Φ G k es) : SEs P Φ G k (e :: es) := fun X W xs gd hc => by
  cases xs with
  | nil => simp [chks] at hc
  | cons x xs =>
    simp only [chks, Bool.and_eq_true] at hc
    obtain ⟨h1, h2⟩ := hc
    refine PA_imp (pa_cons (he X W x gd h1).1 (hes X W xs gd h2) (shape_star (chk_shape h1) _ _)) fun σ H Q q => ?_
    simp only [evals] at q
    refine rd_bind (ρ := RR X.K) q back_RA fun μ1 g h1 H1 r v H0 hr er q1 F => ?_
    refine ⟨μ1, g, h1, hr, er, F.bind fun ds h2 vs H2 μ2 P2 q2 F2 => ?_⟩
    refine (F2.from P2 back_RA).ok P2.hr ?_
    simp only [RA, RDs]
    exact ⟨v, vs, rfl, RD.mono P2 hr _ _ q1.frz, q2⟩
theorem fz_new {K : PySem.W.Frag} {μ : Mu} {h : Heap} {H : Hp} (r : HR K μ h H) {p : Addr} (hp : H p = none) : ∀ q, q < h.length → μ q ≠ p := r.ne_none hp
theorem fz_s {K : PySem.W.Frag} {μ : Mu} {h : Heap} {H : Hp} (r : HR K μ h H) {p : Addr} (hp : H p = none) : ¬ μ.s p := fun z => r.sn p z hp
theorem se_tup (es : List E) (hes : SEs P Φ G k es) : SE P Φ G k (.tup es) := fun X W x gd hc => by
  cases x with
  | Tuple es' j pos =>
    simp only [chk] at hc
    have pe : PE X (.Tuple es' j pos) (rE X.K W (eval Φ G (.tup es))) := by
      refine PE_imp (pe_tup (hes X W es' gd hc)) fun σ H Q q => ?_
      simp only [eval] at q
      refine rd_bind (ρ := RA X.K) q back_RR fun μ1 g h1 H1 ds vs H0 hr er q1 F => ?_
      unfold tupM at F
      split at F
      · rename_i hl
        refine ⟨by rw [RDs.length q1, lim_line]; exact hl, fun p hp => ?_⟩
        have Pn := Post.new (o := .tup vs) hr hp
        refine F.okP Pn ?_
        show RD X.K μ1 h1.length _ (.tup ds) (.ref p)
        simp only [RD]
        exact ⟨p, vs, rfl, .inl (.inl upd_same), RDs.mono Pn hr _ _ q1⟩
      · exact F.elim
    exact ⟨pe, pt_plain pe rfl⟩
  | _ => simp [chk] at hc
theorem se_lst (es : List E) (hes : SEs P Φ G k es) : SE P Φ G k (.lst es) := fun X W x gd hc => by
  cases x with
  | List es' pos =>
    simp only [chk] at hc
    have pe : PE X (.List es' pos) (rE X.K W (eval Φ G (.lst es))) := by
      refine PE_imp (pe_lst (hes X W es' gd hc)) fun σ H Q ⟨μ, g, h, r, er, F⟩ => ?_
      simp only [eval] at F
      refine ⟨μ, g, h, r, er, F.bind fun ds h1 vs H1 μ1 P1 q1 F1 => ?_⟩
      unfold lstM at F1
      split at F1
      · rename_i hl
        refine ⟨by rw [RDs.length q1, lim_line]; exact hl, fun p hp => ?_⟩
        have Pn := Post.new (o := .lst vs) P1.hr hp
        exact F1 (.ref p) _ μ1 (P1.trans Pn) (RR.mk P1.hr hp (P1.none_back hp) q1)
      · exact F1.elim
    exact ⟨pe, pt_plain pe rfl⟩
  | _ => simp [chk] at hc
theorem atZ_I {α : Type} (l : List α) (i : Int) : atI l i = atZ l i := by
  unfold atI ixN atZ
  by_cases h0 : 0 ≤ i
  · rw [if_pos h0, if_pos h0]
    by_cases h1 : i < l.length
    · rw [if_pos h1]
      rfl
    · rw [if_neg h1]
      show none = _
      rw [List.getElem?_eq_none]
      omega
  · rw [if_neg h0, if_neg h0]
    split <;> rfl
theorem se_ix (a b : E) (ha : SE P Φ G k a) (hb : SE P Φ G k b) : SE P Φ G k (.ix a b) := fun X W x gd hc => by
  cases x with
  | Subscript a' b' pos =>
    simp only [chk, Bool.and_eq_true] at hc
    obtain ⟨h1, h2⟩ := hc
    have pe : PE X (.Subscript a' b' pos) (rE X.K W (eval Φ G (.ix a b))) := by
      have hr : IxR X (r2 X.K W ixM) := by
        refine IxR_imp (IxR.or ix_list ix_tup) fun x y H Q ⟨μ, h, d1, d2, r, q1, q2, F⟩ => ?_
        unfold ixM at F
        cases e : ixD h d1 d2 with
        | none => rw [e] at F; exact F.elim
        | some d =>
          rw [e] at F
          unfold ixD at e
          cases c : seqOf h d1 with
          | none => rw [c] at e; cases e
          | some l =>
            rw [c] at e
            cases d2 with
            | int i =>
              simp only at e
              cases q2
              obtain ⟨a, vs, rfl, s, t⟩ := seq_of r q1 c
              rw [← atZ_I] at e
              have hv : ∃ v, atI vs i = some v ∧ RD X.K μ h.length H d v := by
                unfold atI at e ⊢
                rw [t.length]
                cases e3 : ixN l.length i with
                | none => rw [e3] at e; cases e
                | some j =>
                  rw [e3] at e
                  exact t.get j d e
              obtain ⟨v, e4, q4⟩ := hv
              rcases s with s | s
              · exact .inl ⟨a, vs, i, v, rfl, rfl, s, e4, Fin.ok F r q4⟩
              · exact .inr ⟨a, vs, i, v, rfl, rfl, s, e4, Fin.ok F r q4⟩
            | _ => cases e
      refine PE_imp (pe_ix hr (ha X W a' gd h1).1 (hb X W b' gd h2).1 (shape_ix (chk_shape h2))) fun σ H Q q => rd_two (f := ixM) ?_
      simpa only [eval] using q
    exact ⟨pe, pt_plain pe rfl⟩
  | _ => simp [chk] at hc
end
end MP

/-! MP.Snd5: what is walked. -/
namespace MP
open PySem PySem.Spec PyProof.Rows L2

/-! ### enumerate(tuple) -/
theorem meets_enum1 {v : Value} {o : Obj} {H : PySem.Heap → Prop} (B : Begins v o H) :
    Meets (Builtin.«enumerate.__new__» ⟨[.type "enumerate", v], []⟩) (fun _ R s => H s.heap ∧
      R (.ok (.ret (.ref (s.heap.push o).objs.size))) { s with heap := (s.heap.push o).push { cls := .type "enumerate", data := .fields #[.none, .bool false, .ref s.heap.objs.size, rawInt 0, .none, .none] } }) :=
  .of_wp fun prog w A R s h => by
    obtain ⟨hp, g, d, tk, os⟩ := s
    obtain ⟨h1, h⟩ := h
    have hsub := PySem.sub_enumerate
    have q1 : ∀ {A' : Around} {E : Value → Shared → Prop} {Q : Value → Shared → Prop}, Q (.ref hp.objs.size) ⟨hp.push o, g, d, tk, os⟩ → wpAny (model prog w) A' (pyIter v) Q E ⟨hp, g, d, tk, os⟩ :=
      fun q => B.iter prog w _ _ ⟨hp, g, d, tk, os⟩ _ h1 q
    wp_walk using q1
    refine wpAny_stack_any fun st => wpAny_pure ?_
    split
    · rename_i c _ _ _ _ _
      cases (c == Value.type "enumerate")
      · wp_walk using q1
        exact ⟨_, rfl, h⟩
      · wp_walk using q1
        exact ⟨_, rfl, h⟩
    · wp_walk using q1
      exact ⟨_, rfl, h⟩
section
variable {prog : Program} {w : World} {A : Around} {E : Value → Shared → Prop} {s : Shared}
theorem call_enum1 {v : Value} {o : Obj} {H : PySem.Heap → Prop} {Q : Value → Shared → Prop} (B : Begins v o H) (h1 : H s.heap)
    (h : ∀ h', IsEnum h' (s.heap.objs.size + 1) s.heap.objs.size 0 .none → h'.get? s.heap.objs.size = some o → h'.objs.size = s.heap.objs.size + 2 →
      (∀ b o, s.heap.get? b = some o → h'.get? b = some o) → Q (.ref (s.heap.objs.size + 1)) { s with heap := h' }) :
    wpAny (model prog w) A (call (.type "enumerate") [v]) Q E s := by
  refine callType_new F.called_enumerate (by decide) (F.typeCall_enumerate_1 _) (F.newCall_enumerate_1 _) (fun obj => F.args_object_init_2 obj _) F.entry_enumerate_new
    (meets_enum1 B) ⟨h1, ?_⟩
  have hz : (s.heap.push o).objs.size = s.heap.objs.size + 1 := Heap.size_push ..
  show _ ∧ _
  rw [hz]
  have he : IsEnum ((s.heap.push o).push { cls := .type "enumerate", data := .fields #[.none, .bool false, .ref s.heap.objs.size, rawInt 0, .none, .none] }) (s.heap.objs.size + 1) s.heap.objs.size 0 .none := by
    have := Heap.get?_push_size (s.heap.push o) (o := { cls := .type "enumerate", data := .fields #[.none, .bool false, .ref s.heap.objs.size, rawInt 0, .none, .none] }) rfl
    rw [hz] at this
    exact this
  refine ⟨⟨_, he, rfl⟩, h _ he (Heap.get?_push_of_some _ (Heap.get?_push_size _ B.free)) (by rw [Heap.size_push, hz]) fun b o x => Heap.get?_push_of_some _ (Heap.get?_push_of_some _ x)⟩
end
-- the tuple at a, each item in a new pair
def Iet (K : PySem.W.Frag) (a : Addr) : It :=
  ⟨fun i H => ∃ (xs : List V) (x : V), SqT K H a xs ∧ xs[i]? = some x, fun i H v H' => ∃ T x, v = .ref T ∧ H T = none ∧ H' = upd H T (.tup [.int (i : Nat), x]) ∧ ∀ xs, SqT K H a xs → xs[i]? = some x, fun i H => ∃ xs : List V, SqT K H a xs ∧ xs.length ≤ i⟩
theorem turn_enumT {P : Program} {w : World} {K : PySem.W.Frag} {elts : List Expr} {kk : Nat} {tpos : Pos} (a e it : Addr) :
    Turn P w K (.Tuple elts kk tpos) (Iet K a) [e, it] e (fun i h => (∃ old, IsEnum h e it ((i : Nat) : Int) old) ∧ h.IsTupleIter it a i ∧ e ≠ it ∧ a ≠ it ∧ a ≠ e) where
  mem := by simp
  obj := fun i h st b hb => by
    obtain ⟨⟨old, he⟩, ⟨o, ho, hc, hd⟩, _⟩ := st
    have e' : b = e ∨ b = it := by simpa using hb
    rcases e' with z | z
    · rw [z]; exact ⟨_, he, fun v q => nomatch q⟩
    · rw [z]; exact ⟨o, ho, fun v q => by rw [hd] at q; cases q⟩
  keep := fun i h h' st k => let ⟨⟨old, he⟩, hi, hne⟩ := st; ⟨⟨old, k e (by simp) _ he⟩, hi.at fun o q => k it (by simp) o q, hne⟩
  item := by
    intro X hP hw hK hc i pins s σ H E I hf st hg
    subst hP hw hK
    obtain ⟨⟨old, he⟩, hit, hne, hai, hae⟩ := st
    obtain ⟨xs, x, hq, hx⟩ := hg
    obtain ⟨its, rv, p, hz⟩ := I.tuple hq
    obtain ⟨u, hu, ru⟩ := rv.get hx
    have hel : e < s.heap.objs.size := Heap.lt_size he
    have hil : it < s.heap.objs.size := by obtain ⟨_, q, _⟩ := hit; exact Heap.lt_size q
    have D := Draws.tuple (prog := X.prog) (w := X.w) (A := X.A.in1) (I.ok.hd hc) it a hai its.toArray
    have hlt : i < its.toArray.size := by
      rcases Nat.lt_or_ge i its.length with q | q
      · simpa using q
      · rw [List.getElem?_eq_none q] at hu; cases hu
    refine wpAny_pyNext_enum_itemD D he ⟨hit, show s.heap.IsTuple a its.toArray from p⟩ hlt hne (by simp; exact ⟨hne, Ne.symm hae⟩) fun y h' tk hy ho hit' hT hsz hk => ?_
    have hyu : y = u := by
      have h2 : its.toArray[i]? = some u := by simpa using hu
      rw [h2] at hy
      exact (Option.some.inj hy).symm
    subst hyu
    refine ⟨_, rfl, wpAny_letOwnedTupleGo_enum (s := { s with heap := h', toks := tk + 1 }) ho fun h'' he' sb => ?_⟩
    have hT2 : h''.get? s.heap.objs.size = some { cls := .type "tuple", data := .seq #[.int i tk, y] } := (sb.2 _ (Nat.ne_of_gt hel)).trans hT
    have new : ObjOk X.prog X.w (upd H s.heap.objs.size (.tup [.int (i : Nat), x])) h'' s.heap.objs.size (.tup [.int (i : Nat), x]) :=
      ⟨by show 2 ≤ sizeLine; decide, [.int i tk, y], .cons ⟨_, rfl⟩ (.cons ru .nil), ⟨_, hT2, rfl, _, rfl⟩⟩
    have I1 : Inv X pins σ (upd H s.heap.objs.size (.tup [.int (i : Nat), x])) { s with heap := h'', toks := tk + 1 } :=
      I.turnedNew (ch := [e, it]) (fun b ob hb q => (sb.2 b (fun z => hb (by simp [z]))).trans (hk b ob (fun z => hb (by simp [z])) (fun z => hb (by simp [z])) q)) hf (Nat.le_refl _) new
    refine ⟨.ref s.heap.objs.size, _, I1, rfl, ⟨_, x, rfl, I.hok.fresh (Nat.le_refl _), rfl, fun ys hy => by rw [I.tuple_inj hy hq]; exact hx⟩, ⟨⟨y, ?_⟩, hit'.1.at fun o q => (sb.2 it (Ne.symm hne)).trans q, hne, hai, hae⟩, fun b hb => ?_⟩
    · have e1 : ((i + 1 : Nat) : Int) = (i : Int) + 1 := by omega
      rw [e1]; exact he'
    · have hb' : b < s.heap.objs.size := by
        have e' : b = e ∨ b = it := by simpa using hb
        rcases e' with z | z
        · rw [z]; exact hel
        · rw [z]; exact hil
      rw [upd_ne (Nat.ne_of_lt hb')]
      exact (hf b hb).1
  done := by
    intro X hP hw hK hc i pins s σ H E I hf st hg
    subst hP hw hK
    obtain ⟨⟨old, he⟩, hit, hne, hai, hae⟩ := st
    obtain ⟨xs, hq, hx⟩ := hg
    obtain ⟨its, rv, p, hz⟩ := I.tuple hq
    obtain ⟨f0, f1, f2, f3, f4, f5⟩ := hf it (by simp)
    have hl := rv.length
    have pT : s.heap.IsTuple a its.toArray := p
    have hh : X.A.in1.handled = none := I.ok.hd hc
    have hT : s.TypeIs (.ref e) "enumerate" := ⟨_, he, rfl⟩
    unfold pyNext
    refine wpAny_bind (wpAny_attempt (wpAny_callSpecial?_slot (name := Str.ofString "__next__") hT F.slot_enumerate_next
      (wpAny_call_entry F.slot_enumerate_next hT F.entry_enumerate_next ?_ (F.args_enumerate_next_1 _))))
    show wpAny _ _ (field (.ref e) 2 >>= _) _ _ _
    refine wpAny_bind (wpAny_field he rfl (x := .ref it) rfl ?_)
    refine wpAny_bind (wpAny_nextOf_tuple_end hh hit pT (by simp; omega) fun h' x he' hx' => ?_)
    obtain ⟨o, ho, hc2⟩ := hx'
    refine wpAny_bind (wpAny_isInstance (T := "StopIteration") (b := true) ⟨o, ho, hc2⟩ isSubtype_stop ?_)
    exact wpAny_pure ⟨rfl, I.turned (t' := s.toks) (fun b o hb q => he' b o hb q) f0 f1 f3 f4 f5⟩
  self := fun A i s Q E st h => let ⟨⟨_, he⟩, _⟩ := st; wpAny_pyIter_enum he h
-- enumerate of a list or of a tuple
def iEnumA (K : PySem.W.Frag) (ta : TA) : TI := fun σ H R => ta σ H fun vs H1 => ∃ a xs, vs = [.ref a] ∧ ((SqL K H1 a xs ∧ R (Ite K a) H1) ∨ (SqT K H1 a xs ∧ R (Iet K a) H1))
theorem pi_enumA {X : Cx} {e : Expr} {ta : TA} {p pos tpos : Pos} {elts : List Expr} {kk : Nat} (hg : Gl X "enumerate") (hm : X.mg "enumerate" = none) (ha : PA X [e] ta) (hs : starEach [e] X.env = [(false, PySem.eval e X.env)]) :
    PI X (.Tuple elts kk tpos) (.Call (.Name "enumerate" p) [e] [] pos) (iEnumA X.K ta) := by
  refine ⟨fun pins s σ H R I h => ?_⟩
  refine Call_ (ld_blt I hg hm boot_enumerate (PyProof.Rows.callWith_type1 (thn (ha.run pos pins s σ H _ I h) fun us s1 ⟨vs, H1, I1, r1, q1⟩ => ?_) hs rfl))
  obtain ⟨a, xs, ex, q⟩ := q1
  subst ex
  cases r1 with
  | cons r rr =>
    cases rr
    cases r
    have fr : ∀ b ∈ [s1.heap.objs.size + 1, s1.heap.objs.size], FpOk X pins H1 b := fun b hb => by
      have e' : b = s1.heap.objs.size + 1 ∨ b = s1.heap.objs.size := by simpa using hb
      have hle : s1.heap.objs.size ≤ b := by
        rcases e' with z | z
        · rw [z]; exact Nat.le_add_right _ _
        · rw [z]; exact Nat.le_refl _
      exact I1.fpOk hle (I1.hok.fresh hle)
    rcases q with ⟨hq, q⟩ | ⟨hq, q⟩
    · obtain ⟨its, rv, p', hz⟩ := I1.list hq
      refine call_enumerate_list p'.isList fun h' he hit hsz hk => wpAny_pyIter_enum he ?_
      have I2 : Inv X pins σ H1 { s1 with heap := h' } := I1.kept (t' := s1.toks) hk
      exact ⟨s1.heap.objs.size + 1, [s1.heap.objs.size + 1, s1.heap.objs.size], _, _, H1, rfl, I2, turn_enum a (s1.heap.objs.size + 1) s1.heap.objs.size, ⟨⟨.none, he⟩, hit, Nat.succ_ne_self _⟩, fr, q⟩
    · obtain ⟨its, rv, p', hz⟩ := I1.tuple hq
      have pT : s1.heap.IsTuple a its.toArray := p'
      have hal : a < s1.heap.objs.size := by obtain ⟨_, e1, _⟩ := p'; exact Heap.lt_size e1
      refine call_enum1 (begins_tuple a its.toArray) pT fun h' he hit hsz hk => wpAny_pyIter_enum he ?_
      have I2 : Inv X pins σ H1 { s1 with heap := h' } := I1.kept (t' := s1.toks) hk
      exact ⟨s1.heap.objs.size + 1, [s1.heap.objs.size + 1, s1.heap.objs.size], _, _, H1, rfl, I2, turn_enumT a (s1.heap.objs.size + 1) s1.heap.objs.size, ⟨⟨.none, he⟩, ⟨_, hit, rfl, rfl⟩, Nat.succ_ne_self _, Nat.ne_of_lt hal, Nat.ne_of_lt (Nat.lt_succ_of_lt hal)⟩, fr, q⟩
-- a list or a tuple
theorem pi_seq {X : Cx} {tg l : Expr} {tl : TE} (hl : PE X l tl) :
    PI X tg l (fun σ H R => tl σ H fun x H1 => ∃ a, x = .ref a ∧ (((∃ xs, SqL X.K H1 a xs) ∧ R (Itl X.K a) H1) ∨ ((∃ xs, SqT X.K H1 a xs) ∧ R (Itt X.K a) H1))) := by
  refine ⟨fun pins s σ H R I h => ?_⟩
  refine thn (hl.run pins s σ H _ I h) fun v s1 ⟨x, H1, I1, r1, q1⟩ => ?_
  obtain ⟨a, e, q⟩ := q1
  subst e
  cases r1
  have fr : ∀ b ∈ [s1.heap.objs.size], FpOk X pins H1 b := fun b hb => by
    have e : b = s1.heap.objs.size := by simpa using hb
    subst e
    exact I1.fpOk (Nat.le_refl _) (I1.hok.fresh (Nat.le_refl _))
  rcases q with ⟨⟨xs, hq⟩, q⟩ | ⟨⟨xs, hq⟩, q⟩
  · obtain ⟨its, rv, p, hz⟩ := I1.list hq
    refine wpAny_pyIter_list p.isList ?_
    exact ⟨s1.heap.objs.size, [s1.heap.objs.size], _, _, H1, rfl, I1.kept (t' := s1.toks) fun b o e => Heap.get?_push_of_some _ e, turn_list a _, ⟨_, Heap.get?_push_size _ rfl, rfl, rfl⟩, fr, q⟩
  · obtain ⟨its, rv, p, hz⟩ := I1.tuple hq
    refine wpAny_pyIter_tuple (show s1.heap.IsTuple a its.toArray from p) ?_
    exact ⟨s1.heap.objs.size, [s1.heap.objs.size], _, _, H1, rfl, I1.kept (t' := s1.toks) fun b o e => Heap.get?_push_of_some _ e, turn_tuple a _, ⟨_, Heap.get?_push_size _ rfl, rfl, rfl⟩, fr, q⟩
end MP

/-! MP.Snd6: items of a walk. -/
namespace MP
open PySem PySem.Spec PyProof.Rows L2

-- a walk over known items, whatever is done as long as its source stays
def WalkD (K : PySem.W.Frag) (its : Items) (J : It) (μ1 : Mu) (h1 : Heap) (H1 : Hp) : Prop :=
  ∀ μ2 h2 H2, Post K μ1 h1 H1 μ2 h2 H2 → still its h2 = true →
    (∀ i, i < its.1.length → J.go i H2) ∧ J.stop its.1.length H2 ∧
      ∀ i x H3, i < its.1.length → J.yld i H2 x H3 → ∃ d, its.1[i]? = some d ∧ Post K μ2 h2 H2 μ2 h2 H3 ∧ RD K μ2 h2.length H3 d x
def RI (K : PySem.W.Frag) : Rel Items It := fun μ h _ H its J => WalkD K its J μ h H ∧ still its h = true
theorem back_RI {K : PySem.W.Frag} : Back K (RI K) := fun _ q => q
section
variable {K : PySem.W.Frag} {μ : Mu} {h : Heap} {H : Hp}
theorem RDs.none_of {l : List D} {vs : List V} {n : Nat} (q : RDs K μ n H l vs) {i : Nat} {v : V} (e : vs[i]? = some v) : ∃ d, l[i]? = some d ∧ RD K μ n H d v := by
  have hl : i < vs.length := by
    rcases Nat.lt_or_ge i vs.length with q' | q'
    · exact q'
    · rw [List.getElem?_eq_none q'] at e; cases e
  have hl2 : i < l.length := by rw [← q.length]; exact hl
  obtain ⟨v', e1, e2⟩ := q.get i l[i] (List.getElem?_eq_getElem hl2)
  rw [e] at e1
  cases e1
  exact ⟨_, List.getElem?_eq_getElem hl2, e2⟩
-- a list, as it stands in each later state
theorem walkd_list {its : Items} {a : Addr} (hs : ∀ μ2 h2 H2, Post K μ h H μ2 h2 H2 → still its h2 = true → ∃ vs, SqL K H2 a vs ∧ RDs K μ2 h2.length H2 its.1 vs) : WalkD K its (Itl K a) μ h H := fun μ2 h2 H2 P st => by
  obtain ⟨vs, sq, q⟩ := hs μ2 h2 H2 P st
  refine ⟨fun i hi => ?_, ⟨vs, sq, by rw [q.length]; exact Nat.le_refl _⟩, fun i x H3 hi y => ?_⟩
  · obtain ⟨v, e, _⟩ := q.get i _ (List.getElem?_eq_getElem hi)
    exact ⟨vs, v, sq, e⟩
  · obtain ⟨e, y⟩ := y
    subst e
    obtain ⟨d, e1, e2⟩ := q.none_of (y vs sq)
    exact ⟨d, e1, Post.refl P.hr, e2⟩
theorem walkd_tup {l : List D} {a : Addr} {vs : List V} (r : HR K μ h H) (s : SqT K H a vs) (t : RDs K μ h.length H l vs) : WalkD K (l, none) (Itt K a) μ h H := fun μ2 h2 H2 P st => by
  have sq := P.rdT r s
  have q := RDs.mono P r _ _ t
  refine ⟨fun i hi => ?_, ⟨vs, sq, by rw [q.length]; exact Nat.le_refl _⟩, fun i x H3 hi y => ?_⟩
  · obtain ⟨v, e, _⟩ := q.get i _ (List.getElem?_eq_getElem hi)
    exact ⟨vs, v, sq, e⟩
  · obtain ⟨e, y⟩ := y
    subst e
    obtain ⟨d, e1, e2⟩ := q.none_of (y vs sq)
    exact ⟨d, e1, Post.refl P.hr, e2⟩
theorem walkd_fz {l : List D} {a : Addr} {vs : List V} (r : HR K μ h H) (s : FzL K μ h.length H a vs) (t : RDs K μ h.length H l vs) : WalkD K (l, none) (Itl K a) μ h H :=
  walkd_list fun μ2 h2 H2 P st => ⟨vs, (P.fz r s).sqk, RDs.mono P r _ _ t⟩
theorem walkd_fz0 {l : List D} {a : Addr} {vs : List V} (r : HR K μ h H) (s : FzL [] μ h.length H a vs) (t : RDs K μ h.length H l vs) : WalkD K (l, none) (Itl K a) μ h H :=
  walkd_list fun μ2 h2 H2 P st => ⟨vs, (P.fz r s).sq, RDs.mono P r _ _ t⟩
theorem walkd_loc {l : List D} {p : Nat} (hp : p < h.length) : WalkD K (l, some p) (Itl K (μ p)) μ h H :=
  walkd_list fun μ2 h2 H2 P st => by
    have e : h2[p]? = some (.lst l) := by
      unfold still at st
      simpa using st
    obtain ⟨vs, e1, e2⟩ := P.hr.ob p _ e
    rw [P.ext p hp] at e1
    exact ⟨vs, .inl (.inl e1), e2⟩
theorem walkd_range (lo hi : Int) : WalkD K (rangeD lo hi, none) (Itr lo (hi - lo).toNat) μ h H := fun μ2 h2 H2 P st => by
  have hl : (rangeD lo hi).length = (hi - lo).toNat := by simp [rangeD]
  refine ⟨fun i hi => by rw [hl] at hi; exact hi, by rw [hl]; exact Nat.le_refl _, fun i x H3 hi' y => ?_⟩
  obtain ⟨e, e2⟩ := y
  subst e e2
  rw [hl] at hi'
  refine ⟨.int (lo + (i : Int)), ?_, Post.refl P.hr, rfl⟩
  simp [rangeD, hi']
-- a new pair of plain parts
theorem pair_new {μ2 : Mu} {h2 : Heap} {H2 : Hp} (r : HR K μ2 h2 H2) {T : Addr} {d e : D} {x y : V} (hT : H2 T = none) (q1 : RD K μ2 h2.length H2 d x) (q2 : RD K μ2 h2.length H2 e y) :
    Post K μ2 h2 H2 μ2 h2 (upd H2 T (.tup [x, y])) ∧ RD K μ2 h2.length (upd H2 T (.tup [x, y])) (.tup [d, e]) (.ref T) := by
  have Pn := Post.new (o := .tup [x, y]) r hT
  refine ⟨Pn, ?_⟩
  simp only [RD]
  refine ⟨T, [x, y], rfl, .inl (.inl upd_same), ?_⟩
  simp only [RDs]
  exact ⟨x, [y], rfl, RD.mono Pn r _ _ q1, y, [], rfl, RD.mono Pn r _ _ q2, rfl⟩
theorem enumD_get (l : List D) (i : Nat) : (enumD l)[i]? = (l[i]?).map fun d => D.tup [.int (i : Int), d] := by
  unfold enumD
  rw [List.getElem?_zipWith]
  by_cases hi : i < l.length
  · simp [hi]
  · simp [hi]
theorem enumD_length (l : List D) : (enumD l).length = l.length := by simp [enumD]
theorem walkd_enumL {l : List D} {a : Addr} {vs : List V} (r : HR K μ h H) (s : FzL [] μ h.length H a vs) (t : RDs K μ h.length H l vs) : WalkD K (enumD l, none) (Ite K a) μ h H := fun μ2 h2 H2 P st => by
  have sq : SqL K H2 a vs := (P.fz r s).sq
  have q := RDs.mono P r _ _ t
  refine ⟨fun i hi => ?_, ⟨vs, sq, by rw [q.length, enumD_length]; exact Nat.le_refl _⟩, fun i x H3 hi y => ?_⟩
  · rw [enumD_length] at hi
    obtain ⟨v, e, _⟩ := q.get i _ (List.getElem?_eq_getElem hi)
    exact ⟨vs, v, sq, e⟩
  · obtain ⟨T, x', rfl, hT, rfl, y⟩ := y
    obtain ⟨d, e1, e2⟩ := q.none_of (y vs sq)
    obtain ⟨p1, p2⟩ := pair_new P.hr hT (show RD K μ2 h2.length H2 (.int (i : Int)) (.int (i : Nat)) from rfl) e2
    exact ⟨_, by rw [enumD_get, e1]; rfl, p1, p2⟩
theorem walkd_enumT {l : List D} {a : Addr} {vs : List V} (r : HR K μ h H) (s : SqT K H a vs) (t : RDs K μ h.length H l vs) : WalkD K (enumD l, none) (Iet K a) μ h H := fun μ2 h2 H2 P st => by
  have sq := P.rdT r s
  have q := RDs.mono P r _ _ t
  refine ⟨fun i hi => ?_, ⟨vs, sq, by rw [q.length, enumD_length]; exact Nat.le_refl _⟩, fun i x H3 hi y => ?_⟩
  · rw [enumD_length] at hi
    obtain ⟨v, e, _⟩ := q.get i _ (List.getElem?_eq_getElem hi)
    exact ⟨vs, v, sq, e⟩
  · obtain ⟨T, x', rfl, hT, rfl, y⟩ := y
    obtain ⟨d, e1, e2⟩ := q.none_of (y vs sq)
    obtain ⟨p1, p2⟩ := pair_new P.hr hT (show RD K μ2 h2.length H2 (.int (i : Int)) (.int (i : Nat)) from rfl) e2
    exact ⟨_, by rw [enumD_get, e1]; rfl, p1, p2⟩
theorem walkd_zipL {l m : List D} {a b : Addr} {vs ws : List V} (r : HR K μ h H) (s : FzL [] μ h.length H a vs) (t : RDs K μ h.length H l vs) (s2 : FzL [] μ h.length H b ws) (t2 : RDs K μ h.length H m ws) :
    WalkD K (l.zipWith (fun x y => D.tup [x, y]) m, none) (Itz K a b) μ h H := fun μ2 h2 H2 P st => by
  have sq : SqL K H2 a vs := (P.fz r s).sq
  have sq2 : SqL K H2 b ws := (P.fz r s2).sq
  have q := RDs.mono P r _ _ t
  have q2 := RDs.mono P r _ _ t2
  have hl : (l.zipWith (fun x y => D.tup [x, y]) m).length = min l.length m.length := List.length_zipWith
  refine ⟨fun i hi => ?_, ⟨vs, ws, sq, sq2, by rw [q.length, q2.length]; simp only [hl]; omega⟩, fun i x H3 hi y => ?_⟩
  · simp only [hl] at hi
    obtain ⟨v, e, _⟩ := q.get i _ (List.getElem?_eq_getElem (show i < l.length by omega))
    obtain ⟨v2, e2, _⟩ := q2.get i _ (List.getElem?_eq_getElem (show i < m.length by omega))
    exact ⟨vs, ws, v, v2, sq, sq2, e, e2⟩
  · obtain ⟨T, x', y', rfl, hT, rfl, y1, y2⟩ := y
    obtain ⟨d, e1, e2⟩ := q.none_of (y1 vs sq)
    obtain ⟨d', e3, e4⟩ := q2.none_of (y2 ws sq2)
    obtain ⟨p1, p2⟩ := pair_new P.hr hT e2 e4
    exact ⟨_, by simp [List.getElem?_zipWith, e1, e3], p1, p2⟩
theorem walkd_zipT {l m : List D} {a b : Addr} {vs ws : List V} (r : HR K μ h H) (s : SqT K H a vs) (t : RDs K μ h.length H l vs) (s2 : SqT K H b ws) (t2 : RDs K μ h.length H m ws) :
    WalkD K (l.zipWith (fun x y => D.tup [x, y]) m, none) (RZ.ItzT K a b) μ h H := fun μ2 h2 H2 P st => by
  have sq := P.rdT r s
  have sq2 := P.rdT r s2
  have q := RDs.mono P r _ _ t
  have q2 := RDs.mono P r _ _ t2
  have hl : (l.zipWith (fun x y => D.tup [x, y]) m).length = min l.length m.length := List.length_zipWith
  refine ⟨fun i hi => ?_, ⟨vs, ws, sq, sq2, by rw [q.length, q2.length]; simp only [hl]; omega⟩, fun i x H3 hi y => ?_⟩
  · simp only [hl] at hi
    obtain ⟨v, e, _⟩ := q.get i _ (List.getElem?_eq_getElem (show i < l.length by omega))
    obtain ⟨v2, e2, _⟩ := q2.get i _ (List.getElem?_eq_getElem (show i < m.length by omega))
    exact ⟨vs, ws, v, v2, sq, sq2, e, e2⟩
  · obtain ⟨T, x', y', rfl, hT, rfl, y1, y2⟩ := y
    obtain ⟨d, e1, e2⟩ := q.none_of (y1 vs sq)
    obtain ⟨d', e3, e4⟩ := q2.none_of (y2 ws sq2)
    obtain ⟨p1, p2⟩ := pair_new P.hr hT e2 e4
    exact ⟨_, by simp [List.getElem?_zipWith, e1, e3], p1, p2⟩
end

section
variable (P : PInfo) (Φ : Nat → List D → Heap → Res R) (G : Nat → Option D) (k : Nat)
def SI (i : I) : Prop := ∀ (X : Cx) (W : XK) (tg x : Expr), Good P Φ G k X W → chkI P X.N X.env.scope i x = true → (tupI i = true → isTupE tg = true) → PI X tg x (rd X.K W (RI X.K) (items Φ G i))
end
theorem PI_imp {X : Cx} {tg e : Expr} {t t' : TI} (p : PI X tg e t) (i : ∀ σ H Q, t' σ H Q → t σ H Q) : PI X tg e t' := ⟨fun pins s σ H Q I q => p.run pins s σ H Q I (i σ H Q q)⟩
section
variable {P : PInfo} {Φ : Nat → List D → Heap → Res R} {G : Nat → Option D} {k : Nat}
theorem rd_it {K : PySem.W.Frag} {W : XK} {σ : L2.St} {H : Hp} {R : It → Hp → Prop} {ma : Env → Heap → Res MP.R} {f : D → Heap → Res Items} {T : V → Hp → Prop}
    (q : rd K W (RI K) (fun g h => bd (ma g h) fun r h => f r.frz h) σ H R) (hT : ∀ μ h H d v, HR K μ h H → RD K μ h.length H d v → Fin K W (RI K) μ h H (f d h) R → T v H) : rE K W ma σ H T :=
  rd_bind (ρ := RR K) (ρ' := RI K) (k := fun g r h => f r.frz h) q back_RI fun μ1 g h1 H1 r v H0 hr er q1 F => hT μ1 h1 H1 _ v hr q1.frz F
theorem si_of (e : E) (he : SE P Φ G k e) : SI P Φ G k (.of e) := fun X W tg x gd hc _ => by
  simp only [chkI] at hc
  refine PI_imp (pi_seq (he X W x gd hc).1) fun σ H Q q => ?_
  refine rd_it (f := seqIt) (by simpa only [items] using q) fun μ h H d v hr q2 F => ?_
  cases d with
  | tup l =>
    simp only [RD] at q2
    obtain ⟨a, vs, rfl, s, t⟩ := q2
    exact ⟨a, rfl, .inr ⟨⟨vs, s⟩, Fin.ok F hr ⟨walkd_tup hr s t, rfl⟩⟩⟩
  | lst l =>
    simp only [RD] at q2
    obtain ⟨a, vs, rfl, s, t⟩ := q2
    exact ⟨a, rfl, .inl ⟨⟨vs, s.sq⟩, Fin.ok F hr ⟨walkd_fz0 hr s t, rfl⟩⟩⟩
  | scr l =>
    simp only [RD] at q2
    obtain ⟨a, vs, rfl, s, t⟩ := q2
    exact ⟨a, rfl, .inl ⟨⟨vs, s.sqk⟩, Fin.ok F hr ⟨walkd_fz hr s t, rfl⟩⟩⟩
  | loc p =>
    simp only [RD] at q2
    obtain ⟨hp, rfl⟩ := q2
    simp only [seqIt] at F
    cases c : h[p]? with
    | none => rw [c] at F; exact F.elim
    | some o =>
      rw [c] at F
      cases o with
      | dic _ => exact F.elim
      | lst l =>
        obtain ⟨vs, e2, t⟩ := hr.ob p _ c
        exact ⟨μ p, rfl, .inl ⟨⟨vs, .inl (.inl e2)⟩, Fin.ok F hr ⟨walkd_loc hp, by simp [still, c]⟩⟩⟩
  | _ => exact F.elim
theorem small_ok {i : Int} (h : small i = true) : -(2 ^ 62) ≤ i ∧ i < 2 ^ 62 := of_decide_eq_true h
theorem si_range1 (e : E) (he : SE P Φ G k e) : SI P Φ G k (.range1 e) := fun X W tg x gd hc _ => by
  simp only [chkI] at hc
  split at hc
  · rename_i n p a' pos
    simp only [Bool.and_eq_true, decide_eq_true_eq] at hc
    obtain ⟨rfl, h2, h3⟩ := hc
    obtain ⟨hg, hdb, hn⟩ := gloB_ok h2
    have hs := chk_shape h3
    refine PI_imp (pi_range1 hg (gd.blt _ (by decide)) (pa_cons (he X W a' gd h3).1 pa_nil (shape_star hs _ _)) (shape_star hs _ _)) fun σ H Q q => ?_
    refine rd_it (f := range1It) (by simpa only [items] using q) fun μ h H d v hr q2 F => ?_
    cases d with
    | int i =>
      cases q2
      simp only [range1It] at F
      split at F
      · rename_i hsm
        obtain ⟨b1, b2⟩ := small_ok hsm
        have e0 : (i - 0).toNat = i.toNat := by rw [Int.sub_zero]
        exact ⟨i, rfl, b1, b2, by rw [← e0]; exact Fin.ok F hr ⟨walkd_range 0 i, rfl⟩⟩
      · exact F.elim
    | _ => exact F.elim
  · cases hc
theorem rd_it2 {K : PySem.W.Frag} {W : XK} {σ : L2.St} {H : Hp} {R : It → Hp → Prop} {ma mb : Env → Heap → Res MP.R} {f : D → D → Heap → Res Items} {T : V → V → Hp → Prop}
    (q : rd K W (RI K) (fun g h => bd (ma g h) fun r h => bd (mb g h) fun q h => f r.frz q.frz h) σ H R) (hT : ∀ μ h H d e v w, HR K μ h H → RD K μ h.length H d v → RD K μ h.length H e w → Fin K W (RI K) μ h H (f d e h) R → T v w H) :
    rE K W ma σ H (fun v H1 => rE K W mb σ H1 (fun w H2 => T v w H2)) := by
  refine rd_bind (ρ := RR K) (ρ' := RI K) (k := fun g r h => bd (mb g h) fun q h => f r.frz q.frz h) q back_RI fun μ1 g h1 H1 r v H0 hr er q1 F => ?_
  refine ⟨μ1, g, h1, hr, er, F.bind fun r2 h2 v2 H2 μ2 P q2 F2 => ?_⟩
  exact hT μ2 h2 H2 _ _ _ _ P.hr (RD.mono P hr _ _ q1.frz) q2.frz (F2.from P back_RI)
theorem si_range2 (a b : E) (ha : SE P Φ G k a) (hb : SE P Φ G k b) : SI P Φ G k (.range2 a b) := fun X W tg x gd hc _ => by
  simp only [chkI] at hc
  split at hc
  · rename_i n p a' b' pos
    simp only [Bool.and_eq_true, decide_eq_true_eq] at hc
    obtain ⟨rfl, h2, h3, h4⟩ := hc
    obtain ⟨hg, hdb, hn⟩ := gloB_ok h2
    have hs := chk_shape h3
    have hs2 := chk_shape h4
    refine PI_imp (pi_range2 hg (gd.blt _ (by decide)) (pa_cons (ha X W a' gd h3).1 (pa_cons (hb X W b' gd h4).1 pa_nil (shape_star hs2 _ _)) (shape_star hs _ _)) (by rw [shape_star hs, shape_star hs2]; rfl) (shape_star hs2 _ _)) fun σ H Q q => ?_
    refine rd_it2 (f := range2It) (by simpa only [items] using q) fun μ h H d e v w hr q2 q3 F => ?_
    cases d with
    | int i =>
      cases e with
      | int j =>
        cases q2
        cases q3
        simp only [range2It, Bool.and_eq_true] at F
        split at F
        · rename_i hsm
          obtain ⟨b1, b2⟩ := small_ok hsm.1
          obtain ⟨b3, b4⟩ := small_ok hsm.2
          exact ⟨i, j, rfl, ⟨b1, b2, b3, b4⟩, Fin.ok F hr ⟨walkd_range i j, rfl⟩⟩
        · exact F.elim
      | _ => exact F.elim
    | _ => exact F.elim
  · cases hc
theorem isTupE_ok {e : Expr} (h : isTupE e = true) : ∃ es kk p, e = .Tuple es kk p := by
  cases e <;> first | exact ⟨_, _, _, rfl⟩ | cases h
theorem si_enum (e : E) (he : SE P Φ G k e) : SI P Φ G k (.enum e) := fun X W tg x gd hc hT => by
  obtain ⟨es, kk, tp, rfl⟩ := isTupE_ok (hT rfl)
  simp only [chkI] at hc
  split at hc
  · rename_i n p a' pos
    simp only [Bool.and_eq_true, decide_eq_true_eq] at hc
    obtain ⟨rfl, h2, h3⟩ := hc
    obtain ⟨hg, hdb, hn⟩ := gloB_ok h2
    have hs := chk_shape h3
    refine PI_imp (pi_enumA hg (gd.blt _ (by decide)) (pa_cons (he X W a' gd h3).1 pa_nil (shape_star hs _ _)) (shape_star hs _ _)) fun σ H Q q => ?_
    refine rd_it (f := enumIt) (by simpa only [items] using q) fun μ h H d v hr q2 F => ?_
    cases d with
    | tup l =>
      simp only [RD] at q2
      obtain ⟨a, vs, rfl, s, t⟩ := q2
      exact ⟨a, vs, rfl, .inr ⟨s, Fin.ok F hr ⟨walkd_enumT hr s t, rfl⟩⟩⟩
    | lst l =>
      simp only [RD] at q2
      obtain ⟨a, vs, rfl, s, t⟩ := q2
      exact ⟨a, vs, rfl, .inl ⟨s.sq, Fin.ok F hr ⟨walkd_enumL hr s t, rfl⟩⟩⟩
    | _ => exact F.elim
  · cases hc
theorem si_zip (a b : E) (ha : SE P Φ G k a) (hb : SE P Φ G k b) : SI P Φ G k (.zip a b) := fun X W tg x gd hc hT => by
  obtain ⟨es, kk, tp, rfl⟩ := isTupE_ok (hT rfl)
  simp only [chkI] at hc
  split at hc
  · rename_i n p a' b' pos
    simp only [Bool.and_eq_true, decide_eq_true_eq] at hc
    obtain ⟨rfl, h2, h3, h4⟩ := hc
    obtain ⟨hg, hdb, hn⟩ := gloB_ok h2
    have hs := chk_shape h3
    have hs2 := chk_shape h4
    refine PI_imp (RZ.pi_zipA hg (gd.blt _ (by decide)) (pa_cons (ha X W a' gd h3).1 (pa_cons (hb X W b' gd h4).1 pa_nil (shape_star hs2 _ _)) (shape_star hs _ _)) (shape_star hs _ _) (by rw [shape_star hs2]; rfl)) fun σ H Q q => ?_
    refine rd_it2 (f := zipIt) (by simpa only [items] using q) fun μ h H d e v w hr q2 q3 F => ?_
    cases d with
    | tup l =>
      cases e with
      | tup m =>
        simp only [RD] at q2 q3
        obtain ⟨a, vs, rfl, s, t⟩ := q2
        obtain ⟨b, ws, rfl, s2, t2⟩ := q3
        exact ⟨a, b, vs, ws, rfl, .inr ⟨s, s2, Fin.ok F hr ⟨walkd_zipT hr s t s2 t2, rfl⟩⟩⟩
      | _ => exact F.elim
    | lst l =>
      cases e with
      | lst m =>
        simp only [RD] at q2 q3
        obtain ⟨a, vs, rfl, s, t⟩ := q2
        obtain ⟨b, ws, rfl, s2, t2⟩ := q3
        exact ⟨a, b, vs, ws, rfl, .inl ⟨s.sq, s2.sq, Fin.ok F hr ⟨walkd_zipL hr s t s2 t2, rfl⟩⟩⟩
      | _ => exact F.elim
    | _ => exact F.elim
  · cases hc
end
end MP

/-! MP.Snd7: targets, comprehensions. -/
namespace MP
open PySem PySem.Spec PyProof.Rows L2

/-! ### targets -/
def rG (K : PySem.W.Frag) (t : Tg) : TG := fun v σ H Q => ∃ μ h g d g', HR K μ h H ∧ ER K μ h.length H g σ ∧ RD K μ h.length H d v ∧ MP.assign t d g = some g' ∧
  ∀ σ', ER K μ h.length H g' σ' → (∀ j, j ∉ slots t → σ'[j]? = σ[j]?) → σ'.length = σ.length → Q σ' H
def rGs (K : PySem.W.Frag) (ts : List Tg) : TGs := fun vs σ H Q => ∃ μ h g ds g', HR K μ h H ∧ ER K μ h.length H g σ ∧ RDs K μ h.length H ds vs ∧ assigns ts ds g = some g' ∧
  ∀ σ', ER K μ h.length H g' σ' → (∀ j, j ∉ slotsL ts → σ'[j]? = σ[j]?) → σ'.length = σ.length → Q σ' H
theorem PG_imp {X : Cx} {e : Expr} {t t' : TG} (p : PG X e t) (i : ∀ v σ H Q, t' v σ H Q → t v σ H Q) : PG X e t' := ⟨fun pins s σ H v u Q I r q => p.run pins s σ H v u Q I r (i v σ H Q q)⟩
theorem PGs_imp {X : Cx} {e : List Expr} {t t' : TGs} (p : PGs X e t) (i : ∀ v σ H Q, t' v σ H Q → t v σ H Q) : PGs X e t' := ⟨fun pins s σ H v u Q I r q => p.run pins s σ H v u Q I r (i v σ H Q q)⟩
-- what targets ask of the context
structure GoodT (X : Cx) (ck : Bool) : Prop where
  nd : X.N.Nodup
  calm : X.calm = true
  fnc : ck = true → ∀ x, X.fn x = true
theorem loc_fn {X : Cx} {ck : Bool} (gd : GoodT X ck) {x : Str} (h : (decide (X.env.scope.names.lookup x = some .local) || (ck && decide (X.env.scope.names.lookup x = some .cell))) = true) :
    L2.Loc X.env.scope x ∧ (X.fn x = true ∨ X.env.scope.names.lookup x = some .local) := by
  simp only [Bool.or_eq_true, Bool.and_eq_true, decide_eq_true_eq] at h
  rcases h with h | ⟨h, h2⟩
  · exact ⟨.inl h, .inr h⟩
  · exact ⟨.inr h2, .inl (gd.fnc h x)⟩
theorem chkT_star {ck : Bool} {N : List Str} {sc : Scope} {y : Expr} {p : Pos} : ∀ t : Tg, chkT ck N sc t (.Starred y p) = false
  | .slot _ => rfl
  | .tup _ => rfl
theorem assignEach_cons {x : Expr} {ck : Bool} {N : List Str} {sc : Scope} {t : Tg} (h : chkT ck N sc t x = true) (es : List Expr) (env : PySem.Env) : assignEach (x :: es) env = (false, PySem.assign x env) :: assignEach es env := by
  cases x <;> first | rfl | (rw [chkT_star] at h; cases h)
theorem chkTs_each {ck : Bool} {N : List Str} {sc : Scope} (env : PySem.Env) : ∀ {ts : List Tg} {es : List Expr}, chkTs ck N sc ts es = true → (assignEach es env).length = ts.length ∧ (assignEach es env).findIdx? (·.1) = none
  | [], [], _ => ⟨rfl, rfl⟩
  | [], _ :: _, h => by simp [chkTs] at h
  | _ :: _, [], h => by simp [chkTs] at h
  | t :: ts, e :: es, h => by
    simp only [chkTs, Bool.and_eq_true] at h
    obtain ⟨a, b⟩ := chkTs_each env h.2
    rw [assignEach_cons h.1]
    refine ⟨by simp [a], ?_⟩
    simp only [List.findIdx?_cons, Bool.false_eq_true, if_false]
    rw [b]
    rfl
theorem assigns_len : ∀ (ts : List Tg) (ds : List D) (g g' : Env), assigns ts ds g = some g' → ds.length = ts.length
  | [], [], _, _, _ => rfl
  | [], _ :: _, _, _, h => by simp [assigns] at h
  | _ :: _, [], _, _, h => by simp [assigns] at h
  | t :: ts, d :: ds, g, g', h => by
    simp only [assigns] at h
    split at h
    · simp [assigns_len ts ds _ _ h]
    · cases h
mutual
theorem pg_of {X : Cx} {ck : Bool} (gd : GoodT X ck) : ∀ (t : Tg) (e : Expr), chkT ck X.N X.env.scope t e = true → PG X e (rG X.K t)
  | .slot i, e, h => by
    cases e with
    | Name n pos =>
      simp only [chkT] at h
      have h' := Bool.and_eq_true_iff.mp h
      have hl := loc_fn gd h'.2
      refine PG_imp (pg_name gd.nd (of_decide_eq_true h'.1) hl.1 hl.2) fun v σ H Q ⟨μ, hp, g, d, g', hr, er, q, ea, k⟩ => ?_
      simp only [MP.assign, Option.some.injEq] at ea
      subst ea
      refine k _ (er.set q) (fun j hj => ?_) (by simp)
      simp only [slots, List.mem_singleton] at hj
      rw [List.getElem?_set_ne (Ne.symm hj)]
    | _ => simp [chkT] at h
  | .tup ts, e, h => by
    cases e with
    | Tuple es kk pos =>
      simp only [chkT] at h
      obtain ⟨a, b⟩ := chkTs_each X.env h
      refine PG_imp (pg_tup gd.calm (pgs_of gd ts es h) a b) fun v σ H Q ⟨μ, hp, g, d, g', hr, er, q, ea, k⟩ => ?_
      cases d with
      | tup l =>
        simp only [MP.assign] at ea
        simp only [RD] at q
        obtain ⟨c, vs, rfl, s, t⟩ := q
        exact ⟨c, vs, rfl, s, by rw [t.length, assigns_len _ _ _ _ ea], ⟨μ, hp, g, l, g', hr, er, t, ea, by simpa only [slots] using k⟩⟩
      | _ => simp [MP.assign] at ea
    | _ => simp [chkT] at h
theorem pgs_of {X : Cx} {ck : Bool} (gd : GoodT X ck) : ∀ (ts : List Tg) (es : List Expr), chkTs ck X.N X.env.scope ts es = true → PGs X es (rGs X.K ts)
  | [], [], _ => by
    refine PGs_imp pgs_nil fun v σ H Q ⟨μ, hp, g, ds, g', hr, er, q, ea, k⟩ => ?_
    cases ds with
    | nil =>
      simp only [assigns, Option.some.injEq] at ea
      subst ea
      simp only [RDs] at q
      subst q
      exact ⟨rfl, k σ er (fun _ _ => rfl) rfl⟩
    | cons _ _ => simp [assigns] at ea
  | [], _ :: _, h => by simp [chkTs] at h
  | _ :: _, [], h => by simp [chkTs] at h
  | t :: ts, e :: es, h => by
    simp only [chkTs, Bool.and_eq_true] at h
    refine PGs_imp (pgs_cons (pg_of gd t e h.1) (pgs_of gd ts es h.2) (by rw [assignEach_cons h.1]; rfl)) fun v σ H Q ⟨μ, hp, g, ds, g', hr, er, q, ea, k⟩ => ?_
    cases ds with
    | nil => simp [assigns] at ea
    | cons d ds =>
      simp only [RDs] at q
      obtain ⟨w, r, rfl, q1, q2⟩ := q
      simp only [assigns] at ea
      cases e1 : MP.assign t d g with
      | none => rw [e1] at ea; cases ea
      | some g1 =>
        rw [e1] at ea
        simp only at ea
        refine ⟨w, r, rfl, μ, hp, g, d, g1, hr, er, q1, e1, fun σ1 er1 a1 l1 => ⟨μ, hp, g1, ds, g', hr, er1, q2, ea, fun σ2 er2 a2 l2 => ?_⟩⟩
        refine k σ2 er2 (fun j hj => ?_) (l2.trans l1)
        simp only [slotsL, List.mem_append, not_or] at hj
        rw [a2 j hj.2, a1 j hj.1]
end
theorem wipe_same {σ σ' : L2.St} (hl : σ'.length = σ.length) : ∀ ws : List Nat, (∀ j, j ∉ ws → σ'[j]? = σ[j]?) → wipe σ' ws = wipe σ ws
  | [], h => by
    simp only [wipe]
    exact List.ext_getElem? fun j => h j (by simp)
  | w :: ws, h => by
    apply List.ext_getElem?
    intro j
    have gen : ∀ (τ : L2.St) (vs : List Nat), (wipe τ vs).length = τ.length := wipe_length
    have get : ∀ (τ : L2.St) (vs : List Nat), (wipe τ vs)[j]? = if j ∈ vs then (τ[j]?).map fun _ => none else τ[j]? := by
      intro τ vs
      induction vs with
      | nil => simp [wipe]
      | cons v vs ih =>
        simp only [wipe]
        by_cases hv : v = j
        · subst hv
          rw [List.getElem?_set]
          simp only [if_true, List.mem_cons, true_or, gen]
          by_cases hl : v < τ.length
          · simp [hl]
          · simp [hl]
        · rw [List.getElem?_set_ne hv, ih]
          have : (j ∈ v :: vs) ↔ j ∈ vs := by simp [Ne.symm hv]
          simp only [this]
    rw [get, get]
    by_cases hj : j ∈ w :: ws
    · rw [if_pos hj, if_pos hj]
      by_cases hlt : j < σ.length
      · rw [List.getElem?_eq_getElem hlt, List.getElem?_eq_getElem (by omega)]
        rfl
      · rw [List.getElem?_eq_none (by omega), List.getElem?_eq_none (by omega)]
    · rw [if_neg hj, if_neg hj]
      exact h j hj
theorem wipe_twice (σ : L2.St) (ws : List Nat) : wipe (wipe σ ws) ws = wipe σ ws := by
  refine List.ext_getElem? fun j => ?_
  have get : ∀ (τ : L2.St) (vs : List Nat), (wipe τ vs)[j]? = if j ∈ vs then (τ[j]?).map fun _ => none else τ[j]? := by
    intro τ vs
    induction vs with
    | nil => simp [wipe]
    | cons v vs ih =>
      simp only [wipe]
      by_cases hv : v = j
      · subst hv
        rw [List.getElem?_set]
        simp only [if_true, List.mem_cons, true_or, wipe_length]
        by_cases hl : v < τ.length
        · simp [hl]
        · simp [hl]
      · rw [List.getElem?_set_ne hv, ih]
        have : (j ∈ v :: vs) ↔ j ∈ vs := by simp [Ne.symm hv]
        simp only [this]
  rw [get, get]
  split
  · cases σ[j]? <;> rfl
  · rfl

/-! ### comprehensions -/
section
variable {K : PySem.W.Frag} {W : XK}
def xk0 : XK := fun _ _ _ => False
theorem rd_lc {σ : L2.St} {H : Hp} {Q : VK} {mi : Env → Heap → Res Items} {tg : Tg} {ws : List Nat} {mt : Env → Heap → Res Bool} {me : Env → Heap → Res R} (hsl : (slots tg).all (ws.contains ·) = true)
    (q : rE K W (fun g h => bd (mi g h) fun its h => bd (lcGo (lcF its tg (wipes g ws) mt me) its.1 h) fun l h => if l.length ≤ lim then some (.ok (.newL l) h) else none) σ H Q) :
    tLc (rd K W (RI K) mi) (rG K tg) (rT K xk0 mt) (rE K xk0 me) ws σ H Q := by
  obtain ⟨μ, g, h, hr, er, F⟩ := q
  refine ⟨μ, g, h, hr, er, F.bind fun its h1 J H1 μ1 P1 wd F1 => fun D0 hD => ?_⟩
  cases eL : lcGo (lcF its tg (wipes g ws) mt me) its.1 h1 with
  | none => rw [eL] at F1; exact F1.elim
  | some ol =>
    rw [eL] at F1
    cases ol with
    | exc x hN =>
      exfalso
      -- a comprehension lets nothing out
      have : ∀ (xs : List D) (h : Heap) (x : Ex) (h' : Heap), lcGo (lcF its tg (wipes g ws) mt me) xs h ≠ some (.exc x h') := by
        intro xs
        induction xs with
        | nil => intro h x h' e; cases e
        | cons y ys ih =>
          intro h x h' e
          simp only [lcGo] at e
          split at e
          · split at e
            · cases e
            · cases e
          · exact ih _ _ _ e
          · cases e
      exact this _ _ _ _ eL
    | ok l hN =>
      simp only [bd_ok] at F1
      split at F1
      · rename_i hlim
        have er1 := er.mono P1 hr
        have P0 : Post K μ1 h1 H1 (μ1.add D0) h1 (upd H1 D0 (.lst [])) := Post.startS P1.hr hD
        have er0 : ER K (μ1.add D0) h1.length (upd H1 D0 (.lst [])) g σ := er1.mono P0 P1.hr
        refine ⟨fun i m Hc => m = its.1.length - i ∧ i ≤ its.1.length ∧ ∃ μ2 h2 acc vs rest, Post K μ1 h1 H1 μ2 h2 Hc ∧ μ2.s D0 ∧ ER K μ2 h2.length Hc g σ ∧ still its h2 = true ∧ Hc D0 = some (.lst vs) ∧ RDs K μ2 h2.length Hc acc vs ∧
          lcGo (lcF its tg (wipes g ws) mt me) (its.1.drop i) h2 = some (.ok rest hN) ∧ acc ++ rest = l, ⟨its.1.length, by simp, Nat.zero_le _, _, _, [], [], l, P0, .inr rfl, er0, wd.2, upd_same, by simp only [RDs], by simpa using eL, rfl⟩, ?_⟩
        rintro i m Hc ⟨rfl, hi, μ2, h2, acc, vs, rest, P2, sD, er2, st2, eD, q2, eR, eA⟩
        obtain ⟨wgo, wstop, wyld⟩ := wd.1 μ2 h2 Hc P2 st2
        by_cases hlt : i < its.1.length
        · right
          refine ⟨wgo i hlt, fun Hc => i + 1 ≤ its.1.length ∧ ∃ μ2 h2 acc vs rest, Post K μ1 h1 H1 μ2 h2 Hc ∧ μ2.s D0 ∧ ER K μ2 h2.length Hc g σ ∧ still its h2 = true ∧ Hc D0 = some (.lst vs) ∧ RDs K μ2 h2.length Hc acc vs ∧
            lcGo (lcF its tg (wipes g ws) mt me) (its.1.drop (i + 1)) h2 = some (.ok rest hN) ∧ acc ++ rest = l, fun H' q => ⟨its.1.length - (i + 1), by omega, rfl, q⟩, fun x H3 y => ?_⟩
          obtain ⟨d, e1, P3, qd⟩ := wyld i x H3 hlt y
          have P13 := P2.trans P3
          have er3 := er2.mono P3 P2.hr
          have eD3 : H3 D0 = some (.lst vs) := P3.keep _ _ eD fun p hp => P2.hr.sp D0 sD p hp
          have q3 := RDs.mono P3 P2.hr _ _ q2
          have edrop : its.1.drop i = d :: its.1.drop (i + 1) := by
            rw [List.drop_eq_getElem_cons hlt]
            congr 1
            rw [List.getElem?_eq_getElem hlt] at e1
            exact Option.some.inj e1
          rw [edrop] at eR
          simp only [lcGo] at eR
          -- the target
          have asg : ∃ g', MP.assign tg d (wipes g ws) = some g' := by
            cases e4 : MP.assign tg d (wipes g ws) with
            | some g' => exact ⟨g', rfl⟩
            | none =>
              have : lcF its tg (wipes g ws) mt me d h2 = none := by simp only [lcF, e4]
              rw [this] at eR
              cases eR
          obtain ⟨g', eg⟩ := asg
          refine ⟨μ2, h2, _, d, g', P3.hr, er3.wipe ws, qd, eg, fun σ2 er4 same len => ⟨?_, ?_⟩⟩
          · rw [wipe_same len ws fun j hj => same j fun hm => hj ?_, wipe_twice]
            have := List.all_eq_true.mp hsl j hm
            simpa using this
          · -- the test
            have eF : lcF its tg (wipes g ws) mt me d h2 = bd (mt g' h2) fun b h => if b && still its h then bd (me g' h) fun r h => if still its h then some (.ok (some r.frz) h) else none else if still its h then some (.ok none h) else none := by
              simp only [lcF, eg]
            refine ⟨μ2, g', h2, P3.hr, er4, ?_⟩
            cases et : mt g' h2 with
            | none =>
              rw [et] at eF
              rw [eF] at eR
              cases eR
            | some ot =>
              rw [et] at eF
              cases ot with
              | exc _ _ =>
                rw [eF] at eR
                cases eR
              | ok b h4 =>
                intro b' H4 μ4 P4 eb
                cases eb
                simp only [bd_ok] at eF
                have er5 := er4.mono P4 P3.hr
                have eD4 : H4 D0 = some (.lst vs) := P4.keep _ _ eD3 fun p hp => P3.hr.sp D0 sD p hp
                have sD4 := P4.sd1 _ sD
                have q4 := RDs.mono P4 P3.hr _ _ q3
                have er3g := er3.mono P4 P3.hr
                cases b with
                | false =>
                  refine iteF ⟨hlt, ?_⟩
                  simp only [Bool.false_and, Bool.false_eq_true, if_false] at eF
                  split at eF
                  · rename_i st4
                    rw [eF] at eR
                    exact ⟨μ4, h4, acc, vs, rest, P13.trans P4, sD4, er3g, st4, eD4, q4, eR, eA⟩
                  · rw [eF] at eR
                    cases eR
                | true =>
                  refine iteT ⟨μ4, g', h4, P4.hr, er5, ?_⟩
                  simp only [Bool.true_and] at eF
                  split at eF
                  · cases ee : me g' h4 with
                    | none =>
                      rw [ee] at eF
                      rw [eF] at eR
                      cases eR
                    | some oe =>
                      rw [ee] at eF
                      cases oe with
                      | exc _ _ =>
                        rw [eF] at eR
                        cases eR
                      | ok r h5 =>
                        intro v H5 μ5 P5 qv
                        simp only [bd_ok] at eF
                        split at eF
                        · rename_i st5
                          rw [eF] at eR
                          simp only at eR
                          have eD5 : H5 D0 = some (.lst vs) := P5.keep _ _ eD4 fun p hp => P4.hr.sp D0 sD4 p hp
                          have sD5 := P5.sd1 _ sD4
                          have q5 := RDs.mono P5 P4.hr _ _ q4
                          have er6 := er3g.mono P5 P4.hr
                          cases er' : lcGo (lcF its tg (wipes g ws) mt me) (its.1.drop (i + 1)) h5 with
                          | none => rw [er'] at eR; cases eR
                          | some oo =>
                            rw [er'] at eR
                            cases oo with
                            | exc _ _ => cases eR
                            | ok ys h6 =>
                              cases eR
                              have qv' := qv.frz
                              have hl2 : acc.length < lim := by
                                have e7 : (acc ++ r.frz :: ys).length ≤ lim := by rw [eA]; exact hlim
                                simp at e7
                                omega
                              refine ⟨vs, eD5, by rw [q5.length, lim_line]; exact hl2, hlt, μ5, h5, acc ++ [r.frz], vs ++ [v], ys, ((P13.trans P4).trans P5).updS hD sD5 eD5, sD5, ?_, st5, upd_same, ?_, er', by simpa using eA⟩
                              · exact ⟨er6.1, fun j d e => by
                                  obtain ⟨w, e8, e9⟩ := er6.2 j d e
                                  exact ⟨w, e8, (RD.updS sD5 eD5).1 _ _ e9⟩⟩
                              · refine (RD.updS sD5 eD5).2 _ _ ?_
                                clear eA hl2 er' eF
                                have app : ∀ (l : List D) (us : List V), RDs K μ5 h5.length H5 l us → RDs K μ5 h5.length H5 (l ++ [r.frz]) (us ++ [v]) := by
                                  intro l
                                  induction l with
                                  | nil =>
                                    intro us e
                                    simp only [RDs] at e
                                    subst e
                                    simp only [List.nil_append, RDs]
                                    exact ⟨v, [], rfl, qv', rfl⟩
                                  | cons c l ih =>
                                    intro us e
                                    simp only [RDs] at e
                                    obtain ⟨w, r', rfl, a1, a2⟩ := e
                                    simp only [List.cons_append, RDs]
                                    exact ⟨w, r' ++ [v], rfl, a1, ih _ a2⟩
                                exact app _ _ q5
                        · rw [eF] at eR
                          cases eR
                  · rw [eF] at eR
                    cases eR
        · left
          have e0 : i = its.1.length := by omega
          subst e0
          rw [List.drop_length] at eR
          cases eR
          rw [List.append_nil] at eA
          subst eA
          exact ⟨wstop, F1 (.ref D0) Hc ⟨μ2.f, μ1.s⟩ (P1.trans P2.endS) ⟨D0, vs, rfl, eD, P2.hr.delS sD eD (fun _ _ => rfl) P2.sd1 (fz_s P1.hr hD), P1.none_back hD, (RD.delS (μ := μ2) (μ0 := ⟨μ2.f, μ1.s⟩) sD eD (fun _ _ => rfl) P2.sd1).2 _ _ q2⟩⟩
      · exact F1.elim
end
end MP

/-! MP.Snd8: comprehensions, calls, built-in functions. -/
namespace MP
open PySem PySem.Spec PyProof.Rows L2

section
variable {P : PInfo} {Φ : Nat → List D → Heap → Res R} {G : Nat → Option D} {k : Nat}
theorem Good.T {X : Cx} {W : XK} (g : Good P Φ G k X W) : GoodT X false := ⟨g.nd, g.calm, fun z => nomatch z⟩
theorem Good.blk {X : Cx} {W : XK} (g : Good P Φ G k X W) (s : Shared) (H : Hp) (scope : Scope) (C : Addr) (cl : List (Str × Addr)) (fp : List Addr) :
    Good P Φ G k (X.blk s H scope (compEnvC scope cl C X.env) fp) xk0 where
  nd := g.nd
  calm := g.calm
  room := g.room
  pos := g.pos
  xs := g.xs
  tk := takes0
  blt := g.blt
  glob := g.glob
  fns := g.fns
theorem tests_nil : tests Φ G [] = fun _ h => some (.ok true h) := by
  funext g h
  simp only [tests]
theorem tests_one (e : E) : tests Φ G [e] = tst (eval Φ G e) := by
  funext g h
  simp only [tests, tst]
  congr 1
  funext r h1
  cases tru h1 r.frz with
  | none => rfl
  | some b => cases b <;> rfl
theorem PTs_imp {X : Cx} {es : List Expr} {t t' : TT} (p : PTs X es t) (i : ∀ σ H Q, t' σ H Q → t σ H Q) : PTs X es t' := ⟨fun pins s σ H Q I q => p.run pins s σ H Q I (i σ H Q q)⟩
theorem se_lc (elt : E) (tg : Tg) (it : I) (cond : List E) (ws : List Nat) (he : SE P Φ G k elt) (hi : SI P Φ G k it) (hcd : ∀ c ∈ cond, SE P Φ G k c) : SE P Φ G k (.lc elt tg it cond ws) := fun X W x gd hc => by
  simp only [chk] at hc
  split at hc
  · rename_i elt' tg' it' ifs' scope pos
    simp only [Bool.and_eq_true, decide_eq_true_eq] at hc
    obtain ⟨h1, h2, h3, h4, h5, h6, h7, h8⟩ := hc
    have hT : tupI it = true → isTupE tg' = true := fun z => by
      rw [z] at h8
      simpa using h8
    have hts : ∀ (s : Shared) (H : Hp) (C : Addr) (cl : List (Str × Addr)) (fp : List Addr), PTs (X.blk s H scope (compEnvC scope cl C X.env) fp) ifs' (rT X.K xk0 (tests Φ G cond)) := fun s H C cl fp => by
      match cond, ifs', h4, h6, hcd with
      | [], [], _, _, _ =>
        refine PTs_imp pts_nil fun σ H Q ⟨μ, g, h, r, er, F⟩ => ?_
        rw [tests_nil] at F
        exact Fin.ok F r rfl
      | [c], [c'], h4, _, hcd =>
        simp only [chks, Bool.and_eq_true] at h4
        rw [tests_one]
        exact pts_one (hcd c (by simp) (X.blk s H scope (compEnvC scope cl C X.env) fp) xk0 c' (gd.blk s H scope C cl fp) h4.1).2
      | _ :: _ :: _, _, _, h6, _ =>
        simp only [List.length_cons] at h6
        omega
      | [], _ :: _, h4, _, _ => simp [chks] at h4
      | [_], [], h4, _, _ => simp [chks] at h4
      | [_], _ :: _ :: _, h4, _, _ => simp [chks] at h4
    have pe : PE X (.ListComp elt' [⟨tg', it', ifs', 0⟩] scope pos) (rE X.K W (eval Φ G (.lc elt tg it cond ws))) := by
      have ews : (ws.map fun i => (X.N.getD i ⟨#[]⟩, i)).map (·.2) = ws := by
        rw [List.map_map]
        exact List.map_id ws
      have base := pe_lc (pos := pos) (g := rG X.K tg) (te := rE X.K xk0 (eval Φ G elt)) gd.calm gd.nd (hi X W tg' it' gd h2 hT) (blkOk_by h1) (fun s H C cl fp => pg_of (gd.blk s H scope C cl fp).T tg tg' h3) hts
        (fun s H C cl fp => (he (X.blk s H scope (compEnvC scope cl C X.env) fp) xk0 elt' (gd.blk s H scope C cl fp) h5).1) (fun x => by
          cases it with
          | of e => exact shape_iter (chk_shape (by simpa only [chkI] using h2)) _ _
          | _ =>
            simp only [chkI] at h2
            split at h2
            · rfl
            · cases h2)
      rw [ews] at base
      refine PE_imp base fun σ H Q q => rd_lc h7 ?_
      have e : eval Φ G (.lc elt tg it cond ws) = fun g h => bd (items Φ G it g h) fun its h => bd (lcGo (lcF its tg (wipes g ws) (tests Φ G cond) (eval Φ G elt)) its.1 h) fun l h => if l.length ≤ lim then some (.ok (.newL l) h) else none := by
        funext g h
        simp only [eval]
      rw [e] at q
      exact q
    exact ⟨pe, pt_plain pe rfl⟩
  · cases hc
theorem se_call (f : Nat) (es : List E) (hes : SEs P Φ G k es) : SE P Φ G k (.call f es) := fun X W x gd hc => by
  simp only [chk] at hc
  split at hc
  · rename_i n p e' es' pos
    simp only [Bool.and_eq_true, decide_eq_true_eq] at hc
    obtain ⟨h1, h2, h3⟩ := hc
    obtain ⟨hg, hdb, hn⟩ := gloB_ok h2
    obtain ⟨a, fd, ps, hm, hk, hb, F, hlen⟩ := gd.fns f n h1
    have hsh := chks_shape h3
    have pe : PE X (.Call (.Name n p) (e' :: es') [] pos) (rE X.K W (eval Φ G (.call f es))) := by
      refine PE_imp (pe_call (dvs := []) (E := W) F gd.room hg hm hk hb .nil (passes_call gd.tk fun cls d σ H h => h) (hes X W _ gd h3) hdb (shape_star (hsh e' (by simp)) _ _) (shapes_any pos X.env fun x hx => hsh x (by simp [hx]))) fun σ H Q q => ?_
      have e : eval Φ G (.call f es) = fun g h => bd (evals Φ G es g h) fun ds h => Φ f ds h := by
        funext g h
        simp only [eval]
      rw [e] at q
      refine rd_bind (ρ := RA X.K) (k := fun g ds h => Φ f ds h) q back_RR fun μ1 g h1 H1 ds vs H0 hr er q1 Fz => ?_
      rw [List.append_nil]
      refine ⟨?_, μ1, h1, ds, hr, q1, Fz⟩
      rw [q1.length]
      exact hlen ds h1 fun z => by
        rw [z] at Fz
        exact Fz
    exact ⟨pe, pt_plain pe rfl⟩
  · cases hc

/-! ### slices -/
def RO' : Rel (Option Int) (Option Int) := fun _ _ _ _ a b => a = b
theorem back_RO {K : PySem.W.Frag} : Back K RO' := fun _ q => q
theorem po_of {X : Cx} {W : XK} (gd : Good P Φ G k X W) (e : E) (b : Bool) (he : SE P Φ G k e) (o : Option Expr) (h : (match o with
      | none => !b
      | some y => b && chk P X.N X.env.scope e y) = true) : PO X o (rd X.K W RO' fun g h => partM b (eval Φ G e g) h) := by
  cases o with
  | none =>
    cases b with
    | true => cases h
    | false =>
      refine ⟨fun pins s σ H Q I q => po_none.run pins s σ H Q I ?_⟩
      obtain ⟨μ, g, h, r, er, F⟩ := q
      exact Fin.ok F r rfl
  | some y =>
    simp only [Bool.and_eq_true] at h
    obtain ⟨rfl, h⟩ := h
    refine ⟨fun pins s σ H Q I q => (po_some (he X W y gd h).1).run pins s σ H Q I ?_⟩
    obtain ⟨μ, g, h, r, er, F⟩ := q
    refine ⟨μ, g, h, r, er, ?_⟩
    simp only [partM, if_true] at F
    refine F.bind fun r1 h1 v H1 μ1 P1 q1 F1 => ?_
    have q2 := q1.frz
    cases e1 : r1.frz with
    | int i =>
      rw [e1] at q2
      simp only [e1] at F1
      cases q2
      exact ⟨i, rfl, F1 _ H1 μ1 P1 rfl⟩
    | _ => simp only [e1] at F1; exact F1.elim
def rS (K : PySem.W.Frag) (W : XK) : V → Option Int → Option Int → Hp → VK → Prop := fun x lo hi H Q => ∃ μ h d, HR K μ h H ∧ RD K μ h.length H d x ∧ Fin K W (RR K) μ h H (sliceM d lo hi h) Q
theorem RDs.drop {K : PySem.W.Frag} {μ : Mu} {n : Nat} {H : Hp} : ∀ (m : Nat) {l : List D} {vs : List V}, RDs K μ n H l vs → RDs K μ n H (l.drop m) (vs.drop m)
  | 0, _, _, q => q
  | m + 1, [], vs, q => by
    simp only [RDs] at q
    subst q
    simp only [List.drop_nil, RDs]
  | m + 1, d :: l, vs, q => by
    simp only [RDs] at q
    obtain ⟨v, r, rfl, _, t⟩ := q
    exact RDs.drop m t
theorem RDs.take {K : PySem.W.Frag} {μ : Mu} {n : Nat} {H : Hp} : ∀ (m : Nat) {l : List D} {vs : List V}, RDs K μ n H l vs → RDs K μ n H (l.take m) (vs.take m)
  | 0, _, _, q => by simp only [List.take_zero, RDs]
  | m + 1, [], vs, q => by
    simp only [RDs] at q
    subst q
    simp only [List.take_nil, RDs]
  | m + 1, d :: l, vs, q => by
    simp only [RDs] at q
    obtain ⟨v, r, rfl, q1, t⟩ := q
    simp only [List.take_succ_cons, RDs]
    exact ⟨v, _, rfl, q1, RDs.take m t⟩
theorem cut_same (n d : Nat) (o : Option Int) : HT.sIx n d o = cutAt n d o := by
  cases o <;> rfl
theorem seq_loc {K : PySem.W.Frag} {μ : Mu} {h : Heap} {H : Hp} (r : HR K μ h H) {p : Nat} {v : V} {l : List D} (q : RD K μ h.length H (.loc p) v) (c : seqOf h (.loc p) = some l) :
    ∃ vs, v = .ref (μ p) ∧ H (μ p) = some (.lst vs) ∧ RDs K μ h.length H l vs := by
  simp only [seqOf] at c
  cases c2 : h[p]? with
  | none => rw [c2] at c; cases c
  | some o =>
    rw [c2] at c
    cases o with
    | dic _ => cases c
    | lst m =>
      cases c
      obtain ⟨us, e1, t1⟩ := r.ob p _ c2
      simp only [RD] at q
      exact ⟨us, q.2, e1, t1⟩
theorem slr {X : Cx} {W : XK} : L2.SlR X (rS X.K W) := by
  refine SlR_imp (L2.SlR.or sl_list sl_tupA) fun x lo hi H Q ⟨μ, h, d, r, q, F⟩ => ?_
  have lists : ∀ (l : List D) (a : Addr) (vs : List V), RDs X.K μ h.length H l vs → Fin X.K W (RR X.K) μ h H (some (.ok (.newL (cutZ l lo hi)) h)) Q → ∀ p, H p = none → Q (.ref p) (upd H p (.lst (cutV vs lo hi))) := fun l a vs t F p hp => by
    have Pn := Post.new (o := .lst (cutV vs lo hi)) r hp
    have ns : ¬ μ.s p := fz_s r hp
    refine F.okP Pn (RR.mk r hp hp ?_)
    unfold cutV cutZ
    rw [cut_same, cut_same, t.length]
    exact (t.drop _).take _
  cases d with
  | tup l =>
    simp only [RD] at q
    obtain ⟨a, vs, rfl, s, t⟩ := q
    simp only [sliceM] at F
    refine .inr ⟨a, vs, rfl, s, fun hw => ?_, fun _ p hp => ?_⟩
    · refine Fin.ok F r ?_
      show RD X.K μ h.length H (.tup (cutZ l lo hi)) (.ref a)
      have e : cutZ l lo hi = l := by
        unfold cutZ
        rw [cut_same, cut_same, t.length] at hw
        rw [hw.1, hw.2]
        simp
      rw [e]
      simp only [RD]
      exact ⟨a, vs, rfl, s, t⟩
    · have Pn := Post.new (o := .tup (cutV vs lo hi)) r hp
      refine F.okP Pn ?_
      show RD X.K μ h.length _ (.tup (cutZ l lo hi)) (.ref p)
      simp only [RD]
      refine ⟨p, _, rfl, .inl (.inl upd_same), RDs.mono Pn r _ _ ?_⟩
      unfold cutV cutZ
      rw [cut_same, cut_same, t.length]
      exact (t.drop _).take _
  | lst l =>
    simp only [RD] at q
    obtain ⟨a, vs, rfl, s, t⟩ := q
    simp only [sliceM, seqOf] at F
    exact .inl ⟨a, vs, rfl, s.sq, lists l a vs t F⟩
  | scr l =>
    simp only [RD] at q
    obtain ⟨a, vs, rfl, s, t⟩ := q
    simp only [sliceM, seqOf] at F
    exact .inl ⟨a, vs, rfl, s.sqk, lists l a vs t F⟩
  | loc p =>
    simp only [sliceM] at F
    cases c : seqOf h (.loc p) with
    | none => rw [c] at F; exact F.elim
    | some l =>
      rw [c] at F
      obtain ⟨vs, rfl, s, t⟩ := seq_loc r q c
      exact .inl ⟨_, vs, rfl, .inl (.inl s), lists l (μ p) vs t F⟩
  | _ => exact F.elim
theorem se_slice (a : E) (bl bh : Bool) (lo hi : E) (ha : SE P Φ G k a) (hl : SE P Φ G k lo) (hh : SE P Φ G k hi) : SE P Φ G k (.slice a bl bh lo hi) := fun X W x gd hc => by
  simp only [chk] at hc
  split at hc
  · rename_i a' lo' hi' p2 pos
    simp only [Bool.and_eq_true] at hc
    obtain ⟨h1, h2, h3⟩ := hc
    have pe : PE X (.Subscript a' (.Slice lo' hi' none p2) pos) (rE X.K W (eval Φ G (.slice a bl bh lo hi))) := by
      refine PE_imp (pe_slice (slr (W := W)) (ha X W a' gd h1).1 (po_of gd lo bl hl lo' h2) (po_of gd hi bh hh hi' h3)) fun σ H Q q => ?_
      have e : eval Φ G (.slice a bl bh lo hi) = fun g h => bd (eval Φ G a g h) fun x h => bd (partM bl (eval Φ G lo g) h) fun l h => bd (partM bh (eval Φ G hi g) h) fun u h => sliceM x.frz l u h := by
        funext g h
        simp only [eval]
      rw [e] at q
      obtain ⟨μ, g, h, hr, er, F⟩ := q
      refine ⟨μ, g, h, hr, er, F.bind fun r h1 v H1 μ1 P1 q1 F1 => ?_⟩
      have er1 := er.mono P1 hr
      refine ⟨μ1, g, h1, P1.hr, er1, (F1.from P1 back_RR).bind fun l h2 l' H2 μ2 P2 q2 F2 => ?_⟩
      cases q2
      refine ⟨μ2, g, h2, P2.hr, er1.mono P2 P1.hr, (F2.from P2 back_RR).bind fun u h3 u' H3 μ3 P3 q3 F3 => ?_⟩
      cases q3
      exact ⟨μ3, h3, _, P3.hr, RD.mono P3 P2.hr _ _ (RD.mono P2 P1.hr _ _ q1.frz), F3.from P3 back_RR⟩
    exact ⟨pe, pt_plain pe rfl⟩
  · cases hc

/-! ### built-in functions -/
def LenOk (K : PySem.W.Frag) (H : Hp) (v : V) (n : Nat) : Prop := ∃ p ys, v = .ref p ∧ (SqL K H p ys ∨ SqT K H p ys) ∧ ys.length = n
theorem valR_fin {K : PySem.W.Frag} {W : XK} {μ : Mu} {h : Heap} {H : Hp} {o : Option D} {Q : VK} (F : Fin K W (RR K) μ h H (valR o h) Q) (r : HR K μ h H) : ∃ d, o = some d ∧ ∀ v, RD K μ h.length H d v → Q v H := by
  cases o with
  | none => exact F.elim
  | some d => exact ⟨d, rfl, fun v q => Fin.ok F r q⟩
theorem boolR_fin {K : PySem.W.Frag} {W : XK} {μ : Mu} {h : Heap} {H : Hp} {o : Option Bool} {Q : VK} (F : Fin K W (RR K) μ h H (boolR o h) Q) (r : HR K μ h H) : ∃ b, o = some b ∧ Q (.bl b) H := by
  cases o with
  | none => exact F.elim
  | some b => exact ⟨b, rfl, Fin.ok F r rfl⟩
-- one argument as a list of arguments
theorem rd_arg1 {K : PySem.W.Frag} {W : XK} {σ : L2.St} {H : Hp} {Q : VK} {ma : Env → Heap → Res R} {f : D → Heap → Res R} {T : List V → Hp → VK → Prop}
    (q : rE K W (fun g h => bd (ma g h) fun r h => f r.frz h) σ H Q) (hT : ∀ μ h H d v, HR K μ h H → RD K μ h.length H d v → Fin K W (RR K) μ h H (f d h) Q → T [v] H Q) : tCB T (tCons (rE K W ma) tNil) σ H Q :=
  rd_bind (ρ := RR K) (ρ' := RR K) (k := fun g r h => f r.frz h) q back_RR fun μ1 g h1 H1 r v H0 hr er q1 F => hT μ1 h1 H1 _ v hr q1.frz F
theorem rd_arg2 {K : PySem.W.Frag} {W : XK} {σ : L2.St} {H : Hp} {Q : VK} {ma mb : Env → Heap → Res R} {f : D → D → Heap → Res R} {T : List V → Hp → VK → Prop}
    (q : rE K W (fun g h => bd (ma g h) fun r h => bd (mb g h) fun q h => f r.frz q.frz h) σ H Q) (hT : ∀ μ h H d e v w, HR K μ h H → RD K μ h.length H d v → RD K μ h.length H e w → Fin K W (RR K) μ h H (f d e h) Q → T [v, w] H Q) :
    tCB T (tCons (rE K W ma) (tCons (rE K W mb) tNil)) σ H Q := by
  refine rd_bind (ρ := RR K) (ρ' := RR K) (k := fun g r h => bd (mb g h) fun q h => f r.frz q.frz h) q back_RR fun μ1 g h1 H1 r v H0 hr er q1 F => ?_
  refine ⟨μ1, g, h1, hr, er, F.bind fun r2 h2 v2 H2 μ2 P q2 F2 => ?_⟩
  exact hT μ2 h2 H2 _ _ _ _ P.hr (RD.mono P hr _ _ q1.frz) q2.frz (F2.from P back_RR)
theorem boot_len' : bootBuiltins "len" = some (.builtin "len") := PySem.boot_len
theorem boot_abs' : bootBuiltins "abs" = some (.builtin "abs") := by decide +kernel
theorem boot_int' : bootBuiltins "int" = some (.type "int") := by decide +kernel
theorem boot_min' : bootBuiltins "min" = some (.builtin "min") := by decide +kernel
theorem boot_max' : bootBuiltins "max" = some (.builtin "max") := by decide +kernel
theorem boot_isi' : bootBuiltins "isinstance" = some (.builtin "isinstance") := by decide +kernel
theorem boot_bool' : bootBuiltins "bool" = some (.type "bool") := by decide +kernel
theorem boot_tuple' : bootBuiltins "tuple" = some (.type "tuple") := by decide +kernel
theorem boot_list' : bootBuiltins "list" = some (.type "list") := by decide +kernel
theorem boot_str' : bootBuiltins "str" = some (.type "str") := by decide +kernel
theorem boot_sum' : bootBuiltins "sum" = some (.builtin "sum") := by decide +kernel
theorem boot_all' : bootBuiltins "all" = some (.builtin "all") := by decide +kernel
theorem boot_any' : bootBuiltins "any" = some (.builtin "any") := by decide +kernel
theorem boot_sorted' : bootBuiltins "sorted" = some (.builtin "sorted") := by decide +kernel
theorem se_b1 (f : B1) (a : E) (ha : SE P Φ G k a) : SE P Φ G k (.b1 f a) := fun X W x gd hc => by
  simp only [chk] at hc
  split at hc
  · rename_i n p a' pos
    simp only [Bool.and_eq_true, decide_eq_true_eq] at hc
    obtain ⟨rfl, h2, h3⟩ := hc
    obtain ⟨hg, hdb, hn⟩ := gloB_ok h2
    have hs := chk_shape h3
    have hpa := pa_cons (ha X W a' gd h3).1 pa_nil (shape_star hs _ _)
    have e : eval Φ G (.b1 f a) = fun g h => bd (eval Φ G a g h) fun r h => b1M f r.frz h := by
      funext g h
      simp only [eval]
    have pe : PE X (.Call (.Name (b1N f) p) [a'] [] pos) (rE X.K W (eval Φ G (.b1 f a))) := by
      rw [e]
      cases f with
      | len =>
        refine PE_imp (pe_callB call_len_seq hg (gd.blt _ (by decide)) boot_len' hpa hn hdb (shape_star hs _ _) rfl) fun σ H Q q => rd_arg1 q fun μ h H d v hr q1 F => ?_
        obtain ⟨d', e1, k1⟩ := valR_fin F hr
        simp only [b1] at e1
        cases c : seqOf h d with
        | none => rw [c] at e1; cases e1
        | some l =>
          rw [c] at e1
          cases e1
          obtain ⟨p', vs, rfl, s, t⟩ := seq_of hr q1 c
          exact ⟨p', vs, rfl, s, k1 _ (by rw [t.length]; rfl)⟩
      | abs =>
        refine PE_imp (pe_callB call_abs hg (gd.blt _ (by decide)) boot_abs' hpa hn hdb (shape_star hs _ _) rfl) fun σ H Q q => rd_arg1 q fun μ h H d v hr q1 F => ?_
        obtain ⟨d', e1, k1⟩ := valR_fin F hr
        cases d with
        | int i =>
          cases e1
          cases q1
          exact ⟨i, rfl, k1 _ rfl⟩
        | _ => cases e1
      | int =>
        refine PE_imp (pe_callTy call_int1 hg (gd.blt _ (by decide)) boot_int' hpa hn hdb (shape_star hs _ _) rfl) fun σ H Q q => rd_arg1 q fun μ h H d v hr q1 F => ?_
        obtain ⟨d', e1, k1⟩ := valR_fin F hr
        cases d with
        | int i =>
          cases e1
          cases q1
          exact .inl ⟨i, rfl, k1 _ rfl⟩
        | bl b =>
          cases e1
          cases q1
          exact .inr ⟨b, rfl, k1 _ rfl⟩
        | _ => cases e1
      | str =>
        refine PE_imp (pe_callTy call_str_int hg (gd.blt _ (by decide)) boot_str' hpa hn hdb (shape_star hs _ _) rfl) fun σ H Q q => rd_arg1 q fun μ h H d v hr q1 F => ?_
        obtain ⟨d', e1, k1⟩ := valR_fin F hr
        cases d with
        | int i =>
          simp only [b1] at e1
          split at e1
          · rename_i hl
            cases e1
            cases q1
            exact ⟨i, rfl, hl, k1 _ rfl⟩
          · cases e1
        | _ => cases e1
    exact ⟨pe, pt_plain pe rfl⟩
  · cases hc
theorem se_b2 (f : B2) (a b : E) (ha : SE P Φ G k a) (hb : SE P Φ G k b) : SE P Φ G k (.b2 f a b) := fun X W x gd hc => by
  simp only [chk] at hc
  split at hc
  · rename_i n p a' b' pos
    simp only [Bool.and_eq_true, decide_eq_true_eq] at hc
    obtain ⟨rfl, h2, h3, h4⟩ := hc
    obtain ⟨hg, hdb, hn⟩ := gloB_ok h2
    have hs := chk_shape h3
    have hs2 := chk_shape h4
    have hpa := pa_cons (ha X W a' gd h3).1 (pa_cons (hb X W b' gd h4).1 pa_nil (shape_star hs2 _ _)) (shape_star hs _ _)
    have hany : (backTo pos (starEach [b'] X.env)).any (·.1) = false := by rw [shape_star hs2]; rfl
    have e : eval Φ G (.b2 f a b) = fun g h => bd (eval Φ G a g h) fun r h => bd (eval Φ G b g h) fun q h => b2M f r.frz q.frz h := by
      funext g h
      simp only [eval]
    have pe : PE X (.Call (.Name (b2N f) p) [a', b'] [] pos) (rE X.K W (eval Φ G (.b2 f a b))) := by
      rw [e]
      have two : ∀ {μ : Mu} {h : Heap} {H : Hp} {d1 d2 : D} {v w : V} {d' : D}, RD X.K μ h.length H d1 v → RD X.K μ h.length H d2 w → b2 f d1 d2 = some d' → ∃ i j, d1 = .int i ∧ d2 = .int j ∧ v = .int i ∧ w = .int j := by
        intro μ h H d1 d2 v w d' q1 q2 e1
        cases d1 with
        | int i =>
          cases d2 with
          | int j => exact ⟨i, j, rfl, rfl, q1, q2⟩
          | _ => cases f <;> cases e1
        | _ => cases f <;> cases e1
      cases f with
      | min =>
        refine PE_imp (pe_callB (call_min2 gd.calm) hg (gd.blt _ (by decide)) boot_min' hpa hn hdb (shape_star hs _ _) hany) fun σ H Q q => rd_arg2 q fun μ h H d e v w hr q1 q2 F => ?_
        obtain ⟨d', e1, k1⟩ := valR_fin F hr
        obtain ⟨i, j, rfl, rfl, rfl, rfl⟩ := two q1 q2 e1
        cases e1
        exact ⟨i, j, rfl, k1 _ rfl⟩
      | max =>
        refine PE_imp (pe_callB (call_max2 gd.calm) hg (gd.blt _ (by decide)) boot_max' hpa hn hdb (shape_star hs _ _) hany) fun σ H Q q => rd_arg2 q fun μ h H d e v w hr q1 q2 F => ?_
        obtain ⟨d', e1, k1⟩ := valR_fin F hr
        obtain ⟨i, j, rfl, rfl, rfl, rfl⟩ := two q1 q2 e1
        cases e1
        exact ⟨i, j, rfl, k1 _ rfl⟩
    exact ⟨pe, pt_plain pe rfl⟩
  · cases hc

/-! ### isinstance -/
theorem isTy_of {K : PySem.W.Frag} {μ : Mu} {h : Heap} {H : Hp} {d : D} {v : V} {t : Ty} {b : Bool} (r : HR K μ h H) (q : RD K μ h.length H d v) (e : isTy h t d = some b) : ∃ u, TyX K H v (.type u) ∧ kitB u (tyN t) = some b := by
  have lst : ∀ (o : Option Bool), o = some (decide (t = .list)) → o = some b → kitB "list" (tyN t) = some b := by
    intro o e1 e2
    rw [e1] at e2
    cases e2
    cases t <;> decide +kernel
  have tup : some (decide (t = .tuple)) = some b → kitB "tuple" (tyN t) = some b := by
    intro e2
    cases e2
    cases t <;> decide +kernel
  cases d with
  | non => cases q; cases e; exact ⟨_, .base .non, by cases t <;> decide +kernel⟩
  | bl c => cases q; cases e; exact ⟨_, .base (.bl c), by cases t <;> decide +kernel⟩
  | int c => cases q; cases e; exact ⟨_, .base (.int c), by cases t <;> decide +kernel⟩
  | str c => cases q; cases e; exact ⟨_, .base (.str c), by cases t <;> decide +kernel⟩
  | exo _ _ _ => cases e
  | tup l =>
    simp only [RD] at q
    obtain ⟨a, vs, rfl, s, _⟩ := q
    refine ⟨"tuple", ?_, tup e⟩
    rcases s with (s | ⟨o, s⟩) | ⟨o, its, n, hk, hc, _⟩
    · exact .base (.tup s)
    · exact .fTuple s
    · exact .kTuple hk hc
  | lst l =>
    simp only [RD] at q
    obtain ⟨a, vs, rfl, s, _⟩ := q
    refine ⟨"list", ?_, lst _ rfl e⟩
    rcases (show SqL K H a vs from s.sq) with (s | ⟨o, s⟩) | ⟨o, its, n, hk, hc, _⟩
    · exact .base (.lst s)
    · exact .base (.frz s)
    · exact .kList hk hc
  | scr l =>
    simp only [RD] at q
    obtain ⟨a, vs, rfl, s, _⟩ := q
    refine ⟨"list", ?_, lst _ rfl e⟩
    rcases s.sqk with (s | ⟨o, s⟩) | ⟨o, its, n, hk, hc, _⟩
    · exact .base (.lst s)
    · exact .base (.frz s)
    · exact .kList hk hc
  | dic ks l =>
    cases e
    simp only [RD] at q
    obtain ⟨a, kvs, rfl, ⟨s, _⟩, _⟩ := q
    refine ⟨"dict", ?_, by cases t <;> decide +kernel⟩
    rcases s with s | ⟨o, s⟩
    · exact .base (.dK s)
    · exact .fDict s
  | loc p =>
    simp only [isTy] at e
    cases c : h[p]? with
    | none => rw [c] at e; cases e
    | some o =>
      rw [c] at e
      cases o with
      | dic _ =>
        cases e
        obtain ⟨kvs, e1, _⟩ := r.ob p _ c
        simp only [RD] at q
        rw [q.2]
        exact ⟨"dict", .base (.dK e1), by cases t <;> decide +kernel⟩
      | lst m =>
        obtain ⟨vs, e1, _⟩ := r.ob p _ c
        simp only [RD] at q
        rw [q.2]
        exact ⟨"list", .base (.lst e1), lst _ rfl e⟩
theorem boot_ty (t : Ty) : bootBuiltins (Str.ofString (tyN t)) = some (.type (tyN t)) := by
  cases t <;> decide +kernel
theorem se_isinst (a : E) (t : Ty) (ha : SE P Φ G k a) : SE P Φ G k (.isinst a t) := fun X W x gd hc => by
  simp only [chk] at hc
  split at hc
  · rename_i n p a' m pm pos
    simp only [Bool.and_eq_true, decide_eq_true_eq] at hc
    obtain ⟨rfl, h2, rfl, h3, h4⟩ := hc
    obtain ⟨hg, hdb, hn⟩ := gloB_ok h2
    obtain ⟨hg2, hdb2, hn2⟩ := gloB_ok h3
    have hs := chk_shape h4
    have hm2 : X.mg (Str.ofString (tyN t)) = none := gd.blt _ (by cases t <;> decide)
    have hty : PE X (.Name (Str.ofString (tyN t)) pm) (tC (.ty (tyN t))) := pe_bltn hg2 hm2 (boot_ty t) rfl hn2 hdb2
    have e : eval Φ G (.isinst a t) = fun g h => bd (eval Φ G a g h) fun r h => tyM t r.frz h := by
      funext g h
      simp only [eval]
    have pe : PE X (.Call (.Name "isinstance" p) [a', .Name (Str.ofString (tyN t)) pm] [] pos) (rE X.K W (eval Φ G (.isinst a t))) := by
      rw [e]
      refine PE_imp (pe_callB call_isi hg (gd.blt _ (by decide)) boot_isi' (pa_cons (ha X W a' gd h4).1 (pa_cons hty pa_nil rfl) (shape_star hs _ _)) hn hdb (shape_star hs _ _) rfl) fun σ H Q q => ?_
      refine rd_bind (ρ := RR X.K) (ρ' := RR X.K) (k := fun g r h => tyM t r.frz h) q back_RR fun μ1 g h1 H1 r v H0 hr er q1 F => ?_
      obtain ⟨b, e1, k1⟩ := boolR_fin F hr
      obtain ⟨u, ty, kb⟩ := isTy_of hr q1.frz e1
      exact ⟨v, .ty (tyN t), _, _, b, rfl, .ty _, ty, kit_ty kb, k1⟩
    exact ⟨pe, pt_plain pe rfl⟩
  · cases hc
end
end MP

/-! MP.Snd9: built-in functions over sequences; methods of lists; new places. -/
namespace MP
open PySem PySem.Spec PyProof.Rows L2

/-! ### what the library has for lists, for tuples -/
section
variable {prog : Program} {w : World} {A : Around} {E : Value → Shared → Prop} {s : Shared}
theorem iter_tup {l : Addr} {items : Array Value} {Q : Value → Shared → Prop} (hl : s.heap.IsTuple l items)
    (h : ∀ s₂ : Shared, s₂ = { s with heap := s.heap.push { cls := .type "tuple_iterator", data := .fields #[.ref l, .int 0 0] } } →
      (s₂.heap.IsTupleIter s.heap.objs.size l 0 ∧ s₂.heap.IsTuple l items) → l ≠ s.heap.objs.size → Q (.ref s.heap.objs.size) s₂) : wpAny (model prog w) A (pyIter (.ref l)) Q E s := by
  have hlt : l < s.heap.objs.size := by obtain ⟨_, e, _⟩ := hl; exact Heap.lt_size e
  exact wpAny_pyIter_tuple hl (h _ rfl ⟨⟨_, Heap.get?_push_size _ rfl, rfl, rfl⟩, hl.push _⟩ (Nat.ne_of_lt hlt))
theorem sum_tup {l : Addr} {xs : Array (Int × Tok)} {Q : Value → Shared → Prop} (hh : A.handled = none) (hl : s.heap.IsTuple l (intItems xs))
    (h : ∀ h' tk t', (∀ b o, s.heap.get? b = some o → h'.get? b = some o) → Q (.int (preSum (numAt xs) xs.size) t') { s with heap := h', toks := tk }) :
    wpAny (model prog w) A (call (.builtin "sum") [.ref l]) Q E s := by
  refine call_sum_walkG (iter_tup hl fun s₂ e st hne => ?_)
  subst e
  have hlt : l < s.heap.objs.size := by obtain ⟨_, e, _⟩ := hl; exact Heap.lt_size e
  refine ⟨_, _, _, _, _, _, numAt xs, rfl, Walks.tuple (A := A.in1) hh _ l hne (intItems xs), st, fun b hb => ?_, (fun _ _ => intItems_at), fun h' tk t' hk => ?_⟩
  · show b < (s.heap.push _).objs.size
    rw [Heap.size_push]
    have e' : b = s.heap.objs.size ∨ b = l := by simpa using hb
    rcases e' with e | e
    · rw [e]; exact Nat.lt_succ_self _
    · rw [e]; exact Nat.lt_succ_of_lt hlt
  · have := h h' tk t' fun b o eo => hk b o (fun hmem => by
      have e1 : b = s.heap.objs.size := by simpa using hmem
      exact absurd (e1 ▸ Heap.lt_size eo) (Nat.lt_irrefl _)) (Heap.get?_push_of_some _ eo)
    simpa [intItems] using this
end
section
variable {X : Cx}
theorem cr_sumT (hc : X.calm = true) : CallR X (.builtin "sum") (fun vs H Q => ∃ (a : Addr) (ns : List Int), vs = [V.ref a] ∧ SqT X.K H a (ns.map V.int) ∧ Q (.int ns.sum) H) := by
  intro pins s σ H vs us Q I r h
  obtain ⟨a, ns, rfl, hs, q⟩ := h
  obtain ⟨its, rv, hl, _⟩ := I.tuple hs
  rw [Vals.ref1 r]
  have hi := rv.ints
  obtain ⟨xs, e⟩ := hi.allInts.items
  have hn : numsOf (intItems xs).toList = ns := by rw [← e]; exact hi.numsOf
  rw [nums_intItems] at hn
  rw [e] at hl
  have hl' : s.heap.IsTuple a (intItems xs) := hl
  refine sum_tup (I.ok.hd hc) hl' fun h' tk t' hk => ?_
  refine ⟨.int _, H, I.kept hk, ⟨_, rfl⟩, ?_⟩
  rw [preSum_eq, List.take_of_length_le (by simp), hn]
  exact q
theorem cr_anyT (hc : X.calm = true) : CallR X (.builtin "any") (fun vs H Q => ∃ (a : Addr) (bs : List Bool), vs = [V.ref a] ∧ SqT X.K H a (bs.map V.bl) ∧ Q (.bl (bs.any id)) H) := by
  intro pins s σ H vs us Q I r h
  obtain ⟨a, bs, rfl, hs, q⟩ := h
  obtain ⟨its, rv, hl, _⟩ := I.tuple hs
  have hl' : s.heap.IsTuple a its.toArray := hl
  rw [Vals.ref1 r]
  have hb := rv.bls
  refine call_any_walk (iter_tup hl' fun s₂ e2 st hne => ?_)
  subst e2
  refine ⟨_, _, _, _, _, _, _, rfl, Walks.tuple (A := X.A.in1) (I.ok.hd hc) _ a hne its.toArray, st, truth_bools hb, fun h' tk hk => ?_⟩
  refine ⟨.bl _, H, I.kept fun b o eo => hk b o (fun hmem => ?_) (Heap.get?_push_of_some _ eo), ?_, q⟩
  · have e1 : b = s.heap.objs.size := by simpa using hmem
    exact absurd (e1 ▸ Heap.lt_size eo) (Nat.lt_irrefl _)
  · show Value.bool _ = Value.bool _
    rw [← L2.any_range, hb, List.size_toArray, List.length_map]
theorem cr_allT (hc : X.calm = true) : CallR X (.builtin "all") (fun vs H Q => ∃ (a : Addr) (bs : List Bool), vs = [V.ref a] ∧ SqT X.K H a (bs.map V.bl) ∧ Q (.bl (bs.all id)) H) := by
  intro pins s σ H vs us Q I r h
  obtain ⟨a, bs, rfl, hs, q⟩ := h
  obtain ⟨its, rv, hl, _⟩ := I.tuple hs
  have hl' : s.heap.IsTuple a its.toArray := hl
  rw [Vals.ref1 r]
  have hb := rv.bls
  refine call_all_walk (iter_tup hl' fun s₂ e2 st hne => ?_)
  subst e2
  refine ⟨_, _, _, _, _, _, _, rfl, Walks.tuple (A := X.A.in1) (I.ok.hd hc) _ a hne its.toArray, st, truth_bools hb, fun h' tk hk => ?_⟩
  refine ⟨.bl _, H, I.kept fun b o eo => hk b o (fun hmem => ?_) (Heap.get?_push_of_some _ eo), ?_, q⟩
  · have e1 : b = s.heap.objs.size := by simpa using hmem
    exact absurd (e1 ▸ Heap.lt_size eo) (Nat.lt_irrefl _)
  · show Value.bool _ = Value.bool _
    rw [← L2.all_range, hb, List.size_toArray, List.length_map]
end
/-! ### sorted of a tuple -/
section
open PyProof.Rows Srt SrtO
variable {prog : Program} {w : World} {A : Around} {E : Value → Shared → Prop} {s : Shared}
theorem collect_tup {l : Addr} {vs : List Value} {Q : List Value → Shared → Prop} (hl : s.heap.IsTuple l vs.toArray)
    (h : Q vs { s with heap := (s.heap.push (seqObj "list" #[] 0)).update s.heap.objs.size (Obj.mapSeq (· ++ vs.toArray)) }) (hsz : vs.length ≤ sizeLine) :
    wpAny (model prog w) A (collect (.ref l)) Q E s := by
  obtain ⟨o, ho, hc, n, hd⟩ := id hl
  unfold collect
  refine wpAny_bind (wpAny_runValue (codeAny_builtin entry_proto_collect' ?_))
  show wpAny _ _ (do again (.builtin "list.__iadd__" ⟨[← newList [], .ref l], []⟩)) _ _ s
  refine wpAny_bind (wpAny_newList (wpAny_pure ⟨Code.quiet_builtin _ (by decide +kernel), codeAny_builtin entry_list_iadd' ?_⟩))
  show wpAny _ _ (Builtin.List.listExtendWith (.ref s.heap.objs.size) (.ref l) (.ref s.heap.objs.size)) _ _ { s with heap := s.heap.push (seqObj "list" #[] 0) }
  unfold Builtin.List.listExtendWith
  have ho' : (s.heap.push (seqObj "list" #[] 0)).get? l = some o := Heap.get?_push_of_some _ ho
  refine wpAny_bind (wpAny_typeOf (T := "tuple") ⟨o, ho', hc⟩ ?_)
  have ht : (Value.type "tuple" == Value.type "tuple") = true := by rfl
  rw [if_pos (by rw [ht]; simp)]
  refine wpAny_bind (listItems_at ho' hd ?_)
  refine wpAny_bind (listItems_at (xs := #[]) (n := 0) (Heap.get?_push_size _ rfl) rfl ?_)
  rw [if_neg (by simp)]
  refine wpAny_bind (listUpdate_at (xs := #[]) (n := 0) (Heap.get?_push_size _ rfl) rfl ?_ (Nat.zero_le _) (by show (#[] ++ vs.toArray).size ≤ sizeLine + 1; simp only [Array.size_append, List.size_toArray, List.length_nil]; omega))
  refine wpAny_pure ?_
  show wpAny (model prog w) A (do
      let o ← load s.heap.objs.size
      match o.data with
      | .seq xs _ => pure xs.toList
      | _ => unsupported "internal:collect") Q E { s with heap := (s.heap.push (seqObj "list" #[] 0)).update s.heap.objs.size (Obj.mapSeq (· ++ vs.toArray)) }
  refine wpAny_bind (wpAny_load (get?_update_seq (Heap.get?_push_size _ rfl) _) ?_)
  show wpAny _ _ (pure ((#[] : Array Value) ++ vs.toArray).toList) Q E _
  rw [show ((#[] : Array Value) ++ vs.toArray).toList = vs by simp]
  exact wpAny_pure h
theorem sorted_ordT {l : Addr} {vs : List Value} {ltv : Value → Value → Bool} {Q : Value → Shared → Prop} (O : Swo ltv) (hl : s.heap.IsTuple l vs.toArray) (hz : vs.length ≤ sizeLine)
    (hS : 2 ≤ vs.length → ∀ (h₁ : PySem.Heap) (a : Addr), h₁.get? a = some (seqObj "list" vs.toArray 0) → (∀ b o, s.heap.get? b = some o → b ≠ a ∧ h₁.get? b = some o) → SortableO prog w A.in1.in1 { s with heap := h₁ } a vs ltv)
    (h : ∀ out : List Value, Srtd ltv out → Stb ltv out vs → Q (.ref (s.heap.objs.size + 1)) { s with heap := sortedAll s.heap vs out.toArray }) :
    wpAny (model prog w) A (call (.builtin "sorted") [.ref l]) Q E s := by
  refine Calls.call_function_entry kind_sorted plain_sorted entry_sorted (args_sorted1 _) ?_
  unfold Builtin.«sorted»
  refine wpAny_bind (m := checkCount "sorted" 1 1 _) (wpAny_pure ?_)
  refine wpAny_bind (collect_tup hl ?_ hz)
  refine wpAny_bind (wpAny_newList ?_ hz)
  have hsz : ((s.heap.push (seqObj "list" #[] 0)).update s.heap.objs.size (Obj.mapSeq (· ++ vs.toArray))).objs.size = s.heap.objs.size + 1 := by
    rw [Heap.size_update, size_push']
  have hoL : (((s.heap.push (seqObj "list" #[] 0)).update s.heap.objs.size (Obj.mapSeq (· ++ vs.toArray))).push (seqObj "list" vs.toArray 0)).get? (s.heap.objs.size + 1) = some (seqObj "list" vs.toArray 0) := by
    rw [← hsz]
    exact Heap.get?_push_size _ rfl
  have keep : ∀ b o, s.heap.get? b = some o → b ≠ s.heap.objs.size + 1 ∧ (((s.heap.push (seqObj "list" #[] 0)).update s.heap.objs.size (Obj.mapSeq (· ++ vs.toArray))).push (seqObj "list" vs.toArray 0)).get? b = some o := fun b o q => by
    have hlt : b < s.heap.objs.size := Heap.lt_size q
    refine ⟨Nat.ne_of_lt (Nat.lt_succ_of_lt hlt), Heap.get?_push_of_some _ ?_⟩
    rw [Heap.get?_update_ne _ _ _ _ (Nat.ne_of_lt hlt)]
    exact Heap.get?_push_of_some _ q
  show wpAny _ _ _ _ _ { s with heap := ((s.heap.push (seqObj "list" #[] 0)).update s.heap.objs.size (Obj.mapSeq (· ++ vs.toArray))).push (seqObj "list" vs.toArray 0) }
  rw [hsz]
  refine wpAny_bind (wpAny_holding (wpAny_call_entry slot_list_sort ⟨_, hoL, rfl⟩ entry_list_sort (list_sort_ord O hoL hz (fun h2 => hS h2 _ _ hoL keep) fun out hs hb => ⟨_, rfl, ?_⟩) (args_list_sort _)))
  exact wpAny_pure ⟨_, rfl, h out hs hb⟩
theorem sorted_pairsT {l : Addr} {vs : List Value} {k : Value → Int × Int} {Q : Value → Shared → Prop} (hl : s.heap.IsTuple l vs.toArray) (hz : vs.length ≤ sizeLine) (hp : ∀ v ∈ vs, IsPair s.heap v (k v).1 (k v).2)
    (h : ∀ (h' : PySem.Heap) (d : Addr) (out : List Value), Srtd (fun v u => lexB (k v) (k u)) out → Stb (fun v u => lexB (k v) (k u)) out vs → (∀ b o, s.heap.get? b = some o → h'.get? b = some o) → s.heap.objs.size ≤ d → (∃ n, h'.get? d = some (seqObj "list" out.toArray n)) → Q (.ref d) { s with heap := h' }) :
    wpAny (model prog w) A (call (.builtin "sorted") [.ref l]) Q E s := by
  refine sorted_ordT (swo_lex k) hl hz (fun h2 h₁ a ha kk => ?_) fun out hs hb => ?_
  · refine pairs_sortableO (s := { s with heap := h₁ }) (by omega) (fun v hm => (hp v hm).keeps fun b o e _ => (kk b o e).2) fun o e => ?_
    have e' : some o = some (seqObj "list" vs.toArray 0) := e.symm.trans ha
    cases e'
    intro c
    exact absurd (Value.type.inj c) (by decide)
  · exact h _ _ out hs hb (fun b o e => sortedAll_old e) (Nat.le_succ _) (sortedAll_at s.heap vs out.toArray)
end
section
variable {X : Cx}
-- sorted of a list or a tuple of ints, of pairs of ints
def rSrtI (K : PySem.W.Frag) : List V → Hp → VK → Prop := fun vs H Q => ∃ (a : Addr) (ns : List Int), vs = [V.ref a] ∧ (SqL K H a (ns.map V.int) ∨ SqT K H a (ns.map V.int)) ∧
  ∀ (ns' : List Int) (p : Addr), ns'.Perm ns → ns'.Pairwise (· ≤ ·) → H p = none → Q (.ref p) (upd H p (.lst (ns'.map V.int)))
theorem cr_srtI : CallR X (.builtin "sorted") (rSrtI X.K) := by
  intro pins s σ H vs us Q I r h
  obtain ⟨a, ns, rfl, hs, q⟩ := h
  rcases hs with hs | hs
  · exact cr_sortedI pins s σ H _ us Q I r ⟨a, ns, rfl, hs, q⟩
  · obtain ⟨its, rv, hl, hz⟩ := I.tuple hs
    have hl' : s.heap.IsTuple a its.toArray := hl
    rw [Vals.ref1 r]
    have hi := rv.ints
    refine sorted_ordT SrtO.swo_int hl' (by rw [← rv.length]; exact hz) (fun h2 h₁ a' _ _ => SrtO.ints_sortable hi h2) fun out h1 h2 => ?_
    obtain ⟨k1, k2, k3⟩ := SrtO.ints_out hi h1 h2
    obtain ⟨ep, he'⟩ := PyProof.Rows.sortedAll_at s.heap its out.toArray
    have hlen : ((out.map SrtO.iv).map V.int).length ≤ sizeLine := by
      rw [List.length_map, k2.length_eq]
      rw [List.length_map] at hz
      exact hz
    exact ⟨.ref _, upd H (s.heap.objs.size + 1) (.lst ((out.map SrtO.iv).map V.int)), I.laid (t' := s.toks) (fun _ _ => PyProof.Rows.sortedAll_old) (Nat.le_succ _) ⟨hlen, out, ep, vals_of_ints k1, he'⟩, rfl, q _ _ k2 k3 (I.hok.fresh (Nat.le_succ _))⟩
def rSrtP (K : PySem.W.Frag) : List V → Hp → VK → Prop := fun vs H Q => ∃ (a : Addr) (xs : List V) (k : V → Int × Int), vs = [V.ref a] ∧ (SqL K H a xs ∨ SqT K H a xs) ∧ (∀ x ∈ xs, ∃ t, x = V.ref t ∧ SqT K H t [.int (k x).1, .int (k x).2]) ∧
  ∀ ys p, SrtO.Srtd (ltP k) ys → SrtO.Stb (ltP k) ys xs → H p = none → Q (.ref p) (upd H p (.lst ys))
theorem cr_srtP : CallR X (.builtin "sorted") (rSrtP X.K) := by
  intro pins s σ H vs us Q I r h
  obtain ⟨a, xs, k, rfl, hs, hx, q⟩ := h
  rw [Vals.ref1 r]
  have main : ∀ (its : List Value), Vals xs its → xs.length ≤ sizeLine → (s.heap.IsList a its.toArray ∨ s.heap.IsTuple a its.toArray) → wpAny (model X.prog X.w) X.A (call (.builtin "sorted") [.ref a]) (EP X pins σ Q) X.xe s := fun its rv hz hl => by
    obtain ⟨e1, e2⟩ := refs_back rv fun x m => by
      obtain ⟨t, e, _⟩ := hx x m
      exact ⟨t, e⟩
    have hp : ∀ v ∈ its, Srt.IsPair s.heap v (k (backV v)).1 (k (backV v)).2 := fun v hv => by
      obtain ⟨t, rfl⟩ := e2 v hv
      have hm : V.ref t ∈ xs := by rw [e1]; exact List.mem_map.mpr ⟨_, hv, rfl⟩
      obtain ⟨t', e, ht⟩ := hx _ hm
      cases e
      obtain ⟨its2, r2, ⟨o, ho, hc, n, hd⟩, _⟩ := I.tuple ht
      obtain ⟨u1, u2, rfl, ri, rj⟩ := vals2 r2
      obtain ⟨t1, rfl⟩ := ri
      obtain ⟨t2, rfl⟩ := rj
      exact ⟨t, o, t1, t2, n, rfl, ho, hc, hd⟩
    have fin : ∀ (h' : PySem.Heap) (d : Addr) (out : List Value), SrtO.Srtd (fun v u => SrtO.lexB (k (backV v)) (k (backV u))) out → SrtO.Stb (fun v u => SrtO.lexB (k (backV v)) (k (backV u))) out its → (∀ b o, s.heap.get? b = some o → h'.get? b = some o) → s.heap.objs.size ≤ d → (∃ n, h'.get? d = some (seqObj "list" out.toArray n)) → EP X pins σ Q (.ref d) { s with heap := h' } := fun h' d out h1 h2 kp hd hn => by
      have h3 : ∀ u ∈ out, ∃ a, u = Value.ref a := fun u hu => e2 u (h2.perm.mem_iff.mp hu)
      obtain ⟨n, hn⟩ := hn
      have hb : SrtO.Stb (ltP k) (out.map backV) xs := by
        rw [e1]
        exact SrtO.Stb.map (ltP_swo k) backV h2
      refine ⟨.ref d, upd H d (.lst (out.map backV)), I.laid (t' := s.toks) kp hd ⟨?_, out, n, vals_back h3, hn⟩, rfl, q _ d (SrtO.srtd_map h1) hb (I.hok.fresh hd)⟩
      rw [hb.len]
      exact hz
    rcases hl with hl | hl
    · exact SrtO.sorted_pairsO (k := fun u => k (backV u)) hl (by rw [← rv.length]; exact hz) hp fin
    · exact sorted_pairsT (k := fun u => k (backV u)) hl (by rw [← rv.length]; exact hz) hp fin
  rcases hs with hs | hs
  · obtain ⟨its, rv, hl, hz⟩ := I.list hs
    exact main its rv hz (.inl hl.isList)
  · obtain ⟨its, rv, hl, hz⟩ := I.tuple hs
    exact main its rv hz (.inr hl)
end
/-! ### there is just one such list -/
theorem sorted_uniq {α : Type} {r : α → α → Prop} (anti : ∀ a b, r a b → r b a → a = b) : ∀ {l m : List α}, l.Perm m → l.Pairwise r → m.Pairwise r → l = m
  | [], m, p, _, _ => (List.Perm.nil_eq p)
  | a :: l, [], p, _, _ => absurd p.length_eq (by simp)
  | a :: l, b :: m, p, hl, hm => by
    have h1 : a = b := by
      have ha : a ∈ b :: m := p.subset (List.mem_cons_self)
      have hb : b ∈ a :: l := p.symm.subset (List.mem_cons_self)
      rcases List.mem_cons.mp ha with e | ha
      · exact e
      · rcases List.mem_cons.mp hb with e | hb
        · exact e.symm
        · exact anti a b ((List.pairwise_cons.mp hl).1 b hb) ((List.pairwise_cons.mp hm).1 a ha)
    subst h1
    rw [sorted_uniq anti p.cons_inv (List.pairwise_cons.mp hl).2 (List.pairwise_cons.mp hm).2]
theorem insBy_perm {α : Type} (le : α → α → Bool) (x : α) : ∀ l : List α, (insBy le x l).Perm (x :: l)
  | [] => .refl _
  | y :: r => by
    unfold insBy
    split
    · exact .refl _
    · exact ((insBy_perm le x r).cons y).trans (.swap x y r)
theorem sortBy_perm {α : Type} (le : α → α → Bool) : ∀ l : List α, (sortBy le l).Perm l
  | [] => .refl _
  | x :: r => (insBy_perm le x (sortBy le r)).trans ((sortBy_perm le r).cons x)
theorem insBy_sorted {α : Type} {le : α → α → Bool} (tot : ∀ a b, le a b = false → le b a = true) (tr : ∀ a b c, le a b = true → le b c = true → le a c = true) (x : α) :
    ∀ l : List α, l.Pairwise (fun a b => le a b = true) → (insBy le x l).Pairwise (fun a b => le a b = true)
  | [], _ => by simp [insBy]
  | y :: r, h => by
    obtain ⟨h1, h2⟩ := List.pairwise_cons.mp h
    unfold insBy
    split
    · rename_i hxy
      refine List.pairwise_cons.mpr ⟨fun z hz => ?_, h⟩
      rcases List.mem_cons.mp hz with rfl | hz
      · exact hxy
      · exact tr x y z hxy (h1 z hz)
    · rename_i hxy
      refine List.pairwise_cons.mpr ⟨fun z hz => ?_, insBy_sorted tot tr x r h2⟩
      rcases List.mem_cons.mp ((insBy_perm le x r).subset hz) with rfl | hz
      · exact tot z y (by simpa using hxy)
      · exact h1 z hz
theorem sortBy_sorted {α : Type} {le : α → α → Bool} (tot : ∀ a b, le a b = false → le b a = true) (tr : ∀ a b c, le a b = true → le b c = true → le a c = true) : ∀ l : List α, (sortBy le l).Pairwise (fun a b => le a b = true)
  | [] => .nil
  | x :: r => insBy_sorted tot tr x _ (sortBy_sorted tot tr r)
theorem leI_tot (a b : Int) (h : leI a b = false) : leI b a = true := by
  simp only [leI, decide_eq_false_iff_not, decide_eq_true_eq] at h ⊢
  omega
theorem leI_tr (a b c : Int) (h : leI a b = true) (h2 : leI b c = true) : leI a c = true := by
  simp only [leI, decide_eq_true_eq] at h h2 ⊢
  omega
theorem leP_iff (a b : Int × Int) : leP a b = true ↔ a.1 < b.1 ∨ (a.1 = b.1 ∧ a.2 ≤ b.2) := by
  simp only [leP, Bool.or_eq_true, Bool.and_eq_true, decide_eq_true_eq]
theorem leP_tot (a b : Int × Int) (h : leP a b = false) : leP b a = true := by
  rw [leP_iff]
  have : ¬ (a.1 < b.1 ∨ (a.1 = b.1 ∧ a.2 ≤ b.2)) := by
    rw [← leP_iff, h]
    exact Bool.false_ne_true
  omega
theorem leP_tr (a b c : Int × Int) (h : leP a b = true) (h2 : leP b c = true) : leP a c = true := by
  rw [leP_iff] at *
  omega
theorem leP_anti (a b : Int × Int) (h : leP a b = true) (h2 : leP b a = true) : a = b := by
  rw [leP_iff] at *
  exact Prod.ext (by omega) (by omega)
theorem sorted_ints {ns ns' : List Int} (p : ns'.Perm ns) (s : ns'.Pairwise (· ≤ ·)) : ns' = sortBy leI ns :=
  sorted_uniq (r := fun a b => a ≤ b) (fun a b h1 h2 => Int.le_antisymm h1 h2) (p.trans (sortBy_perm leI ns).symm) s ((sortBy_sorted leI_tot leI_tr ns).imp fun h => by simpa [leI] using h)
-- a pair of ints at v
def PairV (K : PySem.W.Frag) (H : Hp) (v : V) (p : Int × Int) : Prop := ∃ t, v = .ref t ∧ SqT K H t [.int p.1, .int p.2]
def PairsV (K : PySem.W.Frag) (H : Hp) : List V → List (Int × Int) → Prop
  | [], ps => ps = []
  | v :: vs, ps => ∃ p r, ps = p :: r ∧ PairV K H v p ∧ PairsV K H vs r
theorem PairsV.mem {K : PySem.W.Frag} {H : Hp} : ∀ {vs : List V} {ps : List (Int × Int)}, PairsV K H vs ps → ∀ v ∈ vs, ∃ p, PairV K H v p
  | [], _, _, v, h => absurd h (by simp)
  | w :: vs, _, q, v, h => by
    obtain ⟨p, r, rfl, q1, q2⟩ := q
    rcases List.mem_cons.mp h with rfl | h
    · exact ⟨p, q1⟩
    · exact PairsV.mem q2 v h
section
variable {X : Cx}
def rSrtQ (K : PySem.W.Frag) : List V → Hp → VK → Prop := fun vs H Q => ∃ (a : Addr) (xs : List V) (ps : List (Int × Int)), vs = [V.ref a] ∧ (SqL K H a xs ∨ SqT K H a xs) ∧ PairsV K H xs ps ∧
  ∀ ys p, PairsV K H ys (sortBy leP ps) → H p = none → Q (.ref p) (upd H p (.lst ys))
open Classical in
theorem cr_srtQ : CallR X (.builtin "sorted") (rSrtQ X.K) := by
  intro pins s σ H vs us Q I r h
  obtain ⟨a, xs, ps, rfl, hs, hp, q⟩ := h
  let k : V → Int × Int := fun v => if z : ∃ p, PairV X.K H v p then z.choose else (0, 0)
  have kp : ∀ v p, PairV X.K H v p → k v = p := fun v p hv => by
    have z : ∃ p, PairV X.K H v p := ⟨p, hv⟩
    have e : k v = z.choose := dif_pos z
    obtain ⟨t, e1, s1⟩ := z.choose_spec
    obtain ⟨t2, e2, s2⟩ := hv
    rw [e1] at e2
    cases e2
    have e3 := I.tuple_inj s1 s2
    simp only [List.cons.injEq, V.int.injEq, and_true] at e3
    rw [e]
    exact Prod.ext e3.1 e3.2
  have kps : ∀ {vs : List V} {ps : List (Int × Int)}, PairsV X.K H vs ps → vs.map k = ps := by
    intro vs
    induction vs with
    | nil => intro ps e; exact e.symm
    | cons v vs ih =>
      intro ps e
      obtain ⟨p, r, rfl, q1, q2⟩ := e
      rw [List.map_cons, kp v p q1, ih q2]
  refine cr_srtP pins s σ H _ us Q I r ⟨a, xs, k, rfl, hs, fun x hx => ?_, fun ys p h1 h2 hpn => q ys p ?_ hpn⟩
  · obtain ⟨p, hv⟩ := hp.mem x hx
    rw [kp x p hv]
    exact hv
  · have e1 : ys.map k = sortBy leP ps := by
      refine sorted_uniq (r := fun a b => leP a b = true) leP_anti ?_ ?_ (sortBy_sorted leP_tot leP_tr ps)
      · rw [← kps hp]
        exact (h2.perm.map k).trans (sortBy_perm leP _).symm
      · rw [List.pairwise_map]
        refine List.Pairwise.imp (fun {v w} z => ?_) h1
        have z' : SrtO.lexB (k w) (k v) = false := z
        rw [SrtO.lexB_no] at z'
        rw [leP_iff]
        omega
    rw [← e1]
    have all : ∀ v ∈ ys, PairV X.K H v (k v) := fun v hv => by
      obtain ⟨p, hp'⟩ := hp.mem v (h2.perm.mem_iff.mp hv)
      rw [kp v p hp']
      exact hp'
    clear e1 h1 h2 hpn
    induction ys with
    | nil => rfl
    | cons v vs ih => exact ⟨k v, _, rfl, all v (by simp), ih fun w hw => all w (by simp [hw])⟩
end
end MP

/-! MP.Snd10: built-in functions over sequences, methods, new places; all expressions. -/
namespace MP
open PySem PySem.Spec PyProof.Rows L2

section
variable {K : PySem.W.Frag} {μ : Mu} {n : Nat} {H : Hp}
theorem ints_V : ∀ {l : List D} {vs : List V} {ns : List Int}, RDs K μ n H l vs → MP.intsD l = some ns → vs = ns.map V.int
  | [], vs, ns, q, e => by
    simp only [RDs] at q
    subst q
    cases e
    rfl
  | d :: l, vs, ns, q, e => by
    simp only [RDs] at q
    obtain ⟨v, r, rfl, q1, q2⟩ := q
    cases d with
    | int i =>
      simp only [MP.intsD] at e
      cases c : MP.intsD l with
      | none => rw [c] at e; cases e
      | some ms =>
        rw [c] at e
        cases e
        cases q1
        rw [ints_V q2 c]
        rfl
    | _ => cases e
theorem bools_V : ∀ {l : List D} {vs : List V} {ns : List Bool}, RDs K μ n H l vs → bools l = some ns → vs = ns.map V.bl
  | [], vs, ns, q, e => by
    simp only [RDs] at q
    subst q
    cases e
    rfl
  | d :: l, vs, ns, q, e => by
    simp only [RDs] at q
    obtain ⟨v, r, rfl, q1, q2⟩ := q
    cases d with
    | bl i =>
      simp only [bools] at e
      cases c : bools l with
      | none => rw [c] at e; cases e
      | some ms =>
        rw [c] at e
        cases e
        cases q1
        rw [bools_V q2 c]
        rfl
    | _ => cases e
theorem ints_D (ns : List Int) : RDs K μ n H (ns.map D.int) (ns.map V.int) := by
  induction ns with
  | nil => simp only [List.map_nil, RDs]
  | cons i ns ih =>
    simp only [List.map_cons, RDs]
    exact ⟨_, _, rfl, rfl, ih⟩
theorem pairs_V : ∀ {l : List D} {vs : List V} {ps : List (Int × Int)}, RDs K μ n H l vs → pairs l = some ps → PairsV K H vs ps
  | [], vs, ns, q, e => by
    simp only [RDs] at q
    subst q
    cases e
    rfl
  | d :: l, vs, ns, q, e => by
    simp only [RDs] at q
    obtain ⟨v, r, rfl, q1, q2⟩ := q
    unfold pairs at e
    split at e
    · rename_i hq
      cases hq
    · rename_i i j r' hq
      cases hq
      cases c : pairs l with
      | none => rw [c] at e; cases e
      | some ms =>
        rw [c] at e
        cases e
        simp only [RD] at q1
        obtain ⟨a, us, rfl, s, t⟩ := q1
        simp only [RDs] at t
        obtain ⟨x, _, rfl, e1, y, _, rfl, e2, rfl⟩ := t
        cases e1
        cases e2
        exact ⟨_, _, rfl, ⟨a, rfl, s⟩, pairs_V q2 c⟩
    · cases e
theorem pairs_D : ∀ {vs : List V} {ps : List (Int × Int)}, PairsV K H vs ps → RDs K μ n H (ps.map pairD) vs
  | [], ps, q => by
    cases q
    simp only [List.map_nil, RDs]
  | v :: vs, ps, q => by
    obtain ⟨p, r, rfl, ⟨t, rfl, s⟩, q2⟩ := q
    simp only [List.map_cons, RDs, pairD, RD]
    refine ⟨_, _, rfl, ⟨t, _, rfl, s, _, _, rfl, rfl, _, _, rfl, rfl, rfl⟩, ?_⟩
    exact pairs_D q2
end
section
variable {P : PInfo} {Φ : Nat → List D → Heap → Res R} {G : Nat → Option D} {k : Nat}
-- a sequence, read: the items and where they stand
theorem intKs_V : ∀ {ks : List (Sum Int Str)} {ns : List Int}, intKs ks = some ns → ks = ns.map Sum.inl
  | [], ns, e => by cases e; rfl
  | .inl i :: r, ns, e => by
    simp only [intKs] at e
    cases c : intKs r with
    | none => rw [c] at e; cases e
    | some m =>
      rw [c] at e
      cases e
      rw [intKs_V c]
      rfl
  | .inr _ :: _, ns, e => by cases e
theorem RDs.zipl {K : PySem.W.Frag} {μ : Mu} {n : Nat} {H : Hp} : ∀ {ks : List (Sum Int Str)} {vs : List D} {us : List V}, RDs K μ n H vs us → ks.length = us.length → (ks.zip vs).map (·.1) = ks ∧ (ks.zip vs).map (·.2) = vs
  | [], [], us, q, e => ⟨rfl, rfl⟩
  | [], d :: vs, us, q, e => by
    have := q.length
    simp only [List.length_cons, List.length_nil] at this e
    omega
  | k :: ks, [], us, q, e => by
    have := q.length
    simp only [List.length_cons, List.length_nil] at this e
    omega
  | k :: ks, d :: vs, us, q, e => by
    simp only [RDs] at q
    obtain ⟨v, r, rfl, _, q2⟩ := q
    obtain ⟨a, b⟩ := RDs.zipl (ks := ks) q2 (by simpa using e)
    simp only [List.zip_cons_cons, List.map_cons, a, b, and_self]
theorem dic_of {K : PySem.W.Frag} {μ : Mu} {h : Heap} {H : Hp} {d : D} {v : V} {l : List (Sum Int Str × D)} (r : HR K μ h H) (q : RD K μ h.length H d v) (e : dicOf h d = some l) :
    ∃ (a : Addr) (kvs : List (Key × V)), v = .ref a ∧ Rd H a (.dK kvs) ∧ kvs.map (·.1) = l.map (·.1) ∧ RDs K μ h.length H (l.map (·.2)) (kvs.map (·.2)) := by
  cases d with
  | dic ks vs =>
    cases e
    simp only [RD] at q
    obtain ⟨a, kvs, rfl, s, ek, t⟩ := q
    obtain ⟨z1, z2⟩ := RDs.zipl (ks := ks) t (by rw [← ek]; simp)
    exact ⟨a, kvs, rfl, s.1, by rw [z1, ek], by rw [z2]; exact t⟩
  | loc p =>
    simp only [dicOf] at e
    cases c : h[p]? with
    | none => rw [c] at e; cases e
    | some o =>
      rw [c] at e
      cases o with
      | lst _ => cases e
      | dic m =>
        cases e
        obtain ⟨kvs, e1, ek, t⟩ := r.ob p _ c
        simp only [RD] at q
        exact ⟨_, kvs, q.2, .inl e1, ek, t⟩
  | _ => cases e
theorem seqIt_of {K : PySem.W.Frag} {μ : Mu} {h : Heap} {H : Hp} {d : D} {v : V} {its : Items} {h' : Heap} (r : HR K μ h H) (q : RD K μ h.length H d v) (e : seqIt d h = some (.ok its h')) :
    h' = h ∧ ∃ a vs, v = .ref a ∧ RDs K μ h.length H its.1 vs ∧ ((SqL K H a vs) ∨ (SqT K H a vs ∧ d = .tup its.1)) := by
  cases d with
  | tup l =>
    cases e
    simp only [RD] at q
    obtain ⟨a, vs, rfl, s, t⟩ := q
    exact ⟨rfl, a, vs, rfl, t, .inr ⟨s, rfl⟩⟩
  | lst l =>
    cases e
    simp only [RD] at q
    obtain ⟨a, vs, rfl, s, t⟩ := q
    exact ⟨rfl, a, vs, rfl, t, .inl s.sq⟩
  | scr l =>
    cases e
    simp only [RD] at q
    obtain ⟨a, vs, rfl, s, t⟩ := q
    exact ⟨rfl, a, vs, rfl, t, .inl s.sqk⟩
  | loc p =>
    simp only [seqIt] at e
    cases c : h[p]? with
    | none => rw [c] at e; cases e
    | some o =>
      rw [c] at e
      cases o with
      | dic _ => cases e
      | lst m =>
        cases e
        obtain ⟨vs, e1, t⟩ := r.ob p _ c
        simp only [RD] at q
        exact ⟨rfl, _, vs, q.2, t, .inl (.inl (.inl e1))⟩
  | _ => cases e
def seqB (f : BI) (d : D) (h : Heap) : Res R := bd (seqIt d h) fun it h => ofO (bi f it.1) h
theorem bi_args {K : PySem.W.Frag} {W : XK} {μ : Mu} {h : Heap} {H : Hp} {f : BI} {d : D} {v : V} {Q : VK} (hr : HR K μ h H) (q : RD K μ h.length H d v) (F : Fin K W (RR K) μ h H (seqB f d h) Q) :
    ∃ a vs l, v = .ref a ∧ RDs K μ h.length H l vs ∧ (SqL K H a vs ∨ (SqT K H a vs ∧ d = .tup l)) ∧ ∃ r, bi f l = some r ∧ ∀ v' H' μ', Post K μ h H μ' h H' → RR K μ' h H H' r v' → Q v' H' := by
  unfold seqB at F
  cases c : seqIt d h with
  | none => rw [c] at F; exact F.elim
  | some o =>
    rw [c] at F
    cases o with
    | exc x h' =>
      exfalso
      cases d <;> first | (cases c; done) | (simp only [seqIt] at c; split at c <;> cases c)
    | ok its h' =>
      obtain ⟨rfl, a, vs, rfl, t, s⟩ := seqIt_of hr q c
      simp only [bd_ok, ofO] at F
      cases e : bi f its.1 with
      | none => rw [e] at F; exact F.elim
      | some r =>
        rw [e] at F
        exact ⟨a, vs, its.1, rfl, t, s, r, e, F⟩
theorem callR_seq {X : Cx} {W : XK} (gd : Good P Φ G k X W) (f : BI) : CallR X (match f with
    | .tuple => .type "tuple"
    | .list => .type "list"
    | .sum => .builtin "sum"
    | .all => .builtin "all"
    | .any => .builtin "any"
    | .sorted => .builtin "sorted") (fun xs H Q => ∃ v, xs = [v] ∧ r1 X.K W (seqB f) v H Q) := by
  cases f with
  | tuple =>
    refine CallR_imp call_tuple_of fun xs H Q ⟨v, e, μ, h, d, hr, q, F⟩ => ?_
    subst e
    obtain ⟨a, vs, l, rfl, t, s, r, e, kf⟩ := bi_args hr q F
    simp only [bi] at e
    split at e <;> first | (cases e; done) | skip
    cases e
    rcases s with s | ⟨s, rfl⟩
    · refine ⟨a, vs, rfl, .inl ⟨s, fun p hp => ?_⟩⟩
      have Pn := Post.new (o := .tup vs) hr hp
      refine kf _ _ μ Pn ?_
      show RD X.K μ h.length _ (.tup l) (.ref p)
      simp only [RD]
      exact ⟨p, vs, rfl, .inl (.inl upd_same), RDs.mono Pn hr _ _ t⟩
    · exact ⟨a, vs, rfl, .inr ⟨s, kf _ _ μ (Post.refl hr) q⟩⟩
  | list =>
    refine CallR_imp call_list_of fun xs H Q ⟨v, e, μ, h, d, hr, q, F⟩ => ?_
    subst e
    obtain ⟨a, vs, l, rfl, t, s, r, e, kf⟩ := bi_args hr q F
    simp only [bi] at e
    split at e <;> first | (cases e; done) | skip
    cases e
    refine ⟨a, vs, rfl, s.imp id (·.1), fun p hp => ?_⟩
    have Pn := Post.new (o := .lst vs) hr hp
    exact kf _ _ μ Pn (RR.mk hr hp hp t)
  | sum =>
    refine CallR_imp (CallR.or (cr_sum gd.calm) (cr_sumT gd.calm)) fun xs H Q ⟨v, e, μ, h, d, hr, q, F⟩ => ?_
    subst e
    obtain ⟨a, vs, l, rfl, t, s, r, e, kf⟩ := bi_args hr q F
    simp only [bi] at e
    cases c : MP.intsD l with
    | none => rw [c] at e; cases e
    | some ns =>
      rw [c] at e
      cases e
      have ev := ints_V t c
      subst ev
      rcases s with s | ⟨s, _⟩
      · exact .inl ⟨a, ns, rfl, s, kf _ _ μ (Post.refl hr) rfl⟩
      · exact .inr ⟨a, ns, rfl, s, kf _ _ μ (Post.refl hr) rfl⟩
  | all =>
    refine CallR_imp (CallR.or (cr_all gd.calm) (cr_allT gd.calm)) fun xs H Q ⟨v, e, μ, h, d, hr, q, F⟩ => ?_
    subst e
    obtain ⟨a, vs, l, rfl, t, s, r, e, kf⟩ := bi_args hr q F
    simp only [bi] at e
    cases c : bools l with
    | none => rw [c] at e; cases e
    | some ns =>
      rw [c] at e
      cases e
      have ev := bools_V t c
      subst ev
      rcases s with s | ⟨s, _⟩
      · exact .inl ⟨a, ns, rfl, s, kf _ _ μ (Post.refl hr) rfl⟩
      · exact .inr ⟨a, ns, rfl, s, kf _ _ μ (Post.refl hr) rfl⟩
  | any =>
    refine CallR_imp (CallR.or (cr_any gd.calm) (cr_anyT gd.calm)) fun xs H Q ⟨v, e, μ, h, d, hr, q, F⟩ => ?_
    subst e
    obtain ⟨a, vs, l, rfl, t, s, r, e, kf⟩ := bi_args hr q F
    simp only [bi] at e
    cases c : bools l with
    | none => rw [c] at e; cases e
    | some ns =>
      rw [c] at e
      cases e
      have ev := bools_V t c
      subst ev
      rcases s with s | ⟨s, _⟩
      · exact .inl ⟨a, ns, rfl, s, kf _ _ μ (Post.refl hr) rfl⟩
      · exact .inr ⟨a, ns, rfl, s, kf _ _ μ (Post.refl hr) rfl⟩
  | sorted =>
    refine CallR_imp (CallR.or cr_srtI cr_srtQ) fun xs H Q ⟨v, e, μ, h, d, hr, q, F⟩ => ?_
    subst e
    obtain ⟨a, vs, l, rfl, t, s, r, e, kf⟩ := bi_args hr q F
    simp only [bi, sortD] at e
    cases c : MP.intsD l with
    | some ns =>
      rw [c] at e
      cases e
      have ev := ints_V t c
      subst ev
      refine .inl ⟨a, ns, rfl, s.imp id (·.1), fun ns' p h1 h2 hp => ?_⟩
      rw [sorted_ints h1 h2]
      have Pn := Post.new (o := .lst ((sortBy leI ns).map V.int)) hr hp
      exact kf _ _ μ Pn (RR.mk hr hp hp (ints_D _))
    | none =>
      rw [c] at e
      cases c2 : pairs l with
      | none => rw [c2] at e; cases e
      | some ps =>
        rw [c2] at e
        cases e
        refine .inr ⟨a, vs, ps, rfl, s.imp id (·.1), pairs_V t c2, fun ys p hy hp => ?_⟩
        have Pn := Post.new (o := .lst ys) hr hp
        exact kf _ _ μ Pn (RR.mk hr hp hp (pairs_D hy))
theorem callR_srtD {X : Cx} {W : XK} (gd : Good P Φ G k X W) : CallR X (.builtin "sorted") (fun xs H Q => ∃ v, xs = [v] ∧ r1 X.K W srtDM v H Q) := by
  refine CallR_imp (call_sortedDI gd.calm) fun xs H Q ⟨v, e, μ, h, d, hr, q, F⟩ => ?_
  subst e
  unfold srtDM at F
  cases c : dicOf h d with
  | none => rw [c] at F; exact F.elim
  | some l =>
    rw [c] at F
    cases c2 : intKs (l.map (·.1)) with
    | none => simp only [c2] at F; exact F.elim
    | some ks =>
      simp only [c2] at F
      split at F
      · rename_i h64
        obtain ⟨a, kvs, rfl, s, ek, t⟩ := dic_of hr q c
        refine ⟨a, kvs, ks, rfl, s, by rw [ek, intKs_V c2], h64, fun ys p h1 h2 hp => ?_⟩
        rw [sorted_ints h1 h2]
        have Pn := Post.new (o := .lst ((sortBy leI ks).map V.int)) hr hp
        exact F.okP Pn (RR.mk hr hp hp (ints_D _))
      · exact F.elim
theorem se_srtD (a : E) (ha : SE P Φ G k a) : SE P Φ G k (.srtD a) := fun X W x gd hc => by
  simp only [chk] at hc
  split at hc
  · rename_i n p a' pos
    simp only [Bool.and_eq_true, decide_eq_true_eq] at hc
    obtain ⟨rfl, h2, h3⟩ := hc
    obtain ⟨hg, hdb, hn⟩ := gloB_ok h2
    have hs := chk_shape h3
    have hpa := pa_cons (ha X W a' gd h3).1 pa_nil (shape_star hs _ _)
    have e : eval Φ G (.srtD a) = fun g h => bd (eval Φ G a g h) fun r h => srtDM r.frz h := by
      funext g h
      simp only [eval]
    have pe : PE X (.Call (.Name "sorted" p) [a'] [] pos) (rE X.K W (eval Φ G (.srtD a))) := by
      rw [e]
      exact PE_imp (pe_callB (callR_srtD gd) hg (gd.blt _ (by decide)) boot_sorted' hpa hn hdb (shape_star hs _ _) rfl) fun σ H Q q => rd_arg1 q fun μ h H d v hr q1 F => ⟨v, rfl, μ, h, d, hr, q1, F⟩
    exact ⟨pe, pt_plain pe rfl⟩
  · cases hc
theorem se_dct : SE P Φ G k .dct := fun X W x gd hc => by
  simp only [chk] at hc
  split at hc
  · rename_i pos
    have pe : PE X (.Dict [] [] pos) (rE X.K W (eval Φ G .dct)) := by
      refine PE_imp pe_dnewK fun σ H Q ⟨μ, g, h, r, er, F⟩ p hp => ?_
      simp only [eval] at F
      have Pn := Post.new (o := .dK []) r hp
      exact F (.ref p) _ μ Pn (RR.mkD r hp hp rfl (by simp only [List.map_nil, RDs]))
    exact ⟨pe, pt_plain pe rfl⟩
  · cases hc
theorem boot_bi (f : BI) : bootBuiltins (biN f) = some (match f with
    | .tuple => .type "tuple"
    | .list => .type "list"
    | .sum => .builtin "sum"
    | .all => .builtin "all"
    | .any => .builtin "any"
    | .sorted => .builtin "sorted") := by cases f <;> decide +kernel
theorem se_bi_of (f : BI) (a : E) (ha : SE P Φ G k a) : SE P Φ G k (.bi f (.of a)) := fun X W x gd hc => by
  simp only [chk, chkI] at hc
  split at hc
  · rename_i n p a' pos
    simp only [Bool.and_eq_true, decide_eq_true_eq] at hc
    obtain ⟨rfl, _, h2, h3⟩ := hc
    obtain ⟨hg, hdb, hn⟩ := gloB_ok h2
    have hs := chk_shape h3
    have hpa := pa_cons (ha X W a' gd h3).1 pa_nil (shape_star hs _ _)
    have e : eval Φ G (.bi f (.of a)) = fun g h => bd (eval Φ G a g h) fun r h => seqB f r.frz h := by
      funext g h
      simp only [eval, items, bd_assoc, seqB]
    have hm : X.mg (biN f) = none := gd.blt _ (by cases f <;> decide)
    have hc := callR_seq gd f
    have hb := boot_bi f
    have pe : PE X (.Call (.Name (biN f) p) [a'] [] pos) (rE X.K W (eval Φ G (.bi f (.of a)))) := by
      rw [e]
      have fin : ∀ σ H Q, rE X.K W (fun g h => bd (eval Φ G a g h) fun r h => seqB f r.frz h) σ H Q → tCB (fun xs H Q => ∃ v, xs = [v] ∧ r1 X.K W (seqB f) v H Q) (tCons (rE X.K W (eval Φ G a)) tNil) σ H Q :=
        fun σ H Q q => rd_arg1 q fun μ h H d v hr q1 F => ⟨v, rfl, μ, h, d, hr, q1, F⟩
      cases f with
      | tuple => exact PE_imp (pe_callTy hc hg hm hb hpa hn hdb (shape_star hs _ _) rfl) fin
      | list => exact PE_imp (pe_callTy hc hg hm hb hpa hn hdb (shape_star hs _ _) rfl) fin
      | sum => exact PE_imp (pe_callB hc hg hm hb hpa hn hdb (shape_star hs _ _) rfl) fin
      | all => exact PE_imp (pe_callB hc hg hm hb hpa hn hdb (shape_star hs _ _) rfl) fin
      | any => exact PE_imp (pe_callB hc hg hm hb hpa hn hdb (shape_star hs _ _) rfl) fin
      | sorted => exact PE_imp (pe_callB hc hg hm hb hpa hn hdb (shape_star hs _ _) rfl) fin
    exact ⟨pe, pt_plain pe rfl⟩
  · cases hc
end
end MP

/-! MP.Snd11: ranges made lists, methods of lists, new places; all expressions. -/
namespace MP
open PySem PySem.Spec PyProof.Rows L2

theorem atN_same (n : Nat) (i : Int) : L2.ixN n i = atN n i := by
  unfold L2.ixN atN
  by_cases h0 : 0 ≤ i
  · rw [if_pos h0, if_pos h0]
    by_cases h1 : i < n
    · rw [if_pos h1, if_pos (by omega)]
    · rw [if_neg h1, if_neg (by omega)]
  · rw [if_neg h0, if_neg h0]
section
variable {P : PInfo} {Φ : Nat → List D → Heap → Res R} {G : Nat → Option D} {k : Nat}

/-! ### ranges -/
theorem rg_D {K : PySem.W.Frag} {μ : Mu} {n : Nat} {H : Hp} (a b : Int) : RDs K μ n H (rangeD a b) (rgV a b) := by
  have gen : ∀ l : List Nat, RDs K μ n H (l.map fun (k : Nat) => D.int (a + (k : Int))) (l.map fun i => V.int (a + (i : Nat))) := by
    intro l
    induction l with
    | nil => simp only [List.map_nil, RDs]
    | cons i l ih =>
      simp only [List.map_cons, RDs]
      exact ⟨_, _, rfl, rfl, ih⟩
  exact gen _
theorem rangeD_len (a b : Int) : (rangeD a b).length = (b - a).toNat := by
  unfold rangeD
  rw [List.length_map, List.length_range]
def rgB (f : BI) (a b : Int) (h : Heap) : Res R := if small a && small b then ofO (bi f (rangeD a b)) h else none
theorem prg_imp {X : Cx} {e : Expr} {t t' : L2.St → Hp → (Int → Int → Hp → Prop) → Prop} (p : PRg X e t) (i : ∀ σ H Q, t' σ H Q → t σ H Q) : PRg X e t' := fun pins s σ H Q I q => p pins s σ H Q I (i σ H Q q)
theorem rg_fin {K : PySem.W.Frag} {W : XK} {μ : Mu} {h : Heap} {H : Hp} {f : BI} {a b : Int} {Q : VK} (hf : f = .tuple ∨ f = .list) (hr : HR K μ h H) (F : Fin K W (RR K) μ h H (rgB f a b h) Q) :
    RgOk a b ∧ ∀ q, H q = none → Q (.ref q) (upd H q (if f = .tuple then .tup (rgV a b) else .lst (rgV a b))) := by
  unfold rgB at F
  split at F
  · rename_i hs
    simp only [Bool.and_eq_true] at hs
    obtain ⟨b1, b2⟩ := small_ok hs.1
    obtain ⟨b3, b4⟩ := small_ok hs.2
    rcases hf with rfl | rfl
    · simp only [bi] at F
      split at F
      · rename_i hl
        rw [rangeD_len] at hl
        refine ⟨⟨b1, b2, b3, b4, by simpa using hl⟩, fun q hq => ?_⟩
        simp only [if_true]
        have Pn := Post.new (o := .tup (rgV a b)) hr hq
        refine F.okP Pn ?_
        show RD K μ h.length _ (.tup (rangeD a b)) (.ref q)
        simp only [RD]
        exact ⟨q, _, rfl, .inl (.inl upd_same), rg_D a b⟩
      · exact F.elim
    · simp only [bi] at F
      split at F
      · rename_i hl
        rw [rangeD_len] at hl
        refine ⟨⟨b1, b2, b3, b4, by simpa using hl⟩, fun q hq => ?_⟩
        simp only [reduceCtorEq, if_false]
        have Pn := Post.new (o := .lst (rgV a b)) hr hq
        exact F.okP Pn (RR.mk hr hq hq (rg_D a b))
      · exact F.elim
  · exact F.elim
theorem se_bi_rg {X : Cx} {W : XK} {f : BI} (gd : Good P Φ G k X W) (hf : f = .tuple ∨ f = .list) {p pos : Pos} {x : Expr} {t : L2.St → Hp → (Int → Int → Hp → Prop) → Prop} {m : Env → Heap → Res R} (h2 : gloB X.env.scope (biN f) = true) (hs : shape x = true) (hp : PRg X x t)
    (ht : ∀ σ H Q, rE X.K W m σ H Q → t σ H fun a b H1 => RgOk a b ∧ ∀ q, H1 q = none → Q (.ref q) (upd H1 q (if f = .tuple then .tup (rgV a b) else .lst (rgV a b)))) :
    PE X (.Call (.Name (biN f) p) [x] [] pos) (rE X.K W m) := by
  obtain ⟨hg, _, _⟩ := gloB_ok h2
  rcases hf with rfl | rfl
  · refine PE_imp (pe_tupRg gd.calm hg (gd.blt _ (by decide)) hp (shape_star hs _ _)) fun σ H Q q => ?_
    have z := ht σ H Q q
    simp only [if_true] at z
    exact z
  · refine PE_imp (pe_listRg gd.calm hg (gd.blt _ (by decide)) hp (shape_star hs _ _)) fun σ H Q q => ?_
    have z := ht σ H Q q
    simp only [reduceCtorEq, if_false] at z
    exact z
theorem biOk_rg {f : BI} {a : E} (h : biOk f (.range1 a) = true) : f = .tuple ∨ f = .list := by
  cases f <;> first | exact .inl rfl | exact .inr rfl | cases h
theorem biOk_rg2 {f : BI} {a b : E} (h : biOk f (.range2 a b) = true) : f = .tuple ∨ f = .list := by
  cases f <;> first | exact .inl rfl | exact .inr rfl | cases h
theorem se_bi_r1 (f : BI) (a : E) (ha : SE P Φ G k a) : SE P Φ G k (.bi f (.range1 a)) := fun X W x gd hc => by
  simp only [chk, chkI] at hc
  split at hc
  · rename_i n p x' pos
    simp only [Bool.and_eq_true, decide_eq_true_eq] at hc
    obtain ⟨rfl, hb, h2, h3⟩ := hc
    split at h3
    · rename_i n2 p2 a' pos2
      simp only [Bool.and_eq_true, decide_eq_true_eq] at h3
      obtain ⟨rfl, h4, h5⟩ := h3
      obtain ⟨hg, hdb, hn⟩ := gloB_ok h4
      have hs := chk_shape h5
      have pe : PE X (.Call (.Name (biN f) p) [.Call (.Name "range" p2) [a'] [] pos2] [] pos) (rE X.K W (eval Φ G (.bi f (.range1 a)))) := by
        refine se_bi_rg gd (biOk_rg hb) h2 rfl (prg_1 hg (gd.blt _ (by decide)) (ha X W a' gd h5).1 (shape_star hs _ _)) fun σ H Q q => ?_
        have e : eval Φ G (.bi f (.range1 a)) = fun g h => bd (eval Φ G a g h) fun r h => bd (range1It r.frz h) fun it h => ofO (bi f it.1) h := by
          funext g h
          simp only [eval, items, bd_assoc]
        rw [e] at q
        refine rd_bind (ρ := RR X.K) q back_RR fun μ1 g h1 H1 r v H0 hr er q1 F => ?_
        have q2 := q1.frz
        cases e1 : r.frz with
        | int i =>
          rw [e1] at q2 F
          cases q2
          have e2 : (bd (range1It (.int i) h1) fun it h => ofO (bi f it.1) h) = rgB f 0 i h1 := by
            have s0 : small 0 = true := by decide
            unfold rgB
            simp only [range1It, s0, Bool.true_and]
            split <;> rfl
          rw [e2] at F
          exact ⟨i, rfl, rg_fin (biOk_rg hb) hr F⟩
        | _ => rw [e1] at F; exact F.elim
      exact ⟨pe, pt_plain pe rfl⟩
    · cases h3
  · cases hc
theorem se_bi_r2 (f : BI) (a b : E) (ha : SE P Φ G k a) (hb' : SE P Φ G k b) : SE P Φ G k (.bi f (.range2 a b)) := fun X W x gd hc => by
  simp only [chk, chkI] at hc
  split at hc
  · rename_i n p x' pos
    simp only [Bool.and_eq_true, decide_eq_true_eq] at hc
    obtain ⟨rfl, hb, h2, h3⟩ := hc
    split at h3
    · rename_i n2 p2 a' b' pos2
      simp only [Bool.and_eq_true, decide_eq_true_eq] at h3
      obtain ⟨rfl, h4, h5, h6⟩ := h3
      obtain ⟨hg, hdb, hn⟩ := gloB_ok h4
      have hs := chk_shape h5
      have hs2 := chk_shape h6
      have pe : PE X (.Call (.Name (biN f) p) [.Call (.Name "range" p2) [a', b'] [] pos2] [] pos) (rE X.K W (eval Φ G (.bi f (.range2 a b)))) := by
        refine se_bi_rg gd (biOk_rg2 hb) h2 rfl (prg_2 hg (gd.blt _ (by decide)) (ha X W a' gd h5).1 (hb' X W b' gd h6).1 (shape_star hs _ _) (shape_star hs2 _ _) (by rw [shape_star hs2]; rfl)) fun σ H Q q => ?_
        have e : eval Φ G (.bi f (.range2 a b)) = fun g h => bd (eval Φ G a g h) fun r h => bd (eval Φ G b g h) fun q h => bd (range2It r.frz q.frz h) fun it h => ofO (bi f it.1) h := by
          funext g h
          simp only [eval, items, bd_assoc]
        rw [e] at q
        refine rd_bind (ρ := RR X.K) (ρ' := RR X.K) (k := fun g r h => bd (eval Φ G b g h) fun q h => bd (range2It r.frz q.frz h) fun it h => ofO (bi f it.1) h) q back_RR fun μ1 g h1 H1 r v H0 hr er q1 F => ?_
        refine ⟨μ1, g, h1, hr, er, F.bind fun r2 h2 v2 H2 μ2 P2 q2 F2 => ?_⟩
        have q3 := RD.mono P2 hr _ _ q1.frz
        have q4 := q2.frz
        have F3 := F2.from P2 back_RR
        cases e1 : r.frz with
        | int i =>
          cases e3 : r2.frz with
          | int j =>
            rw [e1] at q3 F3
            rw [e3] at q4 F3
            cases q3
            cases q4
            have e2 : (bd (range2It (.int i) (.int j) h2) fun it h => ofO (bi f it.1) h) = rgB f i j h2 := by
              unfold rgB
              simp only [range2It]
              split <;> rfl
            rw [e2] at F3
            exact ⟨i, j, rfl, rfl, rg_fin (biOk_rg2 hb) P2.hr F3⟩
          | _ => rw [e1, e3] at F3; exact F3.elim
        | _ => rw [e1] at F3; cases r2.frz <;> exact F3.elim
      exact ⟨pe, pt_plain pe rfl⟩
    · cases h3
  · cases hc

/-! ### methods of lists -/
theorem noCall0 {N : List Str} {sc : Scope} (n : Str) (p pos : Pos) : ∀ e : E, chk P N sc e (.Call (.Name n p) [] [] pos) = false
  | .alloc e => by
    have := noCall0 (N := N) (sc := sc) n p pos e
    simp only [chk, this, Bool.and_false]
  | .var _ | .c _ | .glob _ | .bin _ _ _ | .neg _ | .not _ | .cmp _ _ _ | .cmp2 _ _ _ _ _ | .and _ _ | .or _ _ | .ite _ _ _ | .tup _ | .lst _ | .ix _ _ | .slice _ _ _ _ _ | .call _ _ | .b1 _ _ | .b2 _ _ _ | .isinst _ _ | .bi _ _ | .lc _ _ _ _ _ | .meth _ _ _ | .dct | .srtD _ | .mkX _ _ _ | .isX _ _ _ _ | .xf _ _ _ => by simp only [chk]
theorem chk_base {N : List Str} {sc : Scope} {e : E} {o : Expr} (h : chk P N sc e o = true) (n : Str) (env : PySem.Env) (w : Sem Value) : attributeBase o n env w = w := by
  unfold attributeBase
  split
  · rename_i id p pos
    rw [noCall0] at h
    cases h
  · rfl
-- writing a place of the store
theorem RD.setm {K : PySem.W.Frag} {μ : Mu} {h : Heap} {H : Hp} (r : HR K μ h H) {p : Nat} (hp : p < h.length) {u : HO} :
    (∀ (d : D) (v : V), RD K μ h.length H d v → RD K μ h.length (upd H (μ p) u) d v) ∧ ∀ (ds : List D) (us : List V), RDs K μ h.length H ds us → RDs K μ h.length (upd H (μ p) u) ds us := by
  have tupk : ∀ a xs, SqT K H a xs → SqT K (upd H (μ p) u) a xs := fun a xs q => by
    rcases q with (q | ⟨o, q⟩) | q
    · exact .inl (.inl (by rw [upd_ne fun z => r.ne_tup q p hp z.symm]; exact q))
    · exact .inl (.inr ⟨o, by rw [upd_ne fun z => r.ne_frz q p hp z.symm]; exact q⟩)
    · exact .inr q
  have fzk : ∀ a w, Fz μ h.length H a w → Fz μ h.length (upd H (μ p) u) a w := fun a w q => by
    obtain ⟨q, ne, ns⟩ := q
    have na : a ≠ μ p := fun z => ne p hp z.symm
    refine ⟨?_, ne, ns⟩
    rcases q with q | ⟨o, q⟩
    · exact .inl (by rw [upd_ne na]; exact q)
    · exact .inr ⟨o, by rw [upd_ne na]; exact q⟩
  exact ⟨fun d v q => RD.gen tupk fzk (fun p hp _ => ⟨hp, rfl⟩) d v (RD.cl d v q) q, fun ds us q => RDs.gen tupk fzk (fun p hp _ => ⟨hp, rfl⟩) ds us (RDs.cl ds us q) q⟩
theorem Post.setO {K : PySem.W.Frag} {μ : Mu} {h : Heap} {H : Hp} (r : HR K μ h H) {p : Nat} (hp : p < h.length) {o : O} {u : HO} (t : RO K μ h.length (upd H (μ p) u) (μ p) o) :
    Post K μ h H μ (h.set p o) (upd H (μ p) u) := by
  have mono := (RD.setm (u := u) r hp).2
  have hl : (h.set p o).length = h.length := List.length_set
  refine ⟨by rw [hl]; exact Nat.le_refl _, fun _ z => z, fun _ z => .inl z, fun _ _ => rfl, ⟨fun a sa => ?_, fun a sa q hq => r.sp a sa q (by rwa [hl] at hq), fun a b ha hb => r.inj a b (by rwa [hl] at ha) (by rwa [hl] at hb), fun q o' e2 => ?_⟩, fun q h1 h2 => ?_, fun b o e2 ne => ?_⟩
  · by_cases ha : a = μ p
    · rw [ha, upd_same]; exact fun z => nomatch z
    · rw [upd_ne ha]; exact r.sn a sa
  · rw [hl]
    by_cases hq : p = q
    · subst hq
      rw [List.getElem?_set] at e2
      simp only [if_true, hp] at e2
      cases e2
      exact t
    · rw [List.getElem?_set_ne hq] at e2
      have hq2 : q < h.length := by
        rcases Nat.lt_or_ge q h.length with z | z
        · exact z
        · rw [List.getElem?_eq_none z] at e2; cases e2
      have := r.ob q o' e2
      cases o' with
      | lst m =>
        obtain ⟨us, e3, e4⟩ := this
        refine ⟨us, ?_, mono _ _ e4⟩
        rw [upd_ne]
        · exact e3
        · exact fun z => hq (r.inj q p hq2 hp z).symm
      | dic m =>
        obtain ⟨us, e3, ek, e4⟩ := this
        refine ⟨us, ?_, ek, mono _ _ e4⟩
        rw [upd_ne]
        · exact e3
        · exact fun z => hq (r.inj q p hq2 hp z).symm
  · rw [hl] at h2
    omega
  · rw [upd_ne fun z => ne p hp z.symm]
    exact e2
theorem Post.set {K : PySem.W.Frag} {μ : Mu} {h : Heap} {H : Hp} (r : HR K μ h H) {p : Nat} (hp : p < h.length) {l : List D} {vs : List V} (t : RDs K μ h.length H l vs) :
    Post K μ h H μ (h.set p (.lst l)) (upd H (μ p) (.lst vs)) := Post.setO r hp ⟨vs, upd_same, (RD.setm r hp).2 _ _ t⟩
theorem Post.setD {K : PySem.W.Frag} {μ : Mu} {h : Heap} {H : Hp} (r : HR K μ h H) {p : Nat} (hp : p < h.length) {l : List (Sum Int Str × D)} {kvs : List (Key × V)} (ek : kvs.map (·.1) = l.map (·.1)) (t : RDs K μ h.length H (l.map (·.2)) (kvs.map (·.2))) :
    Post K μ h H μ (h.set p (.dic l)) (upd H (μ p) (.dK kvs)) := Post.setO r hp ⟨kvs, upd_same, ek, (RD.setm r hp).2 _ _ t⟩
theorem RDs.app {K : PySem.W.Frag} {μ : Mu} {n : Nat} {H : Hp} : ∀ {l m : List D} {us vs : List V}, RDs K μ n H l us → RDs K μ n H m vs → RDs K μ n H (l ++ m) (us ++ vs)
  | [], m, us, vs, a, b => by
    simp only [RDs] at a
    subst a
    exact b
  | d :: l, m, us, vs, a, b => by
    simp only [RDs] at a
    obtain ⟨v, r, rfl, q, t⟩ := a
    simp only [List.cons_append, RDs]
    exact ⟨v, _, rfl, q, RDs.app t b⟩
theorem RDs.dropLast {K : PySem.W.Frag} {μ : Mu} {n : Nat} {H : Hp} {l : List D} {us : List V} (q : RDs K μ n H l us) : RDs K μ n H l.dropLast us.dropLast := by
  rw [List.dropLast_eq_take, List.dropLast_eq_take, q.length]
  exact q.take _
theorem RDs.erase {K : PySem.W.Frag} {μ : Mu} {n : Nat} {H : Hp} {l : List D} {us : List V} (j : Nat) (q : RDs K μ n H l us) : RDs K μ n H (l.eraseIdx j) (us.eraseIdx j) := by
  rw [List.eraseIdx_eq_take_drop_succ, List.eraseIdx_eq_take_drop_succ]
  exact (q.take _).app (q.drop _)
-- the method's promise
def rM (K : PySem.W.Frag) (W : XK) (m : M) : V → List V → Hp → VK → Prop := fun x xs H Q => ∃ μ h d ds, HR K μ h H ∧ RD K μ h.length H d x ∧ RDs K μ h.length H ds xs ∧ Fin K W (RR K) μ h H (meth m d ds h) Q
theorem at_place {K : PySem.W.Frag} {μ : Mu} {h : Heap} {H : Hp} (hr : HR K μ h H) {p : Nat} {x : V} {l : List D} (q : RD K μ h.length H (.loc p) x) (e : h[p]? = some (.lst l)) :
    p < h.length ∧ x = .ref (μ p) ∧ ∃ vs, H (μ p) = some (.lst vs) ∧ RDs K μ h.length H l vs := by
  simp only [RD] at q
  obtain ⟨vs, e1, t⟩ := hr.ob p _ e
  exact ⟨q.1, q.2, vs, e1, t⟩
theorem meth_ty {K : PySem.W.Frag} {W : XK} {μ : Mu} {h : Heap} {H : Hp} {m : M} {d : D} {ds : List D} {x : V} {xs : List V} {Q : VK} (hr : HR K μ h H) (q1 : RD K μ h.length H d x) (q2 : RDs K μ h.length H ds xs) (F : Fin K W (RR K) μ h H (meth m d ds h) Q) :
    (m = .append ∧ rAppend x xs H Q) ∨ (m = .pop ∧ (rPop x xs H Q ∨ rPopAt x xs H Q)) := by
  unfold meth at F
  split at F
  · -- append
    rename_i p d
    split at F
    · rename_i l e
      split at F
      · rename_i hl
        obtain ⟨hp, rfl, vs, e1, t⟩ := at_place hr q1 e
        simp only [RDs] at q2
        obtain ⟨y, _, rfl, qy, rfl⟩ := q2
        refine .inl ⟨rfl, _, vs, y, rfl, rfl, e1, by rw [t.length, lim_line]; exact hl, ?_⟩
        exact F.okP (Post.set hr hp (t.app (m := [d]) (vs := [y]) (by simp only [RDs]; exact ⟨y, [], rfl, qy, rfl⟩))) rfl
      · exact F.elim
    · exact F.elim
  · -- pop()
    rename_i p
    split at F
    · rename_i l e
      split at F
      · rename_i d e2
        obtain ⟨hp, rfl, vs, e1, t⟩ := at_place hr q1 e
        simp only [RDs] at q2
        subst q2
        rw [List.getLast?_eq_getElem?] at e2
        obtain ⟨v, e3, q3⟩ := t.get _ d e2
        rw [← t.length] at e3
        have P := Post.set hr hp t.dropLast
        exact .inr ⟨rfl, .inl ⟨_, vs, v, rfl, rfl, e1, e3, F.okP P (RD.mono P hr _ _ q3)⟩⟩
      · exact F.elim
    · exact F.elim
  · -- pop(i)
    rename_i p i
    split at F
    · rename_i l e
      split at F
      · rename_i j e4
        split at F
        · rename_i d e2
          obtain ⟨hp, rfl, vs, e1, t⟩ := at_place hr q1 e
          simp only [RDs] at q2
          obtain ⟨y, _, rfl, qy, rfl⟩ := q2
          cases qy
          obtain ⟨v, e3, q3⟩ := t.get _ d e2
          rw [← atN_same, ← t.length] at e4
          obtain ⟨e5, hj, b1, b2⟩ := ixN_seq e4
          have P := Post.set hr hp (t.erase j)
          split at F
          · rename_i hsm
            obtain ⟨c1, c2⟩ := small_ok hsm
            exact .inr ⟨rfl, .inr ⟨_, vs, i, j, v, rfl, rfl, e1, by omega, by omega, e5, e3, F.okP P (RD.mono P hr _ _ q3)⟩⟩
          · exact F.elim
        · exact F.elim
      · exact F.elim
    · exact F.elim
  · exact F.elim
theorem mt_of {X : Cx} {W : XK} (m : M) : MtR X (match m with
    | .append => "list.append"
    | .pop => "list.pop") (rM X.K W m) := by
  cases m with
  | append =>
    intro pins s σ H x xs v us Q I rx rv ⟨μ, h, d, ds, hr, q1, q2, F⟩
    rcases meth_ty hr q1 q2 F with ⟨_, q⟩ | ⟨z, _⟩
    · exact mt_append pins s σ H x xs v us Q I rx rv q
    · cases z
  | pop =>
    intro pins s σ H x xs v us Q I rx rv ⟨μ, h, d, ds, hr, q1, q2, F⟩
    rcases meth_ty hr q1 q2 F with ⟨z, _⟩ | ⟨_, q | q⟩
    · cases z
    · exact mt_pop pins s σ H x xs v us Q I rx rv q
    · exact mt_popAt pins s σ H x xs v us Q I rx rv q
theorem recv_of {K : PySem.W.Frag} {μ : Mu} {h : Heap} {H : Hp} {m : M} {d : D} {x : V} (hr : HR K μ h H) (q : RD K μ h.length H d x) (e : recv m d h = true) : tyV K "list" x H := by
  unfold recv at e
  split at e
  · split at e
    · rename_i l e1
      obtain ⟨_, rfl, vs, e2, _⟩ := at_place hr q e1
      exact .inl ⟨rfl, vs, .inl (.inl e2)⟩
    · cases e
  · cases e
theorem chks_few {N : List Str} {sc : Scope} {es : List E} {xs : List Expr} (h : chks P N sc es xs = true) (pos : Pos) (env : PySem.Env) (hl : xs.length < 29) :
    ((backTo pos (starEach xs env)).all (fun x => !x.1) && (backToKw pos (keywordEach [] env)).all (fun x => x.1.isSome)
      && decide (xs.length + ([] : List Keyword).length + (if ([] : List Keyword).isEmpty then 0 else 1) < 30)) = true := by
  have a := shapes_any pos env (chks_shape h)
  have b : (backTo pos (starEach xs env)).all (fun x => !x.1) = true := by
    rw [List.any_eq_false] at a
    rw [List.all_eq_true]
    intro x hx
    have := a x hx
    simpa using this
  rw [b]
  simp only [Bool.true_and]
  have c : (backToKw pos (keywordEach [] env)).all (fun x => x.1.isSome) = true := rfl
  rw [c]
  simp
  omega
theorem slot_me (m : M) : PySem.Slot "list" (meN m) (match m with
    | .append => "list.append"
    | .pop => "list.pop") := by
  cases m
  · exact PySem.F.slot_list_append
  · exact PySem.F.slot_list_pop
theorem type_me (m : M) : typeOf (.builtin (match m with
    | .append => "list.append"
    | .pop => "list.pop")) = pure (.type "method_descriptor") := by
  cases m
  · exact PySem.F.type_list_append
  · exact PySem.F.type_list_pop
theorem se_meth (m : M) (o : E) (es : List E) (ho : SE P Φ G k o) (hes : SEs P Φ G k es) : SE P Φ G k (.meth m o es) := fun X W x gd hc => by
  simp only [chk] at hc
  split at hc
  · rename_i o' n p es' pos
    simp only [Bool.and_eq_true, decide_eq_true_eq] at hc
    obtain ⟨rfl, hline, hl, h1, h2⟩ := hc
    have hbase := chk_base h1 (meN m) X.env (PySem.eval o' X.env)
    have e : eval Φ G (.meth m o es) = fun g h => bd (eval Φ G o g h) fun x h => if recv m x.frz h then bd (evals Φ G es g h) fun ds h => meth m x.frz ds h else none := by
      funext g h
      simp only [eval]
    have pe : PE X (.Call (.Attribute o' (meN m) p) es' [] pos) (rE X.K W (eval Φ G (.meth m o es))) := by
      rw [e]
      cases es' with
      | nil =>
        have hnil : es = [] := by
          cases es with
          | nil => rfl
          | cons _ _ => simp [chks] at h2
        subst hnil
        refine PE_imp (pe_bm0 PySem.F.plainAttrs_list (slot_me m) (type_me m) (mt_of (W := W) m) (ho X W o' gd h1).1 hbase hline) fun σ H Q q => ?_
        refine rd_bind (ρ := RR X.K) (k := fun g x h => if recv m x.frz h then bd (evals Φ G [] g h) fun ds h => meth m x.frz ds h else none) q back_RR fun μ1 g h1 H1 r v H0 hr er q1 F => ?_
        split at F
        · rename_i hrv
          refine ⟨recv_of hr q1.frz hrv, μ1, h1, _, [], hr, q1.frz, by simp only [RDs], ?_⟩
          simp only [evals, bd_ok] at F
          exact F
        · exact F.elim
      | cons e' es' =>
        have hsh := chks_shape h2
        refine PE_imp (pe_bm PySem.F.plainAttrs_list (slot_me m) (type_me m) (mt_of (W := W) m) (ho X W o' gd h1).1 (hes X W _ gd h2) hbase (chks_few h2 pos X.env hl) hline (shape_star (hsh e' (by simp)) _ _) (shapes_any pos X.env fun x hx => hsh x (by simp [hx]))) fun σ H Q q => ?_
        refine rd_bind (ρ := RR X.K) (k := fun g x h => if recv m x.frz h then bd (evals Φ G es g h) fun ds h => meth m x.frz ds h else none) q back_RR fun μ1 g h1 H1 r v H0 hr er q1 F => ?_
        split at F
        · rename_i hrv
          refine ⟨recv_of hr q1.frz hrv, μ1, g, h1, hr, er, F.bind fun ds h2 vs H2 μ2 P2 q2 F2 => ?_⟩
          exact ⟨μ2, h2, _, ds, P2.hr, RD.mono P2 hr _ _ q1.frz, q2, F2.from P2 back_RR⟩
        · exact F.elim
    exact ⟨pe, pt_plain pe rfl⟩
  · cases hc

/-! ### a new place -/
-- a list that nothing else holds gets a place of its own
theorem rd_alloc {K : PySem.W.Frag} {W : XK} {σ : L2.St} {H : Hp} {Q : VK} {m : Env → Heap → Res R} (q : rE K W (fun g h => bd (m g h) fun r h => allocM r h) σ H Q) : rE K W m σ H Q := by
  obtain ⟨μ, g, h, hr, er, F⟩ := q
  refine ⟨μ, g, h, hr, er, F.bind fun r h1 v H1 μ1 P1 q1 F1 => ?_⟩
  cases r with
  | v d => exact F1.elim
  | newL l =>
    obtain ⟨a, vs, rfl, e1, hr1, e0, t⟩ := q1
    have P2 := P1.del hr1 e0
    have P3 := Post.put hr1 (del_same H1 a) t
    rw [upd_del e1] at P3
    refine F1 _ H1 _ (P2.trans P3) ?_
    show RD K _ _ H1 (.loc h1.length) (.ref a)
    simp only [RD]
    exact ⟨by simp, by rw [Mu.put_same]⟩
  | newD l =>
    obtain ⟨a, vs, rfl, e1, hr1, e0, ek, t⟩ := q1
    have P2 := P1.del hr1 e0
    have P3 := Post.putD hr1 (del_same H1 a) ek t
    rw [upd_del e1] at P3
    refine F1 _ H1 _ (P2.trans P3) ?_
    show RD K _ _ H1 (.loc h1.length) (.ref a)
    simp only [RD]
    exact ⟨by simp, by rw [Mu.put_same]⟩
theorem se_alloc (e : E) (he : SE P Φ G k e) : SE P Φ G k (.alloc e) := fun X W x gd hc => by
  simp only [chk, Bool.and_eq_true] at hc
  have ih := he X W x gd hc.2
  have e1 : eval Φ G (.alloc e) = fun g h => bd (eval Φ G e g h) fun r h => allocM r h := by
    funext g h
    simp only [eval]
  have pe : PE X x (rE X.K W (eval Φ G (.alloc e))) := PE_imp ih.1 fun σ H Q q => rd_alloc (by rw [e1] at q; exact q)
  exact ⟨pe, pt_plain pe hc.1⟩

/-! ### all expressions -/
end
def AllSE (P : PInfo) (Φ : Nat → List D → Heap → Res R) (G : Nat → Option D) (k : Nat) : List E → Prop
  | [] => True
  | e :: es => SE P Φ G k e ∧ AllSE P Φ G k es
section
variable {P : PInfo} {Φ : Nat → List D → Heap → Res R} {G : Nat → Option D} {k : Nat}
theorem AllSE.mem : ∀ {es : List E}, AllSE P Φ G k es → ∀ c ∈ es, SE P Φ G k c
  | [], _, c, h => by cases h
  | e :: es, q, c, h => by
    rcases List.mem_cons.mp h with rfl | h
    · exact q.1
    · exact AllSE.mem q.2 c h
/-! ### exceptions as values -/
theorem se_mkX (y : Str) (f : Option Str) (a : E) (ha : SE P Φ G k a) : SE P Φ G k (.mkX y f a) := fun X W x gd hc => by
  simp only [chk] at hc
  split at hc
  · rename_i n p a' pos
    simp only [Bool.and_eq_true, decide_eq_true_eq, List.contains_iff_mem] at hc
    obtain ⟨rfl, h1, h2, h3⟩ := hc
    obtain ⟨hg, hdb, hn⟩ := gloB_ok h2
    have hs := shape_star (chk_shape h3) [] X.env
    have hk := gd.pos
    have e : eval Φ G (.mkX n f a) = fun g h => bd (eval Φ G a g h) fun r h => mkXM n f r.frz h := by
      funext g h
      simp only [eval]
    have pe : PE X (.Call (.Name n p) [a'] [] pos) (rE X.K W (eval Φ G (.mkX n f a))) := by
      rw [e]
      cases f with
      | some f =>
        obtain ⟨own, ⟨b, T⟩, _, _⟩ := gd.xs.mx n f h1
        refine PE_imp (pe_mkX (k := k - 1) T own.mga own.kp hg (by rw [Nat.sub_add_cancel hk]; exact gd.room) (ha X W a' gd h3).1 hs hdb) fun σ H Q q => ?_
        refine rd_bind (ρ := RR X.K) (ρ' := RR X.K) (k := fun g r h => mkXM n (some f) r.frz h) q back_RR fun μ1 g h1 H1 r v H0 hr er q1 F => ?_
        intro p dx e1 e2 ne
        have P1 := Post.new (o := .xd [(f, v)]) hr e2
        have e1' : upd H1 dx (.xd [(f, v)]) p = none := by rw [upd_ne (Ne.symm ne)]; exact e1
        have P2 := Post.new (o := exo p (He.ga X.K n) (some dx)) P1.hr e1'
        have PP := P1.trans P2
        refine F.okP PP ?_
        show RD X.K μ1 h1.length _ (.exo n [f] [r.frz]) (.ref p)
        simp only [RD, RDs]
        refine ⟨p, some dx, [(f, v)], rfl, ⟨.inl upd_same, hr.ne_none e1, fun z => hr.sn p z e1⟩, fun dx' z => ?_, (fun z => nomatch z), rfl, v, [], rfl, RD.mono PP hr _ _ q1.frz, rfl⟩
        cases z
        exact ⟨.inl (by rw [upd_ne ne]; exact upd_same), hr.ne_none e2, fun z => hr.sn dx z e2⟩
      | none =>
        obtain ⟨own, T⟩ := gd.xs.mm n h1
        refine PE_imp (pe_mkM PySem.F.excBase_ValueError T own.mga own.kp hg (ha X W a' gd h3).1 hs hdb) fun σ H Q q => ?_
        refine rd_bind (ρ := RR X.K) (ρ' := RR X.K) (k := fun g r h => mkXM n none r.frz h) q back_RR fun μ1 g h1 H1 r v H0 hr er q1 F => ?_
        intro p e1
        have P2 := Post.new (o := exo p (He.ga X.K n) none) hr e1
        refine F.okP P2 ?_
        show RD X.K μ1 h1.length _ (.exo n [] []) (.ref p)
        simp only [RD, RDs]
        exact ⟨p, none, [], rfl, ⟨.inl upd_same, hr.ne_none e1, fun z => hr.sn p z e1⟩, (fun dx z => nomatch z), fun _ => trivial, rfl, rfl⟩
    exact ⟨pe, pt_plain pe rfl⟩
  · cases hc
theorem exo_V {K : PySem.W.Frag} {μ : Mu} {n : Nat} {H : Hp} {x : Str} {fs : List Str} {l : List D} {v : V} (q : RD K μ n H (.exo x fs l) v) :
    ∃ (a : Addr) (dd : Option Addr) (vfs : List (Str × V)), v = .ref a ∧ Rd H a (exo a (He.ga K x) dd) ∧ (∀ dx, dd = some dx → Rd H dx (.xd vfs)) ∧ (dd = none → fs = []) ∧ vfs.map (·.1) = fs ∧ RDs K μ n H l (vfs.map (·.2)) := by
  simp only [RD] at q
  obtain ⟨a, dd, vfs, e, s1, s2, z, ek, t⟩ := q
  exact ⟨a, dd, vfs, e, s1.1, fun dx w => (s2 dx w).1, z, ek, t⟩
theorem se_isX (a : E) (t : Str) (yes no : List Str) (ha : SE P Φ G k a) : SE P Φ G k (.isX a t yes no) := fun X W x gd hc => by
  simp only [chk] at hc
  split at hc
  · rename_i n p a' m pm pos
    simp only [Bool.and_eq_true, decide_eq_true_eq, List.all_eq_true, List.contains_iff_mem] at hc
    obtain ⟨⟨rfl, rfl⟩, ⟨hy, hno⟩, hne, h2, h3, h4⟩ := hc
    obtain ⟨hg, hdb, hn⟩ := gloB_ok h2
    obtain ⟨hg2, hdb2, hn2⟩ := gloB_ok h3
    have hs := chk_shape h4
    have e : eval Φ G (.isX a m yes no) = fun g h => bd (eval Φ G a g h) fun r h => isXM yes no r.frz h := by
      funext g h
      simp only [eval]
    have pe : PE X (.Call (.Name "isinstance" p) [a', .Name m pm] [] pos) (rE X.K W (eval Φ G (.isX a m yes no))) := by
      rw [e]
      -- what is read for the class's name
      have key : ∀ (c : V) (cv : Value), PE X (.Name m pm) (tC c) → (∀ u, RelV c u → u = cv) → (∀ y b, (y, m, b) ∈ P.sub → ExcC X.K (He.ga X.K y) ∧ PySem.W.kitOne X.K (.ref (He.ga X.K y)) cv = some b) →
          PE X (.Call (.Name "isinstance" p) [a', .Name m pm] [] pos) (rE X.K W fun g h => bd (eval Φ G a g h) fun r h => isXM yes no r.frz h) := fun c cv hty hcv hb => by
        refine PE_imp (pe_callB call_isX hg (gd.blt _ (by decide)) boot_isi' (pa_cons (ha X W a' gd h4).1 (pa_cons hty pa_nil rfl) (shape_star hs _ _)) hn hdb (shape_star hs _ _) rfl) fun σ H Q q => ?_
        refine rd_bind (ρ := RR X.K) (ρ' := RR X.K) (k := fun g r h => isXM yes no r.frz h) q back_RR fun μ1 g h1 H1 r v H0 hr er q1 F => ?_
        have q2 := q1.frz
        cases c2 : r.frz with
        | exo y fs l =>
          rw [c2] at F q2
          obtain ⟨p', dd, vfs, rfl, s1, s2, _⟩ := exo_V q2
          simp only [isXM] at F
          split at F
          · rename_i hm
            obtain ⟨C, kb⟩ := hb y true (hy y hm)
            exact ⟨p', _, dd, c, cv, true, rfl, s1, fun dx w => ⟨vfs, s2 dx w⟩, C, hcv, kb, Fin.ok F hr rfl⟩
          · split at F
            · rename_i hm
              obtain ⟨C, kb⟩ := hb y false (hno y hm)
              exact ⟨p', _, dd, c, cv, false, rfl, s1, fun dx w => ⟨vfs, s2 dx w⟩, C, hcv, kb, Fin.ok F hr rfl⟩
            · exact F.elim
        | _ => rw [c2] at F; exact F.elim
      -- is it told at all?
      have ht : ∃ y b, (y, m, b) ∈ P.sub := by
        cases yes with
        | cons y r => exact ⟨y, true, hy y List.mem_cons_self⟩
        | nil =>
          cases no with
          | cons y r => exact ⟨y, false, hno y List.mem_cons_self⟩
          | nil => cases hne
      obtain ⟨y0, b0, hm0⟩ := ht
      rcases (gd.xs.is_ y0 m b0 hm0).ans with ⟨ts, e1, e2, e3, _⟩ | ⟨e2, _⟩
      · refine key (.ty ts) (.type ts) (pe_bltn hg2 e2 e3 rfl hn2 hdb2) (fun u h => h) fun y b hm => ⟨(gd.xs.is_ y m b hm).cls, ?_⟩
        rcases (gd.xs.is_ y m b hm).ans with ⟨ts', e1', _, e3', kb⟩ | ⟨e2', _⟩
        · rw [e3] at e3'
          cases e3'
          exact kb
        · rw [e2] at e2'
          cases e2'
      · refine key (.ref (He.ga X.K m)) (.ref (He.ga X.K m)) (pe_glob hg2 e2 rfl hdb2) (fun u h => h) fun y b hm => ⟨(gd.xs.is_ y m b hm).cls, ?_⟩
        rcases (gd.xs.is_ y m b hm).ans with ⟨ts', e1', e2', _⟩ | ⟨_, kb⟩
        · rw [e2] at e2'
          cases e2'
        · exact kb
    exact ⟨pe, pt_plain pe rfl⟩
  · cases hc
theorem zip_look {K : PySem.W.Frag} {μ : Mu} {n : Nat} {H : Hp} {f : Str} {d : D} : ∀ {fs : List Str} {l : List D} {vfs : List (Str × V)}, vfs.map (·.1) = fs → RDs K μ n H l (vfs.map (·.2)) → (fs.zip l).lookup f = some d → ∃ v, vfs.lookup f = some v ∧ RD K μ n H d v
  | fs, l, [], e, t, q => by
    subst e
    simp at q
  | fs, l, (g, v) :: vfs, e, t, q => by
    subst e
    simp only [List.map_cons] at t q
    cases l with
    | nil => simp at q
    | cons d' l =>
      simp only [RDs] at t
      obtain ⟨v', r', ee, q1, q2⟩ := t
      cases ee
      simp only [List.zip_cons_cons, List.lookup_cons] at q ⊢
      cases c : (f == g) with
      | true =>
        rw [c] at q
        cases q
        exact ⟨v, rfl, q1⟩
      | false =>
        rw [c] at q
        exact zip_look rfl q2 q
theorem se_xf (a : E) (f : Str) (cs : List Str) (ha : SE P Φ G k a) : SE P Φ G k (.xf a f cs) := fun X W x gd hc => by
  simp only [chk] at hc
  split at hc
  · rename_i a' n pos
    simp only [Bool.and_eq_true, decide_eq_true_eq, List.all_eq_true, List.contains_iff_mem] at hc
    obtain ⟨rfl, h1, h2⟩ := hc
    have e : eval Φ G (.xf a n cs) = fun g h => bd (eval Φ G a g h) fun r h => xfM n cs r.frz h := by
      funext g h
      simp only [eval]
    have pe : PE X (.Attribute a' n pos) (rE X.K W (eval Φ G (.xf a n cs))) := by
      rw [e]
      refine ⟨fun pins s σ H Q I q => ?_⟩
      refine attr_of (chk_base h2 n X.env _) (thn ((ha X W a' gd h2).1.run pins s σ H (fun v H1 => ∃ (y : Str) (fs : List Str) (l : List D) (μ1 : Mu) (h1 : Heap), HR X.K μ1 h1 H1 ∧ RD X.K μ1 h1.length H1 (.exo y fs l) v ∧ Fin X.K W (RR X.K) μ1 h1 H1 (xfM n cs (.exo y fs l) h1) Q) I ?_) fun u s1 hh => ?_)
      · refine rd_bind (ρ := RR X.K) (ρ' := RR X.K) (k := fun g r h => xfM n cs r.frz h) q back_RR fun μ1 g h1 H1 r v H0 hr er q1 F => ?_
        have q2 := q1.frz
        cases c2 : r.frz with
        | exo y fs l =>
          rw [c2] at F q2
          exact ⟨y, fs, l, μ1, h1, hr, q2, F⟩
        | _ => rw [c2] at F; exact F.elim
      · obtain ⟨v, H1, I1, rv, y, fs, l, μ1, h1', hr, q2, F⟩ := hh
        obtain ⟨p', dd, vfs, rfl, s1', s2, z, ek, t⟩ := exo_V q2
        obtain rfl : u = Value.ref p' := rv
        simp only [xfM] at F
        split at F
        · rename_i hm
          obtain ⟨hm, hl⟩ := hm
          obtain ⟨own, ⟨b, T⟩, T2, hno⟩ := gd.xs.mx y n (h1 y hm)
          cases c3 : (fs.zip l).lookup n with
          | none => rw [c3] at F; exact F.elim
          | some d =>
            rw [c3] at F
            obtain ⟨v, lv, qv⟩ := zip_look ek t c3
            cases dd with
            | none =>
              have := z rfl
              subst this
              simp at c3
            | some dx =>
              obtain ⟨ox, od, J, kk⟩ := exo_inst I1.hok s1' (fun dx' w => ⟨vfs, s2 dx' w⟩)
              obtain ⟨o, mA, rfl, hl', hr'⟩ := kk dx vfs rfl (s2 dx rfl)
              obtain ⟨u, hu, ru⟩ := RelO.some_of (v := v) (o := mA n) (by rw [← lv]; exact hr' n)
              exact PySem.HandSPX.exc_get I1.kIn J T2.ga T2.gg T2.exC (PySem.W.findObj_own T2.hdC hno rfl (by rw [hl', hu])) (handed_of ru) ⟨v, H1, I1.tok _, ru, Fin.ok F hr qv⟩
        · exact F.elim
    exact ⟨pe, pt_plain pe rfl⟩
  · cases hc
mutual
theorem sound_e : ∀ e : E, SE P Φ G k e
  | .var i => se_var i
  | .c d => se_c d
  | .glob i => se_glob i
  | .bin op a b => se_bin op a b (sound_e a) (sound_e b)
  | .neg a => se_neg a (sound_e a)
  | .not a => se_not a (sound_e a)
  | .cmp op a b => se_cmp op a b (sound_e a) (sound_e b)
  | .cmp2 o1 o2 a b c => se_cmp2 o1 o2 a b c (sound_e a) (sound_e b) (sound_e c)
  | .and a b => se_and a b (sound_e a) (sound_e b)
  | .or a b => se_or a b (sound_e a) (sound_e b)
  | .ite c a b => se_ite c a b (sound_e c) (sound_e a) (sound_e b)
  | .tup es => se_tup es (sound_es es)
  | .lst es => se_lst es (sound_es es)
  | .ix a b => se_ix a b (sound_e a) (sound_e b)
  | .slice a bl bh lo hi => se_slice a bl bh lo hi (sound_e a) (sound_e lo) (sound_e hi)
  | .call f es => se_call f es (sound_es es)
  | .b1 f a => se_b1 f a (sound_e a)
  | .b2 f a b => se_b2 f a b (sound_e a) (sound_e b)
  | .isinst a t => se_isinst a t (sound_e a)
  | .bi f (.of a) => se_bi_of f a (sound_e a)
  | .bi f (.range1 a) => se_bi_r1 f a (sound_e a)
  | .bi f (.range2 a b) => se_bi_r2 f a b (sound_e a) (sound_e b)
  | .bi f (.enum a) => fun X W x gd hc => by
    simp only [chk] at hc
    split at hc
    · simp only [Bool.and_eq_true] at hc
      cases f <;> cases hc.2.1
    · cases hc
  | .bi f (.zip a b) => fun X W x gd hc => by
    simp only [chk] at hc
    split at hc
    · simp only [Bool.and_eq_true] at hc
      cases f <;> cases hc.2.1
    · cases hc
  | .lc elt tg it cond ws => se_lc elt tg it cond ws (sound_e elt) (sound_i it) (AllSE.mem (sound_all cond))
  | .meth m o es => se_meth m o es (sound_e o) (sound_es es)
  | .alloc e => se_alloc e (sound_e e)
  | .dct => se_dct
  | .srtD a => se_srtD a (sound_e a)
  | .mkX y f a => se_mkX y f a (sound_e a)
  | .isX a t yes no => se_isX a t yes no (sound_e a)
  | .xf a f cs => se_xf a f cs (sound_e a)
theorem sound_es : ∀ es : List E, SEs P Φ G k es
  | [] => ses_nil
  | e :: es => ses_cons e es (sound_e e) (sound_es es)
theorem sound_all : ∀ es : List E, AllSE P Φ G k es
  | [] => trivial
  | e :: es => ⟨sound_e e, sound_all es⟩
theorem sound_i : ∀ i : I, SI P Φ G k i
  | .of e => si_of e (sound_e e)
  | .range1 a => si_range1 a (sound_e a)
  | .range2 a b => si_range2 a b (sound_e a) (sound_e b)
  | .enum a => si_enum a (sound_e a)
  | .zip a b => si_zip a b (sound_e a) (sound_e b)
end
end
end MP

/-! MP.Snd12: statements. -/
namespace MP
open PySem PySem.Spec PyProof.Rows L2

/-! ### readings of statements -/
def FinF (K : PySem.W.Frag) (W : XK) (μ : Mu) (h : Heap) (H : Hp) (res : Res Fl) (D : Ends) : Prop := match res with
  | some (.ok (.nx g) h') => ∀ σ H' μ', Post K μ h H μ' h' H' → ER K μ' h'.length H' g σ → D.nx σ H'
  | some (.ok (.bk g) h') => ∀ σ H' μ', Post K μ h H μ' h' H' → ER K μ' h'.length H' g σ → D.bk σ H'
  | some (.ok (.ct g) h') => ∀ σ H' μ', Post K μ h H μ' h' H' → ER K μ' h'.length H' g σ → D.ct σ H'
  | some (.ok (.rt r) h') => ∀ v H' μ', Post K μ h H μ' h' H' → RR K μ' h' H H' r v → D.rt v H'
  | some (.exc x h') => ∀ c d H' μ', Post K μ h H μ' h' H' → RX K μ' h'.length H' x c d → W c d H'
  | none => False
def rF (K : PySem.W.Frag) (W : XK) (m : Env → Heap → Res Fl) : TS := fun D σ H => ∃ μ g h, HR K μ h H ∧ ER K μ h.length H g σ ∧ FinF K W μ h H (m g h) D
section
variable {α β : Type} {K : PySem.W.Frag} {W : XK} {ρ : Rel α β} {μ μ1 : Mu} {h h1 : Heap} {H H1 : Hp} {D : Ends}
theorem FinF.from {res : Res Fl} (F : FinF K W μ h H res D) (P : Post K μ h H μ1 h1 H1) : FinF K W μ1 h1 H1 res D := by
  cases res with
  | none => exact F
  | some o =>
    cases o with
    | exc x h2 => exact fun c d H2 μ2 P2 q => F c d H2 μ2 (P.trans P2) q
    | ok a h2 =>
      cases a with
      | nx g => exact fun σ H2 μ2 P2 q => F σ H2 μ2 (P.trans P2) q
      | bk g => exact fun σ H2 μ2 P2 q => F σ H2 μ2 (P.trans P2) q
      | ct g => exact fun σ H2 μ2 P2 q => F σ H2 μ2 (P.trans P2) q
      | rt r => exact fun v H2 μ2 P2 q => F v H2 μ2 (P.trans P2) (back_RR P q)
-- first m, then what follows
theorem FinF.bind {m : Res α} {k : α → Heap → Res Fl} {Q1 : β → Hp → Prop} (F : FinF K W μ h H (bd m k) D)
    (hk : ∀ a h1 b H1 μ1, Post K μ h H μ1 h1 H1 → ρ μ1 h1 H H1 a b → FinF K W μ1 h1 H1 (k a h1) D → Q1 b H1) : Fin K W ρ μ h H m Q1 := by
  cases m with
  | none => exact F
  | some o =>
    cases o with
    | ok a h2 => exact fun b H2 μ2 P2 q => hk a h2 b H2 μ2 P2 q (FinF.from (h1 := h2) (show FinF K W μ h H (k a h2) D from F) P2)
    | exc x h2 => exact F
theorem FinF.next {g : Env} {σ : L2.St} (F : FinF K W μ h H (some (.ok (.nx g) h)) D) (r : HR K μ h H) (e : ER K μ h.length H g σ) : D.nx σ H := F σ H μ (Post.refl r) e
theorem FinF.nextP {h' : Heap} {H' : Hp} {μ' : Mu} {g : Env} {σ : L2.St} (F : FinF K W μ h H (some (.ok (.nx g) h')) D) (P : Post K μ h H μ' h' H') (e : ER K μ' h'.length H' g σ) : D.nx σ H' := F σ H' μ' P e
theorem rF_bind {m : Env → Heap → Res α} {k : Env → α → Heap → Res Fl} {Q1 : β → Hp → Prop} {σ : L2.St} (q : rF K W (fun g h => bd (m g h) (k g)) D σ H)
    (hk : ∀ μ1 g h1 H1 a b H0, HR K μ1 h1 H1 → ER K μ1 h1.length H1 g σ → ρ μ1 h1 H0 H1 a b → FinF K W μ1 h1 H1 (k g a h1) D → Q1 b H1) : rd K W ρ m σ H Q1 := by
  obtain ⟨μ, g, h, r, er, F⟩ := q
  exact ⟨μ, g, h, r, er, F.bind fun a h1 b H1 μ1 P q F1 => hk μ1 g h1 H1 a b H P.hr (er.mono P r) q F1⟩
end

section
variable (P : PInfo) (Φ : Nat → List D → Heap → Res R) (G : Nat → Option D) (k : Nat)
structure GoodF (X : Cx) (W : XK) : Prop extends Good P Φ G k X W where
  kind : X.env.scope.kind = .function
  fnc : ∀ x, X.fn x = true
  own : PassesOwn (model X.prog X.w) X.A X.env X.xe
def SS (s : St) : Prop := ∀ (X : Cx) (W : XK) (x : Stmt), GoodF P Φ G k X W → chkS P X.N X.env.scope s x = true → PS X x (rF X.K W (exec Φ G s))
def SSs (s : List St) : Prop := ∀ (X : Cx) (W : XK) (x : List Stmt), GoodF P Φ G k X W → chkSs P X.N X.env.scope s x = true → PSs X x (rF X.K W (execs Φ G s))
end
section
variable {P : PInfo} {Φ : Nat → List D → Heap → Res R} {G : Nat → Option D} {k : Nat}
theorem GoodF.T {X : Cx} {W : XK} (g : GoodF P Φ G k X W) : GoodT X true := ⟨g.nd, g.calm, fun _ => g.fnc⟩
theorem GoodF.bk {X : Cx} {W : XK} (g : GoodF P Φ G k X W) : X.env.blockKind = .function := by
  unfold PySem.Env.blockKind
  rw [g.kind]
  rfl

/-! ### one after another -/
theorem sss_nil : SSs P Φ G k [] := fun X W x gd hc => by
  cases x with
  | cons _ _ => simp [chkSs] at hc
  | nil =>
    refine PSs_imp pss_nil fun D σ H ⟨μ, g, h, r, er, F⟩ => ?_
    simp only [execs] at F
    exact FinF.next F r er
theorem sss_cons (s : St) (ss : List St) (hs : SS P Φ G k s) (hss : SSs P Φ G k ss) : SSs P Φ G k (s :: ss) := fun X W x gd hc => by
  cases x with
  | nil => simp [chkSs] at hc
  | cons x xs =>
    simp only [chkSs, Bool.and_eq_true] at hc
    refine PSs_imp (pss_cons (hs X W x gd hc.1) (hss X W xs gd hc.2)) fun D σ H ⟨μ, g, h, r, er, F⟩ => ?_
    refine ⟨μ, g, h, r, er, ?_⟩
    simp only [execs] at F
    cases e : exec Φ G s g h with
    | none => rw [e] at F; exact F
    | some o =>
      rw [e] at F
      cases o with
      | exc x h2 => exact F
      | ok fl h2 =>
        simp only [bd_ok] at F
        cases fl with
        | nx g' => exact fun σ' H' μ' P' er' => ⟨μ', g', h2, P'.hr, er', FinF.from (h1 := h2) F P'⟩
        | rt r => exact F
        | bk g' => exact F
        | ct g' => exact F

/-! ### small statements -/
theorem ss_pass : SS P Φ G k .pass := fun X W x gd hc => by
  have fin : ∀ D σ H, rF X.K W (exec Φ G .pass) D σ H → tNext D σ H := fun D σ H ⟨μ, g, h, r, er, F⟩ => by
    simp only [exec] at F
    exact F.next r er
  simp only [chkS] at hc
  split at hc
  · exact PS_imp ps_pass fin
  · exact PS_imp ps_doc fin
  · cases hc
theorem ss_brk : SS P Φ G k .brk := fun X W x gd hc => by
  simp only [chkS] at hc
  split at hc
  · refine PS_imp ps_break fun D σ H ⟨μ, g, h, r, er, F⟩ => ?_
    simp only [exec] at F
    exact F σ H μ (Post.refl r) er
  · cases hc
theorem ss_cont : SS P Φ G k .cont := fun X W x gd hc => by
  simp only [chkS] at hc
  split at hc
  · refine PS_imp ps_continue fun D σ H ⟨μ, g, h, r, er, F⟩ => ?_
    simp only [exec] at F
    exact F σ H μ (Post.refl r) er
  · cases hc
theorem noComp_sw {e : Expr} (h : noComp e = true) (t : Option Expr) (l : Nat) (env : PySem.Env) : swapsWith e t l env = pure false := by
  cases e <;> first | rfl | cases h
theorem ss_expr (e : E) : SS P Φ G k (.expr e) := fun X W x gd hc => by
  simp only [chkS] at hc
  split at hc
  · rename_i e' pos
    simp only [Bool.and_eq_true] at hc
    refine PS_imp (ps_expr (sound_e e X W e' gd.toGood hc.1).1 (noComp_sw hc.2 _ _ _)) fun D σ H q => ?_
    simp only [exec] at q
    refine rF_bind (ρ := RR X.K) (k := fun g _ h => some (.ok (.nx g) h)) q fun μ1 g h1 H1 r v H0 hr er q1 F => ?_
    exact F.next hr er
  · cases hc
theorem ss_ret (e : E) : SS P Φ G k (.ret e) := fun X W x gd hc => by
  simp only [chkS] at hc
  split at hc
  · rename_i e' pos
    refine PS_imp (ps_ret (sound_e e X W e' gd.toGood hc).1) fun D σ H ⟨μ, g, h, hr, er, F⟩ => ?_
    refine ⟨μ, g, h, hr, er, ?_⟩
    simp only [exec] at F
    cases c : eval Φ G e g h with
    | none => rw [c] at F; exact F
    | some o =>
      rw [c] at F
      cases o with
      | exc _ _ => exact F
      | ok r h1 => exact F
  · cases hc
theorem ss_ret0 : SS P Φ G k .ret0 := fun X W x gd hc => by
  simp only [chkS] at hc
  split at hc
  · refine PS_imp ps_retN fun D σ H ⟨μ, g, h, hr, er, F⟩ => ?_
    simp only [exec] at F
    exact F .non H μ (Post.refl hr) rfl
  · cases hc
theorem ss_if (c : E) (a b : List St) (ha : SSs P Φ G k a) (hb : SSs P Φ G k b) : SS P Φ G k (.if_ c a b) := fun X W x gd hc => by
  simp only [chkS] at hc
  split at hc
  · rename_i c' a' b' pos
    simp only [Bool.and_eq_true] at hc
    obtain ⟨h1, h2, h3⟩ := hc
    refine PS_imp (ps_if (sound_e c X W c' gd.toGood h1).2 (ha X W a' gd h2) (hb X W b' gd h3)) fun D σ H q => ?_
    have e : exec Φ G (.if_ c a b) = fun g h => bd (tst (eval Φ G c) g h) fun t h => if t = true then execs Φ G a g h else execs Φ G b g h := by
      funext g h
      simp only [tst, exec, bd_assoc]
      congr 1
      funext r h1
      cases e : tru h1 r.frz with
      | none => rfl
      | some c => cases c <;> simp [ofO]
    rw [e] at q
    refine rF_bind (ρ := RB) (k := fun g t h => if t = true then execs Φ G a g h else execs Φ G b g h) q fun μ1 g h1 H1 t t' H0 hr er q1 F => ?_
    cases q1
    cases t with
    | true => exact iteT ⟨μ1, g, h1, hr, er, F⟩
    | false => exact iteF ⟨μ1, g, h1, hr, er, F⟩
  · cases hc
end
end MP

/-! MP.Snd13: stores and loops; all statements. -/
namespace MP
open PySem PySem.Spec PyProof.Rows L2

/-! ### which stores are swapped -/
theorem swB_ok {sc : Scope} {env : PySem.Env} (hk : env.blockKind = .function) (hs : env.scope = sc) {e t : Expr} (hn : noComp e = true ∨ isLc e = true) (l : Nat) : swapsWithSole [t] e l env = pure (swB sc e t) := by
  show swapsWith e (some t) l env = _
  cases e with
  | ListComp elt gs s p =>
    cases t with
    | Name y py =>
      unfold swapsWith swB
      subst hs
      have q : (env.kindOf y == some NameKind.local) = decide (env.scope.names.lookup y = some .local) := by
        show (env.scope.names.lookup y == some NameKind.local) = _
        by_cases h : env.scope.names.lookup y = some .local
        · rw [h]; decide
        · simp only [h, decide_false]
          exact beq_eq_false_iff_ne.mpr h
      simp only [hk, q]
      rfl
    | _ => rfl
  | SetComp _ _ _ _ => rcases hn with h | h <;> cases h
  | DictComp _ _ _ _ _ => rcases hn with h | h <;> cases h
  | _ => cases t <;> rfl
theorem nmS_ok {env : PySem.Env} {sc : Scope} (hs : env.scope = sc) (ts : List Expr) : (ts.filterMap fun
    | .Name id pos => if env.kindOf id == some .local && pos.line == (ts.head?.map (·.pos.line)).getD 0 then some id else none
    | _ => none) = nmS sc ts := by
  subst hs
  rfl
theorem swN_ok {sc : Scope} {env : PySem.Env} (hk : env.blockKind = .function) (hs : env.scope = sc) {e t : Expr} (h : swN sc t e = true) : swappedStores [t] e env = pure none := by
  unfold swN at h
  split at h
  · rename_i ts _ _ vs _ _
    unfold swappedStores
    simp only [hk]
    split
    · rfl
    · rename_i c1
      split
      · rfl
      · split
        · rfl
        · rename_i c2
          split
          · rfl
          · rename_i c3
            exfalso
            subst hs
            have c2' : ¬ (((nmS env.scope ts).length != ts.length || (nmS env.scope ts).eraseDups.length != (nmS env.scope ts).length) = true) := c2
            simp only [Bool.or_eq_true, not_or] at c1 c2' h
            rcases h with ((h | h) | h) | h
            · exact c1.1.1 h
            · exact c1.1.2 h
            · exact c2'.1 h
            · exact c3 h
  · cases h
  · rename_i h1 h2
    unfold swappedStores
    split
    · rename_i ts vs heq
      exfalso
      split at heq
      · rename_i e1
        cases e1
        exact h2 _ _ _ _ _ _ rfl rfl
      · rename_i e1
        cases e1
        exact h1 _ _ rfl
      · cases heq
    · rfl
theorem swY_ok {sc : Scope} {env : PySem.Env} (hk : env.blockKind = .function) (hs : env.scope = sc) {ts vs : List Expr} {k1 k2 : Nat} {p1 p2 : Pos} {ns : List Str} (h : swY sc ts vs = some ns) (hv : ∀ x ∈ vs, shape x = true) :
    swappedStores [.Tuple ts k1 p1] (.Tuple vs k2 p2) env = pure (some ns) := by
  unfold swY at h
  split at h
  · rename_i c
    cases h
    simp only [Bool.and_eq_true, Bool.not_eq_true'] at c
    obtain ⟨⟨⟨⟨⟨a1, a2⟩, a3⟩, a4⟩, a5⟩, a6⟩ := c
    unfold swappedStores
    simp only [hk]
    have b2 : (vs.length != ts.length) = false := by
      simp only [bne, a2, Bool.not_true]
    have b3 : ((nmS sc ts).length != ts.length) = false := by
      simp only [bne, a3, Bool.not_true]
    have b4 : ((nmS sc ts).eraseDups.length != (nmS sc ts).length) = false := by
      simp only [bne, a4, Bool.not_true]
    have st : (vs.any fun x => match x with
        | .Starred _ _ => true
        | _ => false) = false := by
      rw [List.any_eq_false]
      intro x hx
      have := hv x hx
      cases x <;> first | (simp; done) | cases this
    subst hs
    rw [if_neg (by rw [a1, b2]; decide)]
    have c2 : ¬ (((nmS env.scope ts).length != ts.length || (nmS env.scope ts).eraseDups.length != (nmS env.scope ts).length) = true) := by
      rw [b3, b4]
      decide
    split
    · rename_i z
      exact absurd (st.symm.trans z) Bool.false_ne_true
    split
    · rename_i c3
      exact absurd c3 c2
    · rw [if_neg (by rw [a5]; decide), if_neg (by rw [a6]; decide)]
      rfl
  · cases h

section
variable {P : PInfo} {Φ : Nat → List D → Heap → Res R} {G : Nat → Option D} {k : Nat}
/-! ### target = value -/
-- a comprehension stored in place
theorem ps_lcIn (elt : E) (tg : Tg) (it : I) (cond : List E) (ws : List Nat) {X : Cx} {W : XK} (gd : GoodF P Φ G k X W) {x : Expr} (hc : chk P X.N X.env.scope (.lc elt tg it cond ws) x = true) {y : Str} {py pos' : Pos} {i : Nat}
    (hy : X.N[i]? = some y) (hs : swB X.env.scope x (.Name y py) = true) : PS X (.Assign [.Name y py] x pos') (tAsg (rE X.K W (eval Φ G (.lc elt tg it cond ws))) (gName i)) := by
  have he := sound_e (P := P) (Φ := Φ) (G := G) (k := k) elt
  have hi := sound_i (P := P) (Φ := Φ) (G := G) (k := k) it
  have hcd := AllSE.mem (sound_all (P := P) (Φ := Φ) (G := G) (k := k) cond)
  have gd' := gd.toGood
  simp only [chk] at hc
  split at hc
  · rename_i elt' tg' it' ifs' scope pos
    simp only [Bool.and_eq_true, decide_eq_true_eq] at hc
    obtain ⟨h1, h2, h3, h4, h5, h6, h7, h8⟩ := hc
    have hT : tupI it = true → isTupE tg' = true := fun z => by
      rw [z] at h8
      simpa using h8
    have hts : ∀ (s : Shared) (H : Hp) (C : Addr) (cl : List (Str × Addr)) (fp : List Addr), PTs (X.blk s H scope (compEnvC scope cl C X.env) fp) ifs' (rT X.K xk0 (tests Φ G cond)) := fun s H C cl fp => by
      match cond, ifs', h4, h6, hcd with
      | [], [], _, _, _ =>
        refine PTs_imp pts_nil fun σ H Q ⟨μ, g, h, r, er, F⟩ => ?_
        rw [tests_nil] at F
        exact Fin.ok F r rfl
      | [c], [c'], h4, _, hcd =>
        simp only [chks, Bool.and_eq_true] at h4
        rw [tests_one]
        exact pts_one (hcd c (by simp) (X.blk s H scope (compEnvC scope cl C X.env) fp) xk0 c' (gd'.blk s H scope C cl fp) h4.1).2
      | _ :: _ :: _, _, _, h6, _ =>
        simp only [List.length_cons] at h6
        omega
      | [], _ :: _, h4, _, _ => simp [chks] at h4
      | [_], [], h4, _, _ => simp [chks] at h4
      | [_], _ :: _ :: _, h4, _, _ => simp [chks] at h4
    have ews : (ws.map fun i => (X.N.getD i ⟨#[]⟩, i)).map (·.2) = ws := by
      rw [List.map_map]
      exact List.map_id ws
    unfold swB at hs
    simp only [Bool.and_eq_true, decide_eq_true_eq, Bool.not_eq_true'] at hs
    obtain ⟨⟨s1, s2⟩, s3⟩ := hs
    have base := ps_setLc (py := py) (pos := pos) (spos := pos') (g := rG X.K tg) (te := rE X.K xk0 (eval Φ G elt)) gd.calm gd.nd hy s1 (sw_true gd.kind s1 s2 s3) (hi X W tg' it' gd' h2 hT) (blkOk_by h1) (fun s H C cl fp => pg_of (gd'.blk s H scope C cl fp).T tg tg' h3) hts
      (fun s H C cl fp => (he (X.blk s H scope (compEnvC scope cl C X.env) fp) xk0 elt' (gd'.blk s H scope C cl fp) h5).1) (fun x => by
        cases it with
        | of e => exact shape_iter (chk_shape (by simpa only [chkI] using h2)) _ _
        | _ =>
          simp only [chkI] at h2
          split at h2
          · rfl
          · cases h2)
    rw [ews] at base
    refine PS_imp base fun D σ H q => rd_lc h7 ?_
    have e : eval Φ G (.lc elt tg it cond ws) = fun g h => bd (items Φ G it g h) fun its h => bd (lcGo (lcF its tg (wipes g ws) (tests Φ G cond) (eval Φ G elt)) its.1 h) fun l h => if l.length ≤ lim then some (.ok (.newL l) h) else none := by
      funext g h
      simp only [eval]
    have q : rE X.K W (eval Φ G (.lc elt tg it cond ws)) σ H (fun x H1 => gName i x σ H1 D.nx) := q
    rw [e] at q
    exact q
  · cases hc
theorem lc_only {N : List Str} {sc : Scope} {e : E} {elt : Expr} {gs : List Comprehension} {s : Scope} {p : Pos} (h : chk P N sc e (.ListComp elt gs s p) = true) : (∃ a b c d f, e = .lc a b c d f) ∨ ∃ e', e = .alloc e' ∧ chk P N sc e' (.ListComp elt gs s p) = true := by
  cases e with
  | lc a b c d f => exact .inl ⟨a, b, c, d, f, rfl⟩
  | alloc e' =>
    simp only [chk, Bool.and_eq_true] at h
    exact .inr ⟨e', rfl, h.2⟩
  | _ => simp [chk] at h
theorem ps_lcAll {X : Cx} {W : XK} (gd : GoodF P Φ G k X W) {x : Expr} {y : Str} {py pos' : Pos} {i : Nat} (hy : X.N[i]? = some y) (hs : swB X.env.scope x (.Name y py) = true) :
    ∀ e : E, chk P X.N X.env.scope e x = true → PS X (.Assign [.Name y py] x pos') (tAsg (rE X.K W (eval Φ G e)) (gName i))
  | .lc elt tg it cond ws, hc => ps_lcIn elt tg it cond ws gd hc hy hs
  | .alloc e, hc => by
    simp only [chk, Bool.and_eq_true] at hc
    refine PS_imp (ps_lcAll gd hy hs e hc.2) fun D σ H q => ?_
    have q : rE X.K W (eval Φ G (.alloc e)) σ H (fun x H1 => gName i x σ H1 D.nx) := q
    have e1 : eval Φ G (.alloc e) = fun g h => bd (eval Φ G e g h) fun r h => allocM r h := by
      funext g h
      simp only [eval]
    rw [e1] at q
    exact rd_alloc q
  | .var _, hc | .c _, hc | .glob _, hc | .bin _ _ _, hc | .neg _, hc | .not _, hc | .cmp _ _ _, hc | .cmp2 _ _ _ _ _, hc | .and _ _, hc | .or _ _, hc | .ite _ _ _, hc | .tup _, hc | .lst _, hc | .ix _ _, hc | .slice _ _ _ _ _, hc | .call _ _, hc | .b1 _ _, hc | .b2 _ _ _, hc | .isinst _ _, hc | .bi _ _, hc | .meth _ _ _, hc | .dct, hc | .srtD _, hc | .mkX _ _ _, hc | .isX _ _ _ _, hc | .xf _ _ _, hc => by
    exfalso
    cases x with
    | ListComp a b c d => rcases lc_only hc with ⟨_, _, _, _, _, e⟩ | ⟨_, e, _⟩ <;> cases e
    | _ => cases hs
theorem chkT_one {N : List Str} {sc : Scope} {t : Tg} {x : Expr} (h : chkT true N sc t x = true) (env : PySem.Env) : (assignEach [x] env).map (·.2) = [PySem.assign x env] := by
  rw [assignEach_cons h]
  rfl
theorem ss_asg (tg : Tg) (e : E) : SS P Φ G k (.asg tg e) := fun X W x gd hc => by
  simp only [chkS] at hc
  split at hc
  · rename_i t e' pos
    simp only [Bool.and_eq_true, Bool.or_eq_true] at hc
    obtain ⟨h1, h2, h3, h4⟩ := hc
    have hsw := swB_ok gd.bk rfl h3 (t := t) pos.line
    have hsn := swN_ok gd.bk rfl h4
    have imp : ∀ D σ H, rF X.K W (exec Φ G (.asg tg e)) D σ H → tAsg (rE X.K W (eval Φ G e)) (rG X.K tg) D σ H := fun D σ H q => by
      simp only [exec] at q
      refine rF_bind (ρ := RR X.K) (k := fun g r h => match MP.assign tg r.frz g with
        | some g => some (.ok (.nx g) h)
        | none => none) q fun μ1 g h1 H1 r v H0 hr er q1 F => ?_
      cases ea : MP.assign tg r.frz g with
      | none => simp only [ea] at F; exact F.elim
      | some g' =>
        simp only [ea] at F
        exact ⟨μ1, h1, g, _, g', hr, er, q1.frz, ea, fun σ' er' _ _ => F.next hr er'⟩
    cases c : swB X.env.scope e' t with
    | false =>
      rw [c] at hsw
      exact PS_imp (ps_asg (sound_e e X W e' gd.toGood h2).1 (pg_of gd.T tg t h1) hsw hsn (chkT_one h1 X.env)) imp
    | true =>
      cases t with
      | Name y py =>
        cases tg with
        | slot i =>
          have hi : X.N[i]? = some y := by
            simp only [chkT, Bool.and_eq_true, decide_eq_true_eq] at h1
            exact h1.1
          refine PS_imp (ps_lcAll gd hi c e h2) fun D σ H q => ?_
          obtain ⟨μ, g, h, hr, er, F⟩ := imp D σ H q
          refine ⟨μ, g, h, hr, er, ?_⟩
          refine Fin.imp F fun v H' q => ?_
          obtain ⟨μ, hh, g, d, g', hr, er, q1, ea, kf⟩ := q
          simp only [MP.assign, Option.some.injEq] at ea
          subst ea
          refine kf _ (er.set q1) (fun j hj => ?_) (by simp)
          simp only [slots, List.mem_singleton] at hj
          rw [List.getElem?_set_ne (Ne.symm hj)]
        | tup _ => simp [chkT] at h1
      | _ =>
        unfold swB at c
        split at c
        · rename_i heq
          cases heq
        · cases c
  · cases hc
end
end MP

/-! MP.Snd14: pairs of stores, items, loops; all statements. -/
namespace MP
open PySem PySem.Spec PyProof.Rows L2

section
variable {P : PInfo} {Φ : Nat → List D → Heap → Res R} {G : Nat → Option D} {k : Nat}
theorem ss_par (is : List Nat) (es : List E) : SS P Φ G k (.par is es) := fun X W x gd hc => by
  have par : ∀ D σ H, rF X.K W (exec Φ G (.par is es)) D σ H → rA X.K W (evals Φ G es) σ H fun vs H1 => ∃ μ h g ds g', HR X.K μ h H1 ∧ ER X.K μ h.length H1 g σ ∧ RDs X.K μ h.length H1 ds vs ∧ setAll is ds g = some g' ∧ ∀ σ', ER X.K μ h.length H1 g' σ' → D.nx σ' H1 := fun D σ H q => by
    simp only [exec] at q
    refine rF_bind (ρ := RA X.K) (k := fun g ds h => match setAll is ds g with
        | some g => some (.ok (.nx g) h)
        | none => none) q fun μ1 g h1 H1 ds vs H0 hr er q1 F => ?_
    cases e : setAll is ds g with
    | none => simp only [e] at F; exact F.elim
    | some g' =>
      simp only [e] at F
      exact ⟨μ1, h1, g, ds, g', hr, er, q1, e, fun σ' er' => F.next hr er'⟩
  simp only [chkS] at hc
  split at hc
  · rename_i i j a p b q kt pt u v k2 p2 pos
    simp only [Bool.and_eq_true, decide_eq_true_eq] at hc
    obtain ⟨⟨hi, hj, hij, ha, hb⟩, h1, h2⟩ := hc
    refine PS_imp (ps_par gd.calm gd.nd hi hj hij ha hb (sound_es es X W _ gd.toGood h1) (swY_ok gd.bk rfl h2 (chks_shape h1)) (by rw [swB_ok gd.bk rfl (.inl rfl)]; rfl)) fun D σ H q => ?_
    obtain ⟨μ, g, h, hr, er, F⟩ := par D σ H q
    refine ⟨μ, g, h, hr, er, Fin.imp F fun vs H1 ⟨μ, h, g, ds, g', hr, er, rds, e, kf⟩ => ?_⟩
    match ds, rds, e with
    | [d1, d2], rds, e =>
      simp only [RDs] at rds
      obtain ⟨v1, _, rfl, r1, v2, _, rfl, r2, rfl⟩ := rds
      simp only [setAll, Option.some.injEq] at e
      subst e
      exact ⟨v1, v2, rfl, kf _ ((er.set r1).set r2)⟩
    | [], _, e => simp [setAll] at e
    | [_], _, e => simp [setAll] at e
    | _ :: _ :: _ :: _, _, e => simp [setAll] at e
  · rename_i i j l a p b q c r kt pt u v w k2 p2 pos
    simp only [Bool.and_eq_true, decide_eq_true_eq] at hc
    obtain ⟨⟨hi, hj, hl, ⟨hij, hil, hjl⟩, ha, hb, hcc⟩, h1, h2⟩ := hc
    refine PS_imp (ps_par3 gd.calm gd.nd hi hj hl hij hil hjl ha hb hcc (sound_es es X W _ gd.toGood h1) (swY_ok gd.bk rfl h2 (chks_shape h1)) (by rw [swB_ok gd.bk rfl (.inl rfl)]; rfl)) fun D σ H q => ?_
    obtain ⟨μ, g, h, hr, er, F⟩ := par D σ H q
    refine ⟨μ, g, h, hr, er, Fin.imp F fun vs H1 ⟨μ, h, g, ds, g', hr, er, rds, e, kf⟩ => ?_⟩
    match ds, rds, e with
    | [d1, d2, d3], rds, e =>
      simp only [RDs] at rds
      obtain ⟨v1, _, rfl, r1, v2, _, rfl, r2, v3, _, rfl, r3, rfl⟩ := rds
      simp only [setAll, Option.some.injEq] at e
      subst e
      exact ⟨v1, v2, v3, rfl, kf _ (((er.set r1).set r2).set r3)⟩
    | [], _, e => simp [setAll] at e
    | [_], _, e => simp [setAll] at e
    | [_, _], _, e => simp [setAll] at e
    | _ :: _ :: _ :: _ :: _, _, e => simp [setAll] at e
  · cases hc
theorem aug_int {X : Cx} {op : BOp} {o : Operator} (h1 : bopB op o = true) (h2 : op = .add ∨ op = .sub) : PIp X o (fun x y H Q => ∃ i j d, x = .int i ∧ y = .int j ∧ augD op (.int i) (.int j) = some (.int d) ∧ Q (.int d) H) := by
  intro pins s σ H x y v u Q I r1 r2 ⟨i, j, d, e1, e2, e3, q⟩
  rcases h2 with rfl | rfl
  · cases o <;> first | (cases h1; done) | skip
    cases e3
    exact ip_add pins s σ H x y v u Q I r1 r2 ⟨i, j, e1, e2, q⟩
  · cases o <;> first | (cases h1; done) | skip
    cases e3
    exact ip_sub pins s σ H x y v u Q I r1 r2 ⟨i, j, e1, e2, q⟩
theorem augD_int {op : BOp} {x y d : D} (h : augD op x y = some d) : ∃ i j n, x = .int i ∧ y = .int j ∧ d = .int n := by
  unfold augD at h
  split at h
  · cases h; exact ⟨_, _, _, rfl, rfl, rfl⟩
  · cases h; exact ⟨_, _, _, rfl, rfl, rfl⟩
  · cases h
theorem ss_aug (i : Nat) (op : BOp) (e : E) : SS P Φ G k (.aug i op e) := fun X W x gd hc => by
  simp only [chkS] at hc
  split at hc
  · rename_i n p o e' pos
    simp only [Bool.and_eq_true, Bool.or_eq_true, beq_iff_eq, decide_eq_true_eq] at hc
    obtain ⟨hi, hl, he, ho, hop⟩ := hc
    refine PS_imp (ps_aug gd.nd hi (locB_ok hl) (sound_e e X W e' gd.toGood he).1 (aug_int ho hop) (.inl (gd.fnc n))) fun D σ H ⟨μ, g, h, hr, er, F⟩ => ?_
    simp only [exec] at F
    split at F
    · rename_i d eg
      obtain ⟨v, e1, q1⟩ := er.2 i d eg
      refine ⟨v, e1, μ, g, h, hr, er, F.bind fun r h1 w H1 μ1 P1 q2 F2 => ?_⟩
      cases ea : augD op d r.frz with
      | none => simp only [ea] at F2; exact F2.elim
      | some z =>
        simp only [ea] at F2
        obtain ⟨a, b, c, rfl, e2, rfl⟩ := augD_int ea
        have q3 := q2.frz
        rw [e2] at q3 ea
        cases q1
        cases q3
        exact ⟨a, b, c, rfl, rfl, ea, F2.next P1.hr ((er.mono P1 hr).set rfl)⟩
    · exact F.elim
  · cases hc
theorem RDs.set {K : PySem.W.Frag} {μ : Mu} {n : Nat} {H : Hp} {d : D} {v : V} : ∀ {l : List D} {us : List V} (j : Nat), RDs K μ n H l us → RD K μ n H d v → RDs K μ n H (l.set j d) (us.set j v)
  | [], us, j, a, b => by
    simp only [RDs] at a
    subst a
    simp only [List.set_nil, RDs]
  | c :: l, us, 0, a, b => by
    simp only [RDs] at a
    obtain ⟨w, r, rfl, q, t⟩ := a
    simp only [List.set_cons_zero, RDs]
    exact ⟨v, r, rfl, b, t⟩
  | c :: l, us, j + 1, a, b => by
    simp only [RDs] at a
    obtain ⟨w, r, rfl, q, t⟩ := a
    simp only [List.set_cons_succ, RDs]
    exact ⟨w, _, rfl, q, RDs.set j t b⟩
theorem sub_assign {k' : Expr} (h : shape k' = true) (o : Expr) (pos : Pos) (env : PySem.Env) (v : Value) : PySem.assign (.Subscript o k' pos) env v = (do
      let ov ← holding [v] (PySem.eval o env)
      let iv ← holding [v, ov] (PySem.eval k' env)
      standAt pos
      holding [v, ov, iv] (setItem ov iv v)
      release [v, ov, iv] []) := by
  cases k' <;> first | rfl | cases h
-- d[k] = v
def rSetD : V → V → V → Hp → (Hp → Prop) → Prop := fun o i v H Q => ∃ (p : Addr) (kvs : List (Key × V)) (k : Key), o = .ref p ∧ i = kV k ∧ H p = some (.dK kvs) ∧ kvs.length < sizeLine ∧ Q (upd H p (.dK (putK kvs k v)))
theorem set_dict {X : Cx} (hu : X.A.units + 1 < cLine) : PSet X rSetD := by
  intro pins s σ H o i v ov iv u Q I ro ri rv ⟨p, kvs, k, eo, ei, hp, hl, q⟩
  subst eo ei
  cases ro
  exact d_setItem hu I (DPut.k hp hl) ri rv fun s' I' => ⟨_, I', q⟩
theorem PSet.or {X : Cx} {r r' : TSet} (a : PSet X r) (b : PSet X r') : PSet X (fun o i v H Q => r o i v H Q ∨ r' o i v H Q) := by
  intro pins s σ H o i v ov iv u Q I ro ri rv q
  rcases q with q | q
  · exact a pins s σ H o i v ov iv u Q I ro ri rv q
  · exact b pins s σ H o i v ov iv u Q I ro ri rv q
theorem put_rel {K : PySem.W.Frag} {μ : Mu} {n : Nat} {H : Hp} {k : Key} {d : D} {v : V} (qv : RD K μ n H d v) {l : List (Sum Int Str × D)} {kvs : List (Key × V)} (ek : kvs.map (·.1) = l.map (·.1)) (t : RDs K μ n H (l.map (·.2)) (kvs.map (·.2))) :
    (putK kvs k v).map (·.1) = (putD l k d).map (·.1) ∧ RDs K μ n H ((putD l k d).map (·.2)) ((putK kvs k v).map (·.2)) := by
  have ea : (kvs.any fun kv => decide (kv.1 = k)) = l.any fun kv => decide (kv.1 = k) := by
    have a1 : (kvs.any fun kv => decide (kv.1 = k)) = (kvs.map (·.1)).any fun j => decide (j = k) := by rw [List.any_map]; rfl
    have a2 : (l.any fun kv => decide (kv.1 = k)) = (l.map (·.1)).any fun j => decide (j = k) := by rw [List.any_map]; rfl
    rw [a1, a2, ek]
  unfold putK putD
  rw [ea]
  split
  · rename_i hyes
    clear hyes ea
    induction l generalizing kvs with
    | nil =>
      cases kvs with
      | nil => exact ⟨rfl, t⟩
      | cons _ _ => cases ek
    | cons p l ih =>
      cases kvs with
      | nil => cases ek
      | cons q kvs =>
        simp only [List.map_cons, List.cons.injEq] at ek
        simp only [List.map_cons, RDs] at t
        obtain ⟨w, r, e, t1, t2⟩ := t
        simp only [List.cons.injEq] at e
        obtain ⟨rfl, rfl⟩ := e
        obtain ⟨i1, i2⟩ := ih ek.2 t2
        simp only [List.map_cons, RDs]
        refine ⟨?_, ?_⟩
        · rw [i1, ek.1]
          congr 1
          split
          · rfl
          · exact ek.1
        · refine ⟨_, _, rfl, ?_, i2⟩
          rw [ek.1]
          split
          · exact qv
          · exact t1
  · simp only [List.map_append, List.map_cons, List.map_nil]
    exact ⟨by rw [ek], t.app (by simp only [RDs]; exact ⟨v, [], rfl, qv, rfl⟩)⟩
theorem at_dict {K : PySem.W.Frag} {μ : Mu} {h : Heap} {H : Hp} (hr : HR K μ h H) {p : Nat} {x : V} {l : List (Sum Int Str × D)} (q : RD K μ h.length H (.loc p) x) (e : h[p]? = some (.dic l)) :
    p < h.length ∧ x = .ref (μ p) ∧ ∃ kvs : List (Key × V), H (μ p) = some (.dK kvs) ∧ kvs.map (·.1) = l.map (·.1) ∧ RDs K μ h.length H (l.map (·.2)) (kvs.map (·.2)) := by
  simp only [RD] at q
  obtain ⟨vs, e1, t⟩ := hr.ob p _ e
  exact ⟨q.1, q.2, vs, e1, t⟩
theorem ss_setix (o i e : E) : SS P Φ G k (.setix o i e) := fun X W x gd hc => by
  simp only [chkS] at hc
  split at hc
  · rename_i o' k' p e' pos
    simp only [Bool.and_eq_true, Bool.or_eq_true] at hc
    obtain ⟨h1, h2, h3, h4⟩ := hc
    have A := (sound_e o X W o' gd.toGood h1).1
    have B := (sound_e i X W k' gd.toGood h2).1
    have C := (sound_e e X W e' gd.toGood h3).1
    have hsw : swapsWithSole [.Subscript o' k' p] e' pos.line X.env = pure false := by
      rw [swB_ok gd.bk rfl h4]
      cases e' <;> rfl
    refine PS_imp (ps_asg C (pg_sub A B (PSet.or set_list (set_dict (by have := gd.un; omega))) (fun v => sub_assign (chk_shape h2) _ _ _ v)) hsw rfl rfl) fun D σ H q => ?_
    simp only [exec] at q
    obtain ⟨μ, g, h, hr, er, F⟩ := q
    refine ⟨μ, g, h, hr, er, F.bind fun r h1 v H1 μ1 P1 q1 F1 => ?_⟩
    have er1 := er.mono P1 hr
    refine ⟨μ1, g, h1, P1.hr, er1, F1.bind fun x h2 xv H2 μ2 P2 q2 F2 => ?_⟩
    have er2 := er1.mono P2 P1.hr
    refine ⟨μ2, g, h2, P2.hr, er2, F2.bind fun y h3 yv H3 μ3 P3 q3 F3 => ?_⟩
    have er3 := er2.mono P3 P2.hr
    have q1' := RD.mono P3 P2.hr _ _ (RD.mono P2 P1.hr _ _ q1.frz)
    have q2' := RD.mono P3 P2.hr _ _ q2.frz
    have q3' := q3.frz
    cases es : setM x.frz y.frz r.frz h3 with
    | none => simp only [es] at F3; exact F3.elim
    | some hN =>
      simp only [es] at F3
      unfold setM at es
      split at es
      · rename_i p i e1 e2
        rw [e1] at q2'
        rw [e2] at q3'
        cases q3'
        split at es
        · rename_i l e3
          split at es
          · rename_i j e4
            cases es
            obtain ⟨hp, rfl, vs, e5, t⟩ := at_place P3.hr q2' e3
            rw [← atN_same, ← t.length] at e4
            have Pn := Post.set P3.hr hp (t.set j q1')
            exact .inl ⟨_, vs, i, j, rfl, rfl, e5, e4, F3.nextP Pn (er3.mono Pn P3.hr)⟩
          · cases es
        · rename_i l e3
          split at es
          · rename_i hl
            cases es
            obtain ⟨hp, rfl, kvs, e5, ek, t⟩ := at_dict P3.hr q2' e3
            obtain ⟨z1, z2⟩ := put_rel (k := .inl i) q1' ek t
            have Pn := Post.setD P3.hr hp z1 z2
            have el := congrArg List.length ek
            simp only [List.length_map] at el
            exact .inr ⟨_, kvs, .inl i, rfl, rfl, e5, by rw [el, lim_line]; exact hl, F3.nextP Pn (er3.mono Pn P3.hr)⟩
          · cases es
        · cases es
      · rename_i p i e1 e2
        rw [e1] at q2'
        rw [e2] at q3'
        cases q3'
        split at es
        · rename_i l e3
          split at es
          · rename_i hl
            cases es
            obtain ⟨hp, rfl, kvs, e5, ek, t⟩ := at_dict P3.hr q2' e3
            obtain ⟨z1, z2⟩ := put_rel (k := .inr i) q1' ek t
            have Pn := Post.setD P3.hr hp z1 z2
            have el := congrArg List.length ek
            simp only [List.length_map] at el
            exact .inr ⟨_, kvs, .inr i, rfl, rfl, e5, by rw [el, lim_line]; exact hl, F3.nextP Pn (er3.mono Pn P3.hr)⟩
          · cases es
        · cases es
      · cases es
  · cases hc
end
end MP

/-! MP.Snd15: loops; all statements. -/
namespace MP
open PySem PySem.Spec PyProof.Rows L2

section
variable {P : PInfo} {Φ : Nat → List D → Heap → Res R} {G : Nat → Option D} {k : Nat}
theorem rd_for {K : PySem.W.Frag} {W : XK} {σ : L2.St} {H : Hp} {D : Ends} {mi : Env → Heap → Res Items} {tg : Tg} {mb : Env → Heap → Res Fl}
    (q : rF K W (fun g h => bd (mi g h) fun its h => forGo its (forF tg mb) its.1 g h) D σ H) : tFor (rd K W (RI K) mi) (rG K tg) (rF K W mb) D σ H := by
  refine rF_bind (ρ := RI K) (k := fun g its h => forGo its (forF tg mb) its.1 g h) q fun μ1 g h1 H1 its J H0 hr er wd F => ?_
  refine ⟨fun i m σc Hc => m = its.1.length - i ∧ i ≤ its.1.length ∧ ∃ μ2 h2 g2, Post K μ1 h1 H1 μ2 h2 Hc ∧ ER K μ2 h2.length Hc g2 σc ∧ still its h2 = true ∧ FinF K W μ2 h2 Hc (forGo its (forF tg mb) (its.1.drop i) g2 h2) D,
    ⟨its.1.length, by simp, Nat.zero_le _, μ1, h1, g, Post.refl hr, er, wd.2, by simpa using F⟩, ?_⟩
  rintro i m σc Hc ⟨rfl, hi, μ2, h2, g2, P2, er2, st2, F2⟩
  obtain ⟨wgo, wstop, wyld⟩ := wd.1 μ2 h2 Hc P2 st2
  by_cases hlt : i < its.1.length
  · right
    refine ⟨wgo i hlt, fun σ' H' => i + 1 ≤ its.1.length ∧ ∃ μ2 h2 g2, Post K μ1 h1 H1 μ2 h2 H' ∧ ER K μ2 h2.length H' g2 σ' ∧ still its h2 = true ∧ FinF K W μ2 h2 H' (forGo its (forF tg mb) (its.1.drop (i + 1)) g2 h2) D,
      fun σ' H' q => ⟨its.1.length - (i + 1), by omega, rfl, q⟩, fun x H3 y => ?_⟩
    obtain ⟨d, e1, P3, qd⟩ := wyld i x H3 hlt y
    have edrop : its.1.drop i = d :: its.1.drop (i + 1) := by
      rw [List.drop_eq_getElem_cons hlt]
      congr 1
      rw [List.getElem?_eq_getElem hlt] at e1
      exact Option.some.inj e1
    rw [edrop] at F2
    simp only [forGo] at F2
    cases ea : MP.assign tg d g2 with
    | none =>
      simp only [forF, ea] at F2
      exact F2.elim
    | some g3 =>
      simp only [forF, ea] at F2
      have F3 := FinF.from F2 P3
      refine ⟨μ2, h2, g2, d, g3, P3.hr, er2.mono P3 P2.hr, qd, ea, fun σ3 er3 _ _ => ⟨μ2, g3, h2, P3.hr, er3, ?_⟩⟩
      cases eb : mb g3 h2 with
      | none => rw [eb] at F3; exact F3
      | some o =>
        rw [eb] at F3
        cases o with
        | exc _ _ => exact F3
        | ok fl h4 =>
          simp only [bd_ok] at F3
          cases fl with
          | nx g4 =>
            intro σ' H' μ' P' er'
            simp only at F3
            split at F3
            · rename_i st4
              exact ⟨hlt, μ', h4, g4, (P2.trans P3).trans P', er', st4, FinF.from F3 P'⟩
            · exact F3.elim
          | ct g4 =>
            intro σ' H' μ' P' er'
            simp only at F3
            split at F3
            · rename_i st4
              exact ⟨hlt, μ', h4, g4, (P2.trans P3).trans P', er', st4, FinF.from F3 P'⟩
            · exact F3.elim
          | bk g4 => exact fun σ' H' μ' P' er' => F3 σ' H' μ' P' er'
          | rt r => exact F3
  · left
    have e0 : i = its.1.length := by omega
    subst e0
    rw [List.drop_length] at F2
    exact ⟨wstop, F2.next P2.hr er2⟩
theorem ss_for (tg : Tg) (it : I) (body : List St) (hb : SSs P Φ G k body) : SS P Φ G k (.for_ tg it body) := fun X W x gd hc => by
  simp only [chkS] at hc
  split at hc
  · rename_i tg' it' body' pos
    simp only [Bool.and_eq_true] at hc
    obtain ⟨h1, h2, h3, h4⟩ := hc
    have hT : tupI it = true → isTupE tg' = true := fun z => by
      rw [z] at h4
      simpa using h4
    refine PS_imp (ps_for gd.own gd.calm (sound_i it X W tg' it' gd.toGood h2 hT) (pg_of gd.T tg tg' h1) (hb X W body' gd h3) (fun x => by
        cases it with
        | of e => exact shape_iter (chk_shape (by simpa only [chkI] using h2)) _ _
        | _ =>
          simp only [chkI] at h2
          split at h2
          · rfl
          · cases h2)) fun D σ H q => rd_for ?_
    have e : exec Φ G (.for_ tg it body) = fun g h => bd (items Φ G it g h) fun its h => forGo its (forF tg (execs Φ G body)) its.1 g h := by
      funext g h
      simp only [exec]
    rw [e] at q
    exact q
  · cases hc
theorem while_some {c : Env → Heap → Res Bool} {f : Env → Heap → Res Fl} {g : Env} {h : Heap} : whileD c f g h = none ∨ ∃ n, whileD c f g h = whileGo c f n g h := by
  unfold whileD
  split
  · rename_i q
    exact .inr ⟨_, q.choose_spec.choose_spec.symm⟩
  · exact .inl rfl
theorem ss_while (c : E) (body : List St) (hb : SSs P Φ G k body) : SS P Φ G k (.while_ c body) := fun X W x gd hc => by
  simp only [chkS] at hc
  split at hc
  · rename_i c' body' pos
    simp only [Bool.and_eq_true] at hc
    refine PS_imp (ps_while gd.own (sound_e c X W c' gd.toGood hc.1).2 (hb X W body' gd hc.2)) fun D σ H ⟨μ, g, h, hr, er, F⟩ => ?_
    have e : exec Φ G (.while_ c body) = fun g h => whileD (tst (eval Φ G c)) (execs Φ G body) g h := by
      funext g h
      simp only [exec]
    rw [e] at F
    simp only at F
    rcases while_some (c := tst (eval Φ G c)) (f := execs Φ G body) (g := g) (h := h) with z | ⟨n, z⟩
    · rw [z] at F
      exact F.elim
    rw [z] at F
    refine ⟨fun m σ H => ∃ μ g h, HR X.K μ h H ∧ ER X.K μ h.length H g σ ∧ FinF X.K W μ h H (whileGo (tst (eval Φ G c)) (execs Φ G body) m g h) D, ⟨n, μ, g, h, hr, er, F⟩, ?_⟩
    rintro m σ1 H1 ⟨μ1, g1, h1, hr1, er1, F1⟩
    cases m with
    | zero => exact F1.elim
    | succ m =>
      simp only [whileGo] at F1
      refine ⟨μ1, g1, h1, hr1, er1, F1.bind fun b h2 b' H2 μ2 P2 q2 F2 => ?_⟩
      cases q2
      have er2 := er1.mono P2 hr1
      cases b with
      | false =>
        refine iteF ?_
        simp only [Bool.false_eq_true, if_false] at F2
        exact F2.next P2.hr er2
      | true =>
        refine iteT ⟨fun σ' H' => ∃ μ g h, HR X.K μ h H' ∧ ER X.K μ h.length H' g σ' ∧ FinF X.K W μ h H' (whileGo (tst (eval Φ G c)) (execs Φ G body) m g h) D, fun σ' H' q => ⟨m, by omega, q⟩, μ2, g1, h2, P2.hr, er2, ?_⟩
        simp only [if_true] at F2
        cases eb : execs Φ G body g1 h2 with
        | none => rw [eb] at F2; exact F2
        | some o =>
          rw [eb] at F2
          cases o with
          | exc _ _ => exact F2
          | ok fl h4 =>
            simp only [bd_ok] at F2
            cases fl with
            | nx g4 => exact fun σ' H' μ' P' er' => ⟨μ', g4, h4, P'.hr, er', FinF.from F2 P'⟩
            | ct g4 => exact fun σ' H' μ' P' er' => ⟨μ', g4, h4, P'.hr, er', FinF.from F2 P'⟩
            | bk g4 => exact fun σ' H' μ' P' er' => F2 σ' H' μ' P' er'
            | rt r => exact F2
  · cases hc

mutual
theorem sound_s : ∀ s : St, SS P Φ G k s
  | .asg tg e => ss_asg tg e
  | .par is es => ss_par is es
  | .aug i op e => ss_aug i op e
  | .setix o i e => ss_setix o i e
  | .expr e => ss_expr e
  | .ret e => ss_ret e
  | .ret0 => ss_ret0
  | .if_ c a b => ss_if c a b (sound_ss a) (sound_ss b)
  | .for_ tg it body => ss_for tg it body (sound_ss body)
  | .while_ c body => ss_while c body (sound_ss body)
  | .pass => ss_pass
  | .brk => ss_brk
  | .cont => ss_cont
  | .never => fun X W x gd hc => PS_imp ps_never fun D σ H ⟨μ, g, h, hr, er, F⟩ => by
    simp only [exec] at F
    exact F
theorem sound_ss : ∀ ss : List St, SSs P Φ G k ss
  | [] => sss_nil
  | s :: ss => sss_cons s ss (sound_s s) (sound_ss ss)
end
end
end MP

/-! MP.Snd16: defs. -/
namespace MP
open PySem PySem.Spec PyProof.Rows L2

/-! ### what a call leaves -/
section
variable {K : PySem.W.Frag} {μ : Mu} {h : Heap} {H : Hp} {n : Nat}
theorem Fz.cut {m : Nat} (hn : n ≤ m) {a : Addr} {u : HO} (q : Fz μ m H a u) : Fz μ n H a u := ⟨q.1, fun p hp => q.2.1 p (Nat.lt_of_lt_of_le hp hn), q.2.2⟩
theorem RD.cut {m : Nat} (hn : n ≤ m) : (∀ (d : D) (v : V), MP.cl n d = true → RD K μ m H d v → RD K μ n H d v) ∧ ∀ (ds : List D) (us : List V), clL n ds = true → RDs K μ m H ds us → RDs K μ n H ds us :=
  ⟨fun d v c q => RD.gen (m := n) (fun _ _ z => z) (fun _ _ z => z.cut hn) (fun p _ hp => ⟨hp, rfl⟩) d v c q, fun ds us c q => RDs.gen (m := n) (fun _ _ z => z) (fun _ _ z => z.cut hn) (fun p _ hp => ⟨hp, rfl⟩) ds us c q⟩
theorem take_get {α : Type} {l : List α} {n i : Nat} {a : α} (e : (l.take n)[i]? = some a) : i < n ∧ l[i]? = some a := by
  have hi : i < n := by
    rcases Nat.lt_or_ge i n with z | z
    · exact z
    · rw [List.getElem?_eq_none (by rw [List.length_take]; omega)] at e; cases e
  rw [List.getElem?_take_of_lt hi] at e
  exact ⟨hi, e⟩
theorem HR.cut (r : HR K μ h H) (hn : n ≤ h.length) (hc : ∀ i o, i < n → h[i]? = some o → clO n o = true) : HR K μ (h.take n) H := by
  have hl : (h.take n).length = n := by rw [List.length_take]; omega
  refine ⟨r.sn, fun a sa p hp => r.sp a sa p (by omega), fun p q hp hq e => r.inj p q (by omega) (by omega) e, fun p o e => ?_⟩
  obtain ⟨hp, e⟩ := take_get e
  rw [hl]
  have q := r.ob p o e
  have c := hc p o hp e
  cases o with
  | lst l =>
    obtain ⟨vs, e1, t⟩ := q
    exact ⟨vs, e1, (RD.cut hn).2 _ _ c t⟩
  | dic l =>
    obtain ⟨vs, e1, ek, t⟩ := q
    exact ⟨vs, e1, ek, (RD.cut hn).2 _ _ c t⟩
-- a place given up: its list is nothing's
theorem RD.cutDel (r : HR K μ h H) (hn : n ≤ h.length) {p : Nat} (h1 : n ≤ p) (h2 : p < h.length) : (∀ (d : D) (v : V), MP.cl n d = true → RD K μ h.length H d v → RD K μ n (MP.del H (μ p)) d v) ∧ ∀ (ds : List D) (us : List V), clL n ds = true → RDs K μ h.length H ds us → RDs K μ n (MP.del H (μ p)) ds us := by
  have tupk : ∀ a xs, SqT K H a xs → SqT K (MP.del H (μ p)) a xs := fun a xs q => by
    rcases q with (q | ⟨o, q⟩) | q
    · exact .inl (.inl (by rw [del_ne fun z => r.ne_tup q p h2 z.symm]; exact q))
    · exact .inl (.inr ⟨o, by rw [del_ne fun z => r.ne_frz q p h2 z.symm]; exact q⟩)
    · exact .inr q
  have fzk : ∀ a u, Fz μ h.length H a u → Fz μ n (MP.del H (μ p)) a u := fun a u q => by
    obtain ⟨q, ne, ns⟩ := q
    have na : a ≠ μ p := fun z => ne p h2 z.symm
    refine ⟨?_, fun q hq => ne q (by omega), ns⟩
    rcases q with q | ⟨o, q⟩
    · exact .inl (by rw [del_ne na]; exact q)
    · exact .inr ⟨o, by rw [del_ne na]; exact q⟩
  exact ⟨fun d v c q => RD.gen (m := n) tupk fzk (fun p _ hp => ⟨hp, rfl⟩) d v c q, fun ds us c q => RDs.gen (m := n) tupk fzk (fun p _ hp => ⟨hp, rfl⟩) ds us c q⟩
theorem HR.cutDel (r : HR K μ h H) (hn : n ≤ h.length) (hc : ∀ i o, i < n → h[i]? = some o → clO n o = true) {p : Nat} (h1 : n ≤ p) (h2 : p < h.length) : HR K μ (h.take n) (MP.del H (μ p)) := by
  have hl : (h.take n).length = n := by rw [List.length_take]; omega
  refine ⟨fun a sa => ?_, fun a sa p hp => r.sp a sa p (by omega), fun p q hp hq e => r.inj p q (by omega) (by omega) e, fun q o e => ?_⟩
  · rw [del_ne fun z => r.sp a sa p h2 z.symm]
    exact r.sn a sa
  obtain ⟨hq, e⟩ := take_get e
  rw [hl]
  have t := r.ob q o e
  have c := hc q o hq e
  cases o with
  | lst l =>
    obtain ⟨vs, e1, t⟩ := t
    refine ⟨vs, ?_, (RD.cutDel r hn h1 h2).2 _ _ c t⟩
    rw [del_ne fun z => ?_]
    · exact e1
    · have := r.inj q p (by omega) h2 z
      omega
  | dic l =>
    obtain ⟨vs, e1, ek, t⟩ := t
    refine ⟨vs, ?_, ek, (RD.cutDel r hn h1 h2).2 _ _ c t⟩
    rw [del_ne fun z => ?_]
    · exact e1
    · have := r.inj q p (by omega) h2 z
      omega
theorem HR.closed (r : HR K μ h H) {i : Nat} {o : O} (e : h[i]? = some o) : clO h.length o = true := by
  have q := r.ob i o e
  cases o with
  | lst l =>
    obtain ⟨vs, _, t⟩ := q
    exact RDs.cl l vs t
  | dic l =>
    obtain ⟨vs, _, _, t⟩ := q
    exact RDs.cl _ _ t
theorem gc_ok {W : XK} {μ1 : Mu} {h1 : Heap} {H1 : Hp} {r : R} {v : V} {Q : VK} (hr : HR K μ h H) (P : Post K μ h H μ1 h1 H1) (q : RR K μ1 h1 H H1 r v) (F : Fin K W (RR K) μ h H (gc h r h1) Q) : Q v H1 := by
  unfold gc at F
  split at F
  · rename_i ok
    have hn : h.length ≤ h1.length := P.len
    have hl : (h1.take h.length).length = h.length := by rw [List.length_take]; omega
    have hc : ∀ i o, i < h.length → h1[i]? = some o → clO h.length o = true := fun i o hi e => by
      rcases ok.2 i hi with e2 | ⟨o', e2, c⟩
      · rw [e2] at e
        exact hr.closed e
      · rw [e2] at e
        cases e
        exact c
    have Pc : ∀ {H2 : Hp}, Post K μ h H μ1 h1 H2 → Post K μ h H μ1 (h1.take h.length) H2 := fun {H2} P => ⟨by omega, P.sd1, P.sd2, P.ext, P.hr.cut hn hc, fun p a b => absurd b (by omega), P.keep⟩
    cases r with
    | newL l =>
      simp only at F
      split at F
      · rename_i c
        obtain ⟨a, vs, rfl, e1, hra, e0, t⟩ := q
        refine F _ H1 μ1 (Pc P) ⟨a, vs, rfl, e1, hra.cut hn hc, e0, ?_⟩
        rw [hl]
        exact (RD.cut hn).2 _ _ c t
      · exact F.elim
    | newD l =>
      simp only at F
      split at F
      · rename_i c
        obtain ⟨a, vs, rfl, e1, hra, e0, ek, t⟩ := q
        refine F _ H1 μ1 (Pc P) ⟨a, vs, rfl, e1, hra.cut hn hc, e0, ek, ?_⟩
        rw [hl]
        exact (RD.cut hn).2 _ _ c t
      · exact F.elim
    | v d =>
      cases d with
      | loc p =>
        simp only at F
        split at F
        · rename_i hp
          refine F v H1 μ1 (Pc P) ?_
          show RD K μ1 (h1.take h.length).length H1 (.loc p) v
          have q : RD K μ1 h1.length H1 (.loc p) v := q
          simp only [RD] at q ⊢
          exact ⟨by omega, q.2⟩
        · rename_i hp
          split at F
          · rename_i l e
            split at F
            · rename_i c
              obtain ⟨hp1, rfl, vs, e1, t⟩ := at_place P.hr q e
              refine F _ H1 μ1 (Pc P) ⟨_, vs, rfl, e1, P.hr.cutDel hn hc (by omega) hp1, P.fresh p (by omega) hp1, ?_⟩
              rw [hl]
              exact (RD.cutDel P.hr hn (by omega) hp1).2 _ _ c t
            · exact F.elim
          · rename_i l e
            split at F
            · rename_i c
              obtain ⟨hp1, rfl, vs, e1, ek, t⟩ := at_dict P.hr q e
              refine F _ H1 μ1 (Pc P) ⟨_, vs, rfl, e1, P.hr.cutDel hn hc (by omega) hp1, P.fresh p (by omega) hp1, ek, ?_⟩
              rw [hl]
              exact (RD.cutDel P.hr hn (by omega) hp1).2 _ _ c t
            · exact F.elim
          · exact F.elim
      | _ =>
        simp only at F
        split at F
        · rename_i c
          refine F v H1 μ1 (Pc P) ?_
          show RD K μ1 (h1.take h.length).length H1 _ v
          rw [hl]
          exact (RD.cut hn).1 _ v c q
        · exact F.elim
  · exact F.elim
end
end MP

/-! MP.Snd17: every def of the table does what the evaluator says. -/
namespace MP
open PySem PySem.Spec PyProof.Rows L2

-- a def of the text that is this def of the table
structure DefAt (P : PInfo) (K : PySem.W.Frag) (mg : Str → Option Value) (x : Str) (d : Def) (a : Addr) (fd : FuncData) (ps : List Str) : Prop where
  mga : mg x = some (.ref a)
  keep : PySem.W.keepIn K (.ref a) = true
  binds : Binds K fd ps []
  np : d.np = ps.length
  fn : ∃ (nm qual : Str) (st : Stmt) (N : List Str), C8.Fun K nm qual st a fd ∧ FnScope N ps (C8.fnScope st) ∧ d.nl = N.length ∧ chkSs P N (C8.fnScope st) d.body (C8.fnBody st) = true
structure World (P : PInfo) (T : Tab) (K : PySem.W.Frag) (mg : Str → Option Value) : Prop where
  blt : ∀ x ∈ blts, mg x = none
  glob : ∀ (i : Nat) (x : Str) (d : D), P.globs[i]? = some (x, d) → T.globs[i]? = some d ∧ ∃ v u, mg x = some u ∧ RelV v u ∧ RG d v
  defs : ∀ (f : Nat) (x : Str), P.names[f]? = some x → ∃ d a fd ps, T.defs[f]? = some d ∧ DefAt P K mg x d a fd ps

section
variable {P : PInfo} {T : Tab} {prog : Program} {w : PySem.World} {K : PySem.W.Frag} {mg : Str → Option Value} {base : PySem.Heap}
theorem start_er {μ : Mu} {n : Nat} {H : Hp} {d : Def} {ds : List D} {vs : List V} {N : List Str} (q : RDs K μ n H ds vs) (hN : d.nl = N.length) : ER K μ n H (MP.start d ds) (L2.start N vs) := by
  unfold MP.start L2.start
  refine ⟨by simp [q.length, hN], fun i x e => ?_⟩
  have hl := q.length
  rcases Nat.lt_or_ge i ds.length with hi | hi
  · rw [List.getElem?_append_left (by simpa using hi), List.getElem?_map] at e
    cases c : ds[i]? with
    | none => rw [c] at e; cases e
    | some y =>
      rw [c] at e
      cases e
      obtain ⟨v, e1, e2⟩ := q.get i _ c
      refine ⟨v, ?_, e2⟩
      rw [List.getElem?_append_left (by simp; omega), List.getElem?_map, e1]
      rfl
  · rw [List.getElem?_append_right (by simpa using hi), List.getElem?_replicate] at e
    split at e <;> cases e
theorem callI_some {k f : Nat} {ds : List D} {h : Heap} (e : callI T k f ds h ≠ none) : ∃ d, T.defs[f]? = some d ∧ ds.length = d.np := by
  cases k with
  | zero => exact absurd rfl e
  | succ k =>
    simp only [callI] at e
    cases c : T.defs[f]? with
    | none => rw [c] at e; exact absurd rfl e
    | some d =>
      rw [c] at e
      simp only at e
      split at e
      · exact ⟨d, rfl, by assumption⟩
      · exact absurd rfl e
theorem good_at (wd : World P T K mg) {k : Nat} (ih : ∀ (f : Nat) (x : Str) (d : Def) (a : Addr) (fd : FuncData) (ps : List Str), P.names[f]? = some x → T.defs[f]? = some d → DefAt P K mg x d a fd ps → FnOk prog w K mg base (L2.CX prog w) (k + 1) a fd ps (spI K ps.length (callI T k f)))
    {X : Cx} {W : XK} (nd : X.N.Nodup) (calm : X.calm = true) (room : Room (k + 1) X.A) (tk : Takes X (fun c d _ H => W c d H)) (e1 : X.prog = prog) (e2 : X.w = w) (e3 : X.K = K) (e4 : X.mg = mg) (e5 : X.base = base) (xs : XFacts P prog K mg) : Good P (callI T k) T.get (k + 1) X W where
  pos := Nat.succ_pos k
  xs := by rw [e1, e3, e4]; exact xs
  nd := nd
  calm := calm
  room := room
  tk := tk
  blt := fun x hx => by rw [e4]; exact wd.blt x hx
  glob := fun i x d e => by rw [e4]; exact wd.glob i x d e
  fns := fun f x e => by
    obtain ⟨d, a, fd, ps, ed, da⟩ := wd.defs f x e
    subst e1 e2 e3 e4 e5
    refine ⟨a, fd, ps, da.mga, da.keep, da.binds, ih f x d a fd ps e ed da, fun ds h q => ?_⟩
    obtain ⟨d', ed', el⟩ := callI_some q
    rw [ed] at ed'
    cases ed'
    rw [el, da.np]
theorem fns_ok (wd : World P T K mg) (xs : XFacts P prog K mg) : ∀ (k f : Nat) (x : Str) (d : Def) (a : Addr) (fd : FuncData) (ps : List Str), P.names[f]? = some x → T.defs[f]? = some d → DefAt P K mg x d a fd ps → FnOk prog w K mg base (L2.CX prog w) (k + 1) a fd ps (spI K ps.length (callI T k f))
  | 0, f, x, d, a, fd, ps, _, _, _ => ⟨fun vs H Q E q => q.1, fun A outer s H args us vs Q E _ _ _ _ q => by
    obtain ⟨_, μ, h, ds, _, _, F⟩ := q
    exact F.elim⟩
  | k + 1, f, x, d, a, fd, ps, ex, ed, da => by
    obtain ⟨nm, qual, st, N, F, S, hN, hch⟩ := da.fn
    obtain ⟨oc, od, dV, kV, doc, pm, an, cdv, ct, osl, rfl, lk, hcd⟩ := F.ex
    refine fn_of lk hcd S (fun vs H Q E q => q.1) fun A outer s H vs Q E hr hsp => ?_
    obtain ⟨hlen, μ, h, ds, hhr, rds, Fi⟩ := hsp
    let X := cxOf (L2.CX prog w) prog w K mg base N qual (C8.fnScope st) a cdv A outer s H E
    have gd : GoodF P (callI T k) T.get (k + 1) X E :=
      { toGood := good_at wd (fun f x d a fd ps => fns_ok wd xs k f x d a fd ps) S.nd rfl hr (takes_of rfl rfl rfl rfl) rfl rfl rfl rfl rfl xs
        kind := S.kind
        fnc := fun _ => rfl
        own := passes_of rfl }
    refine ⟨rF K E (execs (callI T k) T.get d.body), sound_ss d.body X E _ gd hch, μ, MP.start d ds, h, hhr, start_er rds hN, ?_⟩
    have hl : ds.length = d.np := by rw [← rds.length, hlen, da.np]
    simp only [callI, ed, if_pos hl] at Fi
    unfold endI at Fi
    cases c : execs (callI T k) T.get d.body (MP.start d ds) h with
    | none => rw [c] at Fi; exact Fi.elim
    | some o =>
      rw [c] at Fi
      cases o with
      | exc y h1 => exact fun cv dv H' μ' P' q => Fi cv dv H' μ' P' q
      | ok fl h1 =>
        cases fl with
        | rt r => exact fun v H' μ' P' q => gc_ok hhr P' q Fi
        | nx g => exact fun σ H' μ' P' _ => gc_ok hhr P' (show RR K μ' h1 H H' (.v .non) .non from rfl) Fi
        | bk g => exact Fi.elim
        | ct g => exact Fi.elim
end
end MP

/-! MP.Snd18: a law's end. -/
namespace MP
open PySem PySem.Spec PyProof.Rows L2

/-! ### the module's own exceptions, asked of the written part -/
def bodyX (f : Str) (l : List Stmt) : Bool := match l with
  | [.Expr (.Call (.Attribute (.Call (.Name s p0) [] [] p1) a p2) [.Name x p3] [] p4) p5, .Assign [.Attribute (.Name t q0) g q1] (.Name y q2) q3] => ((decide (s = ("super" : Str)) && decide (a = ("__init__" : Str))) && (decide (x = f) && decide (t = ("self" : Str)))) && ((decide (g = f) && decide (y = f)) && (p2.endLine == p4.line))
  | _ => false
theorem bodyX_ok {f : Str} {l : List Stmt} (h : bodyX f l = true) : ∃ p0 p1 p2 p3 p4 p5 q0 q1 q2 q3 : Pos, l = xbody f p0 p1 p2 p3 p4 p5 q0 q1 q2 q3 ∧ (p2.endLine == p4.line) = true := by
  unfold bodyX at h
  split at h
  · simp only [Bool.and_eq_true, decide_eq_true_eq] at h
    obtain ⟨⟨⟨rfl, rfl⟩, rfl, rfl⟩, ⟨rfl, rfl⟩, h⟩ := h
    exact ⟨_, _, _, _, _, _, _, _, _, _, rfl, h⟩
  · cases h
def parX (f : Str) (p : Arguments) : Bool := match p with
  | ⟨[], [a, b], none, [], [], none, []⟩ => decide (a.arg = ("self" : Str)) && decide (b.arg = f)
  | _ => false
theorem bind_X {fd : FuncData} {f : Str} (hp : parX f fd.params = true) (hd : fd.defaults = .none) (ne : f ≠ ("self" : Str)) (u0 u1 : Value) : bindArgs fd ⟨[u0, u1], []⟩ = pure [(("self" : Str), u0), (f, u1)] := by
  obtain ⟨nm, qn, par, bd, sc, gl, cl, df, kd, doc, pm, an, cd, ct, bl⟩ := fd
  simp only at hp hd
  subst hd
  unfold parX at hp
  split at hp
  · rename_i a b
    simp only [Bool.and_eq_true, decide_eq_true_eq] at hp
    obtain ⟨e1, e2⟩ := hp
    have n1 : (f == ("self" : Str)) = false := beq_eq_false_iff_ne.mpr ne
    have sq : seqItems? Value.none = pure none := rfl
    simp [bindArgs, e1, e2, n1, List.lookup, sq]
  · cases hp
def eqT {α : Type} [DecidableEq α] (a b : α) : Bool := decide (a = b)
theorem eqT_ok {α : Type} [DecidableEq α] {a b : α} (h : eqT a b = true) : a = b := of_decide_eq_true h
def and2 {a b : Bool} (h : (a && b) = true) : a = true ∧ b = true := Bool.and_eq_true_iff.mp h
def scX (f : Str) (sc : Scope) : Bool := (sc.names.all fun x => !(x.2 == .cell)) && ((eqT (sc.names.lookup ("self" : Str)) (some .local) && (eqT (sc.names.lookup f) (some .local) && (eqT (sc.names.lookup ("super" : Str)) (some .globalImplicit) && eqT (sc.names.lookup ("__class__" : Str)) (some .free)))) &&
  (sc.kind == .function && (!sc.isCoroutine && !sc.isGenerator)))
def fnX (prog : Program) (K : PySem.W.Frag) (C : Addr) (f : Str) (fd : FuncData) : Bool := match fd.closure, fd.code, fd.body with
  | [(n, cc)], .ref cda, .stmts body => (decide (n = ("__class__" : Str)) && (PySem.W.codeIn K fd.code fd.qualname && (bodyX f body && (decide (fd.globals = mainGlobals) && decide (fd.builtins = builtinsNs))))) &&
    (((match K.lookup cc with
      | some ⟨_, _, .cell (some (.ref c)), _⟩ => decide (c = C)
      | _ => false) && (match K.lookup cda with
      | some ⟨_, _, .fields vs, _⟩ => (match (vs[2]? : Option Value) with
        | some (Value.str file _) => (prog.main.file : Str) == file
        | _ => false)
      | _ => false)) && (scX f fd.scope && (parX f fd.params && eqT fd.defaults .none)))
  | _, _, _ => false
theorem parX_ar {f : Str} {p : Arguments} (h : parX f p = true) : ∃ ar : Arg, (p.posonlyargs ++ p.args).head? = some ar ∧ ar.arg = ("self" : Str) := by
  unfold parX at h
  split at h
  · rename_i a b
    exact ⟨a, rfl, of_decide_eq_true (and2 h).1⟩
  · cases h
theorem fnX_ok {prog : Program} {K : PySem.W.Frag} {C : Addr} {f : Str} {fI : Addr} {fd : FuncData} {oc : Value} {od : Option Addr} {osl : Array (Option Value)} (lk : K.lookup fI = some ⟨oc, od, .func fd, osl⟩) (h : fnX prog K C f fd = true) (ne : f ≠ ("self" : Str)) : ∃ cc cda, XFn prog K C f fI fd cc cda := by
  unfold fnX at h
  split at h
  · rename_i n cc cda body ecl ecd ebd
    obtain ⟨⟨h1, h2, h3, h4, h5⟩, ⟨h6, h7⟩, h8, h9, h10⟩ : (n = ("__class__" : Str) ∧ PySem.W.codeIn K fd.code fd.qualname = true ∧ bodyX f body = true ∧ fd.globals = mainGlobals ∧ fd.builtins = builtinsNs) ∧ (_ ∧ _) ∧ scX f fd.scope = true ∧ parX f fd.params = true ∧ fd.defaults = .none := by
      obtain ⟨a, b⟩ := and2 h
      obtain ⟨a1, a⟩ := and2 a
      obtain ⟨a2, a⟩ := and2 a
      obtain ⟨a3, a⟩ := and2 a
      obtain ⟨a4, a5⟩ := and2 a
      obtain ⟨b1, b⟩ := and2 b
      obtain ⟨b3, b⟩ := and2 b
      obtain ⟨b4, b5⟩ := and2 b
      exact ⟨⟨of_decide_eq_true a1, a2, a3, of_decide_eq_true a4, of_decide_eq_true a5⟩, and2 b1, b3, b4, eqT_ok b5⟩
    subst h1
    refine ⟨cc, cda, ⟨⟨oc, od, osl, lk⟩, h2, ?_, h4, h5, ecl, ecd, parX_ar h9, ?_, ?_, ?_, ?_, ?_, ?_, ?_, ?_, ?_, ?_, bind_X h9 h10 ne⟩⟩
    · obtain ⟨p0, p1, p2, p3, p4, p5, q0, q1, q2, q3, e, e2⟩ := bodyX_ok h3
      exact ⟨p0, p1, p2, p3, p4, p5, q0, q1, q2, q3, by rw [ebd, e], e2⟩
    · split at h6
      · rename_i o1 o2 c o3 e
        rw [of_decide_eq_true h6] at e
        exact ⟨_, _, _, e⟩
      · cases h6
    · split at h7
      · rename_i o1 o2 vs o3 e
        split at h7
        · rename_i file tf e2
          exact ⟨_, _, _, vs, file, tf, e, e2, h7⟩
        · cases h7
      · cases h7
    all_goals
      obtain ⟨c1, c2⟩ := and2 h8
      obtain ⟨c3, c4⟩ := and2 c2
      obtain ⟨d1, d2⟩ := and2 c3
      obtain ⟨d3, d4⟩ := and2 d2
      obtain ⟨d5, d6⟩ := and2 d4
      obtain ⟨e1, e2⟩ := and2 c4
      obtain ⟨e3, e4⟩ := and2 e2
    · intro x hx z
      have := List.all_eq_true.mp c1 x hx
      rw [z] at this
      cases this
    · exact eqT_ok d1
    · exact eqT_ok d3
    · exact eqT_ok d5
    · exact eqT_ok d6
    · exact LawfulBEq.eq_of_beq e1
    · simpa using e3
    · simpa using e4
  · cases h
def initX (prog : Program) (K : PySem.W.Frag) (C : Addr) (f : Str) : Bool := match PySem.W.findIn K (.ref C) "__init__" with
  | some (some (.ref fI)) => eqT (PySem.W.typeIn K (.ref fI)) (some (.type "function")) && (match K.lookup fI with
    | some ⟨_, _, .func fd, _⟩ => fnX prog K C f fd
    | _ => false)
  | _ => false
def mkX (prog : Program) (K : PySem.W.Frag) (C : Addr) (f : Str) (b : XB) : Bool :=
  ((initX prog K C f && (PySem.W.excInitIn K C b.bm b.newId && ((PySem.W.clsIn K C).isSome && eqT (PySem.W.mroIn K C (.ref C)) (some true)))) && ((eqT (PySem.W.nsIn K mainGlobals "super") (some none) && !(prog.main.scope.names.lookup ("super" : Str)).isSome) && (eqT (PySem.W.ks_superIn K C C "__init__") (some (some (.builtin b.initId))) && eqT (PySem.W.subIn K (.ref C) (.type b.nm)) (some true)))) &&
  (((eqT (PySem.W.nsIn K cStatics "thirdparty.any") (some none) && eqT (PySem.W.findIn K (.ref C) "__setattr__") (some (some (.builtin "object.__setattr__")))) && (PySem.W.excOver K C b.bm && eqT (PySem.W.takerIn K C f) (some none))) && (PySem.W.hasDictIn K C && (!eqT f ("self" : Str) && !(f == ("__debug__" : Str)))))
theorem mkX_ok {prog : Program} {K : PySem.W.Frag} {C : Addr} {f : Str} {b : XB} (h : mkX prog K C f b = true) : XMk prog K C f b := by
  obtain ⟨h, k⟩ := and2 h
  obtain ⟨h1, h2⟩ := and2 h
  obtain ⟨a1, a2⟩ := and2 h1
  obtain ⟨a3, a4⟩ := and2 a2
  obtain ⟨a5, a6⟩ := and2 a4
  obtain ⟨b1, b2⟩ := and2 h2
  obtain ⟨b3, b4⟩ := and2 b1
  obtain ⟨b5, b6⟩ := and2 b2
  obtain ⟨k1, k2⟩ := and2 k
  obtain ⟨c1, c2⟩ := and2 k1
  obtain ⟨c3, c4⟩ := and2 c1
  obtain ⟨c5, c6⟩ := and2 c2
  obtain ⟨d1, d2⟩ := and2 k2
  obtain ⟨d3, d4⟩ := and2 d2
  have ne : f ≠ ("self" : Str) := fun e => by
    subst e
    simp [eqT] at d3
  refine ⟨?_, a3, Option.isSome_iff_exists.mp a5, eqT_ok a6, eqT_ok b3, by simpa using b4, eqT_ok b5, eqT_ok b6, eqT_ok c3, eqT_ok c4, c5, eqT_ok c6, d1, ne, by simpa using d4⟩
  unfold initX at a1
  split at a1
  · rename_i fI e
    obtain ⟨e1, e2⟩ := and2 a1
    split at e2
    · rename_i o1 o2 fd o3 lk
      obtain ⟨cc, cda, F⟩ := fnX_ok lk e2 ne
      exact ⟨fI, fd, cc, cda, e, eqT_ok e1, F⟩
    · cases e2
  · cases a1
def clsX (K : PySem.W.Frag) (D : Addr) : Bool := ((eqT (PySem.W.findIn K (.ref D) "__getattribute__") (some (some (.builtin "BaseException.__getattribute__"))) && eqT (PySem.W.findIn K (.ref D) "__getattr__") (some none)) && (eqT (PySem.W.subIn K (.ref D) (.type "BaseException")) (some true) && PySem.W.hasDictIn K D)) &&
  ((eqT (PySem.W.findIn K (.ref D) "__class__") (some (some (.builtin "object.__class__"))) && eqT (PySem.W.specialIn K (.builtin "object.__class__") "__get__") (some (some (.builtin "getset_descriptor.__get__")))) && (eqT (PySem.W.takesIn K (.builtin "object.__class__")) (some true) && eqT (PySem.W.mroIn K D (.type "object")) (some true)))
theorem clsX_ok {K : PySem.W.Frag} {D : Addr} (h : clsX K D = true) : ExcC K D := by
  obtain ⟨h1, h2⟩ := and2 h
  obtain ⟨a1, a2⟩ := and2 h1
  obtain ⟨b1, b2⟩ := and2 h2
  exact ⟨eqT_ok (and2 a1).1, eqT_ok (and2 a1).2, eqT_ok (and2 a2).1, (and2 a2).2, eqT_ok (and2 b1).1, eqT_ok (and2 b1).2, eqT_ok (and2 b2).1, eqT_ok (and2 b2).2⟩
def xblt : List String := ["ValueError", "KeyError", "IndexError", "OverflowError", "ArithmeticError", "LookupError", "Exception"]
def xtS (t : Str) : Option String := xblt.find? fun s => decide (Str.ofString s = t)
theorem xtS_ok {t : Str} {ts : String} (h : xtS t = some ts) : t = Str.ofString ts ∧ bootBuiltins t = some (.type ts) := by
  have h1 := List.find?_some h
  have h2 := List.mem_of_find?_eq_some h
  have e := (of_decide_eq_true h1).symm
  refine ⟨e, ?_⟩
  rw [e]
  simp only [xblt, List.mem_cons, List.not_mem_nil, or_false] at h2
  rcases h2 with rfl | rfl | rfl | rfl | rfl | rfl | rfl <;> decide +kernel
def tgX (K : PySem.W.Frag) (t : Str) : Value := match xtS t with
  | some ts => .type ts
  | none => .ref (He.ga K t)
def xB (P : PInfo) (prog : Program) (K : PySem.W.Frag) : Bool := (P.exs.all fun q => PySem.W.keepIn K (.ref (He.ga K q.1)) && (match q.2 with
  | some f => ([XB.value, .key, .index, .overflow, .arith, .look].any fun b => mkX prog K (He.ga K q.1) f b) && (xfB K (He.ga K q.1) && eqT (PySem.W.findIn K (.ref (He.ga K q.1)) f) (some none))
  | none => PySem.W.excIn K (He.ga K q.1) XB.value.bm XB.value.newId)) &&
  P.sub.all fun q => clsX K (He.ga K q.1) && eqT (PySem.W.kitOne K (.ref (He.ga K q.1)) (tgX K q.2.1)) (some q.2.2)
def faX (P : PInfo) : List He.Fa := P.exs.map (fun q => .glo q.1) ++ P.sub.map fun q => match xtS q.2.1 with
  | some _ => .free q.2.1
  | none => .glo q.2.1
theorem xfacts_of {P : PInfo} {prog : Program} {K : PySem.W.Frag} {h : PySem.Heap} {mg : Str → Option Value} (X : K.In h) (G : h.Ns mainGlobals mg) (c : ∀ f ∈ faX P, f.ok K = true) (b : xB P prog K = true) : XFacts P prog K mg := by
  obtain ⟨b1, b2⟩ := and2 b
  have glo : ∀ x o, (x, o) ∈ P.exs → mg x = some (.ref (He.ga K x)) := fun x o hm => He.glo_ok X G (c (.glo x) (List.mem_append_left _ (List.mem_map.mpr ⟨(x, o), hm, rfl⟩)))
  refine ⟨fun x f hm => ?_, fun x hm => ?_, fun x t a hm => ?_⟩
  · obtain ⟨k1, k2⟩ := and2 (List.all_eq_true.mp b1 _ hm)
    obtain ⟨k2, k3⟩ := and2 k2
    obtain ⟨bb, _, k2⟩ := List.any_eq_true.mp k2
    exact ⟨⟨glo x _ hm, k1⟩, ⟨bb, mkX_ok k2⟩, xfB_ok (and2 k3).1, eqT_ok (and2 k3).2⟩
  · obtain ⟨k1, k2⟩ := and2 (List.all_eq_true.mp b1 _ hm)
    exact ⟨⟨glo x _ hm, k1⟩, k2⟩
  · obtain ⟨k1, k2⟩ := and2 (List.all_eq_true.mp b2 _ hm)
    have k2 := eqT_ok k2
    have cf := c _ (List.mem_append_right _ (List.mem_map.mpr ⟨_, hm, rfl⟩))
    unfold tgX at k2
    dsimp only at cf k2
    refine ⟨clsX_ok k1, ?_⟩
    cases e : xtS t with
    | some ts =>
      rw [e] at cf k2
      obtain ⟨e1, e2⟩ := xtS_ok e
      exact .inl ⟨ts, e1, He.free_ok X G cf, e2, k2⟩
    | none =>
      rw [e] at cf k2
      exact .inr ⟨He.glo_ok X G cf, k2⟩
/-! ### the hook -/
def asX (g : Addr → Option Obj) (n : Nat) : List Addr := (He.asD g n ++ [cStatics]).eraseDups
def obsX (n : Nat) (fa : List He.Fa) (fn : List He.DefD) (B : PySem.W.Frag → Bool) (g : Addr → Option Obj) : He.AlD × Bool := (He.obsD fa fn (He.frG g (asX g n)), B (He.frG g (asX g n)))
def hookX (n : Nat) (fa : List He.Fa) (fn : List He.DefD) (B : PySem.W.Frag → Bool) : PySem.W.Hook where
  α := He.AlD × Bool
  obs := fun s => obsX n fa fn B s.heap.get?
  val := fun _ => (He.valD fn, true)
  says := fun _ h => ∃ K : PySem.W.Frag, K.In h ∧ He.SaysD fa fn K ∧ B K = true
  of := fun _ _ e => ⟨_, He.frG_in, congrArg Prod.fst e, congrArg Prod.snd e⟩
  keeps := fun _ _ _ ⟨K, hK, c⟩ k => ⟨K, PySem.W.Frag.In.keeps hK k, c⟩
theorem obsX_eq {n : Nat} {fa : List He.Fa} {fn : List He.DefD} {B : PySem.W.Frag → Bool} {g : Addr → Option Obj} {s : Shared} (h : ∀ a, g a = s.heap.get? a) : obsX n fa fn B g = (hookX n fa fn B).obs s := by
  have e : g = s.heap.get? := funext h
  rw [e] <;> rfl

def psOf (d : He.DefD) : List Str := d.params.args.map (·.arg)
-- parameters without defaults, all by place
def BindOk (d : He.DefD) : Prop := ∀ (kV doc pm : Value) (an : Option Addr) (cdv ct : Value) (us : List Value), us.length = (psOf d).length → bindArgs (PySem.W.fnOf d.name d.qual d.params d.body d.scope .none kV doc pm an cdv ct) ⟨us, []⟩ = pure ((psOf d).zip us)
-- a def of the text beside a def of the table
def dchk (P : PInfo) (x : Str) (d : Def) (hd : He.DefD) (N : List Str) : Bool := (decide (hd.at_ = (x, none)) && (hd.dfl.isEmpty && hd.kwd.isEmpty)) && (C8.scC N (psOf hd) hd.scope && ((decide (d.np = (psOf hd).length) && decide (d.nl = N.length)) && chkSs P N hd.scope d.body hd.body))
def gfa : Str × D → He.Fa
  | (x, .int i) => .int x i
  | (x, .str z) => .str x z
  | (x, _) => .glo x
structure LawOk (P : PInfo) (T : Tab) (fn : List He.DefD) (Ns : List (List Str)) : Prop where
  ln : fn.length = P.names.length
  lt : T.defs.length = P.names.length
  chk : ∀ (i : Nat) (x : Str) (d : Def) (hd : He.DefD) (N : List Str), P.names[i]? = some x → T.defs[i]? = some d → fn[i]? = some hd → Ns[i]? = some N → dchk P x d hd N = true
  lN : Ns.length = P.names.length
  bind : ∀ hd ∈ fn, BindOk hd
  globs : T.globs = P.globs.map (·.2)
  gk : ∀ q ∈ P.globs, (∃ i, q.2 = .int i) ∨ (∃ z, q.2 = .str z)
def faOf (P : PInfo) : List He.Fa := P.names.map .glo ++ (blts.map .free ++ (P.globs.map gfa ++ faX P))
section
variable {P : PInfo} {T : Tab} {fn : List He.DefD} {Ns : List (List Str)} {prog : Program} {w : PySem.World} {K : PySem.W.Frag} {mg : Str → Option Value} {h : PySem.Heap}
theorem get_of_len {α β : Type} {l : List α} {m : List β} {i : Nat} {a : α} (e : l[i]? = some a) (hl : m.length = l.length) : ∃ b, m[i]? = some b := by
  have hi : i < l.length := by
    rcases Nat.lt_or_ge i l.length with z | z
    · exact z
    · rw [List.getElem?_eq_none z] at e; cases e
  exact ⟨_, List.getElem?_eq_getElem (by omega)⟩
theorem def_at (L : LawOk P T fn Ns) (X : K.In h) (G : h.Ns mainGlobals mg) (c : He.SaysD (faOf P) fn K) {f : Nat} {x : Str} (ex : P.names[f]? = some x) :
    ∃ d a fd ps hd, T.defs[f]? = some d ∧ DefAt P K mg x d a fd ps ∧ fn[f]? = some hd ∧ ps = psOf hd ∧ a = He.ga K x ∧ ∀ (s : Shared) (us : List Value), us.length = ps.length → BindsTo s fd ⟨us, []⟩ (ps.zip us) := by
  obtain ⟨d, ed⟩ := get_of_len ex L.lt
  obtain ⟨hd, eh⟩ := get_of_len ex L.ln
  obtain ⟨N, eN⟩ := get_of_len ex L.lN
  have hc := L.chk f x d hd N ex ed eh eN
  unfold dchk at hc
  simp only [Bool.and_eq_true, decide_eq_true_eq, List.isEmpty_iff] at hc
  obtain ⟨⟨hat, hdf, hkw⟩, hsc, ⟨hnp, hnl⟩, hch⟩ := hc
  obtain ⟨fd, F⟩ := c.def_ f eh
  have hb := L.bind hd (List.mem_of_getElem? eh)
  have edv : hd.dvs K = [] := by unfold He.DefD.dvs; rw [hdf]; rfl
  rw [edv] at F
  have ea : He.fAd K hd.at_ = He.ga K x := by rw [hat]; rfl
  rw [ea] at F
  have g : mg x = some (.ref (He.ga K x)) := He.glo_ok X G (c.facts (f := .glo x) (List.mem_append_left _ (List.mem_map.mpr ⟨x, List.mem_of_getElem? ex, rfl⟩)))
  obtain ⟨oc, od, dV, kV, doc, pm, an, cdv, ct, osl, e1, lk, hcd, hD, hK⟩ := F.ex
  refine ⟨d, He.ga K x, fd, psOf hd, hd, ed, ⟨g, F.kp, F.bindsN hb, hnp, hd.name, hd.qual, .FunctionDef hd.name hd.params hd.body [] none [] hd.scope none hd.name ⟨0, 0, 0, 0⟩, N, ?_, C8.fnScope_by hsc, hnl, hch⟩, eh, rfl, rfl, fun s us hl => FunD.bindsA F hb s us hl⟩
  exact ⟨⟨oc, od, dV, kV, doc, pm, an, cdv, ct, osl, e1, lk, hcd⟩⟩
theorem world_of (L : LawOk P T fn Ns) (X : K.In h) (G : h.Ns mainGlobals mg) (c : He.SaysD (faOf P) fn K) : World P T K mg where
  blt := fun x hx => He.free_ok X G (c.facts (f := .free x) (List.mem_append_right _ (List.mem_append_left _ (List.mem_map.mpr ⟨x, hx, rfl⟩))))
  glob := fun i x d e => by
    refine ⟨by rw [L.globs, List.getElem?_map, e]; rfl, ?_⟩
    have hm := List.mem_of_getElem? e
    have cf := c.facts (f := gfa (x, d)) (List.mem_append_right _ (List.mem_append_right _ (List.mem_append_left _ (List.mem_map.mpr ⟨_, hm, rfl⟩))))
    rcases L.gk _ hm with ⟨j, ej⟩ | ⟨z, ez⟩
    · simp only at ej
      subst ej
      obtain ⟨t, q⟩ := He.int_ok X G cf
      exact ⟨.int j, _, q, ⟨t, rfl⟩, rfl⟩
    · simp only at ez
      subst ez
      obtain ⟨t, q⟩ := He.str_ok X G cf
      exact ⟨.str z, _, q, ⟨t, rfl⟩, rfl⟩
  defs := fun f x e => by
    obtain ⟨d, a, fd, ps, hd, ed, da, _⟩ := def_at L X G c e
    exact ⟨d, a, fd, ps, ed, da⟩
theorem cx_no' {P : Program} {w : PySem.World} {o : List PySem.Env} {H : Hp} {s : Shared} {e : Value} {s' : Shared} (c : L2.CX P w o H s (fun _ _ _ => False) e s') : False := by
  obtain ⟨_, _, _, _, _, _, _, _, _, _, _, _, q⟩ := c
  exact q
theorem fn_cx0 {P : Program} {w : PySem.World} {K : PySem.W.Frag} {mg : Str → Option Value} {base : PySem.Heap} {k : Nat} {a : Addr} {fd : FuncData} {ps : List Str} {sp : Sp} (F : FnOk P w K mg base (L2.CX P w) k a fd ps sp) :
    FnOk P w K mg base (fun _ _ _ _ _ _ => False) k a fd ps (fun vs H Q _ => sp vs H Q (fun _ _ _ => False)) :=
  ⟨fun vs H Q E q => F.len vs H Q _ q, fun A outer s H args us vs Q E hr e0 hb r q => codeAny_mono (F.run A outer s H args us vs Q _ hr e0 hb r q) fun r s' h => by
    cases r with
    | error e => exact cx_no' h
    | ok v => cases v <;> exact h⟩
-- THE LAW: by what the evaluator says
theorem law_end (L : LawOk P T fn Ns) (X : K.In h) (G : h.Ns mainGlobals mg) (c : He.SaysD (faOf P) fn K) (xb : xB P prog K = true) {k f n : Nat} {fa : Addr} (hf : P.names[f]? = some ("law" : Str)) (hp : (fn[f]?).map psOf = some [("script" : Str)]) (hfa : mg ("law" : Str) = some (.ref fa))
    (val : ∀ ns : List Int, ns.length ≤ n → ∃ h', callI T k f [.scr (ns.map D.int)] [] = some (.ok (.v (.bl true)) h')) :
    ∃ (K : PySem.W.Frag) (fd : FuncData) (sp : Sp), K.In h ∧ (∀ (s : Shared) (u : Value), BindsTo s fd ⟨[u], []⟩ [("script", u)]) ∧
      (∀ (H : Hp) (a : Addr) (ns : List Int), ns.length ≤ n → Only H → SqL K H a (ns.map V.int) → sp [.ref a] H (fun v _ => v = .bl true) fun _ _ _ => False) ∧
        ∀ base : PySem.Heap, K.In base → base.Ns mainGlobals mg → FnOk prog w K mg base (fun _ _ _ _ _ _ => False) (k + 1) fa fd [("script" : Str)] sp := by
  obtain ⟨d, a, fd, ps, hd, ed, da, eh, eps, ea, hb⟩ := def_at L X G c hf
  rw [eh] at hp
  simp only [Option.map_some, Option.some.injEq] at hp
  rw [hp] at eps
  subst eps
  have e := hfa.symm.trans da.mga
  cases e
  refine ⟨K, fd, fun vs H Q _ => spI K 1 (callI T k f) vs H Q (fun _ _ _ => False), X, fun s u => hb s [u] rfl, fun H a ns hl _ hS => ?_, fun base _ _ => fn_cx0 (fns_ok (world_of L X G c) (xfacts_of X G (fun f hm => c.facts (List.mem_append_right _ (List.mem_append_right _ (List.mem_append_right _ hm)))) xb) k f _ d fa fd _ hf ed da)⟩
  refine ⟨rfl, ⟨fun _ => 0, fun _ => False⟩, [], [.scr (ns.map D.int)], ⟨fun _ z => z.elim, fun _ z => z.elim, fun p q hp => absurd hp (by simp), fun p o e => by simp at e⟩, ?_, ?_⟩
  · simp only [RDs, RD]
    refine ⟨.ref a, [], rfl, ⟨a, ns.map V.int, rfl, ?_, ints_D ns⟩, rfl⟩
    rcases hS with hS | hS
    · exact .inr ⟨hS, fun p hp => absurd hp (by simp), fun z => z⟩
    · exact .inl hS
  · obtain ⟨h', e⟩ := val ns hl
    rw [e]
    exact fun v H' μ' _ q => q
end
end MP

/-! MP.Snd19: working with the evaluator. -/
namespace MP
open PySem

-- a chain is worked at its head alone
theorem bd_congr {α β : Type} {m m' : Res α} {k : α → Heap → Res β} (e : m = m') : bd m k = bd m' k := by rw [e]
theorem lcGo_congr {f : D → Heap → Res (Option D)} {xs ys : List D} {h h' : Heap} (e : xs = ys) (e2 : h = h') : lcGo f xs h = lcGo f ys h' := by rw [e, e2]
theorem forGo_congr {its : Items} {f : D → Env → Heap → Res Fl} {xs ys : List D} {g g' : Env} {h h' : Heap} (e : xs = ys) (e2 : g = g') (e3 : h = h') : forGo its f xs g h = forGo its f ys g' h' := by rw [e, e2, e3]
theorem whileD_congr {c : Env → Heap → Res Bool} {f : Env → Heap → Res Fl} {g g' : Env} {h h' : Heap} (e2 : g = g') (e3 : h = h') : whileD c f g h = whileD c f g' h' := by rw [e2, e3]
theorem endI_congr {h : Heap} {m m' : Res Fl} (e : m = m') : endI h m = endI h m' := by rw [e]

/-! ### values -/
@[simp] theorem tests_n (Φ : Nat → List D → Heap → Res R) (G : Nat → Option D) (g : Env) (h : Heap) : tests Φ G [] g h = some (.ok true h) := by simp only [tests]
@[simp] theorem tests_c (Φ : Nat → List D → Heap → Res R) (G : Nat → Option D) (e : E) (es : List E) (g : Env) (h : Heap) : tests Φ G (e :: es) g h = bd (eval Φ G e g h) fun r h => match tru h r.frz with
    | some true => tests Φ G es g h
    | some false => some (.ok false h)
    | none => none := by
  simp only [tests]
  try rfl
@[simp] theorem lim_val : lim = 16777216 := rfl
@[simp] theorem tru_non (h : Heap) : tru h .non = some false := rfl
@[simp] theorem tru_bl (h : Heap) (b : Bool) : tru h (.bl b) = some b := rfl
@[simp] theorem tru_int (h : Heap) (i : Int) : tru h (.int i) = some (decide (i ≠ 0)) := rfl
@[simp] theorem tru_tup (h : Heap) (l : List D) : tru h (.tup l) = some (!l.isEmpty) := rfl
@[simp] theorem tru_lst (h : Heap) (l : List D) : tru h (.lst l) = some (!l.isEmpty) := rfl
@[simp] theorem dok_int (n : Nat) (i : Int) : dok n (.int i) = true := by cases n <;> rfl
@[simp] theorem dok_bl (n : Nat) (i : Bool) : dok n (.bl i) = true := by cases n <;> rfl
@[simp] theorem dok_non (n : Nat) : dok n .non = true := by cases n <;> rfl
@[simp] theorem dok_tup (n : Nat) (l : List D) : dok (n + 1) (.tup l) = dokL n l := rfl
@[simp] theorem dok_lst (n : Nat) (l : List D) : dok (n + 1) (.lst l) = dokL n l := rfl
@[simp] theorem dokL_nil (n : Nat) : dokL n [] = true := by cases n <;> rfl
@[simp] theorem dokL_cons (n : Nat) (d : D) (ds : List D) : dokL n (d :: ds) = (dok n d && dokL n ds) := by cases n <;> rfl
@[simp] theorem eqD_int (i j : Int) : eqD (.int i) (.int j) = decide (i = j) := rfl
@[simp] theorem eqD_tup (l m : List D) : eqD (.tup l) (.tup m) = eqDL l m := rfl
@[simp] theorem eqD_lst (l m : List D) : eqD (.lst l) (.lst m) = eqDL l m := rfl
@[simp] theorem eqDL_nil : eqDL [] [] = true := rfl
@[simp] theorem eqDL_nc (d : D) (ds : List D) : eqDL [] (d :: ds) = false := rfl
@[simp] theorem eqDL_cn (d : D) (ds : List D) : eqDL (d :: ds) [] = false := rfl
@[simp] theorem eqDL_cons (d e : D) (ds es : List D) : eqDL (d :: ds) (e :: es) = (eqD d e && eqDL ds es) := rfl
@[simp] theorem atZ_nn {α : Type} (l : List α) {i : Int} (h : 0 ≤ i) : atZ l i = l[i.toNat]? := if_pos h
@[simp] theorem atZ_last {α : Type} (l : List α) : atZ l (-1) = l.getLast? := by
  unfold atZ
  rw [if_neg (by decide), List.getLast?_eq_getElem?]
  by_cases hl : l.length = 0
  · rw [if_neg (by omega), List.getElem?_eq_none (by omega)]
  · rw [if_pos (by omega)]
    congr 1
    omega
@[simp] theorem set_end {α : Type} (h : List α) (x y : α) : (h ++ [x]).set h.length y = h ++ [y] := by simp
@[simp] theorem get_end {α : Type} (h : List α) (x : α) : (h ++ [x])[h.length]? = some x := by simp
@[simp] theorem take_end {α : Type} (h x : List α) : (h ++ x).take h.length = h := by simp
theorem all_tt {α : Type} (l : List α) : (l.all fun _ => true) = true := by simp
theorem dokL_ints (n : Nat) (l : List Int) : dokL n (l.map D.int) = true := by
  induction l with
  | nil => simp
  | cons i l ih => simp [ih]
theorem eqDL_ints : ∀ (l m : List Int), eqDL (l.map D.int) (m.map D.int) = decide (l = m)
  | [], [] => by simp
  | [], _ :: _ => by simp
  | _ :: _, [] => by simp
  | i :: l, j :: m => by
    simp only [List.map_cons, eqDL_cons, eqD_int, eqDL_ints l m, List.cons.injEq, Bool.decide_and]
theorem ints_map (l : List Int) : MP.intsD (l.map D.int) = some l := by
  induction l with
  | nil => rfl
  | cons i l ih => simp [MP.intsD, ih]
theorem bools_mapf {α : Type} (l : List α) (f : α → D) (g : α → Bool) (h : ∀ x, f x = .bl (g x)) : bools (l.map f) = some (l.map g) := by
  induction l with
  | nil => rfl
  | cons i l ih => simp [bools, h, ih]
theorem ints_mapf {α : Type} (l : List α) (f : α → D) (g : α → Int) (h : ∀ x, f x = .int (g x)) : MP.intsD (l.map f) = some (l.map g) := by
  induction l with
  | nil => rfl
  | cons i l ih => simp [MP.intsD, h, ih]
theorem bools_map (l : List Bool) : bools (l.map D.bl) = some l := by
  induction l with
  | nil => rfl
  | cons i l ih => simp [bools, ih]

/-! ### what a call leaves -/
theorem oldOk_refl (h : Heap) : OldOk h h := ⟨Nat.le_refl _, fun _ _ => .inl rfl⟩
def noLoc : D → Bool
  | .loc _ => false
  | _ => true
theorem gc_v {h : Heap} {d : D} (hd : noLoc d = true) (c : cl h.length d = true) : gc h (.v d) h = some (.ok (.v d) h) := by
  unfold gc
  rw [if_pos (oldOk_refl h)]
  cases d with
  | loc p => cases hd
  | _ => simp only [c, if_true, List.take_length]
theorem gc_int (h : Heap) (i : Int) : gc h (.v (.int i)) h = some (.ok (.v (.int i)) h) := gc_v rfl rfl
theorem gc_bl (h : Heap) (i : Bool) : gc h (.v (.bl i)) h = some (.ok (.v (.bl i)) h) := gc_v rfl rfl
theorem gc_non (h : Heap) : gc h (.v .non) h = some (.ok (.v .non) h) := gc_v rfl rfl
theorem gc_tup {h : Heap} {l : List D} (c : clL h.length l = true) : gc h (.v (.tup l)) h = some (.ok (.v (.tup l)) h) := gc_v rfl c
theorem gc_lst {h : Heap} {l : List D} (c : clL h.length l = true) : gc h (.v (.lst l)) h = some (.ok (.v (.lst l)) h) := gc_v rfl c
theorem gc_new {h : Heap} {l : List D} (c : clL h.length l = true) : gc h (.newL l) h = some (.ok (.newL l) h) := by
  unfold gc
  rw [if_pos (oldOk_refl h)]
  simp only [c, if_true, List.take_length]
-- what is not a place, over a heap that grew or changed
theorem gc_v2 {h h1 : Heap} {d : D} (ok : OldOk h h1) (hd : noLoc d = true) (c : cl h.length d = true) : gc h (.v d) h1 = some (.ok (.v d) (h1.take h.length)) := by
  unfold gc
  rw [if_pos ok]
  cases d with
  | loc p => cases hd
  | _ => simp only [c, if_true]
theorem gc_new2 {h h1 : Heap} {l : List D} (ok : OldOk h h1) (c : clL h.length l = true) : gc h (.newL l) h1 = some (.ok (.newL l) (h1.take h.length)) := by
  unfold gc
  rw [if_pos ok]
  simp only [c, if_true]
-- a new place given back: its list
theorem gc_loc2 {h h1 : Heap} {p : Nat} {l : List D} (ok : OldOk h h1) (hp : h.length ≤ p) (e : h1[p]? = some (.lst l)) (c : clL h.length l = true) : gc h (.v (.loc p)) h1 = some (.ok (.newL l) (h1.take h.length)) := by
  unfold gc
  rw [if_pos ok]
  simp only [if_neg (show ¬ p < h.length by omega), e, c, if_true]
theorem oldOk_app (h x : Heap) : OldOk h (h ++ x) := ⟨by simp, fun i hi => .inl (by rw [List.getElem?_append_left hi])⟩
theorem cl_ints (n : Nat) (l : List Int) : clL n (l.map D.int) = true := by
  induction l with
  | nil => rfl
  | cons i l ih => simp only [List.map_cons, clL, cl, ih, Bool.and_self]

/-! ### calls -/
theorem call_of {T : Tab} {k f : Nat} {args : List D} {h : Heap} {d : Def} (hd : T.defs[f]? = some d) (hn : args.length = d.np) :
    callI T (k + 1) f args h = endI h (execs (callI T k) T.get d.body (start d args) h) := by
  simp only [callI, hd, if_pos hn]
@[simp] theorem endI_rt (h h1 : Heap) (r : R) : endI h (some (.ok (.rt r) h1)) = gc h r h1 := rfl
@[simp] theorem endI_nx (h h1 : Heap) (g : Env) : endI h (some (.ok (.nx g) h1)) = gc h (.v .non) h1 := rfl

-- one statement after another, by their places
theorem execs_at {Φ : Nat → List D → Heap → Res R} {G : Nat → Option D} {b : List St} (i : Nat) {g g' : Env} {h h' : Heap} (hi : i < b.length) (e : exec Φ G (b.getD i .never) g h = some (.ok (.nx g') h')) : execs Φ G (b.drop i) g h = execs Φ G (b.drop (i + 1)) g' h' := by
  rw [List.drop_eq_getElem_cons hi]
  rw [List.getD_eq_getElem?_getD, List.getElem?_eq_getElem hi] at e
  simp only [Option.getD_some] at e
  simp only [execs, e, bd_ok]
theorem execs_rt {Φ : Nat → List D → Heap → Res R} {G : Nat → Option D} {b : List St} (i : Nat) {g : Env} {h h' : Heap} {r : R} (hi : i < b.length) (e : exec Φ G (b.getD i .never) g h = some (.ok (.rt r) h')) : execs Φ G (b.drop i) g h = some (.ok (.rt r) h') := by
  rw [List.drop_eq_getElem_cons hi]
  rw [List.getD_eq_getElem?_getD, List.getElem?_eq_getElem hi] at e
  simp only [Option.getD_some] at e
  simp only [execs, e, bd_ok]

/-! ### loops -/
section
variable {S : Type}
-- a for whose body goes on each time, the heap as it is: a fold
theorem forGo_fold {its : Items} {f : D → Env → Heap → Res Fl} {h : Heap} (E : S → Env) (step : S → D → S) (hs : still its h = true) : ∀ (xs : List D) (s : S),
    (∀ x ∈ xs, ∀ s, f x (E s) h = some (.ok (.nx (E (step s x))) h)) → forGo its f xs (E s) h = some (.ok (.nx (E (xs.foldl step s))) h)
  | [], s, _ => rfl
  | x :: xs, s, hf => by
    rw [forGo, hf x (by simp) s]
    simp only [bd_ok, hs, if_true]
    exact forGo_fold E step hs xs _ fun y hy => hf y (by simp [hy])
-- a for over ints whose body goes on each time
theorem forGo_ints {its : Items} {f : D → Env → Heap → Res Fl} {h : Heap} (E : S → Option D → Env) (step : S → Int → S) (hs : still its h = true) : ∀ (l : List Int) (s : S) (z : Option D),
    (∀ i ∈ l, ∀ s z, f (.int i) (E s z) h = some (.ok (.nx (E (step s i) (some (.int i)))) h)) → ∃ z', forGo its f (l.map D.int) (E s z) h = some (.ok (.nx (E (l.foldl step s) z')) h)
  | [], s, z, _ => ⟨z, rfl⟩
  | x :: xs, s, z, hf => by
    rw [List.map_cons, forGo, hf x (by simp) s z]
    simp only [bd_ok, hs, if_true]
    exact forGo_ints E step hs xs _ _ fun y hy => hf y (by simp [hy])
-- a for by an invariant; R: what a return gives, B: what a break leaves
theorem forGo_inv' {its : Items} {f : D → Env → Heap → Res Fl} (I : Nat → Env → Heap → Prop) (R : R → Heap → Prop) (B : Env → Heap → Prop)
    (hf : ∀ i x g h, its.1[i]? = some x → I i g h → ∃ fl h', f x g h = some (.ok fl h') ∧ match fl with
      | .nx g' => still its h' = true ∧ I (i + 1) g' h'
      | .ct g' => still its h' = true ∧ I (i + 1) g' h'
      | .bk g' => B g' h'
      | .rt r => R r h') : ∀ (xs : List D) (i : Nat) (g : Env) (h : Heap), its.1.drop i = xs → i ≤ its.1.length → I i g h →
    ∃ fl h', forGo its f xs g h = some (.ok fl h') ∧ match fl with
      | .nx g' => I its.1.length g' h' ∨ B g' h'
      | .rt r => R r h'
      | _ => False
  | [], i, g, h, e, hi, hI => ⟨.nx g, h, rfl, by
    have hl : its.1.length ≤ i := List.drop_eq_nil_iff.mp e
    have : i = its.1.length := by omega
    subst this
    exact .inl hI⟩
  | x :: xs, i, g, h, e, hi, hI => by
    have hx : its.1[i]? = some x := by
      have : (its.1.drop i)[0]? = some x := by rw [e]; rfl
      simpa using this
    have hr : its.1.drop (i + 1) = xs := by
      rw [← List.drop_drop, e]
      rfl
    have hlt : i < its.1.length := by
      rcases Nat.lt_or_ge i its.1.length with z | z
      · exact z
      · rw [List.getElem?_eq_none z] at hx; cases hx
    obtain ⟨fl, h', e1, q⟩ := hf i x g h hx hI
    simp only [forGo, e1, bd_ok]
    cases fl with
    | nx g' =>
      simp only at q ⊢
      rw [if_pos q.1]
      exact forGo_inv' I R B hf xs (i + 1) g' h' hr hlt q.2
    | ct g' =>
      simp only at q ⊢
      rw [if_pos q.1]
      exact forGo_inv' I R B hf xs (i + 1) g' h' hr hlt q.2
    | bk g' => exact ⟨.nx g', h', rfl, .inr q⟩
    | rt r => exact ⟨.rt r, h', rfl, q⟩
theorem forGo_inv {its : Items} {f : D → Env → Heap → Res Fl} (I : Nat → Env → Heap → Prop) (R : R → Heap → Prop) (B : Env → Heap → Prop) {g : Env} {h : Heap} (h0 : I 0 g h)
    (hf : ∀ i x g h, its.1[i]? = some x → I i g h → ∃ fl h', f x g h = some (.ok fl h') ∧ match fl with
      | .nx g' => still its h' = true ∧ I (i + 1) g' h'
      | .ct g' => still its h' = true ∧ I (i + 1) g' h'
      | .bk g' => B g' h'
      | .rt r => R r h') :
    ∃ fl h', forGo its f its.1 g h = some (.ok fl h') ∧ match fl with
      | .nx g' => I its.1.length g' h' ∨ B g' h'
      | .rt r => R r h'
      | _ => False := forGo_inv' I R B hf its.1 0 g h rfl (Nat.zero_le _) h0
-- a for that always goes on
theorem forGo_go {its : Items} {f : D → Env → Heap → Res Fl} (I : Nat → Env → Heap → Prop) {g : Env} {h : Heap} (h0 : I 0 g h)
    (hf : ∀ i x g h, its.1[i]? = some x → I i g h → ∃ g' h', f x g h = some (.ok (.nx g') h') ∧ still its h' = true ∧ I (i + 1) g' h') :
    ∃ g' h', forGo its f its.1 g h = some (.ok (.nx g') h') ∧ I its.1.length g' h' := by
  obtain ⟨fl, h', e, q⟩ := forGo_inv I (fun _ _ => False) (fun _ _ => False) h0 fun i x g h hx hI => by
    obtain ⟨g', h', e, q⟩ := hf i x g h hx hI
    exact ⟨.nx g', h', e, q⟩
  cases fl with
  | nx g' => exact ⟨g', h', e, q.resolve_right id⟩
  | rt r => exact q.elim
  | bk g => exact q.elim
  | ct g => exact q.elim
theorem still_none (l : List D) (h : Heap) : still (l, none) h = true := rfl
theorem still_some {l : List D} {p : Nat} {h : Heap} (e : h[p]? = some (.lst l)) : still (l, some p) h = true := by simp [still, e]
-- a comprehension, the heap as it is
theorem lcGo_map {f : D → Heap → Res (Option D)} {h : Heap} (v : D → Option D) : ∀ (xs : List D), (∀ x ∈ xs, f x h = some (.ok (v x) h)) → lcGo f xs h = some (.ok (xs.filterMap v) h)
  | [], _ => rfl
  | x :: xs, hf => by
    rw [lcGo, hf x (by simp)]
    have ih := lcGo_map v xs fun y hy => hf y (by simp [hy])
    cases e : v x with
    | none => simp only [ih, List.filterMap_cons, e]
    | some y => simp only [ih, List.filterMap_cons, e]
-- a comprehension by an invariant
theorem lcGo_inv' {f : D → Heap → Res (Option D)} (I : Nat → List D → Heap → Prop) (all : List D)
    (hf : ∀ i x acc h, all[i]? = some x → I i acc h → ∃ o h', f x h = some (.ok o h') ∧ I (i + 1) (acc ++ o.toList) h') : ∀ (xs : List D) (i : Nat) (acc : List D) (h : Heap), all.drop i = xs → i ≤ all.length → I i acc h →
    ∃ l h', lcGo f xs h = some (.ok l h') ∧ I all.length (acc ++ l) h'
  | [], i, acc, h, e, hi, hI => ⟨[], h, rfl, by
    have hl : all.length ≤ i := List.drop_eq_nil_iff.mp e
    have : i = all.length := by omega
    subst this
    rw [List.append_nil]
    exact hI⟩
  | x :: xs, i, acc, h, e, hi, hI => by
    have hx : all[i]? = some x := by
      have : (all.drop i)[0]? = some x := by rw [e]; rfl
      simpa using this
    have hr : all.drop (i + 1) = xs := by
      rw [← List.drop_drop, e]
      rfl
    have hlt : i < all.length := by
      rcases Nat.lt_or_ge i all.length with z | z
      · exact z
      · rw [List.getElem?_eq_none z] at hx; cases hx
    obtain ⟨o, h', e1, q⟩ := hf i x acc h hx hI
    obtain ⟨l, h2, e2, q2⟩ := lcGo_inv' I all hf xs (i + 1) _ h' hr hlt q
    rw [lcGo, e1]
    cases o with
    | none => exact ⟨l, h2, e2, by simpa using q2⟩
    | some y =>
      refine ⟨y :: l, h2, by simp only [e2], ?_⟩
      simpa using q2
theorem lcGo_inv {f : D → Heap → Res (Option D)} (I : Nat → List D → Heap → Prop) (all : List D) {h : Heap} (h0 : I 0 [] h)
    (hf : ∀ i x acc h, all[i]? = some x → I i acc h → ∃ o h', f x h = some (.ok o h') ∧ I (i + 1) (acc ++ o.toList) h') :
    ∃ l h', lcGo f all h = some (.ok l h') ∧ I all.length l h' := by
  obtain ⟨l, h', e, q⟩ := lcGo_inv' I all hf all 0 [] h rfl (Nat.zero_le _) h0
  exact ⟨l, h', e, by simpa using q⟩
-- a while: its turns
theorem whileGo_mono {c : Env → Heap → Res Bool} {f : Env → Heap → Res Fl} : ∀ (k : Nat) (g : Env) (h : Heap) (r : Out Fl), whileGo c f k g h = some r → ∀ m, k ≤ m → whileGo c f m g h = some r
  | 0, _, _, _, e, _, _ => by cases e
  | k + 1, g, h, r, e, m, hm => by
    obtain ⟨m, rfl⟩ : ∃ n, m = n + 1 := ⟨m - 1, by omega⟩
    simp only [whileGo] at e ⊢
    cases e1 : c g h with
    | none => rw [e1] at e; cases e
    | some o =>
      rw [e1] at e
      cases o with
      | exc x h' => exact e
      | ok b h' =>
        simp only [bd_ok] at e ⊢
        cases b with
        | false => exact e
        | true =>
          simp only [if_true] at e ⊢
          cases e2 : f g h' with
          | none => rw [e2] at e; cases e
          | some o =>
            rw [e2] at e
            cases o with
            | exc x h2 => exact e
            | ok fl h2 =>
              simp only [bd_ok] at e ⊢
              cases fl with
              | nx g' => exact whileGo_mono k g' h2 r e m (by omega)
              | ct g' => exact whileGo_mono k g' h2 r e m (by omega)
              | bk g' => exact e
              | rt v => exact e
theorem whileD_of {c : Env → Heap → Res Bool} {f : Env → Heap → Res Fl} {k : Nat} {g : Env} {h : Heap} {r : Out Fl} (e : whileGo c f k g h = some r) : whileD c f g h = some r := by
  have q : ∃ k r, whileGo c f k g h = some r := ⟨k, r, e⟩
  unfold whileD
  rw [dif_pos q]
  have gen : ∀ (n : Nat) (r' : Out Fl), whileGo c f n g h = some r' → some r' = some r := fun n r' e2 => by
    rcases Nat.le_total k n with z | z
    · exact e2.symm.trans (whileGo_mono _ _ _ _ e _ z)
    · exact (whileGo_mono _ _ _ _ e2 _ z).symm.trans e
  exact gen _ _ q.choose_spec.choose_spec
-- a while by an invariant with a measure
theorem whileD_inv {c : Env → Heap → Res Bool} {f : Env → Heap → Res Fl} (I : Nat → Env → Heap → Prop) (R : R → Heap → Prop) (B : Env → Heap → Prop)
    (hf : ∀ m g h, I m g h → ∃ b h', c g h = some (.ok b h') ∧ if b = true then ∃ fl h2, f g h' = some (.ok fl h2) ∧ match fl with
      | .nx g' => ∃ m', m' < m ∧ I m' g' h2
      | .ct g' => ∃ m', m' < m ∧ I m' g' h2
      | .bk g' => B g' h2
      | .rt r => R r h2 else B g h') : ∀ (m : Nat) (g : Env) (h : Heap), I m g h → ∃ fl h', whileD c f g h = some (.ok fl h') ∧ match fl with
      | .nx g' => B g' h'
      | .rt r => R r h'
      | _ => False := by
  suffices H : ∀ (n m : Nat) (g : Env) (h : Heap), m < n → I m g h → ∃ fl h', whileGo c f n g h = some (.ok fl h') ∧ match fl with
      | .nx g' => B g' h'
      | .rt r => R r h'
      | _ => False by
    intro m g h hI
    obtain ⟨fl, h', e, q⟩ := H (m + 1) m g h (by omega) hI
    exact ⟨fl, h', whileD_of e, q⟩
  intro n
  induction n with
  | zero => intro m g h hm; omega
  | succ n ih =>
    intro m g h hm hI
    obtain ⟨b, h', e, q⟩ := hf m g h hI
    simp only [whileGo, e, bd_ok]
    cases b with
    | false => exact ⟨.nx g, h', rfl, by simpa using q⟩
    | true =>
      simp only [if_true] at q ⊢
      obtain ⟨fl, h2, e2, q⟩ := q
      simp only [e2, bd_ok]
      cases fl with
      | nx g' =>
        obtain ⟨m', hm', hI'⟩ := q
        exact ih m' g' h2 (by omega) hI'
      | ct g' =>
        obtain ⟨m', hm', hI'⟩ := q
        exact ih m' g' h2 (by omega) hI'
      | bk g' => exact ⟨.nx g', h2, rfl, q⟩
      | rt r => exact ⟨.rt r, h2, rfl, q⟩
end
end MP

/-! MP.Snd20: the laws' dice. -/
namespace MP
open PySem

-- a draw below total
def rollDef (A M1 Bc M2 C Ev : Int) : Def := ⟨2, 5, [
  .if_ (.cmp .gt (.ix (.var 0) (.c (.int 0))) (.c (.int 0))) [.asg (.slot 2) (.bin .mod (.ix (.var 0) (.c (.int 0))) (.var 1)), .setix (.var 0) (.c (.int 0)) (.bin .fdiv (.ix (.var 0) (.c (.int 0))) (.var 1)), .ret (.b1 .int (.var 2))] [],
  .setix (.var 0) (.c (.int 2)) (.bin .add (.ix (.var 0) (.c (.int 2))) (.c (.int 1))),
  .asg (.slot 3) (.bin .mod (.bin .add (.ix (.var 0) (.c (.int 1))) (.bin .mul (.c (.int A)) (.ix (.var 0) (.c (.int 2))))) (.c (.int M1))),
  .asg (.slot 4) (.bin .add (.bin .mul (.bin .mod (.bin .add (.bin .mul (.var 3) (.var 3)) (.bin .mul (.c (.int Bc)) (.ix (.var 0) (.c (.int 2))))) (.c (.int M2))) (.c (.int C))) (.var 3)),
  .ret (.bin .mod (.b1 .int (.bin .fdiv (.var 4) (.c (.int Ev)))) (.var 1))]⟩

-- what the dice hold at p, over a store that is h0 elsewhere
structure Dice (h0 : Heap) (p n : Nat) (h : Heap) : Prop where
  len : h.length = h0.length
  old : ∀ q, q ≠ p → h[q]? = h0[q]?
  at_ : ∃ a b c : Int, h[p]? = some (.lst [.int a, .int b, .int c]) ∧ 0 ≤ a ∧ a < 2 ^ 2000 ∧ 0 ≤ b ∧ b < 2 ^ 200 ∧ 0 ≤ c ∧ c ≤ n
theorem Dice.lt {h0 h : Heap} {p n : Nat} (d : Dice h0 p n h) : p < h.length := by
  obtain ⟨a, b, c, e, _⟩ := d.at_
  rcases Nat.lt_or_ge p h.length with z | z
  · exact z
  · rw [List.getElem?_eq_none z] at e; cases e
theorem Dice.set {h0 h : Heap} {p n m : Nat} (d : Dice h0 p n h) {a b c : Int} (h1 : 0 ≤ a) (h2 : a < 2 ^ 2000) (h3 : 0 ≤ b) (h4 : b < 2 ^ 200) (h5 : 0 ≤ c) (h6 : c ≤ m) : Dice h0 p m (h.set p (.lst [.int a, .int b, .int c])) := by
  refine ⟨by rw [List.length_set]; exact d.len, fun q hq => by rw [List.getElem?_set_ne (Ne.symm hq)]; exact d.old q hq, a, b, c, ?_, h1, h2, h3, h4, h5, h6⟩
  rw [List.getElem?_set]
  simp [d.lt]
theorem Dice.set_get {h0 h : Heap} {p n : Nat} (d : Dice h0 p n h) (o : O) : (h.set p o)[p]? = some o := by
  rw [List.getElem?_set]
  simp [d.lt]
theorem Dice.mono {h0 h : Heap} {p n m : Nat} (d : Dice h0 p n h) (hn : n ≤ m) : Dice h0 p m h := by
  obtain ⟨a, b, c, e, h1, h2, h3, h4, h5, h6⟩ := d.at_
  exact ⟨d.len, d.old, a, b, c, e, h1, h2, h3, h4, h5, by omega⟩
theorem Dice.oldOk {h0 h h' : Heap} {p n m : Nat} (d : Dice h0 p n h) (d' : Dice h0 p m h') : OldOk h h' := by
  refine ⟨by rw [d.len, d'.len]; exact Nat.le_refl _, fun i hi => ?_⟩
  by_cases hp : i = p
  · subst hp
    obtain ⟨a, b, c, e, _⟩ := d'.at_
    exact .inr ⟨_, e, rfl⟩
  · exact .inl (by rw [d.old i hp, d'.old i hp])
theorem Dice.take {h0 h h' : Heap} {p n m : Nat} (d : Dice h0 p n h) (d' : Dice h0 p m h') : h'.take h.length = h' := by
  rw [d.len, ← d'.len, List.take_length]
theorem log2_lt {i : Int} {m : Nat} (hm : 0 < m) (h0 : 0 ≤ i) (h : i < 2 ^ m) : i.natAbs.log2 < m := by
  by_cases hz : i.natAbs = 0
  · rw [hz]
    simpa using hm
  · rw [Nat.log2_lt hz]
    have : ((i.natAbs : Nat) : Int) < ((2 ^ m : Nat) : Int) := by
      rw [Int.natAbs_of_nonneg h0]
      simpa using h
    exact_mod_cast this
theorem fdiv_ok {t : Int} (h0 : 0 < t) (h : t < 2 ^ 9000) : fdivOk t = true := decide_eq_true ⟨h0, log2_lt (by decide) (Int.le_of_lt h0) h⟩
theorem mul_ok {i j : Int} {m n : Nat} (hm : 0 < m) (hn : 0 < n) (hs : m + n ≤ 1000000) (h1 : -(2 ^ m) < i) (h2 : i < 2 ^ m) (h3 : -(2 ^ n) < j) (h4 : j < 2 ^ n) : mulOk i j = true := by
  have gen : ∀ {i : Int} {m : Nat}, 0 < m → -(2 ^ m) < i → i < 2 ^ m → i.natAbs.log2 < m := fun {i m} hm a b => by
    rcases Int.le_total 0 i with z | z
    · exact log2_lt hm z b
    · have := log2_lt (i := -i) hm (by omega) (by omega)
      simpa using this
  have a := gen hm h1 h2
  have b := gen hn h3 h4
  exact decide_eq_true (by omega)
theorem roll_spec {T : Tab} {k f : Nat} {A M1 Bc M2 C Ev : Int} (hT : T.defs[f]? = some (rollDef A M1 Bc M2 C Ev)) (hc : (0 < A ∧ A < 2 ^ 64) ∧ (0 < M1 ∧ M1 < 2 ^ 64) ∧ (0 < Bc ∧ Bc < 2 ^ 64) ∧ (0 < M2 ∧ M2 < 2 ^ 64) ∧ (0 < C ∧ C < 2 ^ 64) ∧ 0 < Ev ∧ Ev < 2 ^ 64)
    {h0 h : Heap} {p n : Nat} (d : Dice h0 p n h) (hn : (n : Int) < 2 ^ 100) {t : Int} (ht : 0 < t) (ht2 : t < 2 ^ 9000) :
    ∃ r h', callI T (k + 1) f [.loc p, .int t] h = some (.ok (.v (.int r)) h') ∧ 0 ≤ r ∧ r < t ∧ Dice h0 p (n + 1) h' := by
  obtain ⟨⟨A1, A2⟩, ⟨B1, B2⟩, ⟨C1, C2⟩, ⟨D1, D2⟩, ⟨E1, E2⟩, F1, F2⟩ := hc
  obtain ⟨a, b, c, e, h1, h2, h3, h4, h5, h6⟩ := d.at_
  rw [call_of hT rfl]
  have f1 := fdiv_ok ht ht2
  by_cases ha : 0 < a
  · have hle : a / t ≤ a := Int.ediv_le_self t h1
    have d' : Dice h0 p n (h.set p (.lst [.int (a / t), .int b, .int c])) := d.set (Int.ediv_nonneg h1 (Int.le_of_lt ht)) (by omega) h3 h4 h5 h6
    refine ⟨a % t, _, ?_, Int.emod_nonneg a (by omega), Int.emod_lt_of_pos a ht, d'.mono (Nat.le_succ n)⟩
    simp [rollDef, e, ha, ht, f1, endI_rt]
    rw [gc_v2 (d.oldOk d') rfl rfl, d.take d']
  · have f2 := fdiv_ok F1 (show Ev < 2 ^ 9000 by omega)
    have d' : Dice h0 p (n + 1) (h.set p (.lst [.int a, .int b, .int (c + 1)])) := d.set h1 h2 h3 h4 (by omega) (by omega)
    have es := d.set_get
    have m1 : mulOk A (c + 1) = true := mul_ok (m := 64) (n := 101) (by decide) (by decide) (by decide) (by omega) A2 (by omega) (by omega)
    have o1 := Int.emod_nonneg (b + A * (c + 1)) (show M1 ≠ 0 by omega)
    have o2 := Int.emod_lt_of_pos (b + A * (c + 1)) B1
    have m3 : mulOk Bc (c + 1) = true := mul_ok (m := 64) (n := 101) (by decide) (by decide) (by decide) (by omega) C2 (by omega) (by omega)
    generalize hone : (b + A * (c + 1)) % M1 = one at o1 o2
    have m2 : mulOk one one = true := mul_ok (m := 64) (n := 64) (by decide) (by decide) (by decide) (by omega) (by omega) (by omega) (by omega)
    have t1 := Int.emod_nonneg (one * one + Bc * (c + 1)) (show M2 ≠ 0 by omega)
    have t2 := Int.emod_lt_of_pos (one * one + Bc * (c + 1)) D1
    generalize htwo : (one * one + Bc * (c + 1)) % M2 = two at t1 t2
    have m4 : mulOk two C = true := mul_ok (m := 64) (n := 64) (by decide) (by decide) (by decide) (by omega) (by omega) (by omega) (by omega)
    refine ⟨(two * C + one) / Ev % t, _, ?_, Int.emod_nonneg _ (by omega), Int.emod_lt_of_pos _ ht, d'⟩
    simp [rollDef, e, es, ha, ht, endI_rt, m1, B1, hone, m2, m3, D1, htwo, m4, f2]
    rw [gc_v2 (d.oldOk d') rfl rfl, d.take d']
end MP

set_option exponentiation.threshold 3000
/-! MP.Snd21: the laws' dice: how they are made, a choice. -/
namespace MP
open PySem

def diceDef (K1 K2 M K4 K5 K6 K7 : Int) : Def := ⟨2, 5, [
  .asg (.slot 2) (.ite (.cmp .lt (.var 1) (.b1 .len (.var 0))) (.b1 .int (.ix (.var 0) (.var 1))) (.bin .add (.bin .mul (.c (.int K1)) (.var 1)) (.c (.int K2)))),
  .asg (.slot 3) (.bin .mod (.b1 .int (.b1 .abs (.var 2))) (.bin .pow (.bin .pow (.c (.int 10)) (.c (.int 54))) (.c (.int 6)))),
  .asg (.slot 4) (.bin .add (.bin .add (.bin .add (.bin .mul (.bin .mod (.var 3) (.c (.int M))) (.c (.int K4))) (.bin .mul (.c (.int K5)) (.var 1))) (.bin .mul (.c (.int K6)) (.b1 .int (.cmp .lt (.var 2) (.c (.int 0)))))) (.c (.int K7))),
  .ret (.lst [(.b2 .max (.c (.int 0)) (.bin .sub (.var 3) (.bin .pow (.c (.int 10)) (.c (.int 16))))), (.var 4), (.c (.int 0))])]⟩
theorem dice_spec {T : Tab} {k f : Nat} {K1 K2 M K4 K5 K6 K7 : Int} (hT : T.defs[f]? = some (diceDef K1 K2 M K4 K5 K6 K7)) (hc : (0 < K1 ∧ K1 < 2 ^ 64) ∧ (0 < M ∧ M < 2 ^ 64) ∧ (0 < K4 ∧ K4 < 2 ^ 64) ∧ (0 < K5 ∧ K5 < 2 ^ 64) ∧ (0 < K6 ∧ K6 < 2 ^ 64) ∧ (0 < K7 ∧ K7 < 2 ^ 64))
    (ns : List Int) (h : Heap) (i : Nat) (hi : i < 2 ^ 32) :
    ∃ a b, callI T (k + 1) f [.scr (ns.map .int), .int i] h = some (.ok (.newL [.int a, .int b, .int 0]) h) ∧ 0 ≤ a ∧ a < 2 ^ 2000 ∧ 0 ≤ b ∧ b < 2 ^ 200 := by
  obtain ⟨⟨A1, A2⟩, ⟨B1, B2⟩, ⟨C1, C2⟩, ⟨D1, D2⟩, ⟨E1, E2⟩, F1, F2⟩ := hc
  rw [call_of hT rfl]
  have m1 : mulOk K1 i = true := mul_ok (m := 64) (n := 64) (by decide) (by decide) (by decide) (by omega) (by omega) (by omega) (by omega)
  have m3 : mulOk K5 i = true := mul_ok (m := 64) (n := 64) (by decide) (by decide) (by decide) (by omega) (by omega) (by omega) (by omega)
  have p1 : powOk 10 54 = true := by decide +kernel
  have p2 : powOk (10 ^ 54) 6 = true := by decide +kernel
  have p3 : powOk 10 16 = true := by decide +kernel
  -- the cell
  obtain ⟨cell, hcell⟩ : ∃ cell : Int, eval (callI T k) T.get (.ite (.cmp .lt (.var 1) (.b1 .len (.var 0))) (.b1 .int (.ix (.var 0) (.var 1))) (.bin .add (.bin .mul (.c (.int K1)) (.var 1)) (.c (.int K2)))) (start (diceDef K1 K2 M K4 K5 K6 K7) [.scr (ns.map .int), .int i]) h = some (.ok (.v (.int cell)) h) := by
    by_cases hl : i < ns.length
    · refine ⟨ns[i], ?_⟩
      simp [diceDef, hl]
    · refine ⟨K1 * i + K2, ?_⟩
      simp [diceDef, hl, m1]
  have p2' : powOk (10 ^ 54) 6 = powOk 1000000000000000000000000000000000000000000000000000000 6 := by simp
  rw [p2'] at p2
  -- the great part
  obtain ⟨great, hgreat, g1, g2⟩ : ∃ great : Int, eval (callI T k) T.get (.bin .mod (.b1 .int (.b1 .abs (.var 2))) (.bin .pow (.bin .pow (.c (.int 10)) (.c (.int 54))) (.c (.int 6)))) [some (D.scr (List.map D.int ns)), some (D.int ↑i), some (.int cell), none, none] h = some (.ok (.v (.int great)) h) ∧ 0 ≤ great ∧ great < 2 ^ 2000 := by
    refine ⟨(if cell < 0 then -cell else cell) % (10 ^ 324), by simp [p1, p2], Int.emod_nonneg _ (by decide +kernel), ?_⟩
    have := Int.emod_lt_of_pos (if cell < 0 then -cell else cell) (show (0 : Int) < 10 ^ 324 by decide +kernel)
    have e : (10 : Int) ^ 324 < 2 ^ 2000 := by decide +kernel
    omega
  have s1 := Int.emod_nonneg great (show M ≠ 0 by omega)
  have s2 := Int.emod_lt_of_pos great B1
  generalize hs : great % M = sd at s1 s2
  have m4 : mulOk sd K4 = true := mul_ok (m := 64) (n := 64) (by decide) (by decide) (by decide) (by omega) (by omega) (by omega) (by omega)
  have m6 : ∀ b : Bool, mulOk K6 (b2i b) = true := fun b => mul_ok (m := 64) (n := 64) (by decide) (by decide) (by decide) (by omega) (by omega) (by cases b <;> decide) (by cases b <;> decide)
  simp only [diceDef, start, List.map_cons, List.map_nil, List.length_cons, List.length_nil, List.replicate, List.cons_append, List.nil_append] at hcell
  simp only [diceDef, execs, exec, start, List.map_cons, List.map_nil, List.length_cons, List.length_nil, List.replicate, List.cons_append, List.nil_append, hcell, bd_ok, R.frz_v, assign, List.set_cons_zero, List.set_cons_succ, hgreat]
  have bb := m6 (decide (cell < 0))
  have b1 : mulOk sd K4 = true := m4
  have q1 : 0 ≤ b2i (decide (cell < 0)) ∧ b2i (decide (cell < 0)) ≤ 1 := by cases decide (cell < 0) <;> decide
  have q2 : 0 ≤ sd * K4 ∧ sd * K4 < 2 ^ 128 := ⟨Int.mul_nonneg s1 (by omega), by
    have := Int.mul_le_mul (show sd ≤ 2 ^ 64 by omega) (show K4 ≤ 2 ^ 64 - 1 by omega) (by omega) (by decide)
    omega⟩
  have q3 : 0 ≤ K5 * i ∧ K5 * i < 2 ^ 128 := ⟨Int.mul_nonneg (by omega) (by omega), by
    have := Int.mul_le_mul (show K5 ≤ 2 ^ 64 by omega) (show (i : Int) ≤ 2 ^ 64 - 1 by omega) (by omega) (by decide)
    omega⟩
  have q4 : 0 ≤ K6 * b2i (decide (cell < 0)) ∧ K6 * b2i (decide (cell < 0)) < 2 ^ 64 := by
    cases decide (cell < 0)
    · simp [b2i]
    · simp only [b2i, if_true, Int.mul_one]
      omega
  generalize hb : b2i (decide (cell < 0)) = bz at q1 q4 bb
  generalize e1 : sd * K4 = x1 at q2
  generalize e2 : K5 * (i : Int) = x2 at q3
  generalize e3 : K6 * bz = x3 at q4
  have p4 : (10000000000000000 : Int) = 10 ^ 16 := by decide
  refine ⟨if great - 10000000000000000 > 0 then great - 10000000000000000 else 0, x1 + x2 + x3 + K7, ?_, by split <;> omega, by split <;> omega, by omega, by omega⟩
  simp [p3, B1, hs, m4, m3, hb, bb, e1, e2, e3, endI_rt]
  rw [gc_new rfl]
-- one of a list
def pickDef (rl : Nat) : Def := ⟨2, 2, [
  .ret (.ix (.var 1) (.call rl [(.var 0), (.b1 .len (.var 1))]))]⟩
def RollOk (T : Tab) (rl : Nat) : Prop := ∀ (k : Nat) (h0 h : Heap) (p n : Nat) (t : Int), Dice h0 p n h → (n : Int) < 2 ^ 100 → 0 < t → t < 2 ^ 9000 →
  ∃ r h', callI T (k + 1) rl [.loc p, .int t] h = some (.ok (.v (.int r)) h') ∧ 0 ≤ r ∧ r < t ∧ Dice h0 p (n + 1) h'
theorem pick_spec {T : Tab} {k f rl : Nat} (hT : T.defs[f]? = some (pickDef rl)) (R : RollOk T rl) {h0 h : Heap} {p n : Nat} (d : Dice h0 p n h) (hn : (n : Int) < 2 ^ 100) {l : List D} (hl : 0 < l.length) (hl2 : (l.length : Int) < 2 ^ 9000) (hx : ∀ x ∈ l, noLoc x = true ∧ cl h.length x = true) :
    ∃ x h', callI T (k + 2) f [.loc p, .lst l] h = some (.ok (.v x) h') ∧ x ∈ l ∧ Dice h0 p (n + 1) h' := by
  obtain ⟨r, h', e, r0, r1, d'⟩ := R k h0 h p n l.length d hn (by omega) hl2
  have hr : r.toNat < l.length := by omega
  have hm : l[r.toNat] ∈ l := List.getElem_mem hr
  refine ⟨l[r.toNat], h', ?_, hm, d'⟩
  rw [call_of hT rfl]
  simp [pickDef, e, r0, List.getElem?_eq_getElem hr]
  rw [gc_v2 (d.oldOk d') (hx _ hm).1 (hx _ hm).2, d.take d']
-- draws by a comprehension over a range
theorem lc_draws {f : D → Heap → Res (Option D)} {h0 : Heap} {p : Nat} (c : Nat) (Pr : Int → Prop) {lo hi : Int} {h : Heap} {n : Nat} (d : Dice h0 p n h)
    (hf : ∀ (j : Int) (h : Heap) (m : Nat), m ≤ n + c * (hi - lo).toNat → Dice h0 p m h → ∃ x h', f (.int j) h = some (.ok (some (.int x)) h') ∧ Pr x ∧ Dice h0 p (m + c) h') :
    ∃ (l : List Int) (h' : Heap), lcGo f (rangeD lo hi) h = some (.ok (l.map .int) h') ∧ l.length = (hi - lo).toNat ∧ (∀ x ∈ l, Pr x) ∧ Dice h0 p (n + c * (hi - lo).toNat) h' := by
  obtain ⟨l, h', e, ⟨l2, rfl, hl, hp⟩, d'⟩ := lcGo_inv (f := f) (fun i acc h => (∃ l : List Int, acc = l.map .int ∧ l.length = i ∧ ∀ x ∈ l, Pr x) ∧ Dice h0 p (n + c * i) h) (rangeD lo hi) (h := h) ⟨⟨[], rfl, rfl, by simp⟩, by simpa using d⟩ (by
    rintro i x acc h hx ⟨⟨l, rfl, hl, hp⟩, d⟩
    have hi' : i < (hi - lo).toNat := by
      rcases Nat.lt_or_ge i (hi - lo).toNat with q | q
      · exact q
      · rw [List.getElem?_eq_none (by rw [rangeD_len]; exact q)] at hx; cases hx
    obtain ⟨j, rfl⟩ : ∃ j, x = .int j := by
      unfold rangeD at hx
      rw [List.getElem?_map] at hx
      cases c : (List.range (hi - lo).toNat)[i]? with
      | none => rw [c] at hx; cases hx
      | some a => rw [c] at hx; cases hx; exact ⟨_, rfl⟩
    obtain ⟨x, h', e, px, d'⟩ := hf j h (n + c * i) (by have := Nat.mul_le_mul_left c (Nat.le_of_lt hi'); omega) d
    refine ⟨some (.int x), h', e, ⟨l ++ [x], by simp, by simp [hl], fun y hy => ?_⟩, ?_⟩
    · rcases List.mem_append.mp hy with q | q
      · exact hp y q
      · simp only [List.mem_singleton] at q
        rw [q]
        exact px
    · rw [Nat.mul_add, Nat.mul_one, ← Nat.add_assoc]
      exact d')
  rw [rangeD_len] at hl d'
  exact ⟨l2, h', e, hl, hp, d'⟩
end MP

/-! The law's defs as texts of MP (printed by a tool), the table. -/
namespace K00
open PySem MP

def names : List Str := [(PySem.Str.ofString "_law_dice"), (PySem.Str.ofString "_law_roll"), (PySem.Str.ofString "_law_value"), (PySem.Str.ofString "_law_own_names"), (PySem.Str.ofString "_law_outer_names"), (PySem.Str.ofString "_law_right"), (PySem.Str.ofString "law")]
def tops : List Nat := [14, 15, 16, 17, 18, 19, 20]
-- 0: _law_dice(script, spot); names: 0=script 1=spot 2=cell 3=great 4=seed
def N0 : List Str := [(PySem.Str.ofString "script"), (PySem.Str.ofString "spot"), (PySem.Str.ofString "cell"), (PySem.Str.ofString "great"), (PySem.Str.ofString "seed")]
def d0 : Def := ⟨2, 5, [
  .asg (.slot 2) (.ite (.cmp .lt (.var 1) (.b1 .len (.var 0))) (.b1 .int (.ix (.var 0) (.var 1))) (.bin .add (.bin .mul (.c (.int 149)) (.var 1)) (.c (.int 53)))),
  .asg (.slot 3) (.bin .mod (.b1 .int (.b1 .abs (.var 2))) (.bin .pow (.bin .pow (.c (.int 10)) (.c (.int 54))) (.c (.int 6)))),
  .asg (.slot 4) (.bin .add (.bin .add (.bin .add (.bin .mul (.bin .mod (.var 3) (.c (.int 2305843009213693921))) (.c (.int 67))) (.bin .mul (.c (.int 743)) (.var 1))) (.bin .mul (.c (.int 37)) (.b1 .int (.cmp .lt (.var 2) (.c (.int 0)))))) (.c (.int 29))),
  .ret (.lst [(.b2 .max (.c (.int 0)) (.bin .sub (.var 3) (.bin .pow (.c (.int 10)) (.c (.int 16))))), (.var 4), (.c (.int 0))])]⟩

-- 1: _law_roll(dice, total); names: 0=dice 1=total 2=found 3=one 4=two
def N1 : List Str := [(PySem.Str.ofString "dice"), (PySem.Str.ofString "total"), (PySem.Str.ofString "found"), (PySem.Str.ofString "one"), (PySem.Str.ofString "two")]
def d1 : Def := ⟨2, 5, [
  .if_ (.cmp .gt (.ix (.var 0) (.c (.int 0))) (.c (.int 0))) [.asg (.slot 2) (.bin .mod (.ix (.var 0) (.c (.int 0))) (.var 1)), .setix (.var 0) (.c (.int 0)) (.bin .fdiv (.ix (.var 0) (.c (.int 0))) (.var 1)), .ret (.b1 .int (.var 2))] [],
  .setix (.var 0) (.c (.int 2)) (.bin .add (.ix (.var 0) (.c (.int 2))) (.c (.int 1))),
  .asg (.slot 3) (.bin .mod (.bin .add (.ix (.var 0) (.c (.int 1))) (.bin .mul (.c (.int 86028157)) (.ix (.var 0) (.c (.int 2))))) (.c (.int 2305843009213693951))),
  .asg (.slot 4) (.bin .add (.bin .mul (.bin .mod (.bin .add (.bin .mul (.var 3) (.var 3)) (.bin .mul (.c (.int 179)) (.ix (.var 0) (.c (.int 2))))) (.c (.int 2305843009213693907))) (.c (.int 15485867))) (.var 3)),
  .ret (.bin .mod (.b1 .int (.bin .fdiv (.var 4) (.c (.int 65579)))) (.var 1))]⟩

-- 2: _law_value(dice); names: 0=dice 1=way
def N2 : List Str := [(PySem.Str.ofString "dice"), (PySem.Str.ofString "way")]
def d2 : Def := ⟨1, 2, [
  .asg (.slot 1) (.call 1 [(.var 0), (.c (.int 4))]),
  .if_ (.cmp .eq (.var 1) (.c (.int 0))) [.ret (.bin .sub (.call 1 [(.var 0), (.bin .pow (.c (.int 10)) (.c (.int 20)))]) (.bin .pow (.c (.int 10)) (.c (.int 10))))] [],
  .if_ (.cmp .eq (.var 1) (.c (.int 1))) [.ret (.bin .add (.c (.str (PySem.Str.ofString "n"))) (.b1 .str (.call 1 [(.var 0), (.c (.int 100))])))] [],
  .ret (.ite (.cmp .eq (.var 1) (.c (.int 2))) (.c .non) (.tup [(.call 1 [(.var 0), (.c (.int 9))]), (.c (.str (PySem.Str.ofString "a")))]))]⟩

-- 3: _law_own_names(error); names: 0=error 1=found
def N3 : List Str := [(PySem.Str.ofString "error"), (PySem.Str.ofString "found")]
def d3 : Def := ⟨1, 2, [
  .asg (.slot 1) (.alloc (.lst [])),
  .if_ (.isX (.var 0) (PySem.Str.ofString "InvalidLayout") [(PySem.Str.ofString "InvalidLayout")] [(PySem.Str.ofString "SpansError"), (PySem.Str.ofString "InvalidTask"), (PySem.Str.ofString "InvalidLane"), (PySem.Str.ofString "InvalidScript"), (PySem.Str.ofString "InvalidOperation"), (PySem.Str.ofString "ParseError"), (PySem.Str.ofString "UnknownName"), (PySem.Str.ofString "InvalidCount"), (PySem.Str.ofString "TooMany"), (PySem.Str.ofString "LostBlock"), (PySem.Str.ofString "NothingToUndo")]) [.expr (.meth .append (.var 1) [(.c (.str (PySem.Str.ofString "layout")))])] [],
  .if_ (.isX (.var 0) (PySem.Str.ofString "InvalidTask") [(PySem.Str.ofString "InvalidTask")] [(PySem.Str.ofString "SpansError"), (PySem.Str.ofString "InvalidLayout"), (PySem.Str.ofString "InvalidLane"), (PySem.Str.ofString "InvalidScript"), (PySem.Str.ofString "InvalidOperation"), (PySem.Str.ofString "ParseError"), (PySem.Str.ofString "UnknownName"), (PySem.Str.ofString "InvalidCount"), (PySem.Str.ofString "TooMany"), (PySem.Str.ofString "LostBlock"), (PySem.Str.ofString "NothingToUndo")]) [.expr (.meth .append (.var 1) [(.c (.str (PySem.Str.ofString "task")))])] [],
  .if_ (.isX (.var 0) (PySem.Str.ofString "InvalidLane") [(PySem.Str.ofString "InvalidLane")] [(PySem.Str.ofString "SpansError"), (PySem.Str.ofString "InvalidLayout"), (PySem.Str.ofString "InvalidTask"), (PySem.Str.ofString "InvalidScript"), (PySem.Str.ofString "InvalidOperation"), (PySem.Str.ofString "ParseError"), (PySem.Str.ofString "UnknownName"), (PySem.Str.ofString "InvalidCount"), (PySem.Str.ofString "TooMany"), (PySem.Str.ofString "LostBlock"), (PySem.Str.ofString "NothingToUndo")]) [.expr (.meth .append (.var 1) [(.c (.str (PySem.Str.ofString "lane")))])] [],
  .if_ (.isX (.var 0) (PySem.Str.ofString "InvalidScript") [(PySem.Str.ofString "InvalidScript")] [(PySem.Str.ofString "SpansError"), (PySem.Str.ofString "InvalidLayout"), (PySem.Str.ofString "InvalidTask"), (PySem.Str.ofString "InvalidLane"), (PySem.Str.ofString "InvalidOperation"), (PySem.Str.ofString "ParseError"), (PySem.Str.ofString "UnknownName"), (PySem.Str.ofString "InvalidCount"), (PySem.Str.ofString "TooMany"), (PySem.Str.ofString "LostBlock"), (PySem.Str.ofString "NothingToUndo")]) [.expr (.meth .append (.var 1) [(.c (.str (PySem.Str.ofString "script")))])] [],
  .if_ (.isX (.var 0) (PySem.Str.ofString "InvalidOperation") [(PySem.Str.ofString "InvalidOperation")] [(PySem.Str.ofString "SpansError"), (PySem.Str.ofString "InvalidLayout"), (PySem.Str.ofString "InvalidTask"), (PySem.Str.ofString "InvalidLane"), (PySem.Str.ofString "InvalidScript"), (PySem.Str.ofString "ParseError"), (PySem.Str.ofString "UnknownName"), (PySem.Str.ofString "InvalidCount"), (PySem.Str.ofString "TooMany"), (PySem.Str.ofString "LostBlock"), (PySem.Str.ofString "NothingToUndo")]) [.expr (.meth .append (.var 1) [(.c (.str (PySem.Str.ofString "operation")))])] [],
  .if_ (.isX (.var 0) (PySem.Str.ofString "ParseError") [(PySem.Str.ofString "ParseError")] [(PySem.Str.ofString "SpansError"), (PySem.Str.ofString "InvalidLayout"), (PySem.Str.ofString "InvalidTask"), (PySem.Str.ofString "InvalidLane"), (PySem.Str.ofString "InvalidScript"), (PySem.Str.ofString "InvalidOperation"), (PySem.Str.ofString "UnknownName"), (PySem.Str.ofString "InvalidCount"), (PySem.Str.ofString "TooMany"), (PySem.Str.ofString "LostBlock"), (PySem.Str.ofString "NothingToUndo")]) [.expr (.meth .append (.var 1) [(.c (.str (PySem.Str.ofString "parse")))])] [],
  .ret (.var 1)]⟩

-- 4: _law_outer_names(error); names: 0=error 1=found
def N4 : List Str := [(PySem.Str.ofString "error"), (PySem.Str.ofString "found")]
def d4 : Def := ⟨1, 2, [
  .asg (.slot 1) (.alloc (.lst [])),
  .if_ (.isX (.var 0) (PySem.Str.ofString "UnknownName") [(PySem.Str.ofString "UnknownName")] [(PySem.Str.ofString "SpansError"), (PySem.Str.ofString "InvalidLayout"), (PySem.Str.ofString "InvalidTask"), (PySem.Str.ofString "InvalidLane"), (PySem.Str.ofString "InvalidScript"), (PySem.Str.ofString "InvalidOperation"), (PySem.Str.ofString "ParseError"), (PySem.Str.ofString "InvalidCount"), (PySem.Str.ofString "TooMany"), (PySem.Str.ofString "LostBlock"), (PySem.Str.ofString "NothingToUndo")]) [.expr (.meth .append (.var 1) [(.c (.str (PySem.Str.ofString "name")))])] [],
  .if_ (.isX (.var 0) (PySem.Str.ofString "InvalidCount") [(PySem.Str.ofString "InvalidCount")] [(PySem.Str.ofString "SpansError"), (PySem.Str.ofString "InvalidLayout"), (PySem.Str.ofString "InvalidTask"), (PySem.Str.ofString "InvalidLane"), (PySem.Str.ofString "InvalidScript"), (PySem.Str.ofString "InvalidOperation"), (PySem.Str.ofString "ParseError"), (PySem.Str.ofString "UnknownName"), (PySem.Str.ofString "TooMany"), (PySem.Str.ofString "LostBlock"), (PySem.Str.ofString "NothingToUndo")]) [.expr (.meth .append (.var 1) [(.c (.str (PySem.Str.ofString "count")))])] [],
  .if_ (.isX (.var 0) (PySem.Str.ofString "TooMany") [(PySem.Str.ofString "TooMany")] [(PySem.Str.ofString "SpansError"), (PySem.Str.ofString "InvalidLayout"), (PySem.Str.ofString "InvalidTask"), (PySem.Str.ofString "InvalidLane"), (PySem.Str.ofString "InvalidScript"), (PySem.Str.ofString "InvalidOperation"), (PySem.Str.ofString "ParseError"), (PySem.Str.ofString "UnknownName"), (PySem.Str.ofString "InvalidCount"), (PySem.Str.ofString "LostBlock"), (PySem.Str.ofString "NothingToUndo")]) [.expr (.meth .append (.var 1) [(.c (.str (PySem.Str.ofString "many")))])] [],
  .if_ (.isX (.var 0) (PySem.Str.ofString "LostBlock") [(PySem.Str.ofString "LostBlock")] [(PySem.Str.ofString "SpansError"), (PySem.Str.ofString "InvalidLayout"), (PySem.Str.ofString "InvalidTask"), (PySem.Str.ofString "InvalidLane"), (PySem.Str.ofString "InvalidScript"), (PySem.Str.ofString "InvalidOperation"), (PySem.Str.ofString "ParseError"), (PySem.Str.ofString "UnknownName"), (PySem.Str.ofString "InvalidCount"), (PySem.Str.ofString "TooMany"), (PySem.Str.ofString "NothingToUndo")]) [.expr (.meth .append (.var 1) [(.c (.str (PySem.Str.ofString "lost")))])] [],
  .if_ (.isX (.var 0) (PySem.Str.ofString "NothingToUndo") [(PySem.Str.ofString "NothingToUndo")] [(PySem.Str.ofString "SpansError"), (PySem.Str.ofString "InvalidLayout"), (PySem.Str.ofString "InvalidTask"), (PySem.Str.ofString "InvalidLane"), (PySem.Str.ofString "InvalidScript"), (PySem.Str.ofString "InvalidOperation"), (PySem.Str.ofString "ParseError"), (PySem.Str.ofString "UnknownName"), (PySem.Str.ofString "InvalidCount"), (PySem.Str.ofString "TooMany"), (PySem.Str.ofString "LostBlock")]) [.expr (.meth .append (.var 1) [(.c (.str (PySem.Str.ofString "nothing")))])] [],
  .ret (.var 1)]⟩

-- 5: _law_right(dice); names: 0=dice 1=value 2=inner 3=error 4=outer 5=told
def N5 : List Str := [(PySem.Str.ofString "dice"), (PySem.Str.ofString "value"), (PySem.Str.ofString "inner"), (PySem.Str.ofString "error"), (PySem.Str.ofString "outer"), (PySem.Str.ofString "told")]
def e5_1 : E := (.call 3 [(.var 3)])
def b5_2 : List St := [.if_ (.or (.not (.isX (.var 3) (PySem.Str.ofString "SpansError") [(PySem.Str.ofString "SpansError"), (PySem.Str.ofString "InvalidLayout"), (PySem.Str.ofString "InvalidTask"), (PySem.Str.ofString "InvalidLane"), (PySem.Str.ofString "InvalidScript"), (PySem.Str.ofString "InvalidOperation"), (PySem.Str.ofString "ParseError")] [(PySem.Str.ofString "UnknownName"), (PySem.Str.ofString "InvalidCount"), (PySem.Str.ofString "TooMany"), (PySem.Str.ofString "LostBlock"), (PySem.Str.ofString "NothingToUndo")])) (.or (.not (.isX (.var 3) (PySem.Str.ofString "ValueError") [(PySem.Str.ofString "SpansError"), (PySem.Str.ofString "InvalidLayout"), (PySem.Str.ofString "InvalidTask"), (PySem.Str.ofString "InvalidLane"), (PySem.Str.ofString "InvalidScript"), (PySem.Str.ofString "InvalidOperation"), (PySem.Str.ofString "ParseError")] [(PySem.Str.ofString "UnknownName"), (PySem.Str.ofString "InvalidCount"), (PySem.Str.ofString "TooMany"), (PySem.Str.ofString "LostBlock"), (PySem.Str.ofString "NothingToUndo")])) (.cmp .ne (.call 4 [(.var 3)]) (.lst [])))) [.ret (.c (.bl false))] []]
def e5_3 : E := (.call 4 [(.var 3)])
def e5_4 : E := (.var 3)
def d5 : Def := ⟨1, 6, [
  .asg (.slot 1) (.call 2 [(.var 0)]),
  .asg (.slot 2) (.alloc (.lst [(.mkX (PySem.Str.ofString "InvalidLayout") none (.c (.str (PySem.Str.ofString "l")))), (.mkX (PySem.Str.ofString "InvalidTask") none (.c (.str (PySem.Str.ofString "t")))), (.mkX (PySem.Str.ofString "InvalidLane") none (.c (.str (PySem.Str.ofString "n")))), (.mkX (PySem.Str.ofString "InvalidScript") none (.c (.str (PySem.Str.ofString "s")))), (.mkX (PySem.Str.ofString "InvalidOperation") none (.c (.str (PySem.Str.ofString "o"))))])),
  .expr (.meth .append (.var 2) [(.mkX (PySem.Str.ofString "ParseError") (some (PySem.Str.ofString "line")) (.var 1))]),
  .if_ (.cmp .ne (.lc e5_1 (.slot 3) (.of (.var 2)) [] [3]) (.lst [(.lst [(.c (.str (PySem.Str.ofString "layout")))]), (.lst [(.c (.str (PySem.Str.ofString "task")))]), (.lst [(.c (.str (PySem.Str.ofString "lane")))]), (.lst [(.c (.str (PySem.Str.ofString "script")))]), (.lst [(.c (.str (PySem.Str.ofString "operation")))]), (.lst [(.c (.str (PySem.Str.ofString "parse")))])])) [.ret (.c (.bl false))] [],
  .for_ (.slot 3) (.of (.var 2)) b5_2,
  .asg (.slot 4) (.lst [(.mkX (PySem.Str.ofString "UnknownName") (some (PySem.Str.ofString "wanted")) (.var 1)), (.mkX (PySem.Str.ofString "InvalidCount") (some (PySem.Str.ofString "given")) (.var 1)), (.mkX (PySem.Str.ofString "TooMany") (some (PySem.Str.ofString "limit")) (.var 1)), (.mkX (PySem.Str.ofString "LostBlock") (some (PySem.Str.ofString "command")) (.var 1)), (.mkX (PySem.Str.ofString "NothingToUndo") (some (PySem.Str.ofString "wanted")) (.var 1))]),
  .if_ (.cmp .ne (.lc e5_3 (.slot 3) (.of (.var 4)) [] [3]) (.lst [(.lst [(.c (.str (PySem.Str.ofString "name")))]), (.lst [(.c (.str (PySem.Str.ofString "count")))]), (.lst [(.c (.str (PySem.Str.ofString "many")))]), (.lst [(.c (.str (PySem.Str.ofString "lost")))]), (.lst [(.c (.str (PySem.Str.ofString "nothing")))])])) [.ret (.c (.bl false))] [],
  .if_ (.cmp .ne (.lc e5_4 (.slot 3) (.of (.var 4)) [(.or (.isX (.var 3) (PySem.Str.ofString "SpansError") [(PySem.Str.ofString "SpansError"), (PySem.Str.ofString "InvalidLayout"), (PySem.Str.ofString "InvalidTask"), (PySem.Str.ofString "InvalidLane"), (PySem.Str.ofString "InvalidScript"), (PySem.Str.ofString "InvalidOperation"), (PySem.Str.ofString "ParseError")] [(PySem.Str.ofString "UnknownName"), (PySem.Str.ofString "InvalidCount"), (PySem.Str.ofString "TooMany"), (PySem.Str.ofString "LostBlock"), (PySem.Str.ofString "NothingToUndo")]) (.cmp .ne (.call 3 [(.var 3)]) (.lst [])))] [3]) (.lst [])) [.ret (.c (.bl false))] [],
  .if_ (.or (.not (.isX (.ix (.var 4) (.c (.int 0))) (PySem.Str.ofString "KeyError") [(PySem.Str.ofString "UnknownName")] [(PySem.Str.ofString "SpansError"), (PySem.Str.ofString "InvalidLayout"), (PySem.Str.ofString "InvalidTask"), (PySem.Str.ofString "InvalidLane"), (PySem.Str.ofString "InvalidScript"), (PySem.Str.ofString "InvalidOperation"), (PySem.Str.ofString "ParseError"), (PySem.Str.ofString "InvalidCount"), (PySem.Str.ofString "TooMany"), (PySem.Str.ofString "LostBlock"), (PySem.Str.ofString "NothingToUndo")])) (.not (.isX (.ix (.var 4) (.c (.int 1))) (PySem.Str.ofString "IndexError") [(PySem.Str.ofString "InvalidCount")] [(PySem.Str.ofString "SpansError"), (PySem.Str.ofString "InvalidLayout"), (PySem.Str.ofString "InvalidTask"), (PySem.Str.ofString "InvalidLane"), (PySem.Str.ofString "InvalidScript"), (PySem.Str.ofString "InvalidOperation"), (PySem.Str.ofString "ParseError"), (PySem.Str.ofString "UnknownName"), (PySem.Str.ofString "TooMany"), (PySem.Str.ofString "LostBlock"), (PySem.Str.ofString "NothingToUndo")]))) [.ret (.c (.bl false))] [],
  .if_ (.or (.not (.isX (.ix (.var 4) (.c (.int 2))) (PySem.Str.ofString "OverflowError") [(PySem.Str.ofString "TooMany")] [(PySem.Str.ofString "SpansError"), (PySem.Str.ofString "InvalidLayout"), (PySem.Str.ofString "InvalidTask"), (PySem.Str.ofString "InvalidLane"), (PySem.Str.ofString "InvalidScript"), (PySem.Str.ofString "InvalidOperation"), (PySem.Str.ofString "ParseError"), (PySem.Str.ofString "UnknownName"), (PySem.Str.ofString "InvalidCount"), (PySem.Str.ofString "LostBlock"), (PySem.Str.ofString "NothingToUndo")])) (.not (.isX (.ix (.var 4) (.c (.int 3))) (PySem.Str.ofString "ArithmeticError") [(PySem.Str.ofString "TooMany"), (PySem.Str.ofString "LostBlock")] [(PySem.Str.ofString "SpansError"), (PySem.Str.ofString "InvalidLayout"), (PySem.Str.ofString "InvalidTask"), (PySem.Str.ofString "InvalidLane"), (PySem.Str.ofString "InvalidScript"), (PySem.Str.ofString "InvalidOperation"), (PySem.Str.ofString "ParseError"), (PySem.Str.ofString "UnknownName"), (PySem.Str.ofString "InvalidCount"), (PySem.Str.ofString "NothingToUndo")]))) [.ret (.c (.bl false))] [],
  .asg (.slot 5) (.lst [(.xf (.ix (.var 2) (.neg (.c (.int 1)))) (PySem.Str.ofString "line") [(PySem.Str.ofString "ParseError")]), (.xf (.ix (.var 4) (.c (.int 0))) (PySem.Str.ofString "wanted") [(PySem.Str.ofString "UnknownName"), (PySem.Str.ofString "NothingToUndo")]), (.xf (.ix (.var 4) (.c (.int 1))) (PySem.Str.ofString "given") [(PySem.Str.ofString "InvalidCount")]), (.xf (.ix (.var 4) (.c (.int 2))) (PySem.Str.ofString "limit") [(PySem.Str.ofString "TooMany")]), (.xf (.ix (.var 4) (.c (.int 3))) (PySem.Str.ofString "command") [(PySem.Str.ofString "LostBlock")]), (.xf (.ix (.var 4) (.c (.int 4))) (PySem.Str.ofString "wanted") [(PySem.Str.ofString "UnknownName"), (PySem.Str.ofString "NothingToUndo")])]),
  .ret (.and (.cmp .eq (.var 5) (.bin .mul (.lst [(.var 1)]) (.c (.int 6)))) (.and (.isX (.ix (.var 4) (.c (.int 4))) (PySem.Str.ofString "LookupError") [(PySem.Str.ofString "UnknownName"), (PySem.Str.ofString "InvalidCount"), (PySem.Str.ofString "NothingToUndo")] [(PySem.Str.ofString "SpansError"), (PySem.Str.ofString "InvalidLayout"), (PySem.Str.ofString "InvalidTask"), (PySem.Str.ofString "InvalidLane"), (PySem.Str.ofString "InvalidScript"), (PySem.Str.ofString "InvalidOperation"), (PySem.Str.ofString "ParseError"), (PySem.Str.ofString "TooMany"), (PySem.Str.ofString "LostBlock")]) (.isX (.mkX (PySem.Str.ofString "SpansError") none (.c (.str (PySem.Str.ofString "t")))) (PySem.Str.ofString "ValueError") [(PySem.Str.ofString "SpansError"), (PySem.Str.ofString "InvalidLayout"), (PySem.Str.ofString "InvalidTask"), (PySem.Str.ofString "InvalidLane"), (PySem.Str.ofString "InvalidScript"), (PySem.Str.ofString "InvalidOperation"), (PySem.Str.ofString "ParseError")] [(PySem.Str.ofString "UnknownName"), (PySem.Str.ofString "InvalidCount"), (PySem.Str.ofString "TooMany"), (PySem.Str.ofString "LostBlock"), (PySem.Str.ofString "NothingToUndo")])))]⟩

-- 6: law(script); names: 0=script 1=spot 2=dice 3=turn
def N6 : List Str := [(PySem.Str.ofString "script"), (PySem.Str.ofString "spot"), (PySem.Str.ofString "dice"), (PySem.Str.ofString "turn")]
def b6_1 : List St := [.if_ (.not (.call 5 [(.var 2)])) [.ret (.c (.bl false))] []]
def b6_2 : List St := [.asg (.slot 2) (.alloc (.call 0 [(.var 0), (.var 1)])), .for_ (.slot 3) (.range1 (.c (.int 4))) b6_1]
def d6 : Def := ⟨1, 4, [
  .for_ (.slot 1) (.range1 (.b2 .max (.c (.int 1)) (.b2 .min (.c (.int 4)) (.b1 .len (.var 0))))) b6_2,
  .ret (.and (.cmp .eq (.call 3 [(.mkX (PySem.Str.ofString "SpansError") none (.c (.str (PySem.Str.ofString "t"))))]) (.lst [])) (.not (.isX (.mkX (PySem.Str.ofString "SpansError") none (.c (.str (PySem.Str.ofString "t")))) (PySem.Str.ofString "LookupError") [(PySem.Str.ofString "UnknownName"), (PySem.Str.ofString "InvalidCount"), (PySem.Str.ofString "NothingToUndo")] [(PySem.Str.ofString "SpansError"), (PySem.Str.ofString "InvalidLayout"), (PySem.Str.ofString "InvalidTask"), (PySem.Str.ofString "InvalidLane"), (PySem.Str.ofString "InvalidScript"), (PySem.Str.ofString "InvalidOperation"), (PySem.Str.ofString "ParseError"), (PySem.Str.ofString "TooMany"), (PySem.Str.ofString "LostBlock")])))]⟩

def defs : List Def := [d0, d1, d2, d3, d4, d5, d6]
def exs : List (Str × Option Str) := [((PySem.Str.ofString "SpansError"), none), ((PySem.Str.ofString "InvalidLayout"), none), ((PySem.Str.ofString "InvalidTask"), none), ((PySem.Str.ofString "InvalidLane"), none), ((PySem.Str.ofString "InvalidScript"), none), ((PySem.Str.ofString "InvalidOperation"), none), ((PySem.Str.ofString "ParseError"), some (PySem.Str.ofString "line")), ((PySem.Str.ofString "UnknownName"), some (PySem.Str.ofString "wanted")), ((PySem.Str.ofString "InvalidCount"), some (PySem.Str.ofString "given")), ((PySem.Str.ofString "TooMany"), some (PySem.Str.ofString "limit")), ((PySem.Str.ofString "LostBlock"), some (PySem.Str.ofString "command")), ((PySem.Str.ofString "NothingToUndo"), some (PySem.Str.ofString "wanted"))]
def sub : List (Str × Str × Bool) := [((PySem.Str.ofString "SpansError"), (PySem.Str.ofString "InvalidLayout"), false), ((PySem.Str.ofString "SpansError"), (PySem.Str.ofString "InvalidTask"), false), ((PySem.Str.ofString "SpansError"), (PySem.Str.ofString "InvalidLane"), false), ((PySem.Str.ofString "SpansError"), (PySem.Str.ofString "InvalidScript"), false), ((PySem.Str.ofString "SpansError"), (PySem.Str.ofString "InvalidOperation"), false), ((PySem.Str.ofString "SpansError"), (PySem.Str.ofString "ParseError"), false), ((PySem.Str.ofString "SpansError"), (PySem.Str.ofString "UnknownName"), false), ((PySem.Str.ofString "SpansError"), (PySem.Str.ofString "InvalidCount"), false), ((PySem.Str.ofString "SpansError"), (PySem.Str.ofString "TooMany"), false), ((PySem.Str.ofString "SpansError"), (PySem.Str.ofString "LostBlock"), false), ((PySem.Str.ofString "SpansError"), (PySem.Str.ofString "NothingToUndo"), false), ((PySem.Str.ofString "SpansError"), (PySem.Str.ofString "SpansError"), true), ((PySem.Str.ofString "SpansError"), (PySem.Str.ofString "ValueError"), true), ((PySem.Str.ofString "SpansError"), (PySem.Str.ofString "KeyError"), false), ((PySem.Str.ofString "SpansError"), (PySem.Str.ofString "IndexError"), false), ((PySem.Str.ofString "SpansError"), (PySem.Str.ofString "OverflowError"), false), ((PySem.Str.ofString "SpansError"), (PySem.Str.ofString "ArithmeticError"), false), ((PySem.Str.ofString "SpansError"), (PySem.Str.ofString "LookupError"), false), ((PySem.Str.ofString "InvalidLayout"), (PySem.Str.ofString "InvalidLayout"), true), ((PySem.Str.ofString "InvalidLayout"), (PySem.Str.ofString "InvalidTask"), false), ((PySem.Str.ofString "InvalidLayout"), (PySem.Str.ofString "InvalidLane"), false), ((PySem.Str.ofString "InvalidLayout"), (PySem.Str.ofString "InvalidScript"), false), ((PySem.Str.ofString "InvalidLayout"), (PySem.Str.ofString "InvalidOperation"), false), ((PySem.Str.ofString "InvalidLayout"), (PySem.Str.ofString "ParseError"), false), ((PySem.Str.ofString "InvalidLayout"), (PySem.Str.ofString "UnknownName"), false), ((PySem.Str.ofString "InvalidLayout"), (PySem.Str.ofString "InvalidCount"), false), ((PySem.Str.ofString "InvalidLayout"), (PySem.Str.ofString "TooMany"), false), ((PySem.Str.ofString "InvalidLayout"), (PySem.Str.ofString "LostBlock"), false), ((PySem.Str.ofString "InvalidLayout"), (PySem.Str.ofString "NothingToUndo"), false), ((PySem.Str.ofString "InvalidLayout"), (PySem.Str.ofString "SpansError"), true), ((PySem.Str.ofString "InvalidLayout"), (PySem.Str.ofString "ValueError"), true), ((PySem.Str.ofString "InvalidLayout"), (PySem.Str.ofString "KeyError"), false), ((PySem.Str.ofString "InvalidLayout"), (PySem.Str.ofString "IndexError"), false), ((PySem.Str.ofString "InvalidLayout"), (PySem.Str.ofString "OverflowError"), false), ((PySem.Str.ofString "InvalidLayout"), (PySem.Str.ofString "ArithmeticError"), false), ((PySem.Str.ofString "InvalidLayout"), (PySem.Str.ofString "LookupError"), false), ((PySem.Str.ofString "InvalidTask"), (PySem.Str.ofString "InvalidLayout"), false), ((PySem.Str.ofString "InvalidTask"), (PySem.Str.ofString "InvalidTask"), true), ((PySem.Str.ofString "InvalidTask"), (PySem.Str.ofString "InvalidLane"), false), ((PySem.Str.ofString "InvalidTask"), (PySem.Str.ofString "InvalidScript"), false), ((PySem.Str.ofString "InvalidTask"), (PySem.Str.ofString "InvalidOperation"), false), ((PySem.Str.ofString "InvalidTask"), (PySem.Str.ofString "ParseError"), false), ((PySem.Str.ofString "InvalidTask"), (PySem.Str.ofString "UnknownName"), false), ((PySem.Str.ofString "InvalidTask"), (PySem.Str.ofString "InvalidCount"), false), ((PySem.Str.ofString "InvalidTask"), (PySem.Str.ofString "TooMany"), false), ((PySem.Str.ofString "InvalidTask"), (PySem.Str.ofString "LostBlock"), false), ((PySem.Str.ofString "InvalidTask"), (PySem.Str.ofString "NothingToUndo"), false), ((PySem.Str.ofString "InvalidTask"), (PySem.Str.ofString "SpansError"), true), ((PySem.Str.ofString "InvalidTask"), (PySem.Str.ofString "ValueError"), true), ((PySem.Str.ofString "InvalidTask"), (PySem.Str.ofString "KeyError"), false), ((PySem.Str.ofString "InvalidTask"), (PySem.Str.ofString "IndexError"), false), ((PySem.Str.ofString "InvalidTask"), (PySem.Str.ofString "OverflowError"), false), ((PySem.Str.ofString "InvalidTask"), (PySem.Str.ofString "ArithmeticError"), false), ((PySem.Str.ofString "InvalidTask"), (PySem.Str.ofString "LookupError"), false), ((PySem.Str.ofString "InvalidLane"), (PySem.Str.ofString "InvalidLayout"), false), ((PySem.Str.ofString "InvalidLane"), (PySem.Str.ofString "InvalidTask"), false), ((PySem.Str.ofString "InvalidLane"), (PySem.Str.ofString "InvalidLane"), true), ((PySem.Str.ofString "InvalidLane"), (PySem.Str.ofString "InvalidScript"), false), ((PySem.Str.ofString "InvalidLane"), (PySem.Str.ofString "InvalidOperation"), false), ((PySem.Str.ofString "InvalidLane"), (PySem.Str.ofString "ParseError"), false), ((PySem.Str.ofString "InvalidLane"), (PySem.Str.ofString "UnknownName"), false), ((PySem.Str.ofString "InvalidLane"), (PySem.Str.ofString "InvalidCount"), false), ((PySem.Str.ofString "InvalidLane"), (PySem.Str.ofString "TooMany"), false), ((PySem.Str.ofString "InvalidLane"), (PySem.Str.ofString "LostBlock"), false), ((PySem.Str.ofString "InvalidLane"), (PySem.Str.ofString "NothingToUndo"), false), ((PySem.Str.ofString "InvalidLane"), (PySem.Str.ofString "SpansError"), true), ((PySem.Str.ofString "InvalidLane"), (PySem.Str.ofString "ValueError"), true), ((PySem.Str.ofString "InvalidLane"), (PySem.Str.ofString "KeyError"), false), ((PySem.Str.ofString "InvalidLane"), (PySem.Str.ofString "IndexError"), false), ((PySem.Str.ofString "InvalidLane"), (PySem.Str.ofString "OverflowError"), false), ((PySem.Str.ofString "InvalidLane"), (PySem.Str.ofString "ArithmeticError"), false), ((PySem.Str.ofString "InvalidLane"), (PySem.Str.ofString "LookupError"), false), ((PySem.Str.ofString "InvalidScript"), (PySem.Str.ofString "InvalidLayout"), false), ((PySem.Str.ofString "InvalidScript"), (PySem.Str.ofString "InvalidTask"), false), ((PySem.Str.ofString "InvalidScript"), (PySem.Str.ofString "InvalidLane"), false), ((PySem.Str.ofString "InvalidScript"), (PySem.Str.ofString "InvalidScript"), true), ((PySem.Str.ofString "InvalidScript"), (PySem.Str.ofString "InvalidOperation"), false), ((PySem.Str.ofString "InvalidScript"), (PySem.Str.ofString "ParseError"), false), ((PySem.Str.ofString "InvalidScript"), (PySem.Str.ofString "UnknownName"), false), ((PySem.Str.ofString "InvalidScript"), (PySem.Str.ofString "InvalidCount"), false), ((PySem.Str.ofString "InvalidScript"), (PySem.Str.ofString "TooMany"), false), ((PySem.Str.ofString "InvalidScript"), (PySem.Str.ofString "LostBlock"), false), ((PySem.Str.ofString "InvalidScript"), (PySem.Str.ofString "NothingToUndo"), false), ((PySem.Str.ofString "InvalidScript"), (PySem.Str.ofString "SpansError"), true), ((PySem.Str.ofString "InvalidScript"), (PySem.Str.ofString "ValueError"), true), ((PySem.Str.ofString "InvalidScript"), (PySem.Str.ofString "KeyError"), false), ((PySem.Str.ofString "InvalidScript"), (PySem.Str.ofString "IndexError"), false), ((PySem.Str.ofString "InvalidScript"), (PySem.Str.ofString "OverflowError"), false), ((PySem.Str.ofString "InvalidScript"), (PySem.Str.ofString "ArithmeticError"), false), ((PySem.Str.ofString "InvalidScript"), (PySem.Str.ofString "LookupError"), false), ((PySem.Str.ofString "InvalidOperation"), (PySem.Str.ofString "InvalidLayout"), false), ((PySem.Str.ofString "InvalidOperation"), (PySem.Str.ofString "InvalidTask"), false), ((PySem.Str.ofString "InvalidOperation"), (PySem.Str.ofString "InvalidLane"), false), ((PySem.Str.ofString "InvalidOperation"), (PySem.Str.ofString "InvalidScript"), false), ((PySem.Str.ofString "InvalidOperation"), (PySem.Str.ofString "InvalidOperation"), true), ((PySem.Str.ofString "InvalidOperation"), (PySem.Str.ofString "ParseError"), false), ((PySem.Str.ofString "InvalidOperation"), (PySem.Str.ofString "UnknownName"), false), ((PySem.Str.ofString "InvalidOperation"), (PySem.Str.ofString "InvalidCount"), false), ((PySem.Str.ofString "InvalidOperation"), (PySem.Str.ofString "TooMany"), false), ((PySem.Str.ofString "InvalidOperation"), (PySem.Str.ofString "LostBlock"), false), ((PySem.Str.ofString "InvalidOperation"), (PySem.Str.ofString "NothingToUndo"), false), ((PySem.Str.ofString "InvalidOperation"), (PySem.Str.ofString "SpansError"), true), ((PySem.Str.ofString "InvalidOperation"), (PySem.Str.ofString "ValueError"), true), ((PySem.Str.ofString "InvalidOperation"), (PySem.Str.ofString "KeyError"), false), ((PySem.Str.ofString "InvalidOperation"), (PySem.Str.ofString "IndexError"), false), ((PySem.Str.ofString "InvalidOperation"), (PySem.Str.ofString "OverflowError"), false), ((PySem.Str.ofString "InvalidOperation"), (PySem.Str.ofString "ArithmeticError"), false), ((PySem.Str.ofString "InvalidOperation"), (PySem.Str.ofString "LookupError"), false), ((PySem.Str.ofString "ParseError"), (PySem.Str.ofString "InvalidLayout"), false), ((PySem.Str.ofString "ParseError"), (PySem.Str.ofString "InvalidTask"), false), ((PySem.Str.ofString "ParseError"), (PySem.Str.ofString "InvalidLane"), false), ((PySem.Str.ofString "ParseError"), (PySem.Str.ofString "InvalidScript"), false), ((PySem.Str.ofString "ParseError"), (PySem.Str.ofString "InvalidOperation"), false), ((PySem.Str.ofString "ParseError"), (PySem.Str.ofString "ParseError"), true), ((PySem.Str.ofString "ParseError"), (PySem.Str.ofString "UnknownName"), false), ((PySem.Str.ofString "ParseError"), (PySem.Str.ofString "InvalidCount"), false), ((PySem.Str.ofString "ParseError"), (PySem.Str.ofString "TooMany"), false), ((PySem.Str.ofString "ParseError"), (PySem.Str.ofString "LostBlock"), false), ((PySem.Str.ofString "ParseError"), (PySem.Str.ofString "NothingToUndo"), false), ((PySem.Str.ofString "ParseError"), (PySem.Str.ofString "SpansError"), true), ((PySem.Str.ofString "ParseError"), (PySem.Str.ofString "ValueError"), true), ((PySem.Str.ofString "ParseError"), (PySem.Str.ofString "KeyError"), false), ((PySem.Str.ofString "ParseError"), (PySem.Str.ofString "IndexError"), false), ((PySem.Str.ofString "ParseError"), (PySem.Str.ofString "OverflowError"), false), ((PySem.Str.ofString "ParseError"), (PySem.Str.ofString "ArithmeticError"), false), ((PySem.Str.ofString "ParseError"), (PySem.Str.ofString "LookupError"), false), ((PySem.Str.ofString "UnknownName"), (PySem.Str.ofString "InvalidLayout"), false), ((PySem.Str.ofString "UnknownName"), (PySem.Str.ofString "InvalidTask"), false), ((PySem.Str.ofString "UnknownName"), (PySem.Str.ofString "InvalidLane"), false), ((PySem.Str.ofString "UnknownName"), (PySem.Str.ofString "InvalidScript"), false), ((PySem.Str.ofString "UnknownName"), (PySem.Str.ofString "InvalidOperation"), false), ((PySem.Str.ofString "UnknownName"), (PySem.Str.ofString "ParseError"), false), ((PySem.Str.ofString "UnknownName"), (PySem.Str.ofString "UnknownName"), true), ((PySem.Str.ofString "UnknownName"), (PySem.Str.ofString "InvalidCount"), false), ((PySem.Str.ofString "UnknownName"), (PySem.Str.ofString "TooMany"), false), ((PySem.Str.ofString "UnknownName"), (PySem.Str.ofString "LostBlock"), false), ((PySem.Str.ofString "UnknownName"), (PySem.Str.ofString "NothingToUndo"), false), ((PySem.Str.ofString "UnknownName"), (PySem.Str.ofString "SpansError"), false), ((PySem.Str.ofString "UnknownName"), (PySem.Str.ofString "ValueError"), false), ((PySem.Str.ofString "UnknownName"), (PySem.Str.ofString "KeyError"), true), ((PySem.Str.ofString "UnknownName"), (PySem.Str.ofString "IndexError"), false), ((PySem.Str.ofString "UnknownName"), (PySem.Str.ofString "OverflowError"), false), ((PySem.Str.ofString "UnknownName"), (PySem.Str.ofString "ArithmeticError"), false), ((PySem.Str.ofString "UnknownName"), (PySem.Str.ofString "LookupError"), true), ((PySem.Str.ofString "InvalidCount"), (PySem.Str.ofString "InvalidLayout"), false), ((PySem.Str.ofString "InvalidCount"), (PySem.Str.ofString "InvalidTask"), false), ((PySem.Str.ofString "InvalidCount"), (PySem.Str.ofString "InvalidLane"), false), ((PySem.Str.ofString "InvalidCount"), (PySem.Str.ofString "InvalidScript"), false), ((PySem.Str.ofString "InvalidCount"), (PySem.Str.ofString "InvalidOperation"), false), ((PySem.Str.ofString "InvalidCount"), (PySem.Str.ofString "ParseError"), false), ((PySem.Str.ofString "InvalidCount"), (PySem.Str.ofString "UnknownName"), false), ((PySem.Str.ofString "InvalidCount"), (PySem.Str.ofString "InvalidCount"), true), ((PySem.Str.ofString "InvalidCount"), (PySem.Str.ofString "TooMany"), false), ((PySem.Str.ofString "InvalidCount"), (PySem.Str.ofString "LostBlock"), false), ((PySem.Str.ofString "InvalidCount"), (PySem.Str.ofString "NothingToUndo"), false), ((PySem.Str.ofString "InvalidCount"), (PySem.Str.ofString "SpansError"), false), ((PySem.Str.ofString "InvalidCount"), (PySem.Str.ofString "ValueError"), false), ((PySem.Str.ofString "InvalidCount"), (PySem.Str.ofString "KeyError"), false), ((PySem.Str.ofString "InvalidCount"), (PySem.Str.ofString "IndexError"), true), ((PySem.Str.ofString "InvalidCount"), (PySem.Str.ofString "OverflowError"), false), ((PySem.Str.ofString "InvalidCount"), (PySem.Str.ofString "ArithmeticError"), false), ((PySem.Str.ofString "InvalidCount"), (PySem.Str.ofString "LookupError"), true), ((PySem.Str.ofString "TooMany"), (PySem.Str.ofString "InvalidLayout"), false), ((PySem.Str.ofString "TooMany"), (PySem.Str.ofString "InvalidTask"), false), ((PySem.Str.ofString "TooMany"), (PySem.Str.ofString "InvalidLane"), false), ((PySem.Str.ofString "TooMany"), (PySem.Str.ofString "InvalidScript"), false), ((PySem.Str.ofString "TooMany"), (PySem.Str.ofString "InvalidOperation"), false), ((PySem.Str.ofString "TooMany"), (PySem.Str.ofString "ParseError"), false), ((PySem.Str.ofString "TooMany"), (PySem.Str.ofString "UnknownName"), false), ((PySem.Str.ofString "TooMany"), (PySem.Str.ofString "InvalidCount"), false), ((PySem.Str.ofString "TooMany"), (PySem.Str.ofString "TooMany"), true), ((PySem.Str.ofString "TooMany"), (PySem.Str.ofString "LostBlock"), false), ((PySem.Str.ofString "TooMany"), (PySem.Str.ofString "NothingToUndo"), false), ((PySem.Str.ofString "TooMany"), (PySem.Str.ofString "SpansError"), false), ((PySem.Str.ofString "TooMany"), (PySem.Str.ofString "ValueError"), false), ((PySem.Str.ofString "TooMany"), (PySem.Str.ofString "KeyError"), false), ((PySem.Str.ofString "TooMany"), (PySem.Str.ofString "IndexError"), false), ((PySem.Str.ofString "TooMany"), (PySem.Str.ofString "OverflowError"), true), ((PySem.Str.ofString "TooMany"), (PySem.Str.ofString "ArithmeticError"), true), ((PySem.Str.ofString "TooMany"), (PySem.Str.ofString "LookupError"), false), ((PySem.Str.ofString "LostBlock"), (PySem.Str.ofString "InvalidLayout"), false), ((PySem.Str.ofString "LostBlock"), (PySem.Str.ofString "InvalidTask"), false), ((PySem.Str.ofString "LostBlock"), (PySem.Str.ofString "InvalidLane"), false), ((PySem.Str.ofString "LostBlock"), (PySem.Str.ofString "InvalidScript"), false), ((PySem.Str.ofString "LostBlock"), (PySem.Str.ofString "InvalidOperation"), false), ((PySem.Str.ofString "LostBlock"), (PySem.Str.ofString "ParseError"), false), ((PySem.Str.ofString "LostBlock"), (PySem.Str.ofString "UnknownName"), false), ((PySem.Str.ofString "LostBlock"), (PySem.Str.ofString "InvalidCount"), false), ((PySem.Str.ofString "LostBlock"), (PySem.Str.ofString "TooMany"), false), ((PySem.Str.ofString "LostBlock"), (PySem.Str.ofString "LostBlock"), true), ((PySem.Str.ofString "LostBlock"), (PySem.Str.ofString "NothingToUndo"), false), ((PySem.Str.ofString "LostBlock"), (PySem.Str.ofString "SpansError"), false), ((PySem.Str.ofString "LostBlock"), (PySem.Str.ofString "ValueError"), false), ((PySem.Str.ofString "LostBlock"), (PySem.Str.ofString "KeyError"), false), ((PySem.Str.ofString "LostBlock"), (PySem.Str.ofString "IndexError"), false), ((PySem.Str.ofString "LostBlock"), (PySem.Str.ofString "OverflowError"), false), ((PySem.Str.ofString "LostBlock"), (PySem.Str.ofString "ArithmeticError"), true), ((PySem.Str.ofString "LostBlock"), (PySem.Str.ofString "LookupError"), false), ((PySem.Str.ofString "NothingToUndo"), (PySem.Str.ofString "InvalidLayout"), false), ((PySem.Str.ofString "NothingToUndo"), (PySem.Str.ofString "InvalidTask"), false), ((PySem.Str.ofString "NothingToUndo"), (PySem.Str.ofString "InvalidLane"), false), ((PySem.Str.ofString "NothingToUndo"), (PySem.Str.ofString "InvalidScript"), false), ((PySem.Str.ofString "NothingToUndo"), (PySem.Str.ofString "InvalidOperation"), false), ((PySem.Str.ofString "NothingToUndo"), (PySem.Str.ofString "ParseError"), false), ((PySem.Str.ofString "NothingToUndo"), (PySem.Str.ofString "UnknownName"), false), ((PySem.Str.ofString "NothingToUndo"), (PySem.Str.ofString "InvalidCount"), false), ((PySem.Str.ofString "NothingToUndo"), (PySem.Str.ofString "TooMany"), false), ((PySem.Str.ofString "NothingToUndo"), (PySem.Str.ofString "LostBlock"), false), ((PySem.Str.ofString "NothingToUndo"), (PySem.Str.ofString "NothingToUndo"), true), ((PySem.Str.ofString "NothingToUndo"), (PySem.Str.ofString "SpansError"), false), ((PySem.Str.ofString "NothingToUndo"), (PySem.Str.ofString "ValueError"), false), ((PySem.Str.ofString "NothingToUndo"), (PySem.Str.ofString "KeyError"), false), ((PySem.Str.ofString "NothingToUndo"), (PySem.Str.ofString "IndexError"), false), ((PySem.Str.ofString "NothingToUndo"), (PySem.Str.ofString "OverflowError"), false), ((PySem.Str.ofString "NothingToUndo"), (PySem.Str.ofString "ArithmeticError"), false), ((PySem.Str.ofString "NothingToUndo"), (PySem.Str.ofString "LookupError"), true)]
def Ns : List (List Str) := [N0, N1, N2, N3, N4, N5, N6]



def globs : List (Str × D) := []
def P : PInfo := ⟨names, globs, exs, sub⟩
def T : Tab := ⟨defs, globs.map (·.2)⟩

theorem t0 : T.defs[0]? = some d0 := rfl
theorem t1 : T.defs[1]? = some d1 := rfl
theorem t2 : T.defs[2]? = some d2 := rfl
theorem t3 : T.defs[3]? = some d3 := rfl
theorem t4 : T.defs[4]? = some d4 := rfl
theorem t5 : T.defs[5]? = some d5 := rfl
theorem t6 : T.defs[6]? = some d6 := rfl
end K00

/-! The checks, the head. -/
namespace K00
open PySem MP
abbrev pg : PySem.Program := PySem.Challenge.pw_spanswaps_k00_errors_as_they_are_derived
abbrev rw : PySem.W.OpenLaw := PySem.Challenge.rw_spanswaps_k00_errors_as_they_are_derived


def top (i : Nat) : Stmt := pg.main.body.getD i (.Pass ⟨0, 0, 0, 0⟩)
def mk (x : Str) (i : Nat) : He.DefD := ⟨(x, none), x, x, L2.defArgs (top i), L2.defBody (top i), L2.defScope (top i), [], []⟩

def h0 : He.DefD := mk (PySem.Str.ofString "_law_dice") 14
def h1 : He.DefD := mk (PySem.Str.ofString "_law_roll") 15
def h2 : He.DefD := mk (PySem.Str.ofString "_law_value") 16
def h3 : He.DefD := mk (PySem.Str.ofString "_law_own_names") 17
def h4 : He.DefD := mk (PySem.Str.ofString "_law_outer_names") 18
def h5 : He.DefD := mk (PySem.Str.ofString "_law_right") 19
def h6 : He.DefD := mk (PySem.Str.ofString "law") 20
def fn : List He.DefD := [h0, h1, h2, h3, h4, h5, h6]
theorem c0 : dchk P (PySem.Str.ofString "_law_dice") d0 h0 N0 = true := by decide +kernel
theorem c1 : dchk P (PySem.Str.ofString "_law_roll") d1 h1 N1 = true := by decide +kernel
theorem c2 : dchk P (PySem.Str.ofString "_law_value") d2 h2 N2 = true := by decide +kernel
theorem c3 : dchk P (PySem.Str.ofString "_law_own_names") d3 h3 N3 = true := by decide +kernel
theorem c4 : dchk P (PySem.Str.ofString "_law_outer_names") d4 h4 N4 = true := by decide +kernel
theorem c5 : dchk P (PySem.Str.ofString "_law_right") d5 h5 N5 = true := by decide +kernel
theorem c6 : dchk P (PySem.Str.ofString "law") d6 h6 N6 = true := by decide +kernel
theorem b0 : BindOk h0 := fun _ _ _ _ _ _ us hl => match us, hl with | [_, _], _ => rfl
theorem b1 : BindOk h1 := fun _ _ _ _ _ _ us hl => match us, hl with | [_, _], _ => rfl
theorem b2 : BindOk h2 := fun _ _ _ _ _ _ us hl => match us, hl with | [_], _ => rfl
theorem b3 : BindOk h3 := fun _ _ _ _ _ _ us hl => match us, hl with | [_], _ => rfl
theorem b4 : BindOk h4 := fun _ _ _ _ _ _ us hl => match us, hl with | [_], _ => rfl
theorem b5 : BindOk h5 := fun _ _ _ _ _ _ us hl => match us, hl with | [_], _ => rfl
theorem b6 : BindOk h6 := fun _ _ _ _ _ _ us hl => match us, hl with | [_], _ => rfl
theorem ok : LawOk P T fn Ns where
  ln := rfl
  lt := rfl
  lN := rfl
  globs := rfl
  gk := by intro q hq; cases hq
  chk := fun i x d hd N e1 e2 e3 e4 => match i, e1, e2, e3, e4 with
    | 0, e1, e2, e3, e4 => by cases e1; cases e2; cases e3; cases e4; exact c0
    | 1, e1, e2, e3, e4 => by cases e1; cases e2; cases e3; cases e4; exact c1
    | 2, e1, e2, e3, e4 => by cases e1; cases e2; cases e3; cases e4; exact c2
    | 3, e1, e2, e3, e4 => by cases e1; cases e2; cases e3; cases e4; exact c3
    | 4, e1, e2, e3, e4 => by cases e1; cases e2; cases e3; cases e4; exact c4
    | 5, e1, e2, e3, e4 => by cases e1; cases e2; cases e3; cases e4; exact c5
    | 6, e1, e2, e3, e4 => by cases e1; cases e2; cases e3; cases e4; exact c6
    | (i + 7), e1, _, _, _ => by simp [P, names] at e1
  bind := by
    intro hd hh
    simp only [fn, List.mem_cons, List.not_mem_nil, or_false] at hh
    rcases hh with rfl | rfl | rfl | rfl | rfl | rfl | rfl
    · exact b0
    · exact b1
    · exact b2
    · exact b3
    · exact b4
    · exact b5
    · exact b6

/-! ### the head -/
def fa : List He.Fa := faOf P
abbrev rowR : PySem.W.OpenRow := PySem.W.OpenLaw.row rw
abbrev hk : PySem.W.Hook := hookX 5 fa fn (xB P pg)
def ob (s : PySem.W.SharedT) : He.AlD × Bool := obsX 5 fa fn (xB P pg) (HandSHeadRun.getT s)
theorem ob_eq (s : PySem.W.SharedT) : ob s = hk.obs s.abs := obsX_eq (HandSHeadRun.getT_eq s)
def loose : List Str := (pg.main.scope.names.filterMap fun q => if q.2 == .local && !(q.1 == ("law" : Str)) then some q.1 else none)
theorem run (w : World) : HandSHeadRun.RunEq rowR (PySem.W.view rowR.prog [20]) hk ob 4000 loose w := by
  intro os
  kernel_rfl
open PySem.W PySem.Calls PyProof.Rows in
theorem holds (val : ∀ ns : List Int, ns.length ≤ 63 → ∃ h', callI T 63 6 [.scr (ns.map D.int)] [] = some (.ok (.v (.bl true)) h')) : PySem.Challenge.rw_spanswaps_k00_errors_as_they_are_derived.Holds := by
  w_on; o_law
  refine HandSHeadRun.head_any (r := OpenLaw.row PySem.Challenge.rw_spanswaps_k00_errors_as_they_are_derived) (q := view (OpenLaw.row PySem.Challenge.rw_spanswaps_k00_errors_as_they_are_derived).prog [20]) (H := hk) (ob := ob) (M := 4000) (loose := loose) (d := HandSHeadRun.topDef (OpenLaw.row PySem.Challenge.rw_spanswaps_k00_errors_as_they_are_derived).prog 20) (kwd := []) ob_eq
    (by kernel_rfl) (fun s => by kernel_rfl) run (by kernel_rfl) (by kernel_rfl) (by kernel_rfl) (by rfl) (by first | assumption | decide +kernel) (by decide +kernel) ⟨rfl, rfl, rfl, rfl, rfl, by decide +kernel⟩ ?hw ?hc
  case hw => w_witness2
  case hc =>
    refine L2.walk_ofE (l := PySem.Challenge.rw_spanswaps_k00_errors_as_they_are_derived) (n := 63) (k := 64) (x := "script") (CX := fun _ _ _ _ _ _ => False) rfl (by decide) (by kernel_rfl) ⟨rfl, by decide, by decide⟩ ?F ?G
    case F =>
      intro w mg fa h Y G hmg0
      obtain ⟨K, KX, c, xb⟩ := Y
      have hmg : mg ("law" : PySem.Str) = some (.ref fa) := by
        have e : (HandSHeadRun.topDef (OpenLaw.row PySem.Challenge.rw_spanswaps_k00_errors_as_they_are_derived).prog 20).name = ("law" : PySem.Str) := by kernel_rfl
        rw [← e]
        exact hmg0
      exact law_end ok KX G c xb (k := 63) (f := 6) (n := 63) rfl rfl hmg val
    case G => exact fun _ _ _ _ z => z
end K00

/-! What the law's defs compute. -/
namespace K00
open MP

theorem str_inj (a b : String) : (PySem.Str.ofString a = PySem.Str.ofString b) = (a = b) := by
  refine propext ⟨fun h => ?_, fun h => by rw [h]⟩
  rw [PySem.Str.ofString_eq_toList, PySem.Str.ofString_eq_toList] at h
  have h2 : a.toList.map Char.toNat = b.toList.map Char.toNat := by simpa using h
  have ci : ∀ (l m : List Char), l.map Char.toNat = m.map Char.toNat → l = m := by
    intro l
    induction l with
    | nil => intro m e; cases m with
      | nil => rfl
      | cons _ _ => cases e
    | cons c l ih => intro m e; cases m with
      | nil => cases e
      | cons d m =>
        simp only [List.map_cons, List.cons.injEq] at e
        obtain ⟨e1, e2⟩ := e
        rw [ih m e2]
        have : c = d := Char.ext (UInt32.toNat_inj.mp e1)
        rw [this]
  exact String.toList_inj.mp (ci _ _ h2)
theorem oldOk_more {h h1 x : Heap} (o : OldOk h h1) : OldOk h (h1 ++ x) := ⟨by simp; have := o.1; omega, fun i hi => by
  rw [List.getElem?_append_left (Nat.lt_of_lt_of_le hi o.1)]
  exact o.2 i hi⟩
theorem roll (k : Nat) {h0 h : Heap} {p n : Nat} (d : Dice h0 p n h) (hn : (n : Int) < 2 ^ 100) {t : Int} (ht : 0 < t) (ht2 : t < 2 ^ 9000) : ∃ r h', callI T (k + 1) 1 [.loc p, .int t] h = some (.ok (.v (.int r)) h') ∧ 0 ≤ r ∧ r < t ∧ Dice h0 p (n + 1) h' :=
  roll_spec t1 (by decide +kernel) d hn ht ht2
theorem dice (k : Nat) (ns : List Int) (h : Heap) (i : Nat) (hi : i < 2 ^ 32) : ∃ a b, callI T (k + 1) 0 [.scr (ns.map .int), .int i] h = some (.ok (.newL [.int a, .int b, .int 0]) h) ∧ 0 ≤ a ∧ a < 2 ^ 2000 ∧ 0 ≤ b ∧ b < 2 ^ 200 :=
  dice_spec t0 (by decide +kernel) ns h i hi
-- what is kept
structure Val (v : D) : Prop where
  nl : noLoc v = true
  cl : ∀ n, MP.cl n v = true
  dk : ∀ n, dok (n + 2) v = true
  eq : eqD v v = true
theorem val_int (i : Int) : Val (.int i) := ⟨rfl, fun _ => rfl, fun _ => by simp [dok], by simp [eqD]⟩
theorem val_non : Val .non := ⟨rfl, fun _ => rfl, fun _ => by simp [dok], by simp [eqD]⟩
theorem val_str (x : PySem.Str) (hx : x.cps.all (· < 1114112) = true) : Val (.str x) := ⟨rfl, fun _ => rfl, fun _ => by simpa [dok] using hx, by simp [eqD]⟩
theorem val_tup (i : Int) (x : PySem.Str) (hx : x.cps.all (· < 1114112) = true) : Val (.tup [.int i, .str x]) := ⟨rfl, fun _ => rfl, fun _ => by simpa [dok, dokL] using hx, by simp [eqD, eqDL]⟩
-- the digits of a small number
theorem digits (r : Int) (h0 : 0 ≤ r) (h1 : r < 100) : (PySem.Str.ofString (toString r)).length ≤ 10 ∧ (PySem.Str.ofString "n" ++ PySem.Str.ofString (toString r)).cps.all (· < 1114112) = true := by
  have key : ∀ m : Nat, m < 100 → (PySem.Str.ofString (toString (m : Int))).length ≤ 10 ∧ (PySem.Str.ofString "n" ++ PySem.Str.ofString (toString (m : Int))).cps.all (· < 1114112) = true := by decide +kernel
  have := key r.toNat (by omega)
  rwa [Int.toNat_of_nonneg h0] at this
theorem s2 (k : Nat) {h0 h : Heap} {p n : Nat} (d : Dice h0 p n h) (hn : (n : Int) < 2 ^ 90) : ∃ v h', callI T (k + 2) 2 [.loc p] h = some (.ok (.v v) h') ∧ Val v ∧ Dice h0 p (n + 2) h' := by
  obtain ⟨w, h1, e1, w0, w1, q1⟩ := roll k d (by omega) (t := 4) (by decide) (by decide +kernel)
  have p1 : powOk 10 20 = true := by decide +kernel
  have p2 : powOk 10 10 = true := by decide +kernel
  have fin : ∀ {v : D} {h2 : Heap} {m : Nat}, m ≤ n + 2 → Dice h0 p m h2 → Val v → gc h (.v v) h2 = some (.ok (.v v) h2) := fun {v h2 m} hm q2 hv => by
    rw [gc_v2 (d.oldOk q2) hv.nl (hv.cl _), d.take q2]
  rw [call_of t2 rfl]
  by_cases c0 : w = 0
  · obtain ⟨r, h2, e2, r0, r1, q2⟩ := roll k q1 (by omega) (t := 10 ^ 20) (by decide) (by decide +kernel)
    refine ⟨.int (r - 10 ^ 10), h2, ?_, val_int _, q2⟩
    have f := fin (Nat.le_refl _) q2 (val_int (r - 10 ^ 10))
    simp at e2 f
    subst c0
    simp [d2, e1, p1, p2, e2, endI_rt, look, f]
  · by_cases c1 : w = 1
    · obtain ⟨r, h2, e2, r0, r1, q2⟩ := roll k q1 (by omega) (t := 100) (by decide) (by decide +kernel)
      obtain ⟨g1, g2⟩ := digits r r0 r1
      have lg : r.natAbs.log2 < 1920 := log2_lt (by decide) r0 (by omega)
      refine ⟨.str (PySem.Str.ofString "n" ++ PySem.Str.ofString (toString r)), h2, ?_, val_str _ g2, q2⟩
      have ln : (PySem.Str.ofString "n").length = 1 := by decide +kernel
      have g3 : (PySem.Str.ofString "n").length + (PySem.Str.ofString (toString r)).length ≤ 16777216 := by rw [ln]; omega
      have f := fin (Nat.le_refl _) q2 (val_str _ g2)
      have tr : toString r = r.repr := rfl
      rw [tr] at g3 f ⊢
      subst c1
      simp [d2, e1, e2, endI_rt, look, lg, g3, f]
    · by_cases c2 : w = 2
      · refine ⟨.non, h1, ?_, val_non, q1.mono (by omega)⟩
        have f := fin (by omega) q1 val_non
        subst c2
        simp [d2, e1, endI_rt, look, f]
      · obtain ⟨r, h2, e2, r0, r1, q2⟩ := roll k q1 (by omega) (t := 9) (by decide) (by decide +kernel)
        have ha : (PySem.Str.ofString "a").cps.all (· < 1114112) = true := by decide +kernel
        refine ⟨.tup [.int r, .str (PySem.Str.ofString "a")], h2, ?_, val_tup _ _ ha, q2⟩
        have f := fin (Nat.le_refl _) q2 (val_tup r _ ha)
        simp [d2, e1, c0, c1, c2, e2, endI_rt, look, f]
-- the names of an exception
def rowS (q : PySem.Str × List PySem.Str × List PySem.Str × PySem.Str) : St := .if_ (.isX (.var 0) q.1 q.2.1 q.2.2.1) [.expr (.meth .append (.var 1) [.c (.str q.2.2.2)])] []
def rowsOf (l : List St) : List (PySem.Str × List PySem.Str × List PySem.Str × PySem.Str) := l.filterMap fun
  | .if_ (.isX (.var 0) t y n) [.expr (.meth .append (.var 1) [.c (.str s)])] [] => some (t, y, n, s)
  | _ => none
def told (x : PySem.Str) : List (PySem.Str × List PySem.Str × List PySem.Str × PySem.Str) → Option (List PySem.Str)
  | [] => some []
  | q :: r => if x ∈ q.2.1 then (told x r).map (q.2.2.2 :: ·) else if x ∈ q.2.2.1 then told x r else none
theorem rows_ok {Φ : Nat → List D → Heap → Res R} {G : Nat → Option D} (x : PySem.Str) (fs : List PySem.Str) (l : List D) (h : Heap) : ∀ (rows : List (PySem.Str × List PySem.Str × List PySem.Str × PySem.Str)) (acc : List D) (ns : List PySem.Str), told x rows = some ns → acc.length + rows.length < 1000 →
    execs Φ G (rows.map rowS ++ [.ret (.var 1)]) [some (.exo x fs l), some (.loc h.length)] (h ++ [.lst acc]) = some (.ok (.rt (.v (.loc h.length))) (h ++ [.lst (acc ++ ns.map .str)]))
  | [], acc, ns, e, _ => by
    cases e
    simp
  | q :: r, acc, ns, e, hl => by
    simp only [told] at e
    simp only [List.length_cons] at hl
    have al : acc.length < 16777216 := by omega
    split at e
    · rename_i hy
      cases c : told x r with
      | none => rw [c] at e; cases e
      | some ms =>
        rw [c] at e
        cases e
        have ih := rows_ok (Φ := Φ) (G := G) x fs l h r (acc ++ [.str q.2.2.2]) ms c (by simp; omega)
        simp only [List.append_assoc, List.cons_append, List.nil_append] at ih
        simp [rowS, hy, al, tru, ih]
    · rename_i hy
      split at e
      · rename_i hn
        have ih := rows_ok (Φ := Φ) (G := G) x fs l h r acc ns e (by omega)
        simp [rowS, hy, hn, tru, ih]
      · cases e
theorem cl_strs (n : Nat) (ns : List PySem.Str) : clL n (ns.map .str) = true := by
  induction ns with
  | nil => rfl
  | cons x ns ih => simpa [clL, MP.cl] using ih
theorem names_ok {k f : Nat} {d : Def} (hd : T.defs[f]? = some d) (rows : List (PySem.Str × List PySem.Str × List PySem.Str × PySem.Str)) (e : d = ⟨1, 2, .asg (.slot 1) (.alloc (.lst [])) :: (rows.map rowS ++ [.ret (.var 1)])⟩) (hl : rows.length < 100)
    (x : PySem.Str) (fs : List PySem.Str) (l : List D) (h : Heap) {ns : List PySem.Str} (ht : told x rows = some ns) : callI T (k + 1) f [.exo x fs l] h = some (.ok (.newL (ns.map .str)) h) := by
  have r := rows_ok (Φ := callI T k) (G := T.get) x fs l h rows [] ns ht (by simp; omega)
  subst e
  rw [call_of hd rfl]
  simp [r, endI_rt]
  rw [gc_loc2 (oldOk_app h _) (Nat.le_refl _) (get_end _ _) (cl_strs _ _)]
  simp
def rows3 := rowsOf d3.body
def rows4 := rowsOf d4.body
theorem s3 (k : Nat) (x : PySem.Str) (fs : List PySem.Str) (l : List D) (h : Heap) {ns : List PySem.Str} (ht : told x rows3 = some ns) : callI T (k + 1) 3 [.exo x fs l] h = some (.ok (.newL (ns.map .str)) h) := names_ok t3 rows3 rfl (by decide) x fs l h ht
theorem s4 (k : Nat) (x : PySem.Str) (fs : List PySem.Str) (l : List D) (h : Heap) {ns : List PySem.Str} (ht : told x rows4 = some ns) : callI T (k + 1) 4 [.exo x fs l] h = some (.ok (.newL (ns.map .str)) h) := names_ok t4 rows4 rfl (by decide) x fs l h ht
end K00

/-! What the law's defs compute: the law. -/
namespace K00
open MP
abbrev S (s : String) : PySem.Str := PySem.Str.ofString s
def inner (v : D) : List D := [.exo (S "InvalidLayout") [] [], .exo (S "InvalidTask") [] [], .exo (S "InvalidLane") [] [], .exo (S "InvalidScript") [] [], .exo (S "InvalidOperation") [] [], .exo (S "ParseError") [S "line"] [v]]
def outer (v : D) : List D := [.exo (S "UnknownName") [S "wanted"] [v], .exo (S "InvalidCount") [S "given"] [v], .exo (S "TooMany") [S "limit"] [v], .exo (S "LostBlock") [S "command"] [v], .exo (S "NothingToUndo") [S "wanted"] [v]]
def nmOf : D → PySem.Str
  | .exo x _ _ => x
  | _ => S ""
def named (rows : List (PySem.Str × List PySem.Str × List PySem.Str × PySem.Str)) (d : D) : Option D := some (.lst ((told (nmOf d) rows).getD [] |>.map .str))
theorem in_told : (inner .non).all (fun d => (told (nmOf d) rows3).isSome && decide (told (nmOf d) rows4 = some [])) = true := by decide +kernel
theorem out_told : (outer .non).all (fun d => (told (nmOf d) rows4).isSome && decide (told (nmOf d) rows3 = some [])) = true := by decide +kernel
theorem in_3 (v : D) : (inner v).map (fun d => told (nmOf d) rows3) = [some [S "layout"], some [S "task"], some [S "lane"], some [S "script"], some [S "operation"], some [S "parse"]] := by
  show (inner .non).map (fun d => told (nmOf d) rows3) = _
  decide +kernel
theorem out_4 (v : D) : (outer v).map (fun d => told (nmOf d) rows4) = [some [S "name"], some [S "count"], some [S "many"], some [S "lost"], some [S "nothing"]] := by
  show (outer .non).map (fun d => told (nmOf d) rows4) = _
  decide +kernel
theorem in_4 (v : D) : ∀ d ∈ inner v, told (nmOf d) rows4 = some [] ∧ (∃ ns, told (nmOf d) rows3 = some ns) ∧ ∃ x fs l, d = .exo x fs l := by
  intro d hd
  have e : (inner v).map nmOf = (inner .non).map nmOf := rfl
  have hm : nmOf d ∈ (inner .non).map nmOf := e ▸ List.mem_map.mpr ⟨d, hd, rfl⟩
  obtain ⟨d', hd', ed⟩ := List.mem_map.mp hm
  have q := List.all_eq_true.mp in_told d' hd'
  rw [ed] at q
  simp only [Bool.and_eq_true, decide_eq_true_eq] at q
  refine ⟨q.2, Option.isSome_iff_exists.mp q.1, ?_⟩
  simp only [inner, List.mem_cons, List.not_mem_nil, or_false] at hd
  rcases hd with rfl | rfl | rfl | rfl | rfl | rfl <;> exact ⟨_, _, _, rfl⟩
theorem out_3 (v : D) : ∀ d ∈ outer v, told (nmOf d) rows3 = some [] ∧ (∃ ns, told (nmOf d) rows4 = some ns) ∧ ∃ x fs l, d = .exo x fs l := by
  intro d hd
  have e : (outer v).map nmOf = (outer .non).map nmOf := rfl
  have hm : nmOf d ∈ (outer .non).map nmOf := e ▸ List.mem_map.mpr ⟨d, hd, rfl⟩
  obtain ⟨d', hd', ed⟩ := List.mem_map.mp hm
  have q := List.all_eq_true.mp out_told d' hd'
  rw [ed] at q
  simp only [Bool.and_eq_true, decide_eq_true_eq] at q
  refine ⟨q.2, Option.isSome_iff_exists.mp q.1, ?_⟩
  simp only [outer, List.mem_cons, List.not_mem_nil, or_false] at hd
  rcases hd with rfl | rfl | rfl | rfl | rfl <;> exact ⟨_, _, _, rfl⟩
theorem call3 (k : Nat) (h : Heap) (d : D) {ns : List PySem.Str} (ht : told (nmOf d) rows3 = some ns) (hx : ∃ x fs l, d = .exo x fs l) : callI T (k + 1) 3 [d] h = some (.ok (.newL (ns.map .str)) h) := by
  obtain ⟨x, fs, l, rfl⟩ := hx
  exact s3 k x fs l h ht
theorem call4 (k : Nat) (h : Heap) (d : D) {ns : List PySem.Str} (ht : told (nmOf d) rows4 = some ns) (hx : ∃ x fs l, d = .exo x fs l) : callI T (k + 1) 4 [d] h = some (.ok (.newL (ns.map .str)) h) := by
  obtain ⟨x, fs, l, rfl⟩ := hx
  exact s4 k x fs l h ht
section
variable (k : Nat) (p : Nat) (v : D) (h1 : Heap)
abbrev hin : Heap := h1 ++ [.lst (inner v)]
abbrev qn : Nat := h1.length
theorem x1 : exec (callI T (k + 2)) T.get (d5.body.getD 1 .never) [some (.loc p), some v, none, none, none, none] h1 = some (.ok (.nx [some (.loc p), some v, some (.loc h1.length), none, none, none]) (h1 ++ [.lst ((inner v).take 5)])) := by
  simp [d5, inner]
theorem x2 : exec (callI T (k + 2)) T.get (d5.body.getD 2 .never) [some (.loc p), some v, some (.loc h1.length), none, none, none] (h1 ++ [.lst ((inner v).take 5)]) = some (.ok (.nx [some (.loc p), some v, some (.loc h1.length), none, none, none]) (hin v h1)) := by
  simp [d5, inner]
theorem dok_lay : ∀ (ns : List PySem.Str), (∀ x ∈ ns, x.cps.all (· < 1114112) = true) → dok 59 (.lst (ns.map .str)) = true := by
  intro ns h
  simp only [dok]
  induction ns with
  | nil => rfl
  | cons x ns ih =>
    have := h x (by simp)
    simp only [List.map_cons, dokL, dok, this, Bool.true_and]
    exact ih fun y hy => h y (by simp [hy])
theorem lc3 (g : Env) (hg : wipes g [3] = [some (.loc p), some v, some (.loc h1.length), none, none, none]) : lcGo (lcF (inner v, some h1.length) (.slot 3) (wipes g [3]) (tests (callI T (k + 2)) T.get []) (eval (callI T (k + 2)) T.get e5_1)) (inner v) (hin v h1) = some (.ok ((inner v).filterMap (named rows3)) (hin v h1)) := by
  refine lcGo_map _ _ fun d hd => ?_
  obtain ⟨_, ⟨ns, e⟩, hx⟩ := in_4 v d hd
  have c := call3 (k + 1) (hin v h1) d e hx
  rw [hg]
  simp [lcF, e5_1, c, still_some, named, e]
theorem lc4 (g : Env) (hg : ∃ z, wipes g [3] = [some (.loc p), some v, z, none, some (.lst (outer v)), none]) (h : Heap) : lcGo (lcF (outer v, none) (.slot 3) (wipes g [3]) (tests (callI T (k + 2)) T.get []) (eval (callI T (k + 2)) T.get e5_3)) (outer v) h = some (.ok ((outer v).filterMap (named rows4)) h) := by
  refine lcGo_map _ _ fun d hd => ?_
  obtain ⟨_, ⟨ns, e⟩, hx⟩ := out_3 v d hd
  have c := call4 (k + 1) h d e hx
  obtain ⟨z, hg⟩ := hg
  rw [hg]
  simp [lcF, e5_3, c, still_none, named, e]
def L3 : List D := [.lst [.str (S "layout")], .lst [.str (S "task")], .lst [.str (S "lane")], .lst [.str (S "script")], .lst [.str (S "operation")], .lst [.str (S "parse")]]
def L4 : List D := [.lst [.str (S "name")], .lst [.str (S "count")], .lst [.str (S "many")], .lst [.str (S "lost")], .lst [.str (S "nothing")]]
theorem fm3 : (inner v).filterMap (named rows3) = L3 := by
  have t := in_3 v
  simp only [inner, List.map_cons, List.map_nil, List.cons.injEq, and_true] at t
  obtain ⟨a1, a2, a3, a4, a5, a6⟩ := t
  simp [inner, named, a1, a2, a3, a4, a5, a6, L3]
theorem fm4 : (outer v).filterMap (named rows4) = L4 := by
  have t := out_4 v
  simp only [outer, List.map_cons, List.map_nil, List.cons.injEq, and_true] at t
  obtain ⟨a1, a2, a3, a4, a5⟩ := t
  simp [outer, named, a1, a2, a3, a4, a5, L4]
theorem dk3 : dok 60 (.lst L3) = true := by decide +kernel
theorem dk4 : dok 60 (.lst L4) = true := by decide +kernel
theorem eq3 : eqD (.lst L3) (.lst L3) = true := by decide +kernel
theorem eq4 : eqD (.lst L4) (.lst L4) = true := by decide +kernel
theorem ne_self {l : List D} {h : Heap} (a : dok 60 (.lst l) = true) (b : eqD (.lst l) (.lst l) = true) : cmpM .ne (.lst l) (.lst l) h = some (.ok (.v (.bl false)) h) := by
  simp only [cmpM, cmp, look, a, b, Bool.and_self, if_true, boolR, Bool.not_true]
theorem x3 : exec (callI T (k + 2)) T.get (d5.body.getD 3 .never) [some (.loc p), some v, some (.loc h1.length), none, none, none] (hin v h1) = some (.ok (.nx [some (.loc p), some v, some (.loc h1.length), none, none, none]) (hin v h1)) := by
  have lc := lc3 k p v h1 [some (.loc p), some v, some (.loc h1.length), none, none, none] rfl
  rw [fm3] at lc
  have e : eval (callI T (k + 2)) T.get (.cmp .ne (.lc e5_1 (.slot 3) (.of (.var 2)) [] [3]) (.lst [(.lst [(.c (.str (PySem.Str.ofString "layout")))]), (.lst [(.c (.str (PySem.Str.ofString "task")))]), (.lst [(.c (.str (PySem.Str.ofString "lane")))]), (.lst [(.c (.str (PySem.Str.ofString "script")))]), (.lst [(.c (.str (PySem.Str.ofString "operation")))]), (.lst [(.c (.str (PySem.Str.ofString "parse")))])])) [some (.loc p), some v, some (.loc h1.length), none, none, none] (hin v h1) = some (.ok (.v (.bl false)) (hin v h1)) := by
    have g : (hin v h1)[h1.length]? = some (.lst (inner v)) := get_end _ _
    simp only [eval, items, List.getElem?_cons_zero, List.getElem?_cons_succ, bd_ok, R.frz_v, seqIt, g, lc]
    have l : (L3.length ≤ lim) = True := by simp [L3]
    have l1 : (0 + 1 ≤ lim) = True := by simp
    have l2 : (0 + 1 + 1 + 1 + 1 + 1 + 1 ≤ lim) = True := by simp
    simp only [l, if_true, bd_ok, evals, eval, lstM, List.length_cons, List.length_nil, R.frz_v, R.frz_newL, l1, l2]
    show cmpM .ne (.lst L3) (.lst L3) _ = _
    exact ne_self dk3 eq3
  show exec _ _ (.if_ _ _ _) _ _ = _
  simp only [exec, e, bd_ok, R.frz_v, tru, execs]
theorem x4 : ∃ z, exec (callI T (k + 2)) T.get (d5.body.getD 4 .never) [some (.loc p), some v, some (.loc h1.length), none, none, none] (hin v h1) = some (.ok (.nx [some (.loc p), some v, some (.loc h1.length), z, none, none]) (hin v h1)) := by
  have turn : ∀ d ∈ inner v, ∀ z, execs (callI T (k + 2)) T.get b5_2 [some (.loc p), some v, some (.loc h1.length), some d, none, none] (hin v h1) = some (.ok (.nx [some (.loc p), some v, some (.loc h1.length), some d, none, none]) (hin v h1)) ∨ z := by
    intro d hd z
    obtain ⟨e, _, hx⟩ := in_4 v d hd
    have c := call4 (k + 1) (hin v h1) d e hx
    left
    simp only [inner, List.mem_cons, List.not_mem_nil, or_false] at hd
    rcases hd with rfl | rfl | rfl | rfl | rfl | rfl <;> (simp at c; simp [b5_2, str_inj, tru, c, look, dok, dokL, eqD, eqDL])
  obtain ⟨g', h', e, z, rfl, rfl⟩ := forGo_go (its := (inner v, some h1.length)) (f := forF (.slot 3) (execs (callI T (k + 2)) T.get b5_2)) (g := [some (.loc p), some v, some (.loc h1.length), none, none, none]) (h := hin v h1)
    (fun i g h => ∃ z, g = [some (.loc p), some v, some (.loc h1.length), z, none, none] ∧ h = hin v h1) ⟨none, rfl, rfl⟩ (by
      rintro i y g h hx ⟨z, rfl, rfl⟩
      have hm := List.mem_of_getElem? hx
      have t := (turn y hm False).resolve_right id
      refine ⟨[some (.loc p), some v, some (.loc h1.length), some y, none, none], hin v h1, ?_, still_some (get_end _ _), some y, rfl, rfl⟩
      simp [forF, t])
  refine ⟨z, ?_⟩
  show exec _ _ (.for_ (.slot 3) (.of (.var 2)) b5_2) _ _ = _
  have g : (hin v h1)[h1.length]? = some (.lst (inner v)) := get_end _ _
  simp only [exec, items, eval, List.getElem?_cons_zero, List.getElem?_cons_succ, bd_ok, R.frz_v, seqIt, g, e]
theorem x5 (z : Option D) (h : Heap) : exec (callI T (k + 2)) T.get (d5.body.getD 5 .never) [some (.loc p), some v, some (.loc h1.length), z, none, none] h = some (.ok (.nx [some (.loc p), some v, some (.loc h1.length), z, some (.lst (outer v)), none]) h) := by
  simp [d5, outer]
theorem x6 (z : Option D) (h : Heap) : exec (callI T (k + 2)) T.get (d5.body.getD 6 .never) [some (.loc p), some v, some (.loc h1.length), z, some (.lst (outer v)), none] h = some (.ok (.nx [some (.loc p), some v, some (.loc h1.length), z, some (.lst (outer v)), none]) h) := by
  have lc := lc4 k p v [some (.loc p), some v, some (.loc h1.length), z, some (.lst (outer v)), none] ⟨_, rfl⟩ h
  rw [fm4] at lc
  have e : eval (callI T (k + 2)) T.get (.cmp .ne (.lc e5_3 (.slot 3) (.of (.var 4)) [] [3]) (.lst [(.lst [(.c (.str (PySem.Str.ofString "name")))]), (.lst [(.c (.str (PySem.Str.ofString "count")))]), (.lst [(.c (.str (PySem.Str.ofString "many")))]), (.lst [(.c (.str (PySem.Str.ofString "lost")))]), (.lst [(.c (.str (PySem.Str.ofString "nothing")))])])) [some (.loc p), some v, some (.loc h1.length), z, some (.lst (outer v)), none] h = some (.ok (.v (.bl false)) h) := by
    simp only [eval, items, List.getElem?_cons_zero, List.getElem?_cons_succ, bd_ok, R.frz_v, seqIt, lc]
    have l : (L4.length ≤ lim) = True := by simp [L4]
    have l1 : (0 + 1 ≤ lim) = True := by simp
    have l2 : (0 + 1 + 1 + 1 + 1 + 1 ≤ lim) = True := by simp
    simp only [l, if_true, bd_ok, evals, eval, lstM, List.length_cons, List.length_nil, R.frz_v, R.frz_newL, l1, l2]
    show cmpM .ne (.lst L4) (.lst L4) _ = _
    exact ne_self dk4 eq4
  show exec _ _ (.if_ _ _ _) _ _ = _
  simp only [exec, e, bd_ok, R.frz_v, tru, execs]
theorem x8 (z : Option D) (h : Heap) : exec (callI T (k + 2)) T.get (d5.body.getD 8 .never) [some (.loc p), some v, some (.loc h1.length), z, some (.lst (outer v)), none] h = some (.ok (.nx [some (.loc p), some v, some (.loc h1.length), z, some (.lst (outer v)), none]) h) := by
  simp [d5, outer, str_inj, tru, atZ]
theorem x9 (z : Option D) (h : Heap) : exec (callI T (k + 2)) T.get (d5.body.getD 9 .never) [some (.loc p), some v, some (.loc h1.length), z, some (.lst (outer v)), none] h = some (.ok (.nx [some (.loc p), some v, some (.loc h1.length), z, some (.lst (outer v)), none]) h) := by
  simp [d5, outer, str_inj, tru, atZ]
theorem x10 (z : Option D) : exec (callI T (k + 2)) T.get (d5.body.getD 10 .never) [some (.loc p), some v, some (.loc h1.length), z, some (.lst (outer v)), none] (hin v h1) = some (.ok (.nx [some (.loc p), some v, some (.loc h1.length), z, some (.lst (outer v)), some (.lst [v, v, v, v, v, v])]) (hin v h1)) := by
  simp [d5, outer, inner, str_inj, tru, atZ]
end
end K00

/-! The law. -/
namespace K00
open MP
def cond7 : E := match d5.body.getD 7 .never with
  | .if_ (.cmp _ (.lc _ _ _ [c] _) _) _ _ => c
  | _ => .c .non
section
variable (k : Nat) (p : Nat) (v : D) (h1 : Heap)
theorem x7 (z : Option D) (h : Heap) : exec (callI T (k + 2)) T.get (d5.body.getD 7 .never) [some (.loc p), some v, some (.loc h1.length), z, some (.lst (outer v)), none] h = some (.ok (.nx [some (.loc p), some v, some (.loc h1.length), z, some (.lst (outer v)), none]) h) := by
  have lc : lcGo (lcF (outer v, none) (.slot 3) (wipes [some (.loc p), some v, some (.loc h1.length), z, some (.lst (outer v)), none] [3]) (tests (callI T (k + 2)) T.get [cond7]) (eval (callI T (k + 2)) T.get e5_4)) (outer v) h = some (.ok ((outer v).filterMap fun _ => none) h) := by
    refine lcGo_map _ _ fun d hd => ?_
    obtain ⟨e, _, hx⟩ := out_3 v d hd
    have c := call3 (k + 1) h d e hx
    have w : wipes [some (.loc p), some v, some (.loc h1.length), z, some (.lst (outer v)), none] [3] = [some (.loc p), some v, some (.loc h1.length), none, some (.lst (outer v)), none] := rfl
    rw [w]
    simp only [outer, List.mem_cons, List.not_mem_nil, or_false] at hd
    rcases hd with rfl | rfl | rfl | rfl | rfl <;> (simp at c; simp [lcF, tests, cond7, d5, str_inj, tru, c, look, dok, dokL, eqD, eqDL, still_none])
  have fm : (outer v).filterMap (fun _ => none) = ([] : List D) := by simp
  rw [fm] at lc
  have e : eval (callI T (k + 2)) T.get (.cmp .ne (.lc e5_4 (.slot 3) (.of (.var 4)) [cond7] [3]) (.lst [])) [some (.loc p), some v, some (.loc h1.length), z, some (.lst (outer v)), none] h = some (.ok (.v (.bl false)) h) := by
    simp only [eval, items, List.getElem?_cons_zero, List.getElem?_cons_succ, bd_ok, R.frz_v, seqIt, lc]
    have l : (([] : List D).length ≤ lim) = True := by simp
    simp only [l, if_true, bd_ok, evals, lstM, R.frz_v, R.frz_newL]
    exact ne_self (by decide +kernel) (by decide +kernel)
  show exec _ _ (.if_ (.cmp .ne (.lc e5_4 (.slot 3) (.of (.var 4)) [cond7] [3]) (.lst [])) [.ret (.c (.bl false))] []) _ _ = _
  simp only [exec, e, bd_ok, R.frz_v, tru, execs]
theorem x11 (hv : Val v) (z : Option D) (h : Heap) : exec (callI T (k + 2)) T.get (d5.body.getD 11 .never) [some (.loc p), some v, some (.loc h1.length), z, some (.lst (outer v)), some (.lst [v, v, v, v, v, v])] h = some (.ok (.rt (.v (.bl true))) h) := by
  have dk : dok 59 v = true := hv.dk 57
  have ev := hv.eq
  have rp : (List.replicate 6 [v]).flatten = [v, v, v, v, v, v] := rfl
  simp [d5, outer, str_inj, tru, atZ, look, dok, dokL, dk, eqD, eqDL, ev]
end
theorem s5 (k : Nat) {h0 h : Heap} {p n : Nat} (d : Dice h0 p n h) (hn : (n : Int) < 2 ^ 80) : ∃ h', callI T (k + 3) 5 [.loc p] h = some (.ok (.v (.bl true)) h') ∧ Dice h0 p (n + 2) h' := by
  obtain ⟨v, h1, e, hv, q⟩ := s2 k d (by omega)
  have y0 : exec (callI T (k + 2)) T.get (d5.body.getD 0 .never) [some (.loc p), none, none, none, none, none] h = some (.ok (.nx [some (.loc p), some v, none, none, none, none]) h1) := by
    simp [d5, e]
  obtain ⟨z, y4⟩ := x4 k p v h1
  refine ⟨h1, ?_, q⟩
  rw [call_of t5 rfl]
  show endI h (execs _ _ (d5.body.drop 0) [some (.loc p), none, none, none, none, none] h) = _
  rw [execs_at 0 (by decide) y0, execs_at 1 (by decide) (x1 k p v h1), execs_at 2 (by decide) (x2 k p v h1), execs_at 3 (by decide) (x3 k p v h1), execs_at 4 (by decide) y4, execs_at 5 (by decide) (x5 k p v h1 z _), execs_at 6 (by decide) (x6 k p v h1 z _), execs_at 7 (by decide) (x7 k p v h1 z _),
    execs_at 8 (by decide) (x8 k p v h1 z _), execs_at 9 (by decide) (x9 k p v h1 z _), execs_at 10 (by decide) (x10 k p v h1 z), execs_rt 11 (by decide) (x11 k p v h1 hv z _), endI_rt, gc_v2 (oldOk_more (d.oldOk q)) rfl rfl]
  rw [List.take_append_of_le_length (by rw [d.len, q.len]; exact Nat.le_refl _), d.take q]
-- four turns with the dice
theorem turns_ok (k : Nat) {h0 h : Heap} {p : Nat} (s1 s2 s3 : Option D) (d : Dice h0 p 0 h) :
    ∃ z h', forGo (rangeD 0 4, none) (forF (.slot 3) (execs (callI T (k + 3)) T.get b6_1)) (rangeD 0 4) [s1, s2, some (.loc p), s3] h = some (.ok (.nx [s1, s2, some (.loc p), z]) h') := by
  obtain ⟨g', h', e, z, rfl, _⟩ := forGo_go (its := (rangeD 0 4, none)) (f := forF (.slot 3) (execs (callI T (k + 3)) T.get b6_1)) (g := [s1, s2, some (.loc p), s3]) (h := h)
    (fun i g h => ∃ z, g = [s1, s2, some (.loc p), z] ∧ Dice h0 p (2 * i) h ∧ i ≤ 4) ⟨s3, rfl, d, by decide⟩ (by
      rintro i y g h hx ⟨z, rfl, d, hi⟩
      have hi4 : i < 4 := by
        rcases Nat.lt_or_ge i 4 with q | q
        · exact q
        · rw [List.getElem?_eq_none (by rw [rangeD_len]; exact q)] at hx; cases hx
      obtain ⟨h', e, d'⟩ := s5 k d (by omega)
      exact ⟨[s1, s2, some (.loc p), some y], h', by simp [forF, b6_1, e, tru], still_none _ _, some y, rfl, d', by omega⟩)
  exact ⟨z, h', e⟩
end K00

/-! The law's end. -/
namespace K00
open MP
theorem range_at' {m : Int} {i : Nat} {y : D} (hx : (rangeD 0 m)[i]? = some y) : y = .int i ∧ (i : Int) < m := by
  unfold rangeD at hx
  rw [List.getElem?_map] at hx
  cases c : (List.range (m - 0).toNat)[i]? with
  | none => rw [c] at hx; cases hx
  | some a =>
    rw [c] at hx
    cases hx
    have hl : i < (m - 0).toNat := by
      rcases Nat.lt_or_ge i (m - 0).toNat with q | q
      · exact q
      · rw [List.getElem?_eq_none (by simpa using q)] at c; cases c
    rw [List.getElem?_range hl] at c
    cases c
    exact ⟨by simp, by omega⟩
theorem spots_ok (k : Nat) (ns : List Int) (m : Int) (hm : m ≤ 64) :
    ∃ z1 z2 z3 h', forGo (rangeD 0 m, none) (forF (.slot 1) (execs (callI T (k + 3)) T.get b6_2)) (rangeD 0 m) [some (.scr (ns.map .int)), none, none, none] [] = some (.ok (.nx [some (.scr (ns.map .int)), z1, z2, z3]) h') := by
  obtain ⟨g', h', e, z1, z2, z3, rfl⟩ := forGo_go (its := (rangeD 0 m, none)) (f := forF (.slot 1) (execs (callI T (k + 3)) T.get b6_2)) (g := [some (.scr (ns.map .int)), none, none, none]) (h := [])
    (fun i g h => ∃ z1 z2 z3, g = [some (.scr (ns.map .int)), z1, z2, z3]) ⟨none, none, none, rfl⟩ (by
      rintro i y g h hx ⟨z1, z2, z3, rfl⟩
      obtain ⟨rfl, hi⟩ := range_at' hx
      obtain ⟨a, b, e, a1, a2, b1, b2⟩ := dice (k + 2) ns h i (by omega)
      have d0 : Dice (h ++ [.lst [.int a, .int b, .int 0]]) h.length 0 (h ++ [.lst [.int a, .int b, .int 0]]) := ⟨rfl, fun _ _ => rfl, a, b, 0, get_end _ _, a1, a2, b1, b2, by decide, by decide⟩
      obtain ⟨z, h', e2⟩ := turns_ok k (some (.scr (ns.map .int))) (some (.int i)) z3 d0
      have S4 : small 4 = true := by decide
      refine ⟨[some (.scr (ns.map .int)), some (.int i), some (.loc h.length), z], h', ?_, still_none _ _, _, _, _, rfl⟩
      simp [forF, b6_2, e, S4, e2])
  exact ⟨z1, z2, z3, h', e⟩
theorem told_sp : told (S "SpansError") rows3 = some [] := by decide +kernel
theorem val (ns : List Int) (hn : ns.length ≤ 63) : ∃ h', callI T 63 6 [.scr (ns.map .int)] [] = some (.ok (.v (.bl true)) h') := by
  obtain ⟨m, hm, hm2, em⟩ : ∃ m : Int, m ≤ 64 ∧ small m = true ∧ eval (callI T 62) T.get (.b2 .max (.c (.int 1)) (.b2 .min (.c (.int 4)) (.b1 .len (.var 0)))) [some (.scr (ns.map .int)), none, none, none] [] = some (.ok (.v (.int m)) []) := by
    refine ⟨if (if (ns.length : Int) < 4 then (ns.length : Int) else 4) > 1 then (if (ns.length : Int) < 4 then (ns.length : Int) else 4) else 1, by split <;> split <;> omega, ?_, by simp⟩
    unfold small
    exact decide_eq_true (by split <;> split <;> omega)
  obtain ⟨z1, z2, z3, h', e⟩ := spots_ok 59 ns m hm
  refine ⟨h'.take 0, ?_⟩
  have x0 : exec (callI T 62) T.get (d6.body.getD 0 .never) [some (.scr (ns.map .int)), none, none, none] [] = some (.ok (.nx [some (.scr (ns.map .int)), z1, z2, z3]) h') := by
    show exec _ _ (.for_ (.slot 1) (.range1 (.b2 .max (.c (.int 1)) (.b2 .min (.c (.int 4)) (.b1 .len (.var 0))))) b6_2) _ _ = _
    simp only [exec, items, em, bd_ok, R.frz_v, range1It, hm2, if_true]
    exact e
  have c := s3 61 (S "SpansError") [] [] h' told_sp
  simp at c
  have x1 : exec (callI T 62) T.get (d6.body.getD 1 .never) [some (.scr (ns.map .int)), z1, z2, z3] h' = some (.ok (.rt (.v (.bl true))) h') := by
    simp [d6, c, look, dok, dokL, eqD, eqDL, tru, str_inj]
  rw [call_of t6 rfl]
  show endI [] (execs _ _ (d6.body.drop 0) [some (.scr (ns.map .int)), none, none, none] []) = _
  rw [execs_at 0 (by decide) x0, execs_rt 1 (by decide) x1, endI_rt, gc_v2 ⟨Nat.zero_le _, fun i hi => absurd hi (by simp)⟩ rfl rfl]
  rfl
end K00

theorem PySem.Challenge.cw_spanswaps_k00_errors_as_they_are_derived_holds : PySem.Challenge.rw_spanswaps_k00_errors_as_they_are_derived.Holds := by
  exact K00.holds K00.val
