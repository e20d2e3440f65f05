import PyProof.Rows.All
import PySem.Str
import HandS.ForExc
import HandS.Comp
import HandS.Iter
import HandS.Walk
import HandS.Flow
import HandS.Conv
import HandS.SortInts
import HandS.SortRule
import HandS.Zip
import HandS.IsInst
import HandS.Wide
import HandS.TupAny
import PyProof.Rows.RuleB_pow
import HandS.TupMul
import HandS.Style
import KE.GoesEnum
import PyProof.SumWalkG
import PyProof.WalksMore
import HandS.More
import HandS.Dict
import HandS.Codes
import HandS.Ends
import HandS.Defaults
import HandS.Head0
import HandS.Head1
import HandS.Head2
import HandS.HeadEnd
import HandS.HeadHook1
import HandS.HeadHook2
import HandS.HeadHook4
import HandS.Words
import PySem.Challenge.RW_spanswaps_k02_whole_lots_of_cells
set_option Elab.async false
set_option linter.all false
/-! MP: a small language with values, a store of mutable objects, and an evaluator of its own. -/
namespace MP
open PySem

-- values: integers, texts, tuples, frozen lists, and places of the store
inductive D where
  | non | bl (b : Bool) | int (i : Int) | str (x : Str)
  | tup (l : List D) | lst (l : List D) | loc (p : Nat)
  | scr (l : List D)
  | dic (ks : List (Sum Int Str)) (vs : List D)

-- what stands at a place of the store
inductive O where
  | lst (l : List D)
  | dic (l : List (Sum Int Str × D))

abbrev Heap := List O

-- an exception: its class's name, its fields
structure Ex where
  cls : Str
  fs : List (Str × D)

inductive Out (α : Type) where
  | ok (a : α) (h : Heap)
  | exc (x : Ex) (h : Heap)
abbrev Res (α : Type) := Option (Out α)

def bd {α β : Type} (m : Res α) (k : α → Heap → Res β) : Res β :=
  match m with
  | some (.ok a h) => k a h
  | some (.exc x h) => some (.exc x h)
  | none => none
@[simp] theorem bd_ok {α β : Type} (a : α) (h : Heap) (k : α → Heap → Res β) : bd (some (.ok a h)) k = k a h := rfl
@[simp] theorem bd_exc {α β : Type} (x : Ex) (h : Heap) (k : α → Heap → Res β) : bd (some (.exc x h) : Res α) k = some (.exc x h) := rfl
@[simp] theorem bd_none {α β : Type} (k : α → Heap → Res β) : bd (none : Res α) k = none := rfl

-- a result: a value, or a list (a dict) that nothing else holds
inductive R where
  | v (d : D)
  | newL (l : List D)
  | newD (l : List (Sum Int Str × D))
def R.frz : R → D
  | .v d => d
  | .newL l => .lst l
  | .newD l => .dic (l.map (·.1)) (l.map (·.2))
@[simp] theorem R.frz_v (d : D) : R.frz (.v d) = d := rfl
@[simp] theorem R.frz_newL (l : List D) : R.frz (.newL l) = .lst l := rfl
@[simp] theorem R.frz_newD (l : List (Sum Int Str × D)) : R.frz (.newD l) = .dic (l.map (·.1)) (l.map (·.2)) := rfl

abbrev Env := List (Option D)

/-! ### closedness: places below n -/
mutual
def cl (n : Nat) : D → Bool
  | .non => true
  | .bl _ => true
  | .int _ => true
  | .str _ => true
  | .tup l => clL n l
  | .lst l => clL n l
  | .loc p => decide (p < n)
  | .scr l => clL n l
  | .dic _ l => clL n l
def clL (n : Nat) : List D → Bool
  | [] => true
  | d :: ds => cl n d && clL n ds
end
def clO (n : Nat) : O → Bool
  | .lst l => clL n l
  | .dic l => clL n (l.map (·.2))

/-! ### operators -/
inductive BOp where
  | add | sub | mul | fdiv | mod | pow
  deriving DecidableEq
inductive COp where
  | eq | ne | lt | le | gt | ge | isN | notN | mem | nmem
  deriving DecidableEq
-- the limit of lengths
abbrev lim : Nat := 16777216

-- the content of a sequence
@[simp] def seqOf (h : Heap) : D → Option (List D)
  | .tup l => some l
  | .lst l => some l
  | .scr l => some l
  | .loc p => match h[p]? with
    | some (.lst l) => some l
    | _ => none
  | _ => none

-- a list's content, where it is surely the program's own
@[simp] def lstOf (h : Heap) : D → Option (List D)
  | .lst l => some l
  | .loc p => match h[p]? with
    | some (.lst l) => some l
    | _ => none
  | _ => none

-- data that == is told for: no places, not too deep
mutual
def dok : Nat → D → Bool
  | _, .non => true
  | _, .bl _ => true
  | _, .int _ => true
  | _, .str x => x.cps.all (· < 1114112)
  | 0, .tup _ => false
  | n + 1, .tup l => dokL n l
  | 0, .lst _ => false
  | n + 1, .lst l => dokL n l
  | _, .loc _ => false
  | _, .scr _ => false
  | _, .dic _ _ => false
def dokL : Nat → List D → Bool
  | _, [] => true
  | n, d :: ds => dok n d && dokL n ds
end
def b2i (b : Bool) : Int := if b then 1 else 0
mutual
def eqD : D → D → Bool
  | .non, .non => true
  | .bl a, .bl b => a == b
  | .bl a, .int j => b2i a == j
  | .int i, .bl b => i == b2i b
  | .int i, .int j => i == j
  | .str x, .str y => x == y
  | .tup l, .tup m => eqDL l m
  | .lst l, .lst m => eqDL l m
  | _, _ => false
def eqDL : List D → List D → Bool
  | [], [] => true
  | x :: xs, y :: ys => eqD x y && eqDL xs ys
  | _, _ => false
end
-- a place that holds a list, read as that list (the outermost level alone)
@[simp] def look (h : Heap) : D → D
  | .loc p => match h[p]? with
    | some (.lst l) => .lst l
    | _ => .loc p
  | d => d

def mulOk (i j : Int) : Bool := decide (i.natAbs.log2 + j.natAbs.log2 < 1000000)
def fdivOk (j : Int) : Bool := decide (0 < j ∧ j.natAbs.log2 < 9000)
def powOk (i j : Int) : Bool := decide (0 ≤ j ∧ j ≤ 10000 ∧ i.natAbs.log2 < 10000)

@[simp] def catL (l : List D) (o : Option (List D)) (h : Heap) : Res R := match o with
  | some m => if l.length + m.length ≤ lim then some (.ok (.newL (l ++ m)) h) else none
  | none => none
@[simp] def bin (op : BOp) (x y : D) (h : Heap) : Res R :=
  match op, x, y with
  | .add, .tup l, .tup m => if l.length + m.length ≤ lim then some (.ok (.v (.tup (l ++ m))) h) else none
  | .add, .lst l, y => catL l (lstOf h y) h
  | .add, .loc p, y => match h[p]? with
    | some (.lst l) => catL l (lstOf h y) h
    | _ => none
  | .mul, .tup l, .int j => if l ≠ [] ∧ 2 ≤ j ∧ j ≤ 1000 ∧ l.length ≤ 1000 then some (.ok (.v (.tup (List.replicate j.toNat l).flatten)) h) else none
  | .add, .int i, .int j => some (.ok (.v (.int (i + j))) h)
  | .sub, .int i, .int j => some (.ok (.v (.int (i - j))) h)
  | .mul, .int i, .int j => if mulOk i j then some (.ok (.v (.int (i * j))) h) else none
  | .fdiv, .int i, .int j => if fdivOk j then some (.ok (.v (.int (i / j))) h) else none
  | .mod, .int i, .int j => if 0 < j then some (.ok (.v (.int (i % j))) h) else if j ≠ 0 then some (.ok (.v (.int (Int.fmod i j))) h) else none
  | .pow, .int i, .int j => if powOk i j then some (.ok (.v (.int (i ^ j.toNat))) h) else none
  | _, _, _ => none

def flat : D → Bool
  | .non => true
  | .bl _ => true
  | .int _ => true
  | .str _ => true
  | _ => false
@[simp] def isNon : D → Bool
  | .non => true
  | _ => false
-- x is y, y None or a bool
@[simp] def isM (x y : D) : Option Bool := match y with
  | .non => some (isNon x)
  | .bl b => match x with
    | .bl a => some (a == b)
    | _ => none
  | _ => none
def mem (x : D) (y : D) (h : Heap) : Option Bool :=
  match seqOf h y with
  | some l => if flat x && l.all flat then some (l.any fun z => eqD z x) else none
  | none => none
@[simp] def cmp (op : COp) (x y : D) (h : Heap) : Option Bool :=
  match op with
  | .eq => if dok 60 (look h x) && dok 60 (look h y) then some (eqD (look h x) (look h y)) else none
  | .ne => if dok 60 (look h x) && dok 60 (look h y) then some (!eqD (look h x) (look h y)) else none
  | .lt => match x, y with
    | .int i, .int j => some (decide (i < j))
    | _, _ => none
  | .le => match x, y with
    | .int i, .int j => some (decide (i ≤ j))
    | _, _ => none
  | .gt => match x, y with
    | .int i, .int j => some (decide (j < i))
    | _, _ => none
  | .ge => match x, y with
    | .int i, .int j => some (decide (j ≤ i))
    | _, _ => none
  | .isN => isM x y
  | .notN => (isM x y).map (!·)
  | .mem => mem x y h
  | .nmem => (mem x y h).map (!·)
-- truth
def tru (h : Heap) : D → Option Bool
  | .non => some false
  | .bl b => some b
  | .int i => some (decide (i ≠ 0))
  | .str x => if x.length ≤ lim then some (decide (x.length ≠ 0)) else none
  | .tup l => some (!l.isEmpty)
  | .lst l => some (!l.isEmpty)
  | .scr l => some (!l.isEmpty)
  | .dic _ _ => none
  | .loc p => match h[p]? with
    | some (.lst l) => some (!l.isEmpty)
    | _ => none

/-! ### places in a sequence -/
def small (i : Int) : Bool := decide (-(2 ^ 62) ≤ i ∧ i < 2 ^ 62)
@[simp] def atN (n : Nat) (i : Int) : Option Nat := if 0 ≤ i then if i.toNat < n then some i.toNat else none else if -(n : Int) ≤ i then some (i + n).toNat else none
def atZ {α : Type} (l : List α) (i : Int) : Option α :=
  if 0 ≤ i then l[i.toNat]? else if -(l.length : Int) ≤ i then l[(i + l.length).toNat]? else none
-- an end of a slice: none: d
def cutAt (n d : Nat) : Option Int → Nat
  | none => d
  | some i => if i < 0 then (i + (n : Int)).toNat else min i.toNat n
def cutZ (l : List D) (lo hi : Option Int) : List D := (l.drop (cutAt l.length 0 lo)).take (cutAt l.length l.length hi - cutAt l.length 0 lo)
@[simp] def ixD (h : Heap) (x i : D) : Option D :=
  match seqOf h x, i with
  | some l, .int i => atZ l i
  | _, _ => none
@[simp] def sliceM (x : D) (lo hi : Option Int) (h : Heap) : Res R :=
  match x with
  | .tup l => some (.ok (.v (.tup (cutZ l lo hi))) h)
  | _ => match seqOf h x with
    | some l => some (.ok (.newL (cutZ l lo hi)) h)
    | none => none

/-! ### built-in functions -/
inductive B1 where
  | len | abs | int
  deriving DecidableEq
inductive B2 where
  | min | max
  deriving DecidableEq
inductive Ty where
  | int | bool | tuple | list | str
  deriving DecidableEq
inductive BI where
  | tuple | list | sum | all | any | sorted
  deriving DecidableEq
inductive M where
  | append | pop
  deriving DecidableEq

@[simp] def b1 (f : B1) (x : D) (h : Heap) : Option D :=
  match f with
  | .len => (seqOf h x).map fun l => .int l.length
  | .abs => match x with
    | .int i => some (.int (if i < 0 then -i else i))
    | _ => none
  | .int => match x with
    | .int i => some (.int i)
    | .bl b => some (.int (b2i b))
    | _ => none
@[simp] def b2 (f : B2) (x y : D) : Option D :=
  match f, x, y with
  | .min, .int i, .int j => some (.int (if j < i then j else i))
  | .max, .int i, .int j => some (.int (if j > i then j else i))
  | _, _, _ => none
@[simp] def isTy (h : Heap) (t : Ty) : D → Option Bool
  | .non => some false
  | .bl _ => some (decide (t = .int ∨ t = .bool))
  | .int _ => some (decide (t = .int))
  | .str _ => some (decide (t = .str))
  | .tup _ => some (decide (t = .tuple))
  | .lst _ => some (decide (t = .list))
  | .scr _ => some (decide (t = .list))
  | .dic _ _ => some false
  | .loc p => match h[p]? with
    | some (.lst _) => some (decide (t = .list))
    | some (.dic _) => some false
    | _ => none

-- all are intsD
def intsD : List D → Option (List Int)
  | [] => some []
  | .int i :: r => (intsD r).map (i :: ·)
  | _ :: _ => none
def bools : List D → Option (List Bool)
  | [] => some []
  | .bl i :: r => (bools r).map (i :: ·)
  | _ :: _ => none
-- all are pairs of intsD
def pairs : List D → Option (List (Int × Int))
  | [] => some []
  | .tup [.int i, .int j] :: r => (pairs r).map ((i, j) :: ·)
  | _ :: _ => none
def insBy {α : Type} (le : α → α → Bool) (x : α) : List α → List α
  | [] => [x]
  | y :: r => if le x y then x :: y :: r else y :: insBy le x r
def sortBy {α : Type} (le : α → α → Bool) : List α → List α
  | [] => []
  | x :: r => insBy le x (sortBy le r)
def leI (a b : Int) : Bool := decide (a ≤ b)
def leP (a b : Int × Int) : Bool := decide (a.1 < b.1) || (decide (a.1 = b.1) && decide (a.2 ≤ b.2))
def pairD (p : Int × Int) : D := .tup [.int p.1, .int p.2]
def sortD (l : List D) : Option (List D) :=
  match intsD l with
  | some ns => some ((sortBy leI ns).map .int)
  | none => match pairs l with
    | some ps => some ((sortBy leP ps).map pairD)
    | none => none
def bi (f : BI) (l : List D) : Option R :=
  match f with
  | .tuple => if l.length ≤ lim then some (.v (.tup l)) else none
  | .list => if l.length ≤ lim then some (.newL l) else none
  | .sum => (intsD l).map fun ns => .v (.int ns.sum)
  | .all => (bools l).map fun bs => .v (.bl (bs.all id))
  | .any => (bools l).map fun bs => .v (.bl (bs.any id))
  | .sorted => (sortD l).map .newL

/-! ### dicts -/
-- in its place, or at the end
def putD (l : List (Sum Int Str × D)) (k : Sum Int Str) (d : D) : List (Sum Int Str × D) :=
  if (l.any fun kv => decide (kv.1 = k)) = true then l.map (fun kv => if kv.1 = k then (kv.1, d) else kv) else l ++ [(k, d)]
def getD (l : List (Sum Int Str × D)) (k : Sum Int Str) : Option D := (l.find? fun kv => decide (kv.1 = k)).map (·.2)
@[simp] def keyOf : D → Option (Sum Int Str)
  | .int i => some (.inl i)
  | .str x => some (.inr x)
  | _ => none
-- a dict read
@[simp] def dicOf (h : Heap) : D → Option (List (Sum Int Str × D))
  | .dic ks vs => some (ks.zip vs)
  | .loc p => match h[p]? with
    | some (.dic l) => some l
    | _ => none
  | _ => none
-- keys that are all ints
def intKs : List (Sum Int Str) → Option (List Int)
  | [] => some []
  | .inl i :: r => (intKs r).map (i :: ·)
  | .inr _ :: _ => none
@[simp] def srtDM (x : D) (h : Heap) : Res R := match dicOf h x with
  | some l => match intKs (l.map (·.1)) with
    | some ks => if ks.length < 64 then some (.ok (.newL ((sortBy leI ks).map .int)) h) else none
    | none => none
  | none => none

/-! ### the syntax -/
inductive Tg where
  | slot (i : Nat)
  | tup (ts : List Tg)
mutual
inductive E where
  | var (i : Nat)
  | c (d : D)
  | glob (k : Nat)
  | bin (op : BOp) (a b : E)
  | neg (a : E)
  | not (a : E)
  | cmp (op : COp) (a b : E)
  | cmp2 (o1 o2 : COp) (a b c : E)
  | and (a b : E)
  | or (a b : E)
  | ite (c a b : E)
  | tup (es : List E)
  | lst (es : List E)
  | ix (a b : E)
  | slice (a : E) (bl bh : Bool) (lo hi : E)
  | call (f : Nat) (es : List E)
  | b1 (f : B1) (a : E)
  | b2 (f : B2) (a b : E)
  | isinst (a : E) (t : Ty)
  | bi (f : BI) (i : I)
  | lc (elt : E) (tg : Tg) (it : I) (cond : List E) (ws : List Nat)
  | meth (m : M) (o : E) (es : List E)
  | alloc (e : E)
  | dct
  | srtD (a : E)
inductive I where
  | of (e : E)
  | range1 (a : E)
  | range2 (a b : E)
  | enum (a : E)
  | zip (a b : E)
end
inductive St where
  | asg (tg : Tg) (e : E)
  | par (is : List Nat) (es : List E)
  | aug (i : Nat) (op : BOp) (e : E)
  | setix (o k e : E)
  | expr (e : E)
  | ret (e : E)
  | ret0
  | if_ (c : E) (a b : List St)
  | for_ (tg : Tg) (it : I) (body : List St)
  | while_ (c : E) (body : List St)
  | pass | brk | cont
  | never

/-! ### the evaluator -/
mutual
@[simp] def assign : Tg → D → Env → Option Env
  | .slot i, d, g => some (g.set i (some d))
  | .tup ts, .tup l, g => assigns ts l g
  | .tup _, _, _ => none
@[simp] def assigns : List Tg → List D → Env → Option Env
  | [], [], g => some g
  | t :: ts, d :: ds, g => match assign t d g with
    | some g => assigns ts ds g
    | none => none
  | _, _, _ => none
end
mutual
-- the slots that a target stores
def slots : Tg → List Nat
  | .slot i => [i]
  | .tup ts => slotsL ts
def slotsL : List Tg → List Nat
  | [] => []
  | t :: ts => slots t ++ slotsL ts
end
def wipes (g : Env) : List Nat → Env
  | [] => g
  | i :: is => (wipes g is).set i none

def ofO {α : Type} (o : Option α) (h : Heap) : Res α := o.map fun a => .ok a h
@[simp] theorem ofO_some {α : Type} (a : α) (h : Heap) : ofO (some a) h = some (.ok a h) := rfl
@[simp] theorem ofO_none {α : Type} (h : Heap) : ofO (none : Option α) h = none := rfl

-- items of a walk; the place walked, if there is one
abbrev Items := List D × Option Nat
open Classical in
-- the place walked still holds what it held
noncomputable def still (it : Items) (h : Heap) : Bool := match it.2 with
  | none => true
  | some p => decide (h[p]? = some (.lst it.1))

-- whose methods these are
@[simp] def recv (m : M) (o : D) (h : Heap) : Bool := match o with
  | .loc p => match h[p]? with
    | some (.lst _) => true
    | _ => false
  | _ => false
-- methods of lists
@[simp] def meth (m : M) (o : D) (args : List D) (h : Heap) : Res R :=
  match m, o, args with
  | .append, .loc p, [d] => match h[p]? with
    | some (.lst l) => if l.length < lim then some (.ok (.v .non) (h.set p (.lst (l ++ [d])))) else none
    | _ => none
  | .pop, .loc p, [] => match h[p]? with
    | some (.lst l) => match l.getLast? with
      | some d => some (.ok (.v d) (h.set p (.lst l.dropLast)))
      | none => none
    | _ => none
  | .pop, .loc p, [.int i] => match h[p]? with
    | some (.lst l) => match atN l.length i with
      | some j => match l[j]? with
        | some d => if small i then some (.ok (.v d) (h.set p (.lst (l.eraseIdx j)))) else none
        | none => none
      | none => none
    | _ => none
  | _, _, _ => none

-- the turns of a comprehension: f gives the item's value, or none where a test fails
def lcGo (f : D → Heap → Res (Option D)) : List D → Heap → Res (List D)
  | [], h => some (.ok [] h)
  | x :: xs, h => match f x h with
    | some (.ok (some y) h) => match lcGo f xs h with
      | some (.ok ys h) => some (.ok (y :: ys) h)
      | _ => none
    | some (.ok none h) => lcGo f xs h
    | _ => none

noncomputable def lcF (its : Items) (tg : Tg) (g0 : Env) (tests : Env → Heap → Res Bool) (elt : Env → Heap → Res R) (d : D) (h : Heap) : Res (Option D) := match assign tg d g0 with
  | some g' => bd (tests g' h) fun b h => if b && still its h then bd (elt g' h) fun r h => if still its h then some (.ok (some r.frz) h) else none else if still its h then some (.ok none h) else none
  | none => none
def rangeD (lo hi : Int) : List D := (List.range (hi - lo).toNat).map fun (k : Nat) => D.int (lo + (k : Int))
def enumD (l : List D) : List D := (List.range l.length).zipWith (fun (k : Nat) d => D.tup [D.int (k : Int), d]) l

-- names stored one after another
@[simp] def setAll : List Nat → List D → Env → Option Env
  | [], [], g => some g
  | i :: is, d :: ds, g => setAll is ds (g.set i (some d))
  | _, _, _ => none
@[simp] def augD (op : BOp) (x y : D) : Option D := match op, x, y with
  | .add, .int i, .int j => some (.int (i + j))
  | .sub, .int i, .int j => some (.int (i - j))
  | _, _, _ => none
-- o[i] = d
@[simp] def setM (o i d : D) (h : Heap) : Option Heap := match o, i with
  | .loc p, .int i => match h[p]? with
    | some (.lst l) => match atN l.length i with
      | some j => some (h.set p (.lst (l.set j d)))
      | none => none
    | some (.dic l) => if l.length < lim then some (h.set p (.dic (putD l (.inl i) d))) else none
    | _ => none
  | .loc p, .str x => match h[p]? with
    | some (.dic l) => if l.length < lim then some (h.set p (.dic (putD l (.inr x) d))) else none
    | _ => none
  | _, _ => none
-- a part of a slice, if it is there
@[simp] def partM (b : Bool) (m : Heap → Res R) (h : Heap) : Res (Option Int) :=
  if b = true then bd (m h) fun r h => match r.frz with
    | .int i => some (.ok (some i) h)
    | _ => none
  else some (.ok none h)
@[simp] def allocM (r : R) (h : Heap) : Res R := match r with
  | .newL l => some (.ok (.v (.loc h.length)) (h ++ [.lst l]))
  | .newD l => some (.ok (.v (.loc h.length)) (h ++ [.dic l]))
  | .v _ => none
@[simp] def negM (d : D) (h : Heap) : Res R := match d with
  | .int i => some (.ok (.v (.int (-i))) h)
  | _ => none
@[simp] def boolR (o : Option Bool) (h : Heap) : Res R := match o with
  | some t => some (.ok (.v (.bl t)) h)
  | none => none
@[simp] def valR (o : Option D) (h : Heap) : Res R := match o with
  | some d => some (.ok (.v d) h)
  | none => none
@[simp] def cmpM (op : COp) (x y : D) (h : Heap) : Res R := boolR (cmp op x y h) h
@[simp] def ixM (x y : D) (h : Heap) : Res R := valR (ixD h x y) h
@[simp] def b1M (f : B1) (x : D) (h : Heap) : Res R := valR (b1 f x h) h
@[simp] def b2M (f : B2) (x y : D) (h : Heap) : Res R := valR (b2 f x y) h
@[simp] def tyM (t : Ty) (x : D) (h : Heap) : Res R := boolR (isTy h t x) h
@[simp] def tupM (ds : List D) (h : Heap) : Res R := if ds.length ≤ lim then some (.ok (.v (.tup ds)) h) else none
@[simp] def lstM (ds : List D) (h : Heap) : Res R := if ds.length ≤ lim then some (.ok (.newL ds) h) else none

@[simp] def seqIt (d : D) (h : Heap) : Res Items := match d with
  | .tup l => some (.ok (l, none) h)
  | .lst l => some (.ok (l, none) h)
  | .scr l => some (.ok (l, none) h)
  | .loc p => match h[p]? with
    | some (.lst l) => some (.ok (l, some p) h)
    | _ => none
  | _ => none
@[simp] def range1It (d : D) (h : Heap) : Res Items := match d with
  | .int i => if small i then some (.ok (rangeD 0 i, none) h) else none
  | _ => none
@[simp] def range2It (d e : D) (h : Heap) : Res Items := match d, e with
  | .int i, .int j => if small i && small j then some (.ok (rangeD i j, none) h) else none
  | _, _ => none
@[simp] def enumIt (d : D) (h : Heap) : Res Items := match d with
  | .tup l => some (.ok (enumD l, none) h)
  | .lst l => some (.ok (enumD l, none) h)
  | _ => none
@[simp] def zipIt (d e : D) (h : Heap) : Res Items := match d, e with
  | .tup l, .tup m => some (.ok (l.zipWith (fun x y => D.tup [x, y]) m, none) h)
  | .lst l, .lst m => some (.ok (l.zipWith (fun x y => D.tup [x, y]) m, none) h)
  | _, _ => none

section
variable (Φ : Nat → List D → Heap → Res R) (G : Nat → Option D)
mutual
@[simp] noncomputable def eval : E → Env → Heap → Res R
  | .var i, g, h => match g[i]? with
    | some (some d) => some (.ok (.v d) h)
    | _ => none
  | .c d, _, h => some (.ok (.v d) h)
  | .glob k, _, h => match G k with
    | some d => some (.ok (.v d) h)
    | none => none
  | .bin op a b, g, h => bd (eval a g h) fun x h => bd (eval b g h) fun y h => bin op x.frz y.frz h
  | .neg a, g, h => bd (eval a g h) fun x h => negM x.frz h
  | .not a, g, h => bd (eval a g h) fun x h => boolR ((tru h x.frz).map (!·)) h
  | .cmp op a b, g, h => bd (eval a g h) fun x h => bd (eval b g h) fun y h => cmpM op x.frz y.frz h
  | .cmp2 o1 o2 a b c, g, h => bd (eval a g h) fun x h => bd (eval b g h) fun y h => match cmp o1 x.frz y.frz h with
    | some false => some (.ok (.v (.bl false)) h)
    | some true => bd (eval c g h) fun z h => cmpM o2 y.frz z.frz h
    | none => none
  | .and a b, g, h => bd (eval a g h) fun x h => match tru h x.frz with
    | some true => bd (eval b g h) fun y h => some (.ok (.v y.frz) h)
    | some false => some (.ok (.v x.frz) h)
    | none => none
  | .or a b, g, h => bd (eval a g h) fun x h => match tru h x.frz with
    | some true => some (.ok (.v x.frz) h)
    | some false => bd (eval b g h) fun y h => some (.ok (.v y.frz) h)
    | none => none
  | .ite c a b, g, h => bd (eval c g h) fun x h => match tru h x.frz with
    | some true => eval a g h
    | some false => eval b g h
    | none => none
  | .tup es, g, h => bd (evals es g h) fun ds h => tupM ds h
  | .lst es, g, h => bd (evals es g h) fun ds h => lstM ds h
  | .ix a b, g, h => bd (eval a g h) fun x h => bd (eval b g h) fun y h => ixM x.frz y.frz h
  | .slice a bl bh lo hi, g, h => bd (eval a g h) fun x h => bd (partM bl (eval lo g) h) fun l h => bd (partM bh (eval hi g) h) fun u h => sliceM x.frz l u h
  | .call f es, g, h => bd (evals es g h) fun ds h => Φ f ds h
  | .b1 f a, g, h => bd (eval a g h) fun x h => b1M f x.frz h
  | .b2 f a b, g, h => bd (eval a g h) fun x h => bd (eval b g h) fun y h => b2M f x.frz y.frz h
  | .isinst a t, g, h => bd (eval a g h) fun x h => tyM t x.frz h
  | .bi f i, g, h => bd (items i g h) fun it h => ofO (bi f it.1) h
  | .lc elt tg it cond ws, g, h => bd (items it g h) fun its h =>
      bd (lcGo (lcF its tg (wipes g ws) (tests cond) (eval elt)) its.1 h) fun l h => if l.length ≤ lim then some (.ok (.newL l) h) else none
  | .meth m o es, g, h => bd (eval o g h) fun x h => if recv m x.frz h then bd (evals es g h) fun ds h => meth m x.frz ds h else none
  | .alloc e, g, h => bd (eval e g h) fun r h => allocM r h
  | .dct, _, h => some (.ok (.newD []) h)
  | .srtD a, g, h => bd (eval a g h) fun r h => srtDM r.frz h
@[simp] noncomputable def evals : List E → Env → Heap → Res (List D)
  | [], _, h => some (.ok [] h)
  | e :: es, g, h => bd (eval e g h) fun r h => bd (evals es g h) fun ds h => some (.ok (r.frz :: ds) h)
-- tests of a comprehension, one after another
noncomputable def tests : List E → Env → Heap → Res Bool
  | [], _, h => some (.ok true h)
  | e :: es, g, h => bd (eval e g h) fun r h => match tru h r.frz with
    | some true => tests es g h
    | some false => some (.ok false h)
    | none => none
@[simp] noncomputable def items : I → Env → Heap → Res Items
  | .of e, g, h => bd (eval e g h) fun r h => seqIt r.frz h
  | .range1 a, g, h => bd (eval a g h) fun r h => range1It r.frz h
  | .range2 a b, g, h => bd (eval a g h) fun r h => bd (eval b g h) fun q h => range2It r.frz q.frz h
  | .enum a, g, h => bd (eval a g h) fun r h => enumIt r.frz h
  | .zip a b, g, h => bd (eval a g h) fun r h => bd (eval b g h) fun q h => zipIt r.frz q.frz h
end

inductive Fl where
  | nx (g : Env) | rt (r : R) | bk (g : Env) | ct (g : Env)

-- the turns of a for
noncomputable def forGo (its : Items) (f : D → Env → Heap → Res Fl) : List D → Env → Heap → Res Fl
  | [], g, h => some (.ok (.nx g) h)
  | x :: xs, g, h => bd (f x g h) fun fl h => match fl with
    | .nx g => if still its h then forGo its f xs g h else none
    | .ct g => if still its h then forGo its f xs g h else none
    | .bk g => some (.ok (.nx g) h)
    | .rt r => some (.ok (.rt r) h)
-- one turn of a for
def forF (tg : Tg) (b : Env → Heap → Res Fl) : D → Env → Heap → Res Fl := fun d g h => match assign tg d g with
  | some g => b g h
  | none => none
-- a value as a test
def tst (m : Env → Heap → Res R) : Env → Heap → Res Bool := fun g h => bd (m g h) fun r h => ofO (tru h r.frz) h
-- k turns of a while at most
def whileGo (c : Env → Heap → Res Bool) (f : Env → Heap → Res Fl) : Nat → Env → Heap → Res Fl
  | 0, _, _ => none
  | k + 1, g, h => bd (c g h) fun b h => if b then bd (f g h) fun fl h => match fl with
      | .nx g => whileGo c f k g h
      | .ct g => whileGo c f k g h
      | .bk g => some (.ok (.nx g) h)
      | .rt r => some (.ok (.rt r) h)
    else some (.ok (.nx g) h)
open Classical in
-- as many turns as it wants
noncomputable def whileD (c : Env → Heap → Res Bool) (f : Env → Heap → Res Fl) (g : Env) (h : Heap) : Res Fl :=
  if q : ∃ k r, whileGo c f k g h = some r then some q.choose_spec.choose else none

mutual
@[simp] noncomputable def exec : St → Env → Heap → Res Fl
  | .asg tg e, g, h => bd (eval Φ G e g h) fun r h => match assign tg r.frz g with
    | some g => some (.ok (.nx g) h)
    | none => none
  | .par is es, g, h => bd (evals Φ G es g h) fun ds h => match setAll is ds g with
    | some g => some (.ok (.nx g) h)
    | none => none
  | .aug i op e, g, h => match g[i]? with
    | some (some x) => bd (eval Φ G e g h) fun r h => match augD op x r.frz with
      | some d => some (.ok (.nx (g.set i (some d))) h)
      | none => none
    | _ => none
  | .setix o k e, g, h => bd (eval Φ G e g h) fun r h => bd (eval Φ G o g h) fun x h => bd (eval Φ G k g h) fun y h => match setM x.frz y.frz r.frz h with
    | some h => some (.ok (.nx g) h)
    | none => none
  | .expr e, g, h => bd (eval Φ G e g h) fun _ h => some (.ok (.nx g) h)
  | .ret e, g, h => bd (eval Φ G e g h) fun r h => some (.ok (.rt r) h)
  | .ret0, _, h => some (.ok (.rt (.v .non)) h)
  | .if_ c a b, g, h => bd (eval Φ G c g h) fun r h => match tru h r.frz with
    | some true => execs a g h
    | some false => execs b g h
    | none => none
  | .for_ tg it body, g, h => bd (items Φ G it g h) fun its h => forGo its (forF tg (execs body)) its.1 g h
  | .while_ c body, g, h => whileD (tst (eval Φ G c)) (execs body) g h
  | .pass, g, h => some (.ok (.nx g) h)
  | .brk, g, h => some (.ok (.bk g) h)
  | .cont, g, h => some (.ok (.ct g) h)
  | .never, _, _ => none
@[simp] noncomputable def execs : List St → Env → Heap → Res Fl
  | [], g, h => some (.ok (.nx g) h)
  | s :: ss, g, h => bd (exec s g h) fun fl h => match fl with
    | .nx g => execs ss g h
    | .rt r => some (.ok (.rt r) h)
    | .bk g => some (.ok (.bk g) h)
    | .ct g => some (.ok (.ct g) h)
end
end

/-! ### calls -/
structure Def where
  np : Nat
  nl : Nat
  body : List St
structure Tab where
  defs : List Def
  globs : List D
def Tab.get (T : Tab) (i : Nat) : Option D := T.globs[i]?
-- the old part is as it was, or holds nothing new
def OldOk (h h1 : Heap) : Prop := h.length ≤ h1.length ∧ ∀ i, i < h.length → h1[i]? = h[i]? ∨ ∃ o, h1[i]? = some o ∧ clO h.length o = true
-- what a call leaves: new objects that nothing holds are dropped
open Classical in
noncomputable def gc (h : Heap) (r : R) (h1 : Heap) : Res R :=
  if OldOk h h1 then
    match r with
    | .newL l => if clL h.length l then some (.ok (.newL l) (h1.take h.length)) else none
    | .newD l => if clL h.length (l.map (·.2)) then some (.ok (.newD l) (h1.take h.length)) else none
    | .v (.loc p) => if p < h.length then some (.ok (.v (.loc p)) (h1.take h.length)) else
      match h1[p]? with
      | some (.lst l) => if clL h.length l then some (.ok (.newL l) (h1.take h.length)) else none
      | some (.dic l) => if clL h.length (l.map (·.2)) then some (.ok (.newD l) (h1.take h.length)) else none
      | _ => none
    | .v d => if cl h.length d then some (.ok (.v d) (h1.take h.length)) else none
  else none
def gcx (h : Heap) (x : Ex) (h1 : Heap) : Res R := some (.exc x h1)
@[simp] def start (d : Def) (args : List D) : Env := args.map some ++ List.replicate (d.nl - args.length) none
noncomputable def endI (h : Heap) : Res Fl → Res R
  | some (.ok (.rt r) h1) => gc h r h1
  | some (.ok (.nx _) h1) => gc h (.v .non) h1
  | some (.exc x h1) => gcx h x h1
  | _ => none
noncomputable def callI (T : Tab) : Nat → Nat → List D → Heap → Res R
  | 0, _, _, _ => none
  | k + 1, f, args, h => match T.defs[f]? with
    | none => none
    | some d => if args.length = d.np then endI h (execs (callI T k) T.get d.body (start d args) h) else none
end MP

set_option maxRecDepth 100000
set_option maxHeartbeats 2000000
/-! MP.Rel: values of MP beside values of the model. -/
namespace MP
open PySem PySem.Spec PyProof.Rows L2

-- where the places of the store stand; s: addresses that may change all the same
structure Mu where
  f : Nat → Addr
  s : Addr → Prop
instance : CoeFun Mu (fun _ => Nat → Addr) := ⟨Mu.f⟩
-- a list of the written part
def KL (K : PySem.W.Frag) (a : Addr) (xs : List V) : Prop :=
  ∃ (o : Obj) (its : Array Value) (n : Nat), K.lookup a = some o ∧ o.cls = .type "list" ∧ o.dict = none ∧ o.data = .seq its n ∧ its.size ≤ sizeLine ∧ Vals xs its.toList
-- a frozen thing: no place of the store is its own
def Fz (μ : Mu) (n : Nat) (H : Hp) (a : Addr) (u : HO) : Prop := Rd H a u ∧ (∀ p, p < n → μ p ≠ a) ∧ ¬ μ.s a
def FzL (K : PySem.W.Frag) (μ : Mu) (n : Nat) (H : Hp) (a : Addr) (xs : List V) : Prop :=
  KL K a xs ∨ Fz μ n H a (.lst xs)
theorem FzL.imp {K : PySem.W.Frag} {μ μ' : Mu} {n n' : Nat} {H H' : Hp} {a : Addr} {xs : List V} (q : FzL K μ n H a xs) (f : ∀ a u, Fz μ n H a u → Fz μ' n' H' a u) : FzL K μ' n' H' a xs := Or.imp id (f a _) q
-- what stands at a place: it may be changed
def Chg : HO → Prop
  | .lst _ => True
  | .dK _ => True
  | _ => False
theorem FzL.sqk {K : PySem.W.Frag} {μ : Mu} {n : Nat} {H : Hp} {a : Addr} {xs : List V} (h : FzL K μ n H a xs) : SqL K H a xs := by
  rcases h with h | ⟨h, _⟩
  · exact .inr h
  · exact .inl h
theorem FzL.rd {μ : Mu} {n : Nat} {H : Hp} {a : Addr} {xs : List V} (h : FzL [] μ n H a xs) : Rd H a (.lst xs) := by
  rcases h with ⟨_, _, _, e, _⟩ | ⟨h, _⟩
  · cases e
  · exact h
theorem FzL.sq {K : PySem.W.Frag} {μ : Mu} {n : Nat} {H : Hp} {a : Addr} {xs : List V} (h : FzL [] μ n H a xs) : SqL K H a xs := .inl h.rd
mutual
def RD (K : PySem.W.Frag) (μ : Mu) (n : Nat) (H : Hp) : D → V → Prop
  | .non, v => v = .non
  | .bl b, v => v = .bl b
  | .int i, v => v = .int i
  | .str x, v => v = .str x
  | .tup l, v => ∃ a vs, v = .ref a ∧ SqT K H a vs ∧ RDs K μ n H l vs
  | .lst l, v => ∃ a vs, v = .ref a ∧ FzL [] μ n H a vs ∧ RDs K μ n H l vs
  | .scr l, v => ∃ a vs, v = .ref a ∧ FzL K μ n H a vs ∧ RDs K μ n H l vs
  | .dic ks l, v => ∃ (a : Addr) (kvs : List (Key × V)), v = .ref a ∧ Fz μ n H a (.dK kvs) ∧ kvs.map (·.1) = ks ∧ RDs K μ n H l (kvs.map (·.2))
  | .loc p, v => p < n ∧ v = .ref (μ p)
def RDs (K : PySem.W.Frag) (μ : Mu) (n : Nat) (H : Hp) : List D → List V → Prop
  | [], vs => vs = []
  | d :: ds, vs => ∃ v r, vs = v :: r ∧ RD K μ n H d v ∧ RDs K μ n H ds r
end
def RO (K : PySem.W.Frag) (μ : Mu) (n : Nat) (H : Hp) (a : Addr) : O → Prop
  | .lst l => ∃ vs, H a = some (.lst vs) ∧ RDs K μ n H l vs
  | .dic l => ∃ kvs : List (Key × V), H a = some (.dK kvs) ∧ kvs.map (·.1) = l.map (·.1) ∧ RDs K μ n H (l.map (·.2)) (kvs.map (·.2))
structure HR (K : PySem.W.Frag) (μ : Mu) (h : Heap) (H : Hp) : Prop where
  sn : ∀ a, μ.s a → H a ≠ none
  sp : ∀ a, μ.s a → ∀ p, p < h.length → μ p ≠ a
  inj : ∀ p q, p < h.length → q < h.length → μ p = μ q → p = q
  ob : ∀ p o, h[p]? = some o → RO K μ h.length H (μ p) o
structure Post (K : PySem.W.Frag) (μ : Mu) (h : Heap) (H : Hp) (μ' : Mu) (h' : Heap) (H' : Hp) : Prop where
  len : h.length ≤ h'.length
  sd1 : ∀ a, μ.s a → μ'.s a
  sd2 : ∀ a, μ'.s a → μ.s a ∨ H a = none
  ext : ∀ p, p < h.length → μ' p = μ p
  hr : HR K μ' h' H'
  fresh : ∀ p, h.length ≤ p → p < h'.length → H (μ' p) = none
  keep : ∀ b o, H b = some o → (∀ p, p < h.length → μ p ≠ b) → H' b = some o

section
variable {K : PySem.W.Frag} {μ μ' μ1 μ2 : Mu} {h h' h1 h2 : Heap} {H H' H1 H2 : Hp} {n : Nat}
theorem HR.at (r : HR K μ h H) {p : Nat} (hp : p < h.length) : ∃ u, H (μ p) = some u ∧ Chg u := by
  have e : h[p]? = some h[p] := List.getElem?_eq_getElem hp
  have q := r.ob p _ e
  cases c : h[p] with
  | lst l =>
    rw [c] at q
    obtain ⟨vs, e, _⟩ := q
    exact ⟨_, e, trivial⟩
  | dic l =>
    rw [c] at q
    obtain ⟨vs, e, _⟩ := q
    exact ⟨_, e, trivial⟩
theorem HR.ne_tup (r : HR K μ h H) {a : Addr} {xs : List V} (e : H a = some (.tup xs)) : ∀ p, p < h.length → μ p ≠ a := fun p hp z => by
  obtain ⟨u, e2, c⟩ := r.at hp
  rw [z, e] at e2
  cases e2
  exact c
theorem HR.ne_frz (r : HR K μ h H) {a : Addr} {o : Obj} {u : HO} (e : H a = some (.frz o u)) : ∀ p, p < h.length → μ p ≠ a := fun p hp z => by
  obtain ⟨u, e2, c⟩ := r.at hp
  rw [z, e] at e2
  cases e2
  exact c
theorem HR.ne_none (r : HR K μ h H) {a : Addr} (e : H a = none) : ∀ p, p < h.length → μ p ≠ a := fun p hp z => by
  obtain ⟨u, e2, c⟩ := r.at hp
  rw [z, e] at e2
  cases e2
theorem Post.rdT (P : Post K μ h H μ' h' H') (r : HR K μ h H) {a : Addr} {xs : List V} (q : SqT K H a xs) : SqT K H' a xs := by
  rcases q with (q | ⟨o, q⟩) | q
  · exact .inl (.inl (P.keep a _ q (r.ne_tup q)))
  · exact .inl (.inr ⟨o, P.keep a _ q (r.ne_frz q)⟩)
  · exact .inr q
theorem Post.fzu (P : Post K μ h H μ' h' H') (r : HR K μ h H) {a : Addr} {u : HO} (q : Fz μ h.length H a u) : Fz μ' h'.length H' a u := by
  obtain ⟨q, ne, ns⟩ := q
  have q' : Rd H' a u := by
    rcases q with q | ⟨o, q⟩
    · exact .inl (P.keep a _ q ne)
    · exact .inr ⟨o, P.keep a _ q (r.ne_frz q)⟩
  have ta : H a ≠ none := by
    rcases q with q | ⟨o, q⟩ <;> rw [q] <;> exact fun z => nomatch z
  refine ⟨q', fun p hp => ?_, fun z => (P.sd2 a z).elim ns ta⟩
  by_cases hl : p < h.length
  · rw [P.ext p hl]
    exact ne p hl
  · intro z
    have f := P.fresh p (by omega) hp
    rw [z] at f
    rcases q with q | ⟨o, q⟩ <;> rw [q] at f <;> cases f
theorem Post.fz (P : Post K μ h H μ' h' H') (r : HR K μ h H) {L : PySem.W.Frag} {a : Addr} {xs : List V} (q : FzL L μ h.length H a xs) : FzL L μ' h'.length H' a xs := q.imp fun _ _ => P.fzu r
mutual
-- the general step: what is kept of tuples, frozen lists, places (below m)
theorem RD.gen {n' m : Nat} (ht : ∀ a xs, SqT K H a xs → SqT K H' a xs) (hf : ∀ a u, Fz μ n H a u → Fz μ' n' H' a u) (hl : ∀ p, p < n → p < m → p < n' ∧ μ' p = μ p) :
    ∀ (d : D) (v : V), cl m d = true → RD K μ n H d v → RD K μ' n' H' d v
  | .non, _, _, q => q
  | .bl _, _, _, q => q
  | .int _, _, _, q => q
  | .str _, _, _, q => q
  | .tup l, v, c, q => by
    simp only [RD, cl] at q c ⊢
    obtain ⟨a, vs, e, s, t⟩ := q
    exact ⟨a, vs, e, ht _ _ s, RDs.gen ht hf hl l vs c t⟩
  | .lst l, v, c, q => by
    simp only [RD, cl] at q c ⊢
    obtain ⟨a, vs, e, s, t⟩ := q
    exact ⟨a, vs, e, s.imp hf, RDs.gen ht hf hl l vs c t⟩
  | .scr l, v, c, q => by
    simp only [RD, cl] at q c ⊢
    obtain ⟨a, vs, e, s, t⟩ := q
    exact ⟨a, vs, e, s.imp hf, RDs.gen ht hf hl l vs c t⟩
  | .dic ks l, v, c, q => by
    simp only [RD, cl] at q c ⊢
    obtain ⟨a, kvs, e, s, ek, t⟩ := q
    exact ⟨a, kvs, e, hf _ _ s, ek, RDs.gen ht hf hl l _ c t⟩
  | .loc p, v, c, q => by
    simp only [RD, cl, decide_eq_true_eq] at q c ⊢
    obtain ⟨h1, h2⟩ := hl p q.1 c
    exact ⟨h1, by rw [h2]; exact q.2⟩
theorem RDs.gen {n' m : Nat} (ht : ∀ a xs, SqT K H a xs → SqT K H' a xs) (hf : ∀ a u, Fz μ n H a u → Fz μ' n' H' a u) (hl : ∀ p, p < n → p < m → p < n' ∧ μ' p = μ p) :
    ∀ (ds : List D) (vs : List V), clL m ds = true → RDs K μ n H ds vs → RDs K μ' n' H' ds vs
  | [], _, _, q => q
  | d :: ds, vs, c, q => by
    simp only [RDs, clL, Bool.and_eq_true] at q c ⊢
    obtain ⟨v, r', e, q1, q2⟩ := q
    exact ⟨v, r', e, RD.gen ht hf hl d v c.1 q1, RDs.gen ht hf hl ds r' c.2 q2⟩
end
mutual
theorem RD.cl : ∀ (d : D) (v : V), RD K μ n H d v → cl n d = true
  | .non, _, _ => rfl
  | .bl _, _, _ => rfl
  | .int _, _, _ => rfl
  | .str _, _, _ => rfl
  | .tup l, v, q => by
    simp only [RD, MP.cl] at q ⊢
    obtain ⟨a, vs, e, s, t⟩ := q
    exact RDs.cl l vs t
  | .lst l, v, q => by
    simp only [RD, MP.cl] at q ⊢
    obtain ⟨a, vs, e, s, t⟩ := q
    exact RDs.cl l vs t
  | .scr l, v, q => by
    simp only [RD, MP.cl] at q ⊢
    obtain ⟨a, vs, e, s, t⟩ := q
    exact RDs.cl l vs t
  | .dic ks l, v, q => by
    simp only [RD, MP.cl] at q ⊢
    obtain ⟨a, kvs, e, s, ek, t⟩ := q
    exact RDs.cl l _ t
  | .loc p, v, q => by
    simp only [RD, MP.cl, decide_eq_true_eq] at q ⊢
    exact q.1
theorem RDs.cl : ∀ (ds : List D) (vs : List V), RDs K μ n H ds vs → clL n ds = true
  | [], _, _ => rfl
  | d :: ds, vs, q => by
    simp only [RDs, clL, Bool.and_eq_true] at q ⊢
    obtain ⟨v, r', e, q1, q2⟩ := q
    exact ⟨RD.cl d v q1, RDs.cl ds r' q2⟩
end
theorem Post.rl (P : Post K μ h H μ' h' H') : ∀ p, p < h.length → p < h.length → p < h'.length ∧ μ' p = μ p := fun p hp _ => ⟨Nat.lt_of_lt_of_le hp P.len, P.ext p hp⟩
theorem RD.mono (P : Post K μ h H μ' h' H') (r : HR K μ h H) (d : D) (v : V) (q : RD K μ h.length H d v) : RD K μ' h'.length H' d v :=
  RD.gen (fun _ _ => P.rdT r) (fun _ _ => P.fzu r) P.rl d v (RD.cl d v q) q
theorem RDs.mono (P : Post K μ h H μ' h' H') (r : HR K μ h H) (ds : List D) (vs : List V) (q : RDs K μ h.length H ds vs) : RDs K μ' h'.length H' ds vs :=
  RDs.gen (fun _ _ => P.rdT r) (fun _ _ => P.fzu r) P.rl ds vs (RDs.cl ds vs q) q
theorem Post.refl (r : HR K μ h H) : Post K μ h H μ h H :=
  ⟨Nat.le_refl _, fun _ z => z, fun _ z => .inl z, fun _ _ => rfl, r, fun p h1 h2 => absurd h2 (by omega), fun _ _ e _ => e⟩
-- what was nowhere stays so in what was before
theorem Post.none_back (P : Post K μ h H μ1 h1 H1) {a : Addr} (e : H1 a = none) : H a = none := by
  cases q : H a with
  | none => rfl
  | some o =>
    by_cases hx : ∃ p, p < h.length ∧ μ p = a
    · obtain ⟨p, hp, rfl⟩ := hx
      obtain ⟨xs, e2, _⟩ := P.hr.at (Nat.lt_of_lt_of_le hp P.len)
      rw [P.ext p hp, e] at e2
      cases e2
    · have := P.keep a o q fun p hp z => hx ⟨p, hp, z⟩
      rw [e] at this
      cases this
theorem Post.trans (P : Post K μ h H μ1 h1 H1) (P2 : Post K μ1 h1 H1 μ2 h2 H2) : Post K μ h H μ2 h2 H2 := by
  refine ⟨Nat.le_trans P.len P2.len, fun a z => P2.sd1 a (P.sd1 a z), fun a z => (P2.sd2 a z).elim (P.sd2 a) fun e => .inr (P.none_back e), fun p hp => ?_, P2.hr, fun p h3 h4 => ?_, fun b o e ne => ?_⟩
  · rw [P2.ext p (Nat.lt_of_lt_of_le hp P.len), P.ext p hp]
  · by_cases hl : p < h1.length
    · rw [P2.ext p hl]
      exact P.fresh p h3 hl
    · exact P.none_back (P2.fresh p (by omega) h4)
  · refine P2.keep b o (P.keep b o e ne) fun p hp z => ?_
    by_cases hl : p < h.length
    · rw [P.ext p hl] at z
      exact ne p hl z
    · have f := P.fresh p (by omega) hp
      rw [z, e] at f
      cases f
-- a new object of the model, told by no place
theorem Post.new (r : HR K μ h H) {p : Addr} {o : HO} (e : H p = none) : Post K μ h H μ h (upd H p o) := by
  have k : ∀ b u, H b = some u → upd H p o b = some u := fun b u q => by rw [upd_ne (ne_of_none q e)]; exact q
  have P : ∀ r', Post K μ h H μ h (upd H p o) := fun r' => ⟨Nat.le_refl _, fun _ z => z, fun _ z => .inl z, fun _ _ => rfl, r', fun p h1 h2 => absurd h2 (by omega), fun b u q _ => k b u q⟩
  have tupk : ∀ a xs, SqT K H a xs → SqT K (upd H p o) a xs := fun a xs q => by
    rcases q with (q | ⟨o, q⟩) | q
    · exact .inl (.inl (k _ _ q))
    · exact .inl (.inr ⟨o, k _ _ q⟩)
    · exact .inr q
  have fzk : ∀ a u, Fz μ h.length H a u → Fz μ h.length (upd H p o) a u := fun a u q => by
    rcases q with ⟨q | ⟨o, q⟩, ne⟩
    · exact ⟨.inl (k _ _ q), ne⟩
    · exact ⟨.inr ⟨o, k _ _ q⟩, ne⟩
  have mono : ∀ l vs, RDs K μ h.length H l vs → RDs K μ h.length (upd H p o) l vs := fun l vs q =>
    RDs.gen tupk fzk (fun p hp _ => ⟨hp, rfl⟩) l vs (RDs.cl l vs q) q
  refine P ⟨fun a sa => (by
    have := r.sn a sa
    cases q : H a with
    | none => exact absurd q this
    | some u => rw [k _ _ q]; exact fun z => nomatch z), r.sp, r.inj, fun q o' eq => ?_⟩
  have := r.ob q o' eq
  cases o' with
  | lst l =>
    obtain ⟨vs, e1, e2⟩ := this
    exact ⟨vs, k _ _ e1, mono l vs e2⟩
  | dic l =>
    obtain ⟨vs, e1, ek, e2⟩ := this
    exact ⟨vs, k _ _ e1, ek, mono _ _ e2⟩
-- an address that may change is written
theorem RD.updS {D0 : Addr} {vs ws : List V} (sD : μ.s D0) (e : H D0 = some (.lst vs)) : (∀ (d : D) (v : V), RD K μ n H d v → RD K μ n (upd H D0 (.lst ws)) d v) ∧ ∀ (ds : List D) (us : List V), RDs K μ n H ds us → RDs K μ n (upd H D0 (.lst ws)) ds us := by
  have tupk : ∀ a xs, SqT K H a xs → SqT K (upd H D0 (.lst ws)) a xs := fun a xs q => by
    rcases q with (q | ⟨o, q⟩) | q
    · refine .inl (.inl ?_)
      rw [upd_ne]
      · exact q
      · intro z
        rw [z, e] at q
        cases q
    · refine .inl (.inr ⟨o, ?_⟩)
      rw [upd_ne]
      · exact q
      · intro z
        rw [z, e] at q
        cases q
    · exact .inr q
  have fzk : ∀ a u, Fz μ n H a u → Fz μ n (upd H D0 (.lst ws)) a u := fun a u q => by
    obtain ⟨q, ne, ns⟩ := q
    have na : a ≠ D0 := fun z => ns (z ▸ sD)
    refine ⟨?_, ne, ns⟩
    rcases q with q | ⟨o, q⟩
    · exact .inl (by rw [upd_ne na]; exact q)
    · exact .inr ⟨o, by rw [upd_ne na]; exact q⟩
  exact ⟨fun d v q => RD.gen tupk fzk (fun p hp _ => ⟨hp, rfl⟩) d v (RD.cl d v q) q, fun ds us q => RDs.gen tupk fzk (fun p hp _ => ⟨hp, rfl⟩) ds us (RDs.cl ds us q) q⟩
theorem HR.updS (r : HR K μ h H) {D0 : Addr} {vs ws : List V} (sD : μ.s D0) (e : H D0 = some (.lst vs)) : HR K μ h (upd H D0 (.lst ws)) := by
  refine ⟨fun a sa => ?_, r.sp, r.inj, fun p o q => ?_⟩
  · by_cases ha : a = D0
    · rw [ha, upd_same]; exact fun z => nomatch z
    · rw [upd_ne ha]; exact r.sn a sa
  · have hp : p < h.length := by
      rcases Nat.lt_or_ge p h.length with z | z
      · exact z
      · rw [List.getElem?_eq_none z] at q; cases q
    have := r.ob p o q
    cases o with
    | lst l =>
      obtain ⟨us, e1, e2⟩ := this
      exact ⟨us, by rw [upd_ne (r.sp _ sD p hp)]; exact e1, (RD.updS sD e).2 _ _ e2⟩
    | dic l =>
      obtain ⟨us, e1, ek, e2⟩ := this
      exact ⟨us, by rw [upd_ne (r.sp _ sD p hp)]; exact e1, ek, (RD.updS sD e).2 _ _ e2⟩
-- without what stands at a
def del (H : Hp) (a : Addr) : Hp := fun b => if b = a then none else H b
theorem del_same (H : Hp) (a : Addr) : del H a a = none := if_pos rfl
theorem del_ne {H : Hp} {a b : Addr} (h : b ≠ a) : del H a b = H b := if_neg h
theorem del_some {H : Hp} {a b : Addr} {o : HO} (h : del H a b = some o) : b ≠ a ∧ H b = some o := by
  by_cases e : b = a
  · rw [e, del_same] at h; cases h
  · rw [del_ne e] at h; exact ⟨e, h⟩
theorem del_upd {H : Hp} {a : Addr} {o : HO} (h : H a = none) : del (upd H a o) a = H := by
  funext b
  by_cases e : b = a
  · rw [e, del_same, h]
  · rw [del_ne e, upd_ne e]
theorem upd_del {H : Hp} {a : Addr} {o : HO} (h : H a = some o) : upd (del H a) a o = H := by
  funext b
  by_cases e : b = a
  · rw [e, upd_same, h]
  · rw [upd_ne e, del_ne e]
-- without a, where nothing holds a
theorem Post.del (P : Post K μ h H μ' h' H') {a : Addr} (r : HR K μ' h' (del H' a)) (e : H a = none) : Post K μ h H μ' h' (del H' a) :=
  ⟨P.len, P.sd1, P.sd2, P.ext, r, P.fresh, fun b o q ne => by rw [del_ne (ne_of_none q e)]; exact P.keep b o q ne⟩
-- an address that may change is held by nothing
theorem RD.delS {D0 : Addr} {vs : List V} (sD : μ.s D0) (e : H D0 = some (.lst vs)) {μ0 : Mu} (hf : ∀ p, p < n → μ0 p = μ p) (hs : ∀ a, μ0.s a → μ.s a) : (∀ (d : D) (v : V), RD K μ n H d v → RD K μ0 n (MP.del H D0) d v) ∧ ∀ (ds : List D) (us : List V), RDs K μ n H ds us → RDs K μ0 n (MP.del H D0) ds us := by
  have k : ∀ {b : Addr} {u : HO}, H b = some u → (∀ zs, u ≠ .lst zs) → b ≠ D0 := fun {b u} q k z => by
    rw [z, e] at q
    cases q
    exact k _ rfl
  have tupk : ∀ a xs, SqT K H a xs → SqT K (MP.del H D0) a xs := fun a xs q => by
    rcases q with (q | ⟨o, q⟩) | q
    · exact .inl (.inl (by rw [del_ne (k q fun _ z => nomatch z)]; exact q))
    · exact .inl (.inr ⟨o, by rw [del_ne (k q fun _ z => nomatch z)]; exact q⟩)
    · exact .inr q
  have fzk : ∀ a u, Fz μ n H a u → Fz μ0 n (MP.del H D0) a u := fun a u q => by
    obtain ⟨q, ne, ns⟩ := q
    have na : a ≠ D0 := fun z => ns (z ▸ sD)
    refine ⟨?_, fun p hp => by rw [hf p hp]; exact ne p hp, fun z => ns (hs a z)⟩
    rcases q with q | ⟨o, q⟩
    · exact .inl (by rw [del_ne na]; exact q)
    · exact .inr ⟨o, by rw [del_ne na]; exact q⟩
  exact ⟨fun d v q => RD.gen tupk fzk (fun p hp _ => ⟨hp, hf p hp⟩) d v (RD.cl d v q) q, fun ds us q => RDs.gen tupk fzk (fun p hp _ => ⟨hp, hf p hp⟩) ds us (RDs.cl ds us q) q⟩
theorem HR.delS (r : HR K μ h H) {D0 : Addr} {vs : List V} (sD : μ.s D0) (e : H D0 = some (.lst vs)) {μ0 : Mu} (hf : ∀ p, p < h.length → μ0 p = μ p) (hs : ∀ a, μ0.s a → μ.s a) (hn : ¬ μ0.s D0) : HR K μ0 h (MP.del H D0) := by
  refine ⟨fun a sa => ?_, fun a sa p hp => by rw [hf p hp]; exact r.sp a (hs a sa) p hp, fun p q hp hq e => r.inj p q hp hq (by rw [← hf p hp, ← hf q hq]; exact e), fun p ob q => ?_⟩
  · have na : a ≠ D0 := fun z => hn (z ▸ sa)
    rw [del_ne na]
    exact r.sn a (hs a sa)
  have hp : p < h.length := by
    rcases Nat.lt_or_ge p h.length with z | z
    · exact z
    · rw [List.getElem?_eq_none z] at q; cases q
  have := r.ob p ob q
  rw [hf p hp]
  cases ob with
  | lst l =>
    obtain ⟨us, e1, e2⟩ := this
    exact ⟨us, by rw [del_ne (r.sp _ sD p hp)]; exact e1, (RD.delS sD e hf hs).2 _ _ e2⟩
  | dic l =>
    obtain ⟨us, e1, ek, e2⟩ := this
    exact ⟨us, by rw [del_ne (r.sp _ sD p hp)]; exact e1, ek, (RD.delS sD e hf hs).2 _ _ e2⟩
-- a new place
def Mu.put (μ : Mu) (n : Nat) (a : Addr) : Mu := ⟨fun p => if p = n then a else μ.f p, μ.s⟩
theorem Mu.put_same (μ : Mu) (n : Nat) (a : Addr) : (μ.put n a) n = a := if_pos rfl
theorem Mu.put_ne (μ : Mu) {n p : Nat} (a : Addr) (hp : p ≠ n) : (μ.put n a) p = μ p := if_neg hp
theorem RD.put {a : Addr} {o : HO} (e : H a = none) : (∀ (d : D) (v : V), RD K μ n H d v → RD K (μ.put n a) (n + 1) (upd H a o) d v) ∧ ∀ (ds : List D) (us : List V), RDs K μ n H ds us → RDs K (μ.put n a) (n + 1) (upd H a o) ds us := by
  have k : ∀ {b : Addr} {u : HO}, H b = some u → b ≠ a := fun {b u} q => ne_of_none q e
  have tupk : ∀ b xs, SqT K H b xs → SqT K (upd H a o) b xs := fun b xs q => by
    rcases q with (q | ⟨u, q⟩) | q
    · exact .inl (.inl (by rw [upd_ne (k q)]; exact q))
    · exact .inl (.inr ⟨u, by rw [upd_ne (k q)]; exact q⟩)
    · exact .inr q
  have fzk : ∀ b u, Fz μ n H b u → Fz (μ.put n a) (n + 1) (upd H a o) b u := fun b u q => by
    obtain ⟨q, ne, ns⟩ := q
    have na : b ≠ a := by
      rcases q with q | ⟨u, q⟩
      · exact k q
      · exact k q
    refine ⟨?_, fun p hp => ?_, ns⟩
    · rcases q with q | ⟨u, q⟩
      · exact .inl (by rw [upd_ne na]; exact q)
      · exact .inr ⟨u, by rw [upd_ne na]; exact q⟩
    · by_cases hq : p = n
      · rw [hq, Mu.put_same]; exact Ne.symm na
      · rw [Mu.put_ne _ _ hq]; exact ne p (by omega)
  have pl : ∀ p, p < n → p < n → p < n + 1 ∧ (μ.put n a) p = μ p := fun p hp _ => ⟨by omega, Mu.put_ne _ _ (by omega)⟩
  exact ⟨fun d v q => RD.gen tupk fzk pl d v (RD.cl d v q) q, fun ds us q => RDs.gen tupk fzk pl ds us (RDs.cl ds us q) q⟩
theorem Post.putO (r : HR K μ h H) {a : Addr} {o : O} {u : HO} (e : H a = none) (t : RO K (μ.put h.length a) (h.length + 1) (upd H a u) a o) : Post K μ h H (μ.put h.length a) (h ++ [o]) (upd H a u) := by
  have hl : (h ++ [o]).length = h.length + 1 := by simp
  have np : ∀ p, p < h.length → μ p ≠ a := r.ne_none e
  have na : ∀ b, μ.s b → b ≠ a := fun b sb z => r.sn b sb (by rw [z]; exact e)
  refine ⟨by omega, fun _ z => z, fun _ z => .inl z, fun p hp => Mu.put_ne _ _ (by omega), ⟨fun b sb => ?_, fun b sb p hp => ?_, fun p q hp hq ee => ?_, fun p ob q => ?_⟩, fun p h1 h2 => ?_, fun b o q _ => by rw [upd_ne (ne_of_none q e)]; exact q⟩
  · rw [upd_ne (na b sb)]
    exact r.sn b sb
  · by_cases hq : p = h.length
    · rw [hq, Mu.put_same]; exact Ne.symm (na b sb)
    · rw [Mu.put_ne _ _ hq]; exact r.sp b sb p (by omega)
  · by_cases hp' : p = h.length
    · by_cases hq' : q = h.length
      · rw [hp', hq']
      · rw [hp', Mu.put_same, Mu.put_ne _ _ hq'] at ee
        exact absurd ee.symm (np q (by omega))
    · by_cases hq' : q = h.length
      · rw [hq', Mu.put_same, Mu.put_ne _ _ hp'] at ee
        exact absurd ee (np p (by omega))
      · rw [Mu.put_ne _ _ hp', Mu.put_ne _ _ hq'] at ee
        exact r.inj p q (by omega) (by omega) ee
  · rw [hl]
    by_cases hp' : p = h.length
    · subst hp'
      rw [List.getElem?_append_right (Nat.le_refl _)] at q
      simp only [Nat.sub_self, List.getElem?_cons_zero, Option.some.injEq] at q
      subst q
      rw [Mu.put_same]
      exact t
    · rw [Mu.put_ne _ _ hp']
      have hlt : p < h.length := by
        rcases Nat.lt_or_ge p h.length with z | z
        · exact z
        · rw [List.getElem?_eq_none (by rw [hl]; omega)] at q; cases q
      rw [List.getElem?_append_left hlt] at q
      have := r.ob p ob q
      cases ob with
      | lst m =>
        obtain ⟨us, e1, e2⟩ := this
        exact ⟨us, by rw [upd_ne (np p hlt)]; exact e1, (RD.put e).2 _ _ e2⟩
      | dic m =>
        obtain ⟨us, e1, ek, e2⟩ := this
        exact ⟨us, by rw [upd_ne (np p hlt)]; exact e1, ek, (RD.put e).2 _ _ e2⟩
  · have : p = h.length := by omega
    rw [this, Mu.put_same]
    exact e
theorem Post.put (r : HR K μ h H) {a : Addr} {l : List D} {vs : List V} (e : H a = none) (t : RDs K μ h.length H l vs) : Post K μ h H (μ.put h.length a) (h ++ [.lst l]) (upd H a (.lst vs)) :=
  Post.putO r e ⟨vs, upd_same, (RD.put e).2 _ _ t⟩
theorem Post.putD (r : HR K μ h H) {a : Addr} {l : List (Sum Int Str × D)} {kvs : List (Key × V)} (e : H a = none) (ek : kvs.map (·.1) = l.map (·.1)) (t : RDs K μ h.length H (l.map (·.2)) (kvs.map (·.2))) : Post K μ h H (μ.put h.length a) (h ++ [.dic l]) (upd H a (.dK kvs)) :=
  Post.putO r e ⟨kvs, upd_same, ek, (RD.put e).2 _ _ t⟩
def Mu.add (μ : Mu) (D0 : Addr) : Mu := ⟨μ.f, fun a => μ.s a ∨ a = D0⟩
-- a new address is made one that may change
theorem RD.addS {D0 : Addr} {o : HO} (e : H D0 = none) : (∀ (d : D) (v : V), RD K μ n H d v → RD K (μ.add D0) n (upd H D0 o) d v) ∧ ∀ (ds : List D) (us : List V), RDs K μ n H ds us → RDs K (μ.add D0) n (upd H D0 o) ds us := by
  have k : ∀ b u, H b = some u → b ≠ D0 := fun b u q z => by rw [z, e] at q; cases q
  have tupk : ∀ a xs, SqT K H a xs → SqT K (upd H D0 o) a xs := fun a xs q => by
    rcases q with (q | ⟨o, q⟩) | q
    · exact .inl (.inl (by rw [upd_ne (k _ _ q)]; exact q))
    · exact .inl (.inr ⟨o, by rw [upd_ne (k _ _ q)]; exact q⟩)
    · exact .inr q
  have fzk : ∀ a u, Fz μ n H a u → Fz (μ.add D0) n (upd H D0 o) a u := fun a u q => by
    obtain ⟨q, ne, ns⟩ := q
    have na : a ≠ D0 := by
      rcases q with q | ⟨o, q⟩
      · exact k _ _ q
      · exact k _ _ q
    refine ⟨?_, ne, fun z => z.elim ns na⟩
    rcases q with q | ⟨o, q⟩
    · exact .inl (by rw [upd_ne na]; exact q)
    · exact .inr ⟨o, by rw [upd_ne na]; exact q⟩
  exact ⟨fun d v q => RD.gen tupk fzk (fun p hp _ => ⟨hp, rfl⟩) d v (RD.cl d v q) q, fun ds us q => RDs.gen tupk fzk (fun p hp _ => ⟨hp, rfl⟩) ds us (RDs.cl ds us q) q⟩
theorem HR.addS (r : HR K μ h H) {D0 : Addr} {o : HO} (e : H D0 = none) : HR K (μ.add D0) h (upd H D0 o) := by
  have np : ∀ p, p < h.length → μ p ≠ D0 := r.ne_none e
  refine ⟨fun a sa => ?_, fun a sa p hp => ?_, r.inj, fun p ob q => ?_⟩
  · by_cases ha : a = D0
    · rw [ha, upd_same]; exact fun z => nomatch z
    · rw [upd_ne ha]; exact r.sn a (sa.resolve_right ha)
  · rcases sa with sa | sa
    · exact r.sp a sa p hp
    · rw [sa]; exact np p hp
  · have hp : p < h.length := by
      rcases Nat.lt_or_ge p h.length with z | z
      · exact z
      · rw [List.getElem?_eq_none z] at q; cases q
    have := r.ob p ob q
    cases ob with
    | lst l =>
      obtain ⟨us, e1, e2⟩ := this
      exact ⟨us, by rw [show (μ.add D0) p = μ p from rfl, upd_ne (np p hp)]; exact e1, (RD.addS e).2 _ _ e2⟩
    | dic l =>
      obtain ⟨us, e1, ek, e2⟩ := this
      exact ⟨us, by rw [show (μ.add D0) p = μ p from rfl, upd_ne (np p hp)]; exact e1, ek, (RD.addS e).2 _ _ e2⟩
-- fewer addresses that may change
theorem RD.less {μ0 : Mu} (hf : ∀ p, p < n → μ0 p = μ p) (hs : ∀ a, μ0.s a → μ.s a) : (∀ (d : D) (v : V), RD K μ n H d v → RD K μ0 n H d v) ∧ ∀ (ds : List D) (us : List V), RDs K μ n H ds us → RDs K μ0 n H ds us := by
  have fzk : ∀ a u, Fz μ n H a u → Fz μ0 n H a u := fun a u ⟨q, ne, ns⟩ => ⟨q, fun p hp => by rw [hf p hp]; exact ne p hp, fun z => ns (hs a z)⟩
  exact ⟨fun d v q => RD.gen (fun _ _ z => z) fzk (fun p hp _ => ⟨hp, hf p hp⟩) d v (RD.cl d v q) q, fun ds us q => RDs.gen (fun _ _ z => z) fzk (fun p hp _ => ⟨hp, hf p hp⟩) ds us (RDs.cl ds us q) q⟩
theorem HR.less (r : HR K μ h H) {μ0 : Mu} (hf : ∀ p, p < h.length → μ0 p = μ p) (hs : ∀ a, μ0.s a → μ.s a) : HR K μ0 h H := by
  refine ⟨fun a sa => r.sn a (hs a sa), fun a sa p hp => by rw [hf p hp]; exact r.sp a (hs a sa) p hp, fun p q hp hq e => r.inj p q hp hq (by rw [← hf p hp, ← hf q hq]; exact e), fun p ob q => ?_⟩
  have hp : p < h.length := by
    rcases Nat.lt_or_ge p h.length with z | z
    · exact z
    · rw [List.getElem?_eq_none z] at q; cases q
  have := r.ob p ob q
  rw [hf p hp]
  cases ob with
  | lst l =>
    obtain ⟨us, e1, e2⟩ := this
    exact ⟨us, e1, (RD.less hf hs).2 _ _ e2⟩
  | dic l =>
    obtain ⟨us, e1, ek, e2⟩ := this
    exact ⟨us, e1, ek, (RD.less hf hs).2 _ _ e2⟩
-- a new address D0 that may change: from its making on
theorem Post.startS (r : HR K μ h H) {D0 : Addr} {o : HO} (e : H D0 = none) : Post K μ h H (μ.add D0) h (upd H D0 o) :=
  ⟨Nat.le_refl _, fun _ z => .inl z, fun a z => z.elim .inl fun q => .inr (by rw [q]; exact e), fun _ _ => rfl, r.addS e, fun p h1 h2 => absurd h2 (by omega), fun b u q _ => by rw [upd_ne (ne_of_none q e)]; exact q⟩
-- it is written
theorem Post.updS (P : Post K μ h H μ' h' H') {D0 : Addr} (e1 : H D0 = none) (sD : μ'.s D0) {vs ws : List V} (e : H' D0 = some (.lst vs)) : Post K μ h H μ' h' (upd H' D0 (.lst ws)) :=
  ⟨P.len, P.sd1, P.sd2, P.ext, P.hr.updS sD e, P.fresh, fun b o q ne => by rw [upd_ne (ne_of_none q e1)]; exact P.keep b o q ne⟩
-- it is left
theorem Post.endS (P : Post K μ h H μ' h' H') : Post K μ h H ⟨μ'.f, μ.s⟩ h' H' :=
  ⟨P.len, fun _ z => z, fun _ z => .inl z, P.ext, P.hr.less (μ0 := ⟨μ'.f, μ.s⟩) (fun _ _ => rfl) P.sd1, P.fresh, P.keep⟩
end
end MP

/-! MP.Read: the evaluator's results as readings. -/
namespace MP
open PySem PySem.Spec PyProof.Rows L2

abbrev Rel (α β : Type) := (Mu) → Heap → Hp → Hp → α → β → Prop
-- an exception: its class by its name, its fields
def RX (K : PySem.W.Frag) (μ : Mu) (n : Nat) (H : Hp) (x : Ex) (c : Value) (d : Option Addr) : Prop :=
  ∃ C, PySem.W.nsIn K mainGlobals x.cls = some (some (.ref C)) ∧ c = .ref C ∧
    (x.fs = [] ∨ ∃ dx vfs, d = some dx ∧ H dx = some (.xd vfs) ∧ ∀ f dv, (f, dv) ∈ x.fs → ∃ v, vfs.lookup f = some v ∧ RD K μ n H dv v)
def RR (K : PySem.W.Frag) : Rel R V := fun μ hp H0 H r v => match r with
  | .v d => RD K μ hp.length H d v
  | .newL l => ∃ a vs, v = .ref a ∧ H a = some (.lst vs) ∧ HR K μ hp (del H a) ∧ H0 a = none ∧ RDs K μ hp.length (del H a) l vs
  | .newD l => ∃ (a : Addr) (kvs : List (Key × V)), v = .ref a ∧ H a = some (.dK kvs) ∧ HR K μ hp (del H a) ∧ H0 a = none ∧ kvs.map (·.1) = l.map (·.1) ∧ RDs K μ hp.length (del H a) (l.map (·.2)) (kvs.map (·.2))
def RA (K : PySem.W.Frag) : Rel (List D) (List V) := fun μ hp _ H ds vs => RDs K μ hp.length H ds vs
def RB : Rel Bool Bool := fun _ _ _ _ a b => a = b
def ER (K : PySem.W.Frag) (μ : Mu) (n : Nat) (H : Hp) (g : Env) (σ : L2.St) : Prop :=
  g.length = σ.length ∧ ∀ (i : Nat) (d : D), g[i]? = some (some d) → ∃ v : V, σ[i]? = some (some v) ∧ RD K μ n H d v

def Fin {α β : Type} (K : PySem.W.Frag) (W : XK) (ρ : Rel α β) (μ : Mu) (h : Heap) (H : Hp) : Res α → (β → Hp → Prop) → Prop
  | some (.ok a h'), Q => ∀ b H' μ', Post K μ h H μ' h' H' → ρ μ' h' H H' a b → Q b H'
  | some (.exc x h'), _ => ∀ c d H' μ', Post K μ h H μ' h' H' → RX K μ' h'.length H' x c d → W c d H'
  | none, _ => False
def Back {α β : Type} (K : PySem.W.Frag) (ρ : Rel α β) : Prop := ∀ {μ μ1 μ2 : Mu} {h h1 h2 : Heap} {H H1 H2 : Hp} {a : α} {b : β}, Post K μ h H μ1 h1 H1 → ρ μ2 h2 H1 H2 a b → ρ μ2 h2 H H2 a b

section
variable {α β γ δ : Type} {K : PySem.W.Frag} {W : XK} {ρ : Rel α β} {ρ' : Rel γ δ} {μ μ' μ1 μ2 : Mu} {h h' h1 h2 : Heap} {H H' H1 H2 : Hp} {n : Nat}
theorem back_RR : Back K (RR K) := fun {μ μ1 μ2 h h1 h2 H H1 H2 r v} P q => by
  cases r with
  | v d => exact q
  | newL l =>
    obtain ⟨a, vs, e, e1, hr, e0, t⟩ := q
    exact ⟨a, vs, e, e1, hr, P.none_back e0, t⟩
  | newD l =>
    obtain ⟨a, vs, e, e1, hr, e0, t⟩ := q
    exact ⟨a, vs, e, e1, hr, P.none_back e0, t⟩
theorem RR.mk {H0 : Hp} {p : Addr} {l : List D} {vs : List V} (r : HR K μ h H) (hp : H p = none) (h0 : H0 p = none) (t : RDs K μ h.length H l vs) : RR K μ h H0 (upd H p (.lst vs)) (.newL l) (.ref p) :=
  ⟨p, vs, rfl, upd_same, by rw [del_upd hp]; exact r, h0, by rw [del_upd hp]; exact t⟩
theorem RR.mkD {H0 : Hp} {p : Addr} {l : List (Sum Int Str × D)} {kvs : List (Key × V)} (r : HR K μ h H) (hp : H p = none) (h0 : H0 p = none) (ek : kvs.map (·.1) = l.map (·.1)) (t : RDs K μ h.length H (l.map (·.2)) (kvs.map (·.2))) : RR K μ h H0 (upd H p (.dK kvs)) (.newD l) (.ref p) :=
  ⟨p, kvs, rfl, upd_same, by rw [del_upd hp]; exact r, h0, ek, by rw [del_upd hp]; exact t⟩
theorem back_RA : Back K (RA K) := fun _ q => q
theorem back_RB : Back K RB := fun _ q => q
theorem RR.frz {H0 : Hp} {r : R} {v : V} (q : RR K μ h H0 H r v) : RD K μ h.length H r.frz v := by
  cases r with
  | v d => exact q
  | newL l =>
    obtain ⟨a, vs, e, e1, hr, e0, t⟩ := q
    have Pn := Post.new (o := .lst vs) hr (del_same H a)
    have t2 := RDs.mono Pn hr _ _ t
    rw [upd_del e1] at t2
    simp only [R.frz_newL, RD]
    exact ⟨a, vs, e, .inr ⟨.inl e1, hr.ne_none (del_same H a), fun z => hr.sn a z (del_same H a)⟩, t2⟩
  | newD l =>
    obtain ⟨a, kvs, e, e1, hr, e0, ek, t⟩ := q
    have Pn := Post.new (o := .dK kvs) hr (del_same H a)
    have t2 := RDs.mono Pn hr _ _ t
    rw [upd_del e1] at t2
    simp only [R.frz_newD, RD]
    exact ⟨a, kvs, e, ⟨.inl e1, hr.ne_none (del_same H a), fun z => hr.sn a z (del_same H a)⟩, ek, t2⟩
theorem ER.mono {g : Env} {σ : L2.St} (P : Post K μ h H μ' h' H') (r : HR K μ h H) (q : ER K μ h.length H g σ) : ER K μ' h'.length H' g σ :=
  ⟨q.1, fun i d e => by
    obtain ⟨v, e1, e2⟩ := q.2 i d e
    exact ⟨v, e1, RD.mono P r d v e2⟩⟩
theorem ER.set {g : Env} {σ : L2.St} (q : ER K μ n H g σ) {i : Nat} {d : D} {v : V} (rd : RD K μ n H d v) : ER K μ n H (g.set i (some d)) (σ.set i (some v)) := by
  refine ⟨by simp [q.1], fun j d' e => ?_⟩
  by_cases hj : i = j
  · subst hj
    rw [List.getElem?_set] at e
    simp only [if_true] at e
    split at e
    · rename_i hl
      cases e
      refine ⟨v, ?_, rd⟩
      rw [List.getElem?_set]
      simp [← q.1, hl]
    · cases e
  · rw [List.getElem?_set_ne hj] at e
    obtain ⟨w, e1, e2⟩ := q.2 j d' e
    exact ⟨w, by rw [List.getElem?_set_ne hj]; exact e1, e2⟩
theorem ER.wipe {g : Env} {σ : L2.St} (q : ER K μ n H g σ) : ∀ ws : List Nat, ER K μ n H (wipes g ws) (wipe σ ws)
  | [] => q
  | w :: ws => by
    have ih := ER.wipe q ws
    refine ⟨by simp [wipes, L2.wipe, ih.1], fun j d e => ?_⟩
    simp only [wipes, L2.wipe] at e ⊢
    by_cases hj : w = j
    · subst hj
      rw [List.getElem?_set] at e
      simp only [if_true] at e
      split at e <;> cases e
    · rw [List.getElem?_set_ne hj] at e
      obtain ⟨w', e1, e2⟩ := ih.2 j d e
      exact ⟨w', by rw [List.getElem?_set_ne hj]; exact e1, e2⟩
theorem Fin.from {res : Res α} {Q : β → Hp → Prop} (F : Fin K W ρ μ h H res Q) (P : Post K μ h H μ1 h1 H1) (bk : Back K ρ) : Fin K W ρ μ1 h1 H1 res Q := by
  cases res with
  | none => exact F
  | some o =>
    cases o with
    | ok a h2 => exact fun b H2 μ2 P2 q => F b H2 μ2 (P.trans P2) (bk P q)
    | exc x h2 => exact fun c d H2 μ2 P2 q => F c d H2 μ2 (P.trans P2) q
theorem Fin.bind {m : Res α} {k : α → Heap → Res γ} {Q : δ → Hp → Prop} {Q1 : β → Hp → Prop} (F : Fin K W ρ' μ h H (bd m k) Q)
    (hk : ∀ a h1 b H1 μ1, Post K μ h H μ1 h1 H1 → ρ μ1 h1 H H1 a b → Fin K W ρ' μ h H (k a h1) Q → Q1 b H1) : Fin K W ρ μ h H m Q1 := by
  cases m with
  | none => exact F
  | some o =>
    cases o with
    | ok a h2 => exact fun b H2 μ2 P2 q => hk a h2 b H2 μ2 P2 q F
    | exc x h2 => exact F
theorem Fin.ok {a : α} {Q : β → Hp → Prop} (F : Fin K W ρ μ h H (some (.ok a h)) Q) (r : HR K μ h H) {b : β} (q : ρ μ h H H a b) : Q b H := F b H μ (Post.refl r) q
theorem Fin.imp {res : Res α} {Q Q' : β → Hp → Prop} (F : Fin K W ρ μ h H res Q) (i : ∀ b H', Q b H' → Q' b H') : Fin K W ρ μ h H res Q' := by
  cases res with
  | none => exact F
  | some o =>
    cases o with
    | ok a h2 => exact fun b H2 μ2 P2 q => i _ _ (F b H2 μ2 P2 q)
    | exc x h2 => exact F
theorem Fin.okP {a : α} {Q : β → Hp → Prop} (F : Fin K W ρ μ h H (some (.ok a h')) Q) (P : Post K μ h H μ' h' H') {b : β} (q : ρ μ' h' H H' a b) : Q b H' := F b H' μ' P q
end

-- a reading by the evaluator
def rd {α β : Type} (K : PySem.W.Frag) (W : XK) (ρ : Rel α β) (m : Env → Heap → Res α) : L2.St → Hp → (β → Hp → Prop) → Prop := fun σ H Q =>
  ∃ μ g h, HR K μ h H ∧ ER K μ h.length H g σ ∧ Fin K W ρ μ h H (m g h) Q
abbrev rE (K : PySem.W.Frag) (W : XK) (m : Env → Heap → Res R) : TE := rd K W (RR K) m
abbrev rA (K : PySem.W.Frag) (W : XK) (m : Env → Heap → Res (List D)) : TA := rd K W (RA K) m
abbrev rT (K : PySem.W.Frag) (W : XK) (m : Env → Heap → Res Bool) : TT := rd K W RB m

section
variable {α β γ δ : Type} {K : PySem.W.Frag} {W : XK} {ρ : Rel α β} {ρ' : Rel γ δ} {σ : L2.St} {H : Hp}
-- first m, then what follows
theorem rd_bind {m : Env → Heap → Res α} {k : Env → α → Heap → Res γ} {Q : δ → Hp → Prop} {Q1 : β → Hp → Prop} (q : rd K W ρ' (fun g h => bd (m g h) (k g)) σ H Q) (bk : Back K ρ')
    (hk : ∀ μ1 g h1 H1 a b H0, HR K μ1 h1 H1 → ER K μ1 h1.length H1 g σ → ρ μ1 h1 H0 H1 a b → Fin K W ρ' μ1 h1 H1 (k g a h1) Q → Q1 b H1) : rd K W ρ m σ H Q1 := by
  obtain ⟨μ, g, h, r, er, F⟩ := q
  exact ⟨μ, g, h, r, er, F.bind fun a h1 b H1 μ1 P q F1 => hk μ1 g h1 H1 a b H P.hr (er.mono P r) q (F1.from P bk)⟩
end

-- an operator of two values
def r2 (K : PySem.W.Frag) (W : XK) (f : D → D → Heap → Res R) : R2 := fun x y H Q => ∃ μ h d1 d2, HR K μ h H ∧ RD K μ h.length H d1 x ∧ RD K μ h.length H d2 y ∧ Fin K W (RR K) μ h H (f d1 d2 h) Q
def r1 (K : PySem.W.Frag) (W : XK) (f : D → Heap → Res R) : V → Hp → VK → Prop := fun x H Q => ∃ μ h d1, HR K μ h H ∧ RD K μ h.length H d1 x ∧ Fin K W (RR K) μ h H (f d1 h) Q
def rL (K : PySem.W.Frag) (W : XK) (f : List D → Heap → Res R) : List V → Hp → VK → Prop := fun xs H Q => ∃ μ h ds, HR K μ h H ∧ RDs K μ h.length H ds xs ∧ Fin K W (RR K) μ h H (f ds h) Q
section
variable {K : PySem.W.Frag} {W : XK} {σ : L2.St} {H : Hp} {Q : VK} {ma mb mc : Env → Heap → Res R}
theorem rd_two {f : D → D → Heap → Res R} (q : rE K W (fun g h => bd (ma g h) fun x h => bd (mb g h) fun y h => f x.frz y.frz h) σ H Q) : tOp (r2 K W f) (rE K W ma) (rE K W mb) σ H Q := by
  refine rd_bind (ρ := RR K) q back_RR fun μ1 g h1 H1 r1 v1 H0 hr er q1 F => ?_
  refine ⟨μ1, g, h1, hr, er, F.bind fun r2 h2 v2 H2 μ2 P q2 F2 => ?_⟩
  exact ⟨μ2, h2, _, _, P.hr, RD.mono P hr _ _ q1.frz, q2.frz, F2.from P back_RR⟩
theorem rd_one {f : D → Heap → Res R} (q : rE K W (fun g h => bd (ma g h) fun x h => f x.frz h) σ H Q) : tUn (r1 K W f) (rE K W ma) σ H Q := by
  refine rd_bind (ρ := RR K) q back_RR fun μ1 g h1 H1 r1 v1 H0 hr er q1 F => ?_
  exact ⟨μ1, h1, _, hr, q1.frz, F⟩
theorem rd_args {ms : Env → Heap → Res (List D)} {f : List D → Heap → Res R} (q : rE K W (fun g h => bd (ms g h) fun ds h => f ds h) σ H Q) : tCB (rL K W f) (rA K W ms) σ H Q := by
  refine rd_bind (ρ := RA K) q back_RR fun μ1 g h1 H1 r1 v1 H0 hr er q1 F => ?_
  exact ⟨μ1, h1, _, hr, q1, F⟩
end

section
variable {X : Cx}
theorem PE_imp {e : Expr} {t t' : TE} (p : PE X e t) (i : ∀ σ H Q, t' σ H Q → t σ H Q) : PE X e t' := ⟨fun pins s σ H Q I q => p.run pins s σ H Q I (i σ H Q q)⟩
theorem PT_imp {e : Expr} {t t' : TT} (p : PT X e t) (i : ∀ σ H Q, t' σ H Q → t σ H Q) : PT X e t' := ⟨fun pins s σ H Q I q => p.run pins s σ H Q I (i σ H Q q)⟩
theorem PA_imp {e : List Expr} {t t' : TA} (p : PA X e t) (i : ∀ σ H Q, t' σ H Q → t σ H Q) : PA X e t' := ⟨fun pos pins s σ H Q I q => p.run pos pins s σ H Q I (i σ H Q q)⟩
theorem PS_imp {e : Stmt} {t t' : TS} (p : PS X e t) (i : ∀ D σ H, t' D σ H → t D σ H) : PS X e t' := ⟨fun pins s σ H D I q => p.run pins s σ H D I (i D σ H q)⟩
theorem PSs_imp {e : List Stmt} {t t' : TS} (p : PSs X e t) (i : ∀ D σ H, t' D σ H → t D σ H) : PSs X e t' := ⟨fun pins s σ H D I q => p.run pins s σ H D I (i D σ H q)⟩
theorem OpR_imp {f : Value → Value → Sem Value} {r r' : R2} (p : OpR X f r) (i : ∀ x y H Q, r' x y H Q → r x y H Q) : OpR X f r' := fun pins s σ H x y v u Q I rx ry q => p pins s σ H x y v u Q I rx ry (i x y H Q q)
theorem UnR_imp {f : Value → Sem Value} {r r' : V → Hp → VK → Prop} (p : UnR X f r) (i : ∀ x H Q, r' x H Q → r x H Q) : UnR X f r' := fun pins s σ H x v Q I rx q => p pins s σ H x v Q I rx (i x H Q q)
theorem CallR_imp {f : Value} {r r' : List V → Hp → VK → Prop} (p : CallR X f r) (i : ∀ xs H Q, r' xs H Q → r xs H Q) : CallR X f r' := fun pins s σ H vs us Q I rx q => p pins s σ H vs us Q I rx (i vs H Q q)
theorem IxR_imp {r r' : R2} (p : IxR X r) (i : ∀ x y H Q, r' x y H Q → r x y H Q) : IxR X r' := fun va sl pins s σ H x y v u Q I rx ry q hs => p va sl pins s σ H x y v u Q I rx ry (i x y H Q q) hs
theorem MtR_imp {id : String} {r r' : V → List V → Hp → VK → Prop} (p : MtR X id r) (i : ∀ x xs H Q, r' x xs H Q → r x xs H Q) : MtR X id r' := fun pins s σ H x xs v us Q I rx ry q => p pins s σ H x xs v us Q I rx ry (i x xs H Q q)
theorem SlR_imp {r r' : V → Option Int → Option Int → Hp → VK → Prop} (p : L2.SlR X r) (i : ∀ x lo hi H Q, r' x lo hi H Q → r x lo hi H Q) : L2.SlR X r' := by
  intro pins s σ H x v vl vu lo hi sl Q I rx hs pl pu q
  exact p pins s σ H x v vl vu lo hi sl Q I rx hs pl pu (i x lo hi H Q q)
end
end MP

/-! MP.Chk: is a text of the model this text of MP? -/
namespace MP
open PySem PySem.Spec PyProof.Rows L2

structure PInfo where
  names : List Str
  globs : List (Str × D)

def visB (sc : Scope) (x : Str) : Bool := match sc.names.lookup x with
  | some .local => true
  | some .cell => true
  | some .free => true
  | _ => false
def locB (sc : Scope) (x : Str) : Bool := match sc.names.lookup x with
  | some .local => true
  | some .cell => true
  | _ => false
def gloB (sc : Scope) (x : Str) : Bool := decide (sc.names.lookup x = some .globalImplicit) && !(x == ("__debug__" : Str)) && !decide (x = ("__name__" : Str))
theorem visB_ok {sc : Scope} {x : Str} (h : visB sc x = true) : Vis sc x := by
  unfold visB at h
  unfold Vis
  cases e : sc.names.lookup x with
  | none => rw [e] at h; cases h
  | some k => rw [e] at h; cases k <;> first | exact .inl rfl | exact .inr (.inl rfl) | exact .inr (.inr rfl) | cases h
theorem locB_ok {sc : Scope} {x : Str} (h : locB sc x = true) : L2.Loc sc x := by
  unfold locB at h
  unfold L2.Loc
  cases e : sc.names.lookup x with
  | none => rw [e] at h; cases h
  | some k => rw [e] at h; cases k <;> first | exact .inl rfl | exact .inr rfl | cases h

def bopB : BOp → Operator → Bool
  | .add, .Add => true
  | .sub, .Sub => true
  | .mul, .Mult => true
  | .fdiv, .FloorDiv => true
  | .mod, .Mod => true
  | .pow, .Pow => true
  | _, _ => false
def copB : COp → CmpOp → Bool
  | .eq, .Eq => true
  | .ne, .NotEq => true
  | .lt, .Lt => true
  | .le, .LtE => true
  | .gt, .Gt => true
  | .ge, .GtE => true
  | .isN, .Is => true
  | .notN, .IsNot => true
  | .mem, .In => true
  | .nmem, .NotIn => true
  | _, _ => false
def constB : D → Const → Bool
  | .non, .none => true
  | .bl b, .bool c => b == c
  | .int i, .int j => decide (i = j)
  | .str x, .str y => decide (x = y)
  | _, _ => false
def b1N : B1 → Str
  | .len => "len"
  | .abs => "abs"
  | .int => "int"
def b2N : B2 → Str
  | .min => "min"
  | .max => "max"
def tyN : Ty → String
  | .int => "int"
  | .bool => "bool"
  | .tuple => "tuple"
  | .list => "list"
  | .str => "str"
def biN : BI → Str
  | .tuple => "tuple"
  | .list => "list"
  | .sum => "sum"
  | .all => "all"
  | .any => "any"
  | .sorted => "sorted"
def meN : M → Str
  | .append => "append"
  | .pop => "pop"

def tupI : I → Bool
  | .enum _ => true
  | .zip _ _ => true
  | _ => false
def isTupE : Expr → Bool
  | .Tuple _ _ _ => true
  | _ => false
def biOk : BI → I → Bool
  | .tuple, .of _ => true
  | .tuple, .range1 _ => true
  | .tuple, .range2 _ _ => true
  | .list, .of _ => true
  | .list, .range1 _ => true
  | .list, .range2 _ _ => true
  | .sum, .of _ => true
  | .all, .of _ => true
  | .any, .of _ => true
  | .sorted, .of _ => true
  | _, _ => false
mutual
def chkT (ck : Bool) (N : List Str) (sc : Scope) : Tg → Expr → Bool
  | .slot i, x => match x with
    | .Name n _ => decide (N[i]? = some n) && (decide (sc.names.lookup n = some .local) || (ck && decide (sc.names.lookup n = some .cell)))
    | _ => false
  | .tup ts, x => match x with
    | .Tuple es _ _ => chkTs ck N sc ts es
    | _ => false
def chkTs (ck : Bool) (N : List Str) (sc : Scope) : List Tg → List Expr → Bool
  | [], es => match es with
    | [] => true
    | _ => false
  | t :: ts, es => match es with
    | [] => false
    | e :: es => chkT ck N sc t e && chkTs ck N sc ts es
end
-- a block's scope within a scope
def relS (scope sc : Scope) : Scope := { scope with names := scope.names.map fun (n, k) => if k == .free && sc.kind == .function && sc.names.lookup n == some .cell then (n, .cell) else (n, k) }

-- e as a test, where its truth is its value's
def plainT : Expr → Bool
  | .UnaryOp .Not _ _ => false
  | .BoolOp _ _ _ => false
  | .IfExp _ _ _ _ => false
  | .Compare _ _ _ _ => false
  | _ => true
section
variable (P : PInfo) (N : List Str)
mutual
def chk (sc : Scope) : E → Expr → Bool
  | .var i, x => match x with
    | .Name n _ => decide (N[i]? = some n) && (visB sc n && (!(n == ("__debug__" : Str)) && !(n == ("__classdict__" : Str))))
    | _ => false
  | .c d, x => match x with
    | .Constant k _ _ => constB d k
    | _ => false
  | .glob k, x => match x with
    | .Name n _ => decide ((P.globs[k]?).map Prod.fst = some n) && gloB sc n
    | _ => false
  | .bin op a b, x => match x with
    | .BinOp a' o b' _ => bopB op o && (chk sc a a' && chk sc b b')
    | _ => false
  | .neg a, x => match x with
    | .UnaryOp .USub a' _ => chk sc a a'
    | _ => false
  | .not a, x => match x with
    | .UnaryOp .Not a' _ => chk sc a a'
    | _ => false
  | .cmp op a b, x => match x with
    | .Compare a' [o] [b'] _ => copB op o && (chk sc a a' && chk sc b b')
    | _ => false
  | .cmp2 o1 o2 a b c, x => match x with
    | .Compare a' [p1, p2] [b', c'] _ => (copB o1 p1 && copB o2 p2) && (chk sc a a' && (chk sc b b' && chk sc c c'))
    | _ => false
  | .and a b, x => match x with
    | .BoolOp .And (a' :: r) pos => chk sc a a' && (match r with
      | [] => false
      | [b'] => chk sc b b'
      | b' :: c' :: r' => chk sc b (.BoolOp .And (b' :: c' :: r') pos))
    | _ => false
  | .or a b, x => match x with
    | .BoolOp .Or (a' :: r) pos => chk sc a a' && (match r with
      | [] => false
      | [b'] => chk sc b b'
      | b' :: c' :: r' => chk sc b (.BoolOp .Or (b' :: c' :: r') pos))
    | _ => false
  | .ite c a b, x => match x with
    | .IfExp c' a' b' _ => chk sc c c' && (chk sc a a' && chk sc b b')
    | _ => false
  | .tup es, x => match x with
    | .Tuple es' _ _ => chks sc es es'
    | _ => false
  | .lst es, x => match x with
    | .List es' _ => chks sc es es'
    | _ => false
  | .ix a b, x => match x with
    | .Subscript a' b' _ => chk sc a a' && chk sc b b'
    | _ => false
  | .slice a bl bh lo hi, x => match x with
    | .Subscript a' (.Slice lo' hi' none _) _ => chk sc a a' && ((match lo' with
      | none => !bl
      | some y => bl && chk sc lo y) && (match hi' with
      | none => !bh
      | some y => bh && chk sc hi y))
    | _ => false
  | .call f es, x => match x with
    | .Call (.Name n _) (e' :: es') [] _ => decide (P.names[f]? = some n) && (gloB sc n && chks sc es (e' :: es'))
    | _ => false
  | .b1 f a, x => match x with
    | .Call (.Name n _) [a'] [] _ => decide (n = b1N f) && (gloB sc n && chk sc a a')
    | _ => false
  | .b2 f a b, x => match x with
    | .Call (.Name n _) [a', b'] [] _ => decide (n = b2N f) && (gloB sc n && (chk sc a a' && chk sc b b'))
    | _ => false
  | .isinst a t, x => match x with
    | .Call (.Name n _) [a', .Name m _] [] _ => decide (n = ("isinstance" : Str)) && (gloB sc n && (decide (m = Str.ofString (tyN t)) && (gloB sc m && chk sc a a')))
    | _ => false
  | .bi f i, x => match x with
    | .Call (.Name n _) [a'] [] _ => decide (n = biN f) && (biOk f i && (gloB sc n && chkI sc i a'))
    | _ => false
  | .lc elt tg it cond ws, x => match x with
    | .ListComp elt' [⟨tg', it', ifs', 0⟩] scope _ => blkC N sc scope (ws.map fun i => (N.getD i ⟨#[]⟩, i)) && (chkI sc it it' && (chkT false N (relS scope sc) tg tg' && (chks (relS scope sc) cond ifs' && (chk (relS scope sc) elt elt' && (decide (cond.length ≤ 1) && ((slots tg).all (ws.contains ·) && (!tupI it || isTupE tg')))))))
    | _ => false
  | .meth m o es, x => match x with
    | .Call (.Attribute o' n p) es' [] q => decide (n = meN m) && ((p.endLine == q.line) && (decide (es'.length < 29) && (chk sc o o' && chks sc es es')))
    | _ => false
  | .alloc e, x => plainT x && chk sc e x
  | .dct, x => match x with
    | .Dict [] [] _ => true
    | _ => false
  | .srtD a, x => match x with
    | .Call (.Name n _) [a'] [] _ => decide (n = ("sorted" : Str)) && (gloB sc n && chk sc a a')
    | _ => false
def chks (sc : Scope) : List E → List Expr → Bool
  | [], xs => match xs with
    | [] => true
    | _ => false
  | e :: es, xs => match xs with
    | [] => false
    | x :: xs => chk sc e x && chks sc es xs
def chkI (sc : Scope) : I → Expr → Bool
  | .of e, x => chk sc e x
  | .range1 a, x => match x with
    | .Call (.Name n _) [a'] [] _ => decide (n = ("range" : Str)) && (gloB sc n && chk sc a a')
    | _ => false
  | .range2 a b, x => match x with
    | .Call (.Name n _) [a', b'] [] _ => decide (n = ("range" : Str)) && (gloB sc n && (chk sc a a' && chk sc b b'))
    | _ => false
  | .enum a, x => match x with
    | .Call (.Name n _) [a'] [] _ => decide (n = ("enumerate" : Str)) && (gloB sc n && chk sc a a')
    | _ => false
  | .zip a b, x => match x with
    | .Call (.Name n _) [a', b'] [] _ => decide (n = ("zip" : Str)) && (gloB sc n && (chk sc a a' && chk sc b b'))
    | _ => false
end
end

-- [..] for a name, made in place
def swB (sc : Scope) (e t : Expr) : Bool := match e, t with
  | .ListComp _ _ s p, .Name y py => (decide (sc.names.lookup y = some .local) && (py.line == p.line)) && !(s.names.any fun (n, k) => n == y && (k == .local || k == .cell))
  | _, _ => false
def noComp : Expr → Bool
  | .ListComp _ _ _ _ => false
  | .SetComp _ _ _ _ => false
  | .DictComp _ _ _ _ _ => false
  | _ => true
def isLc : Expr → Bool
  | .ListComp _ _ _ _ => true
  | _ => false
-- the plain names among targets
def nmS (sc : Scope) (ts : List Expr) : List Str := ts.filterMap fun
  | .Name id pos => if sc.names.lookup id == some .local && pos.line == (ts.head?.map (·.pos.line)).getD 0 then some id else none
  | _ => none
-- a, b = x, y: surely not stored from the right
def swN (sc : Scope) (t e : Expr) : Bool := match t, e with
  | .Tuple ts _ _, .Tuple vs _ _ => ((!(ts.length == 2 || ts.length == 3) || vs.length != ts.length) || (nmS sc ts).length != ts.length) || vs.all (foldedForSure 8)
  | .List _ _, _ => false
  | _, _ => true
-- a, b = x, y: surely stored from the right
def swY (sc : Scope) (ts vs : List Expr) : Option (List Str) := if (ts.length == 2 || ts.length == 3) && (vs.length == ts.length) && (nmS sc ts).length == ts.length && (nmS sc ts).eraseDups.length == (nmS sc ts).length && !vs.all (foldedForSure 8) && !vs.all (constantsAlone 8) then some (nmS sc ts) else none
section
variable (P : PInfo) (N : List Str)
mutual
def chkS (sc : Scope) : St → Stmt → Bool
  | .asg tg e, x => match x with
    | .Assign [t] e' _ => chkT true N sc tg t && (chk P N sc e e' && ((noComp e' || isLc e') && swN sc t e'))
    | _ => false
  | .par is es, x => match is, x with
    | [i, j], .Assign [.Tuple [.Name a p, .Name b q] kt pt] (.Tuple [u, v] k2 p2) _ => (decide (N[i]? = some a) && (decide (N[j]? = some b) && (decide (i ≠ j) && (decide (sc.names.lookup a = some .local) && decide (sc.names.lookup b = some .local))))) &&
      (chks P N sc es [u, v] && decide (swY sc [.Name a p, .Name b q] [u, v] = some [a, b]))
    | [i, j, l], .Assign [.Tuple [.Name a p, .Name b q, .Name c r] kt pt] (.Tuple [u, v, w] k2 p2) _ => (decide (N[i]? = some a) && (decide (N[j]? = some b) && (decide (N[l]? = some c) && ((decide (i ≠ j) && (decide (i ≠ l) && decide (j ≠ l))) && (decide (sc.names.lookup a = some .local) && (decide (sc.names.lookup b = some .local) && decide (sc.names.lookup c = some .local))))))) &&
      (chks P N sc es [u, v, w] && decide (swY sc [.Name a p, .Name b q, .Name c r] [u, v, w] = some [a, b, c]))
    | _, _ => false
  | .aug i op e, x => match x with
    | .AugAssign (.Name n _) o e' _ => decide (N[i]? = some n) && (locB sc n && (chk P N sc e e' && (bopB op o && (op == .add || op == .sub))))
    | _ => false
  | .setix o k e, x => match x with
    | .Assign [.Subscript o' k' _] e' _ => chk P N sc o o' && (chk P N sc k k' && (chk P N sc e e' && (noComp e' || isLc e')))
    | _ => false
  | .expr e, x => match x with
    | .Expr e' _ => chk P N sc e e' && noComp e'
    | _ => false
  | .ret e, x => match x with
    | .Return (some e') _ => chk P N sc e e'
    | _ => false
  | .ret0, x => match x with
    | .Return none _ => true
    | _ => false
  | .if_ c a b, x => match x with
    | .If c' a' b' _ => chk P N sc c c' && (chkSs sc a a' && chkSs sc b b')
    | _ => false
  | .for_ tg it body, x => match x with
    | .For tg' it' body' [] _ => chkT true N sc tg tg' && (chkI P N sc it it' && (chkSs sc body body' && (!tupI it || isTupE tg')))
    | _ => false
  | .while_ c body, x => match x with
    | .While c' body' [] _ => chk P N sc c c' && chkSs sc body body'
    | _ => false
  | .pass, x => match x with
    | .Pass _ => true
    | .Expr (.Constant (.str _) _ _) _ => true
    | _ => false
  | .brk, x => match x with
    | .Break _ => true
    | _ => false
  | .cont, x => match x with
    | .Continue _ => true
    | _ => false
  | .never, _ => true
def chkSs (sc : Scope) : List St → List Stmt → Bool
  | [], xs => match xs with
    | [] => true
    | _ => false
  | e :: es, xs => match xs with
    | [] => false
    | x :: xs => chkS sc e x && chkSs sc es xs
end
end

-- the promise of a def
def spI (K : PySem.W.Frag) (np : Nat) (f : List D → Heap → Res R) : Sp := fun vs H Q E => vs.length = np ∧ ∃ μ h ds, HR K μ h H ∧ RDs K μ h.length H ds vs ∧ Fin K E (RR K) μ h H (f ds h) Q

def blts : List Str := ["len", "abs", "int", "min", "max", "isinstance", "bool", "tuple", "list", "str", "sum", "all", "any", "sorted", "range", "enumerate", "zip"]
-- a plain value of the module
def RG : D → V → Prop
  | .non, v => v = .non
  | .bl b, v => v = .bl b
  | .int i, v => v = .int i
  | .str x, v => v = .str x
  | _, _ => False
structure Good (P : PInfo) (Φ : Nat → List D → Heap → Res R) (G : Nat → Option D) (k : Nat) (X : Cx) (W : XK) : Prop where
  nd : X.N.Nodup
  calm : X.calm = true
  room : Room k X.A
  tk : Takes X (fun c d _ H => W c d H)
  blt : ∀ x ∈ blts, X.mg x = none
  glob : ∀ i x d, P.globs[i]? = some (x, d) → G i = some d ∧ ∃ v u, X.mg x = some u ∧ RelV v u ∧ RG d v
  fns : ∀ f x, P.names[f]? = some x → ∃ a fd ps, X.mg x = some (.ref a) ∧ PySem.W.keepIn X.K (.ref a) = true ∧ Binds X.K fd ps [] ∧ FnOk X.prog X.w X.K X.mg X.base (L2.CX X.prog X.w) k a fd ps (spI X.K ps.length (Φ f)) ∧ ∀ ds h, Φ f ds h ≠ none → ds.length = ps.length
theorem RG.rd {d : D} {v : V} (q : RG d v) (K : PySem.W.Frag) (μ : Mu) (n : Nat) (H : Hp) : RD K μ n H d v := by
  cases d <;> first | exact q | exact q.elim
end MP

set_option maxHeartbeats 4000000
/-! MP.Snd1: the evaluator is right: shapes, names, operators. -/
namespace MP
open PySem PySem.Spec PyProof.Rows L2

def shape : Expr → Bool
  | .Starred _ _ => false
  | .Set _ _ _ => false
  | .Slice _ _ _ _ => false
  | _ => true
section
variable {P : PInfo} {N : List Str} {sc : Scope}
theorem chk_star (y : Expr) (p : Pos) : ∀ e : E, chk P N sc e (.Starred y p) = false
  | .alloc e => by
    have := chk_star y p e
    simp only [chk, this, Bool.and_false]
  | .var _ | .c _ | .glob _ | .bin _ _ _ | .neg _ | .not _ | .cmp _ _ _ | .cmp2 _ _ _ _ _ | .and _ _ | .or _ _ | .ite _ _ _ | .tup _ | .lst _ | .ix _ _ | .slice _ _ _ _ _ | .call _ _ | .b1 _ _ | .b2 _ _ _ | .isinst _ _ | .bi _ _ | .lc _ _ _ _ _ | .meth _ _ _ | .dct | .srtD _ => by simp only [chk]
theorem chk_set (y : List Expr) (k : Nat) (p : Pos) : ∀ e : E, chk P N sc e (.Set y k p) = false
  | .alloc e => by
    have := chk_set y k p e
    simp only [chk, this, Bool.and_false]
  | .var _ | .c _ | .glob _ | .bin _ _ _ | .neg _ | .not _ | .cmp _ _ _ | .cmp2 _ _ _ _ _ | .and _ _ | .or _ _ | .ite _ _ _ | .tup _ | .lst _ | .ix _ _ | .slice _ _ _ _ _ | .call _ _ | .b1 _ _ | .b2 _ _ _ | .isinst _ _ | .bi _ _ | .lc _ _ _ _ _ | .meth _ _ _ | .dct | .srtD _ => by simp only [chk]
theorem chk_slice (a b c : Option Expr) (p : Pos) : ∀ e : E, chk P N sc e (.Slice a b c p) = false
  | .alloc e => by
    have := chk_slice a b c p e
    simp only [chk, this, Bool.and_false]
  | .var _ | .c _ | .glob _ | .bin _ _ _ | .neg _ | .not _ | .cmp _ _ _ | .cmp2 _ _ _ _ _ | .and _ _ | .or _ _ | .ite _ _ _ | .tup _ | .lst _ | .ix _ _ | .slice _ _ _ _ _ | .call _ _ | .b1 _ _ | .b2 _ _ _ | .isinst _ _ | .bi _ _ | .lc _ _ _ _ _ | .meth _ _ _ | .dct | .srtD _ => by simp only [chk]
theorem chk_shape {e : E} {x : Expr} (h : chk P N sc e x = true) : shape x = true := by
  cases x <;> first | rfl | (rw [chk_star] at h; cases h) | (rw [chk_set] at h; cases h) | (rw [chk_slice] at h; cases h)
end
theorem shape_star {x : Expr} (h : shape x = true) (es : List Expr) (env : PySem.Env) : starEach (x :: es) env = (false, PySem.eval x env) :: starEach es env := by
  cases x <;> first | rfl | cases h
theorem shape_ix {x : Expr} (h : shape x = true) : PlainIx x := fun o i => by
  cases x <;> first | rfl | cases h
theorem shape_iter {x : Expr} (h : shape x = true) (env : PySem.Env) (v : Value) : foldedSetIterable x env v = pure v := by
  cases x <;> first | rfl | cases h
theorem shape_marks {x : Expr} (h : shape x = true) (op : CmpOp) : behindInMarks op x = false := by
  cases x <;> first | rfl | cases h
theorem shapes_any : ∀ {es : List Expr} (pos : Pos) (env : PySem.Env), (∀ x ∈ es, shape x = true) → (backTo pos (starEach es env)).any (·.1) = false
  | [], _, _, _ => rfl
  | x :: es, pos, env, h => by
    rw [shape_star (h x (by simp))]
    show (false || (backTo pos (starEach es env)).any (·.1)) = false
    rw [shapes_any pos env fun y hy => h y (by simp [hy])]
    rfl
theorem chks_shape {P : PInfo} {N : List Str} {sc : Scope} : ∀ {es : List E} {xs : List Expr}, chks P N sc es xs = true → ∀ x ∈ xs, shape x = true
  | [], [], _ => by simp
  | [], _ :: _, h => by simp [chks] at h
  | _ :: _, [], h => by simp [chks] at h
  | e :: es, x :: xs, h => by
    simp only [chks, Bool.and_eq_true] at h
    intro y hy
    rcases List.mem_cons.mp hy with rfl | hy
    · exact chk_shape h.1
    · exact chks_shape h.2 y hy
theorem gloB_ok {X : Cx} {x : Str} (h : gloB X.env.scope x = true) : Gl X x ∧ (x == ("__debug__" : Str)) = false ∧ x ≠ "__name__" := by
  unfold gloB at h
  simp only [Bool.and_eq_true, decide_eq_true_eq, Bool.not_eq_true', decide_eq_false_iff_not] at h
  exact ⟨h.1.1, h.1.2, h.2⟩
theorem plainT_ok {e : Expr} (h : plainT e = true) (env : PySem.Env) (whole : Sem Value) : isTrue e env whole = (do let v ← whole; standAt e.pos; holding [v] (truthy v)) := by
  cases e with
  | UnaryOp o a p => cases o <;> first | rfl | cases h
  | BoolOp _ _ _ => cases h
  | IfExp _ _ _ _ => cases h
  | Compare _ _ _ _ => cases h
  | _ => rfl
theorem lim_line : (sizeLine : Nat) = lim := by rw [sizeLine_eq]

section
variable {K : PySem.W.Frag} {W : XK} {μ : Mu} {h : Heap} {H : Hp}
-- a sequence, read
theorem seq_of (r : HR K μ h H) {d : D} {v : V} {l : List D} (q : RD K μ h.length H d v) (e : seqOf h d = some l) :
    ∃ a vs, v = .ref a ∧ (SqL K H a vs ∨ SqT K H a vs) ∧ RDs K μ h.length H l vs := by
  cases d with
  | tup m =>
    simp only [seqOf, Option.some.injEq] at e
    subst e
    simp only [RD] at q
    obtain ⟨a, vs, rfl, s, t⟩ := q
    exact ⟨a, vs, rfl, .inr s, t⟩
  | lst m =>
    simp only [seqOf, Option.some.injEq] at e
    subst e
    simp only [RD] at q
    obtain ⟨a, vs, rfl, s, t⟩ := q
    exact ⟨a, vs, rfl, .inl s.sq, t⟩
  | scr m =>
    simp only [seqOf, Option.some.injEq] at e
    subst e
    simp only [RD] at q
    obtain ⟨a, vs, rfl, s, t⟩ := q
    exact ⟨a, vs, rfl, .inl s.sqk, t⟩
  | loc p =>
    simp only [seqOf] at e
    cases c : h[p]? with
    | none => rw [c] at e; cases e
    | some o =>
      rw [c] at e
      cases o with
      | dic _ => cases e
      | lst m =>
        simp only [Option.some.injEq] at e
        subst e
        obtain ⟨vs, e1, t⟩ := r.ob p _ c
        simp only [RD] at q
        exact ⟨μ p, vs, q.2, .inl (.inl (.inl e1)), t⟩
  | _ => cases e
theorem RDs.length : ∀ {l : List D} {vs : List V} {n : Nat}, RDs K μ n H l vs → vs.length = l.length
  | [], vs, _, q => by
    simp only [RDs] at q
    subst q
    rfl
  | d :: l, vs, _, q => by
    simp only [RDs] at q
    obtain ⟨v, r, rfl, _, t⟩ := q
    simp [RDs.length t]
theorem RDs.get : ∀ {l : List D} {vs : List V} {n : Nat}, RDs K μ n H l vs → ∀ (i : Nat) (d : D), l[i]? = some d → ∃ v, vs[i]? = some v ∧ RD K μ n H d v
  | [], vs, _, q, i, d, e => by simp at e
  | c :: l, vs, _, q, i, d, e => by
    simp only [RDs] at q
    obtain ⟨v, r, rfl, q1, t⟩ := q
    cases i with
    | zero =>
      simp only [List.getElem?_cons_zero, Option.some.injEq] at e
      subst e
      exact ⟨v, rfl, q1⟩
    | succ i =>
      simp only [List.getElem?_cons_succ] at e ⊢
      exact RDs.get t i d e
theorem RDs.isEmpty {l : List D} {vs : List V} {n : Nat} (q : RDs K μ n H l vs) : vs.isEmpty = l.isEmpty := by
  cases l with
  | nil =>
    simp only [RDs] at q
    subst q
    rfl
  | cons d l =>
    simp only [RDs] at q
    obtain ⟨v, r, rfl, _, _⟩ := q
    rfl
-- truth
theorem tru_of (r : HR K μ h H) {d : D} {v : V} {b : Bool} (q : RD K μ h.length H d v) (e : tru h d = some b) : TruV K v H b := by
  cases d with
  | non =>
    cases q
    cases e
    rfl
  | bl c =>
    cases q
    cases e
    rfl
  | int i =>
    cases q
    cases e
    show _ = (i != 0)
    by_cases hi : i = 0 <;> simp [hi]
  | str x =>
    cases q
    simp only [tru] at e
    split at e
    · rename_i hl
      cases e
      refine ⟨by rw [lim_line]; exact hl, ?_⟩
      by_cases hx : x.length = 0 <;> simp [hx]
    · cases e
  | tup l =>
    cases e
    simp only [RD] at q
    obtain ⟨a, vs, rfl, s, t⟩ := q
    exact .inr (.inl ⟨vs, s, by rw [t.isEmpty]⟩)
  | lst l =>
    cases e
    simp only [RD] at q
    obtain ⟨a, vs, rfl, s, t⟩ := q
    exact .inl ⟨vs, s.sq, by rw [t.isEmpty]⟩
  | scr l =>
    cases e
    simp only [RD] at q
    obtain ⟨a, vs, rfl, s, t⟩ := q
    exact .inl ⟨vs, s.sqk, by rw [t.isEmpty]⟩
  | dic ks l => cases e
  | loc p =>
    simp only [tru] at e
    cases c : h[p]? with
    | none => rw [c] at e; cases e
    | some o =>
      rw [c] at e
      cases o with
      | dic _ => cases e
      | lst m =>
        cases e
        obtain ⟨vs, e1, t⟩ := r.ob p _ c
        simp only [RD] at q
        rw [q.2]
        exact .inl ⟨vs, .inl (.inl e1), by rw [t.isEmpty]⟩
end

section
variable {X : Cx} {W : XK}
-- a value as a test
theorem pt_plain {e : Expr} {m : Env → Heap → Res R} (he : PE X e (rE X.K W m)) (hp : plainT e = true) : PT X e (rT X.K W (tst m)) := by
  refine PT_imp (pt_truth he fun whole => plainT_ok hp X.env whole) fun σ H Q q => ?_
  refine rd_bind (ρ := RR X.K) q back_RB fun μ1 g h1 H1 r v H0 hr er q1 F => ?_
  cases e1 : tru h1 r.frz with
  | none => rw [e1] at F; exact F.elim
  | some b =>
    rw [e1] at F
    exact ⟨b, tru_of hr q1.frz e1, Fin.ok F hr rfl⟩
end
end MP

/-! MP.Snd2: operators by values. -/
namespace MP
open PySem PySem.Spec PyProof.Rows L2

section
variable {X : Cx} {W : XK}
-- what int operators are
theorem bin_add {d1 d2 : D} {h : Heap} {ρ : Rel R V} {K : PySem.W.Frag} {μ : Mu} {H : Hp} {Q : VK} {x y : V} {n : Nat}
    (q1 : RD K μ n H d1 x) (q2 : RD K μ n H d2 y) (F : Fin K W ρ μ h H (bin .add d1 d2 h) Q) : (∃ i j, d1 = .int i ∧ d2 = .int j ∧ x = .int i ∧ y = .int j) ∨ (∃ l m, d1 = .tup l ∧ d2 = .tup m ∧ l.length + m.length ≤ lim) ∨
      (∃ l m, lstOf h d1 = some l ∧ lstOf h d2 = some m ∧ l.length + m.length ≤ lim ∧ bin .add d1 d2 h = some (.ok (.newL (l ++ m)) h)) := by
  have cat : ∀ (l : List D) (b : Res R), b = catL l (lstOf h d2) h → Fin K W ρ μ h H b Q → ∃ m, lstOf h d2 = some m ∧ l.length + m.length ≤ lim ∧ b = some (.ok (.newL (l ++ m)) h) := fun l b e F => by
    subst e
    unfold catL at F ⊢
    cases c : lstOf h d2 with
    | none => rw [c] at F; exact F.elim
    | some m =>
      rw [c] at F
      simp only at F
      split at F
      · rename_i hl
        exact ⟨m, rfl, hl, by simp only [hl, if_true]⟩
      · exact F.elim
  cases d1 with
  | int i =>
    cases d2 with
    | int j => exact .inl ⟨i, j, rfl, rfl, q1, q2⟩
    | _ => exact F.elim
  | tup l =>
    cases d2 with
    | tup m =>
      simp only [bin] at F
      split at F
      · rename_i hl
        exact .inr (.inl ⟨l, m, rfl, rfl, hl⟩)
      · exact F.elim
    | _ => exact F.elim
  | lst l =>
    obtain ⟨m, e1, e2, e3⟩ := cat l _ (by simp only [bin]) F
    exact .inr (.inr ⟨l, m, rfl, e1, e2, e3⟩)
  | loc p =>
    cases c : h[p]? with
    | none =>
      have e : bin .add (.loc p) d2 h = none := by simp only [bin, c]
      rw [e] at F
      exact F.elim
    | some o =>
      cases o with
      | dic l =>
        have e : bin .add (.loc p) d2 h = none := by simp only [bin, c]
        rw [e] at F
        exact F.elim
      | lst l =>
        obtain ⟨m, e1, e2, e3⟩ := cat l _ (by simp only [bin, c]) F
        exact .inr (.inr ⟨l, m, by simp only [lstOf, c], e1, e2, e3⟩)
  | _ => exact F.elim
-- lists of the program's own, read
theorem lst_of {K : PySem.W.Frag} {μ : Mu} {h : Heap} {H : Hp} (r : HR K μ h H) {d : D} {v : V} {l : List D} (q : RD K μ h.length H d v) (e : lstOf h d = some l) :
    ∃ a vs, v = .ref a ∧ Rd H a (.lst vs) ∧ RDs K μ h.length H l vs := by
  cases d with
  | lst m =>
    simp only [lstOf, Option.some.injEq] at e
    subst e
    simp only [RD] at q
    obtain ⟨a, vs, rfl, s, t⟩ := q
    exact ⟨a, vs, rfl, s.rd, t⟩
  | loc p =>
    simp only [lstOf] at e
    cases c : h[p]? with
    | none => rw [c] at e; cases e
    | some o =>
      rw [c] at e
      cases o with
      | dic _ => cases e
      | lst m =>
        simp only [Option.some.injEq] at e
        subst e
        obtain ⟨vs, e1, t⟩ := r.ob p _ c
        simp only [RD] at q
        exact ⟨μ p, vs, q.2, .inl e1, t⟩
  | _ => cases e
-- list + list, one of them known perhaps
def rCatR : R2 := fun x y H Q => ∃ l b xs zs, x = .ref l ∧ y = .ref b ∧ Rd H l (.lst xs) ∧ Rd H b (.lst zs) ∧ xs.length + zs.length ≤ sizeLine ∧ ∀ p, H p = none → Q (.ref p) (upd H p (.lst (xs ++ zs)))
theorem op_catR : OpR X (binaryOp .Add) rCatR := by
  intro pins s σ H x y v u Q I rx ry h
  obtain ⟨l, b, xs, zs, rfl, rfl, hH, hB, hz, q⟩ := h
  cases rx
  cases ry
  obtain ⟨z, its, n, r, e⟩ := hH.ok I.hok
  obtain ⟨z2, its2, n2, r2, e2⟩ := hB.ok I.hok
  refine PySem.P.add_list e e2 ?_ (by rw [List.size_toArray, List.size_toArray, ← r.length, ← r2.length]; omega)
  have ea : its.toArray ++ its2.toArray = (its ++ its2).toArray := by simp
  rw [ea]
  exact ⟨.ref _, _, I.lnew (t' := s.toks) (r.append r2) (by rw [List.length_append]; omega), rfl, q _ I.fresh⟩
theorem RDs.app' {K : PySem.W.Frag} {μ : Mu} {n : Nat} {H : Hp} : ∀ {l m : List D} {us vs : List V}, RDs K μ n H l us → RDs K μ n H m vs → RDs K μ n H (l ++ m) (us ++ vs)
  | [], m, us, vs, a, b => by
    simp only [RDs] at a
    subst a
    exact b
  | d :: l, m, us, vs, a, b => by
    simp only [RDs] at a
    obtain ⟨v, r, rfl, q, t⟩ := a
    simp only [List.cons_append, RDs]
    exact ⟨v, _, rfl, q, RDs.app' t b⟩
theorem RDs.rep {K : PySem.W.Frag} {μ : Mu} {n : Nat} {H : Hp} {l : List D} {us : List V} (q : RDs K μ n H l us) : ∀ m : Nat, RDs K μ n H (List.replicate m l).flatten (List.replicate m us).flatten
  | 0 => by simp only [List.replicate_zero, List.flatten_nil, RDs]
  | m + 1 => by
    rw [List.replicate_succ, List.replicate_succ, List.flatten_cons, List.flatten_cons]
    exact RDs.app' q (RDs.rep q m)
theorem bin_ints {op : BOp} (hop : op ≠ .add) (hm : op ≠ .mul) {d1 d2 : D} {h : Heap} {ρ : Rel R V} {K : PySem.W.Frag} {μ : Mu} {H : Hp} {Q : VK} {x y : V} {n : Nat}
    (q1 : RD K μ n H d1 x) (q2 : RD K μ n H d2 y) (F : Fin K W ρ μ h H (bin op d1 d2 h) Q) : ∃ i j, d1 = .int i ∧ d2 = .int j ∧ x = .int i ∧ y = .int j := by
  cases op <;> first
    | exact absurd rfl hop
    | exact absurd rfl hm
    | (cases d1 <;> first
      | exact F.elim
      | (cases d2 <;> first
          | exact F.elim
          | exact ⟨_, _, rfl, rfl, q1, q2⟩))
theorem pow_bits {i j : Int} (h0 : 0 ≤ j) (h1 : j ≤ 10000) (h2 : i.natAbs.log2 < 10000) : (Builtin.Int.intBits i : Int) * j ≤ 2 ^ 27 := by
  have b : Builtin.Int.intBits i ≤ i.natAbs.log2 + 1 := by
    unfold Builtin.Int.intBits
    split <;> omega
  have b2 : (Builtin.Int.intBits i : Int) ≤ 10000 := by omega
  have := Int.mul_le_mul b2 h1 h0 (by omega)
  omega
theorem opr_bin (op : BOp) (o : Operator) (ho : bopB op o = true) : OpR X (binaryOp o) (r2 X.K W (bin op)) := by
  cases op <;> cases o <;> first | cases ho | skip
  · refine OpR_imp (OpR.or op_add (OpR.or (op_catA) op_catR)) fun x y H Q ⟨μ, h, d1, d2, r, q1, q2, F⟩ => ?_
    rcases bin_add q1 q2 F with ⟨i, j, rfl, rfl, rfl, rfl⟩ | ⟨l, m, rfl, rfl, hl⟩ | ⟨l, m, e1, e2, hl, e3⟩
    · exact .inl ⟨i, j, rfl, rfl, Fin.ok F r rfl⟩
    · simp only [bin, if_pos hl] at F
      simp only [RD] at q1 q2
      obtain ⟨a, vs, rfl, s, t⟩ := q1
      obtain ⟨b, ws, rfl, s2, t2⟩ := q2
      have nil : ∀ {z : List D} {zs : List V}, RDs X.K μ h.length H z zs → zs = [] → z = [] := fun {z zs} q e => by
        have := q.length
        rw [e] at this
        exact List.length_eq_zero_iff.mp this.symm
      refine .inr (.inl ⟨a, b, vs, ws, rfl, rfl, s, s2, by rw [t.length, t2.length, lim_line]; exact hl, fun e => ?_, fun _ e => ?_, fun _ _ p hp => ?_⟩)
      · have e' := nil t e
        subst e'
        refine Fin.ok F r ?_
        show RD X.K μ h.length H (.tup ([] ++ m)) (.ref b)
        rw [List.nil_append]
        simp only [RD]
        exact ⟨b, ws, rfl, s2, t2⟩
      · have e' := nil t2 e
        subst e'
        refine Fin.ok F r ?_
        show RD X.K μ h.length H (.tup (l ++ [])) (.ref a)
        rw [List.append_nil]
        simp only [RD]
        exact ⟨a, vs, rfl, s, t⟩
      · have Pn := Post.new (o := .tup (vs ++ ws)) r hp
        refine F.okP Pn ?_
        show RD X.K μ h.length _ (.tup (l ++ m)) (.ref p)
        simp only [RD]
        exact ⟨p, _, rfl, .inl (.inl upd_same), RDs.mono Pn r _ _ (t.app' t2)⟩
    · rw [e3] at F
      obtain ⟨a, vs, rfl, s, t⟩ := lst_of r q1 e1
      obtain ⟨b, ws, rfl, s2, t2⟩ := lst_of r q2 e2
      refine .inr (.inr ⟨a, b, vs, ws, rfl, rfl, s, s2, by rw [t.length, t2.length, lim_line]; exact hl, fun p hp => ?_⟩)
      have Pn := Post.new (o := .lst (vs ++ ws)) r hp
      exact F.okP Pn (RR.mk r hp hp (t.app' t2))
  · refine OpR_imp op_sub fun x y H Q ⟨μ, h, d1, d2, r, q1, q2, F⟩ => ?_
    obtain ⟨i, j, rfl, rfl, rfl, rfl⟩ := bin_ints (by decide) (by decide) q1 q2 F
    exact ⟨i, j, rfl, rfl, Fin.ok F r rfl⟩
  · refine OpR_imp (OpR.or op_mulW op_repT) fun x y H Q ⟨μ, h, d1, d2, r, q1, q2, F⟩ => ?_
    cases d2 with
    | int j =>
      cases q2
      cases d1 with
      | int i =>
        cases q1
        simp only [bin] at F
        split at F
        · rename_i hm
          exact .inl ⟨i, j, rfl, rfl, (show CMulW i j from of_decide_eq_true (p := i.natAbs.log2 + j.natAbs.log2 < 1000000) hm), Fin.ok F r rfl⟩
        · exact F.elim
      | tup l =>
        simp only [RD] at q1
        obtain ⟨a, vs, rfl, s, t⟩ := q1
        simp only [bin] at F
        split at F
        · rename_i hm
          obtain ⟨m1, m2, m3, m4⟩ := hm
          refine .inr ⟨a, j, vs, rfl, rfl, s, fun e => m1 ?_, m2, m3, by rw [t.length]; exact m4, fun p hp => ?_⟩
          · have := t.length
            rw [e] at this
            exact List.length_eq_zero_iff.mp this.symm
          · have Pn := Post.new (o := .tup (List.replicate j.toNat vs).flatten) r hp
            refine F.okP Pn ?_
            show RD X.K μ h.length _ (.tup (List.replicate j.toNat l).flatten) (.ref p)
            simp only [RD]
            exact ⟨p, _, rfl, .inl (.inl upd_same), RDs.mono Pn r _ _ (t.rep _)⟩
        · exact F.elim
      | _ => exact F.elim
    | _ => cases d1 <;> exact F.elim
  · refine OpR_imp op_fdivW fun x y H Q ⟨μ, h, d1, d2, r, q1, q2, F⟩ => ?_
    obtain ⟨i, j, rfl, rfl, rfl, rfl⟩ := bin_ints (by decide) (by decide) q1 q2 F
    simp only [bin] at F
    split at F
    · rename_i hm
      exact ⟨i, j, rfl, rfl, (show CDivW i j from of_decide_eq_true (p := 0 < j ∧ j.natAbs.log2 < 9000) hm), Fin.ok F r rfl⟩
    · exact F.elim
  · refine OpR_imp op_modN fun x y H Q ⟨μ, h, d1, d2, r, q1, q2, F⟩ => ?_
    obtain ⟨i, j, rfl, rfl, rfl, rfl⟩ := bin_ints (by decide) (by decide) q1 q2 F
    simp only [bin] at F
    split at F
    · rename_i hm
      refine ⟨i, j, rfl, rfl, (show j ≠ 0 by omega), ?_⟩
      show Q (.int (Int.fmod i j)) H
      rw [Int.fmod_eq_emod_of_nonneg i (by omega)]
      exact Fin.ok F r rfl
    · split at F
      · rename_i hm
        exact ⟨i, j, rfl, rfl, hm, Fin.ok F r rfl⟩
      · exact F.elim
  · have pw : OpR X (binaryOp .Pow) (rI (fun i j => 0 ≤ j ∧ j ≤ 10000 ∧ i.natAbs.log2 < 10000) fun i j => .int (i ^ j.toNat)) := opI fun _ _ _ _ _ _ _ hc q => pow_int hc.1 (pow_bits hc.1 hc.2.1 hc.2.2) q
    refine OpR_imp pw fun x y H Q ⟨μ, h, d1, d2, r, q1, q2, F⟩ => ?_
    obtain ⟨i, j, rfl, rfl, rfl, rfl⟩ := bin_ints (by decide) (by decide) q1 q2 F
    simp only [bin] at F
    split at F
    · rename_i hm
      exact ⟨i, j, rfl, rfl, of_decide_eq_true hm, Fin.ok F r rfl⟩
    · exact F.elim
theorem unr_neg : UnR X (unaryOp .USub) (r1 X.K W negM) := by
  refine UnR_imp un_neg fun x H Q ⟨μ, h, d1, r, q1, F⟩ => ?_
  cases d1 <;> first | exact F.elim | skip
  cases q1
  exact ⟨_, rfl, Fin.ok F r rfl⟩

/-! ### == and != -/
mutual
def toP : D → PyData
  | .non => .none
  | .bl b => .bool b
  | .int i => .int i
  | .str x => .str x
  | .tup l => .tuple (toPs l)
  | .lst l => .list (toPs l)
  | .loc _ => .none
  | .scr _ => .none
  | .dic _ _ => .none
def toPs : List D → List PyData
  | [] => []
  | d :: ds => toP d :: toPs ds
end
mutual
theorem dok_P : ∀ (n : Nat) (d : D), dok n d = true → (toP d).canLay0 = true ∧ (toP d).depth ≤ n + 1
  | n, .non, _ => by simp [toP, PyData.canLay0, PyData.depth]
  | n, .bl _, _ => by simp [toP, PyData.canLay0, PyData.depth]
  | n, .int _, _ => by simp [toP, PyData.canLay0, PyData.depth]
  | n, .str x, h => by
    refine ⟨?_, by simp [toP, PyData.depth]⟩
    simp only [dok] at h
    simp only [toP, PyData.canLay0]
    exact h
  | 0, .tup _, h => by simp [dok] at h
  | 0, .lst _, h => by simp [dok] at h
  | n + 1, .tup l, h => by
    simp only [dok] at h
    obtain ⟨a, b⟩ := dok_Ps n l h
    simp only [toP, PyData.canLay0, PyData.depth]
    exact ⟨a, by omega⟩
  | n + 1, .lst l, h => by
    simp only [dok] at h
    obtain ⟨a, b⟩ := dok_Ps n l h
    simp only [toP, PyData.canLay0, PyData.depth]
    exact ⟨a, by omega⟩
  | _, .loc _, h => by simp [dok] at h
  | _, .scr _, h => by simp [dok] at h
  | _, .dic _ _, h => by simp [dok] at h
theorem dok_Ps : ∀ (n : Nat) (l : List D), dokL n l = true → PyData.canLayAll0 (toPs l) = true ∧ PyData.depthAll (toPs l) ≤ n + 1
  | n, [], _ => by simp [toPs, PyData.canLayAll0, PyData.depthAll]
  | n, d :: ds, h => by
    simp only [dokL, Bool.and_eq_true] at h
    obtain ⟨a, b⟩ := dok_P n d h.1
    obtain ⟨c, e⟩ := dok_Ps n ds h.2
    simp only [toPs, PyData.canLayAll0, PyData.depthAll, Bool.and_eq_true]
    exact ⟨⟨a, c⟩, by omega⟩
end
theorem shaped_of {d : D} (h : dok 60 d = true) : SeqAt.shaped (toP d) = true := by
  obtain ⟨a, b⟩ := dok_P 60 d h
  unfold SeqAt.shaped
  simp only [Bool.and_eq_true, decide_eq_true_eq]
  exact ⟨a, by omega⟩
mutual
theorem eqv_D : ∀ (n m : Nat) (a b : D), dok n a = true → dok m b = true → PyData.eqv (toP a) (toP b) = eqD a b
  | _, _, .non, .non, _, _ => by simp [toP, PyData.eqv, eqD]
  | _, _, .non, .bl _, _, _ => by simp [toP, PyData.eqv, eqD]
  | _, _, .non, .int _, _, _ => by simp [toP, PyData.eqv, eqD]
  | _, _, .non, .str _, _, _ => by simp [toP, PyData.eqv, eqD]
  | _, _, .non, .tup _, _, _ => by simp [toP, PyData.eqv, eqD]
  | _, _, .non, .lst _, _, _ => by simp [toP, PyData.eqv, eqD]
  | _, _, .bl _, .non, _, _ => by simp [toP, PyData.eqv, eqD]
  | _, _, .bl _, .bl _, _, _ => by simp [toP, PyData.eqv, eqD]
  | _, _, .bl _, .int _, _, _ => by simp [toP, PyData.eqv, eqD, b2i]
  | _, _, .bl _, .str _, _, _ => by simp [toP, PyData.eqv, eqD]
  | _, _, .bl _, .tup _, _, _ => by simp [toP, PyData.eqv, eqD]
  | _, _, .bl _, .lst _, _, _ => by simp [toP, PyData.eqv, eqD]
  | _, _, .int _, .non, _, _ => by simp [toP, PyData.eqv, eqD]
  | _, _, .int _, .bl _, _, _ => by simp [toP, PyData.eqv, eqD, b2i]
  | _, _, .int _, .int _, _, _ => by simp [toP, PyData.eqv, eqD]
  | _, _, .int _, .str _, _, _ => by simp [toP, PyData.eqv, eqD]
  | _, _, .int _, .tup _, _, _ => by simp [toP, PyData.eqv, eqD]
  | _, _, .int _, .lst _, _, _ => by simp [toP, PyData.eqv, eqD]
  | _, _, .str _, .non, _, _ => by simp [toP, PyData.eqv, eqD]
  | _, _, .str _, .bl _, _, _ => by simp [toP, PyData.eqv, eqD]
  | _, _, .str _, .int _, _, _ => by simp [toP, PyData.eqv, eqD]
  | _, _, .str _, .str _, _, _ => by simp [toP, PyData.eqv, eqD]
  | _, _, .str _, .tup _, _, _ => by simp [toP, PyData.eqv, eqD]
  | _, _, .str _, .lst _, _, _ => by simp [toP, PyData.eqv, eqD]
  | _, _, .tup _, .non, _, _ => by simp [toP, PyData.eqv, eqD]
  | _, _, .tup _, .bl _, _, _ => by simp [toP, PyData.eqv, eqD]
  | _, _, .tup _, .int _, _, _ => by simp [toP, PyData.eqv, eqD]
  | _, _, .tup _, .str _, _, _ => by simp [toP, PyData.eqv, eqD]
  | n + 1, m + 1, .tup a, .tup b, h1, h2 => by
    simp only [dok] at h1 h2
    simp only [toP, PyData.eqv, eqD]
    exact eqv_Ds n m a b h1 h2
  | 0, _, .tup a, .tup b, h1, _ => by simp [dok] at h1
  | _, 0, .tup a, .tup b, _, h1 => by simp [dok] at h1
  | _, _, .tup _, .lst _, _, _ => by simp [toP, PyData.eqv, eqD]
  | _, _, .lst _, .non, _, _ => by simp [toP, PyData.eqv, eqD]
  | _, _, .lst _, .bl _, _, _ => by simp [toP, PyData.eqv, eqD]
  | _, _, .lst _, .int _, _, _ => by simp [toP, PyData.eqv, eqD]
  | _, _, .lst _, .str _, _, _ => by simp [toP, PyData.eqv, eqD]
  | _, _, .lst _, .tup _, _, _ => by simp [toP, PyData.eqv, eqD]
  | n + 1, m + 1, .lst a, .lst b, h1, h2 => by
    simp only [dok] at h1 h2
    simp only [toP, PyData.eqv, eqD]
    exact eqv_Ds n m a b h1 h2
  | 0, _, .lst a, .lst b, h1, _ => by simp [dok] at h1
  | _, 0, .lst a, .lst b, _, h1 => by simp [dok] at h1
  | _, _, .loc _, _, h1, _ => by simp [dok] at h1
  | _, _, .scr _, _, h1, _ => by simp [dok] at h1
  | _, _, .dic _ _, _, h1, _ => by simp [dok] at h1
  | _, _, _, .loc _, _, h1 => by simp [dok] at h1
  | _, _, _, .scr _, _, h1 => by simp [dok] at h1
  | _, _, _, .dic _ _, _, h1 => by simp [dok] at h1
theorem eqv_Ds : ∀ (n m : Nat) (a b : List D), dokL n a = true → dokL m b = true → PyData.eqvAll (toPs a) (toPs b) = eqDL a b
  | _, _, [], [], _, _ => by simp [toPs, PyData.eqvAll, eqDL]
  | _, _, [], _ :: _, _, _ => by simp [toPs, PyData.eqvAll, eqDL]
  | _, _, _ :: _, [], _, _ => by simp [toPs, PyData.eqvAll, eqDL]
  | n, m, x :: xs, y :: ys, h1, h2 => by
    simp only [dokL, Bool.and_eq_true] at h1 h2
    simp only [toPs, PyData.eqvAll, eqDL]
    rw [eqv_D n m x y h1.1 h2.1, eqv_Ds n m xs ys h1.2 h2.2]
end
section
variable {K : PySem.W.Frag} {μ : Mu} {n : Nat} {H : Hp}
mutual
theorem dp_of : ∀ (k : Nat) (d : D) (v : V), dok k d = true → RD K μ n H d v → Dp K H v (toP d)
  | _, .non, v, _, q => by cases q; exact .non
  | _, .bl b, v, _, q => by cases q; exact .bl b
  | _, .int b, v, _, q => by cases q; exact .int b
  | _, .str b, v, _, q => by cases q; exact .str b
  | 0, .tup _, _, h, _ => by simp [dok] at h
  | 0, .lst _, _, h, _ => by simp [dok] at h
  | k + 1, .tup l, v, h, q => by
    simp only [dok] at h
    simp only [RD] at q
    obtain ⟨a, vs, rfl, s, t⟩ := q
    exact .tup s (dp_all k l vs h t)
  | k + 1, .lst l, v, h, q => by
    simp only [dok] at h
    simp only [RD] at q
    obtain ⟨a, vs, rfl, s, t⟩ := q
    exact .lst s.sq (dp_all k l vs h t)
  | _, .loc _, _, h, _ => by simp [dok] at h
  | _, .scr _, _, h, _ => by simp [dok] at h
  | _, .dic _ _, _, h, _ => by simp [dok] at h
theorem dp_all : ∀ (k : Nat) (l : List D) (vs : List V), dokL k l = true → RDs K μ n H l vs → DpAll K H vs (toPs l)
  | _, [], vs, _, q => by
    simp only [RDs] at q
    subst q
    exact .nil
  | k, d :: l, vs, h, q => by
    simp only [dokL, Bool.and_eq_true] at h
    simp only [RDs] at q
    obtain ⟨v, r, rfl, q1, t⟩ := q
    exact .cons (dp_of k d v h.1 q1) (dp_all k l r h.2 t)
end
end
theorem dp_look {K : PySem.W.Frag} {μ : Mu} {h : Heap} {H : Hp} {d : D} {v : V} (r : HR K μ h H) (q : RD K μ h.length H d v) (hd : dok 60 (look h d) = true) : Dp K H v (toP (look h d)) := by
  cases d with
  | loc p =>
    simp only [look] at hd ⊢
    cases c : h[p]? with
    | none => rw [c] at hd; simp [dok] at hd
    | some o =>
      rw [c] at hd
      cases o with
      | dic _ => simp [dok] at hd
      | lst m =>
        obtain ⟨vs, e1, t⟩ := r.ob p _ c
        simp only [RD] at q
        rw [q.2]
        simp only [dok] at hd
        exact .lst (.inl (.inl e1)) (dp_all 59 m vs hd t)
  | _ => exact dp_of 60 _ v hd q
theorem flat_V {K : PySem.W.Frag} {μ : Mu} {n : Nat} {H : Hp} {d : D} {v : V} (q : RD K μ n H d v) (hf : flat d = true) : flatV v = true := by
  cases d <;> first | (cases q; rfl) | cases hf
theorem eqV_D {K : PySem.W.Frag} {μ : Mu} {n : Nat} {H : Hp} {d e : D} {v w : V} (q : RD K μ n H d v) (q2 : RD K μ n H e w) (hf : flat d = true) (hg : flat e = true) : eqV v w = eqD d e := by
  cases d <;> cases e <;> first | (cases q; cases q2; first | rfl | (simp [eqV, eqD, b2i]; done)) | (cases hf; done) | (cases hg; done)
theorem flat_Vs {K : PySem.W.Frag} {μ : Mu} {n : Nat} {H : Hp} : ∀ {l : List D} {vs : List V}, RDs K μ n H l vs → l.all flat = true → vs.all flatV = true
  | [], vs, q, _ => by
    simp only [RDs] at q
    subst q
    rfl
  | d :: l, vs, q, h => by
    simp only [RDs] at q
    obtain ⟨v, r, rfl, q1, t⟩ := q
    simp only [List.all_cons, Bool.and_eq_true] at h ⊢
    exact ⟨flat_V q1 h.1, flat_Vs t h.2⟩
theorem any_Vs {K : PySem.W.Frag} {μ : Mu} {n : Nat} {H : Hp} {d : D} {v : V} (q : RD K μ n H d v) (hf : flat d = true) : ∀ {l : List D} {vs : List V}, RDs K μ n H l vs → l.all flat = true → (vs.any fun y => eqV y v) = l.any fun z => eqD z d
  | [], vs, q, _ => by
    simp only [RDs] at q
    subst q
    rfl
  | c :: l, vs, q2, h => by
    simp only [RDs] at q2
    obtain ⟨w, r, rfl, q1, t⟩ := q2
    simp only [List.all_cons, Bool.and_eq_true] at h
    simp only [List.any_cons]
    rw [eqV_D q1 q h.1 hf, any_Vs q hf t h.2]
theorem cmp_fin {K : PySem.W.Frag} {μ : Mu} {h : Heap} {H : Hp} {op : COp} {d1 d2 : D} {Q : VK} {W : XK} (F : Fin K W (RR K) μ h H (cmpM op d1 d2 h) Q) (r : HR K μ h H) : ∃ b, cmp op d1 d2 h = some b ∧ Q (.bl b) H := by
  unfold cmpM at F
  cases e : cmp op d1 d2 h with
  | none => rw [e] at F; exact F.elim
  | some b =>
    rw [e] at F
    exact ⟨b, rfl, Fin.ok F r rfl⟩
theorem cmp_ints {op : COp} {d1 d2 : D} {h : Heap} {b : Bool} (ho : op = .lt ∨ op = .le ∨ op = .gt ∨ op = .ge) (e : cmp op d1 d2 h = some b) : ∃ i j, d1 = .int i ∧ d2 = .int j := by
  rcases ho with rfl | rfl | rfl | rfl <;> cases d1 <;> first | (cases e; done) | (cases d2 <;> first | exact ⟨_, _, rfl, rfl⟩ | (cases e; done))
theorem mem_of {K : PySem.W.Frag} {μ : Mu} {h : Heap} {H : Hp} {d1 d2 : D} {x y : V} {b : Bool} (r : HR K μ h H) (q1 : RD K μ h.length H d1 x) (q2 : RD K μ h.length H d2 y) (e : mem d1 d2 h = some b) :
    ∃ p xs, y = .ref p ∧ (SqL K H p xs ∨ SqT K H p xs) ∧ flatV x = true ∧ xs.all flatV = true ∧ inV x xs = b := by
  unfold mem at e
  cases c : seqOf h d2 with
  | none => rw [c] at e; cases e
  | some l =>
    rw [c] at e
    obtain ⟨a, vs, rfl, s, t⟩ := seq_of r q2 c
    simp only at e
    split at e
    · rename_i hf
      simp only [Bool.and_eq_true] at hf
      cases e
      exact ⟨a, vs, rfl, s, flat_V q1 hf.1, flat_Vs t hf.2, any_Vs q1 hf.1 t hf.2⟩
    · cases e
theorem beq_decide (a b : Bool) : (a == b) = decide (a = b) := by cases a <;> cases b <;> rfl
theorem is_of {K : PySem.W.Frag} {μ : Mu} {n : Nat} {H : Hp} {d1 d2 : D} {x y : V} {b : Bool} (q1 : RD K μ n H d1 x) (q2 : RD K μ n H d2 y) (e : isM d1 d2 = some b) :
    (y = .non ∧ ∀ Q : Bool → Hp → Prop, Q b H → Q (decide (x = .non)) H) ∨ ∃ a c, x = .bl a ∧ y = .bl c ∧ b = (a == c) := by
  cases d2 with
  | non =>
    cases q2
    cases e
    refine .inl ⟨rfl, fun Q q => ?_⟩
    cases d1 <;> first
      | (cases q1; exact q)
      | (simp only [RD] at q1; obtain ⟨a, vs, rfl, _⟩ := q1; exact q)
      | (simp only [RD] at q1; rw [q1.2]; exact q)
  | bl c =>
    cases q2
    cases d1 with
    | bl a =>
      cases q1
      cases e
      exact .inr ⟨a, c, rfl, rfl, rfl⟩
    | _ => cases e
  | _ => cases e
theorem opr_cmp (hu : X.A.units + 64 < cLine) (op : COp) (o : CmpOp) (ho : copB op o = true) : OpR X (compareOp o) (r2 X.K W (cmpM op)) := by
  cases op <;> cases o <;> first | cases ho | skip
  · refine OpR_imp (op_eqD hu) fun x y H Q ⟨μ, h, d1, d2, r, q1, q2, F⟩ => ?_
    obtain ⟨b, e, q⟩ := cmp_fin F r
    simp only [cmp] at e
    split at e
    · rename_i hk
      simp only [Bool.and_eq_true] at hk
      cases e
      exact ⟨_, _, dp_look r q1 hk.1, dp_look r q2 hk.2, shaped_of hk.1, shaped_of hk.2, by rw [eqv_D 60 60 _ _ hk.1 hk.2]; exact q⟩
    · cases e
  · refine OpR_imp (op_neD hu) fun x y H Q ⟨μ, h, d1, d2, r, q1, q2, F⟩ => ?_
    obtain ⟨b, e, q⟩ := cmp_fin F r
    simp only [cmp] at e
    split at e
    · rename_i hk
      simp only [Bool.and_eq_true] at hk
      cases e
      exact ⟨_, _, dp_look r q1 hk.1, dp_look r q2 hk.2, shaped_of hk.1, shaped_of hk.2, by rw [eqv_D 60 60 _ _ hk.1 hk.2]; exact q⟩
    · cases e
  · refine OpR_imp op_lt fun x y H Q ⟨μ, h, d1, d2, r, q1, q2, F⟩ => ?_
    obtain ⟨b, e, q⟩ := cmp_fin F r
    obtain ⟨i, j, rfl, rfl⟩ := cmp_ints (.inl rfl) e
    cases q1
    cases q2
    cases e
    exact ⟨_, _, rfl, rfl, q⟩
  · refine OpR_imp op_le fun x y H Q ⟨μ, h, d1, d2, r, q1, q2, F⟩ => ?_
    obtain ⟨b, e, q⟩ := cmp_fin F r
    obtain ⟨i, j, rfl, rfl⟩ := cmp_ints (.inr (.inl rfl)) e
    cases q1
    cases q2
    cases e
    exact ⟨_, _, rfl, rfl, q⟩
  · refine OpR_imp op_gt fun x y H Q ⟨μ, h, d1, d2, r, q1, q2, F⟩ => ?_
    obtain ⟨b, e, q⟩ := cmp_fin F r
    obtain ⟨i, j, rfl, rfl⟩ := cmp_ints (.inr (.inr (.inl rfl))) e
    cases q1
    cases q2
    cases e
    exact ⟨_, _, rfl, rfl, q⟩
  · refine OpR_imp op_ge fun x y H Q ⟨μ, h, d1, d2, r, q1, q2, F⟩ => ?_
    obtain ⟨b, e, q⟩ := cmp_fin F r
    obtain ⟨i, j, rfl, rfl⟩ := cmp_ints (.inr (.inr (.inr rfl))) e
    cases q1
    cases q2
    cases e
    exact ⟨_, _, rfl, rfl, q⟩
  · refine OpR_imp (OpR.or op_isN op_isBl) fun x y H Q ⟨μ, h, d1, d2, r, q1, q2, F⟩ => ?_
    obtain ⟨b, e, q⟩ := cmp_fin F r
    simp only [cmp] at e
    rcases is_of q1 q2 e with ⟨rfl, e2⟩ | ⟨a, c, rfl, rfl, rfl⟩
    · exact .inl ⟨rfl, e2 (fun t H => Q (.bl t) H) q⟩
    · exact .inr ⟨a, c, rfl, rfl, by rw [beq_decide] at q; exact q⟩
  · refine OpR_imp (OpR.or op_notN op_notBl) fun x y H Q ⟨μ, h, d1, d2, r, q1, q2, F⟩ => ?_
    obtain ⟨b, e, q⟩ := cmp_fin F r
    simp only [cmp] at e
    cases c : isM d1 d2 with
    | none => rw [c] at e; cases e
    | some b' =>
      rw [c] at e
      cases e
      rcases is_of q1 q2 c with ⟨rfl, e2⟩ | ⟨a, a2, rfl, rfl, rfl⟩
      · exact .inl ⟨rfl, e2 (fun t H => Q (.bl (!t)) H) q⟩
      · exact .inr ⟨a, a2, rfl, rfl, by rw [beq_decide] at q; exact q⟩
  · refine OpR_imp op_in_seq fun x y H Q ⟨μ, h, d1, d2, r, q1, q2, F⟩ => ?_
    obtain ⟨b, e, q⟩ := cmp_fin F r
    obtain ⟨p, xs, rfl, s, f1, f2, e2⟩ := mem_of r q1 q2 e
    exact ⟨p, xs, rfl, s, f1, f2, by simp only [e2]; exact q⟩
  · refine OpR_imp op_notIn_seq fun x y H Q ⟨μ, h, d1, d2, r, q1, q2, F⟩ => ?_
    obtain ⟨b, e, q⟩ := cmp_fin F r
    simp only [cmp] at e
    cases c : mem d1 d2 h with
    | none => rw [c] at e; cases e
    | some b' =>
      rw [c] at e
      cases e
      obtain ⟨p, xs, rfl, s, f1, f2, e2⟩ := mem_of r q1 q2 c
      exact ⟨p, xs, rfl, s, f1, f2, by simp only [e2]; exact q⟩
end
end MP

/-! MP.Snd3: expressions. -/
namespace MP
open PySem PySem.Spec PyProof.Rows L2

theorem bd_assoc {α β γ : Type} (m : Res α) (k : α → Heap → Res β) (k' : β → Heap → Res γ) : bd (bd m k) k' = bd m fun a h => bd (k a h) k' := by
  cases m with
  | none => rfl
  | some o => cases o <;> rfl
theorem boolR_bl {o : Option Bool} {h h' : Heap} {r : R} (e : boolR o h = some (.ok r h')) : ∃ b, r = .v (.bl b) := by
  cases o with
  | none => cases e
  | some b =>
    cases e
    exact ⟨b, rfl⟩
section
variable {K : PySem.W.Frag} {W : XK} {σ : L2.St} {H : Hp}
theorem rd_tst {m : Env → Heap → Res R} {Q : Bool → Hp → Prop} (q : rT K W (tst m) σ H Q) (hb : ∀ g h r h', m g h = some (.ok r h') → ∃ b, r = .v (.bl b)) : rE K W m σ H (fun x H' => ∃ k, x = .bl k ∧ Q k H') := by
  obtain ⟨μ, g, h, r, er, F⟩ := q
  refine ⟨μ, g, h, r, er, ?_⟩
  unfold tst at F
  cases e : m g h with
  | none => rw [e] at F; exact F
  | some o =>
    rw [e] at F
    cases o with
    | exc x h' => exact F
    | ok r h' =>
      obtain ⟨b, rfl⟩ := hb _ _ _ _ e
      intro v H' μ' P rv
      cases rv
      exact ⟨b, rfl, F b H' μ' P rfl⟩
end

section
variable (P : PInfo) (Φ : Nat → List D → Heap → Res R) (G : Nat → Option D) (k : Nat)
def SE (e : E) : Prop := ∀ (X : Cx) (W : XK) (x : Expr), Good P Φ G k X W → chk P X.N X.env.scope e x = true → PE X x (rE X.K W (eval Φ G e)) ∧ PT X x (rT X.K W (tst (eval Φ G e)))
def SEs (es : List E) : Prop := ∀ (X : Cx) (W : XK) (xs : List Expr), Good P Φ G k X W → chks P X.N X.env.scope es xs = true → PA X xs (rA X.K W (evals Φ G es))
end
section
variable {P : PInfo} {Φ : Nat → List D → Heap → Res R} {G : Nat → Option D} {k : Nat}
theorem Good.un {X : Cx} {W : XK} (g : Good P Φ G k X W) : X.A.units + 64 < cLine := g.room.units

theorem se_var (i : Nat) : SE P Φ G k (.var i) := fun X W x gd hc => by
  cases x with
  | Name n pos =>
    simp only [chk, Bool.and_eq_true, decide_eq_true_eq, Bool.not_eq_true'] at hc
    obtain ⟨h1, h2, h3, h4⟩ := hc
    have pe : PE X (.Name n pos) (rE X.K W (eval Φ G (.var i))) := by
      refine PE_imp (pe_var h1 (visB_ok h2) h3 h4) fun σ H Q ⟨μ, g, h, r, er, F⟩ => ?_
      simp only [eval] at F
      split at F
      · rename_i d e
        obtain ⟨v, e1, e2⟩ := er.2 i d e
        exact ⟨v, e1, Fin.ok F r e2⟩
      · exact F.elim
    exact ⟨pe, pt_plain pe rfl⟩
  | _ => simp [chk] at hc
theorem se_c (d : D) : SE P Φ G k (.c d) := fun X W x gd hc => by
  cases x with
  | Constant c j pos =>
    simp only [chk] at hc
    have fin : ∀ v, (∀ (μ : Mu) (n : Nat) (H : Hp), RD X.K μ n H d v) → ∀ (σ : L2.St) (H : Hp) (Q : VK), rE X.K W (eval Φ G (.c d)) σ H Q → tC v σ H Q := fun v hv σ H Q ⟨μ, g, h, r, er, F⟩ => by
      simp only [eval] at F
      exact Fin.ok F r (hv _ _ _)
    have pe : PE X (.Constant c j pos) (rE X.K W (eval Φ G (.c d))) := by
      cases d <;> cases c <;> first
        | (cases hc; done)
        | exact PE_imp pe_non (fin _ fun _ _ _ => rfl)
        | (simp only [constB, beq_iff_eq] at hc; subst hc; exact PE_imp pe_bl (fin _ fun _ _ _ => rfl))
        | (simp only [constB, decide_eq_true_eq] at hc; subst hc; first | exact PE_imp pe_int (fin _ fun _ _ _ => rfl) | exact PE_imp pe_str (fin _ fun _ _ _ => rfl))
    exact ⟨pe, pt_plain pe rfl⟩
  | _ => simp [chk] at hc
theorem se_glob (i : Nat) : SE P Φ G k (.glob i) := fun X W x gd hc => by
  cases x with
  | Name n pos =>
    simp only [chk, Bool.and_eq_true, decide_eq_true_eq] at hc
    obtain ⟨h1, h2⟩ := hc
    obtain ⟨hg, hdb, hn⟩ := gloB_ok h2
    cases e : P.globs[i]? with
    | none => rw [e] at h1; cases h1
    | some p =>
      obtain ⟨y, d⟩ := p
      rw [e] at h1
      simp only [Option.map_some, Option.some.injEq] at h1
      subst h1
      obtain ⟨e1, v, u, e2, ru, rg⟩ := gd.glob i y d e
      have pe : PE X (.Name y pos) (rE X.K W (eval Φ G (.glob i))) := by
        refine PE_imp (pe_glob hg e2 ru hdb) fun σ H Q ⟨μ, g, h, r, er, F⟩ => ?_
        simp only [eval, e1] at F
        exact Fin.ok F r (rg.rd _ _ _ _)
      exact ⟨pe, pt_plain pe rfl⟩
  | _ => simp [chk] at hc
theorem se_bin (op : BOp) (a b : E) (ha : SE P Φ G k a) (hb : SE P Φ G k b) : SE P Φ G k (.bin op a b) := fun X W x gd hc => by
  cases x with
  | BinOp a' o b' pos =>
    simp only [chk, Bool.and_eq_true] at hc
    obtain ⟨h1, h2, h3⟩ := hc
    have pe : PE X (.BinOp a' o b' pos) (rE X.K W (eval Φ G (.bin op a b))) := by
      refine PE_imp (pe_op (opr_bin (W := W) op o h1) (ha X W a' gd h2).1 (hb X W b' gd h3).1) fun σ H Q q => rd_two (f := bin op) ?_
      simpa only [eval] using q
    exact ⟨pe, pt_plain pe rfl⟩
  | _ => simp [chk] at hc
theorem se_neg (a : E) (ha : SE P Φ G k a) : SE P Φ G k (.neg a) := fun X W x gd hc => by
  cases x with
  | UnaryOp o a' pos =>
    cases o <;> simp only [chk] at hc <;> first | (cases hc; done) | skip
    have pe : PE X (.UnaryOp .USub a' pos) (rE X.K W (eval Φ G (.neg a))) := by
      refine PE_imp (pe_un (unr_neg (W := W)) (ha X W a' gd hc).1) fun σ H Q q => rd_one (f := negM) ?_
      simpa only [eval] using q
    exact ⟨pe, pt_plain pe rfl⟩
  | _ => simp [chk] at hc
theorem se_not (a : E) (ha : SE P Φ G k a) : SE P Φ G k (.not a) := fun X W x gd hc => by
  cases x with
  | UnaryOp o a' pos =>
    cases o <;> simp only [chk] at hc <;> first | (cases hc; done) | skip
    have ih := ha X W a' gd hc
    refine ⟨PE_imp (pe_notT ih.1) fun σ H Q q => ?_, PT_imp (pt_not ih.2) fun σ H Q q => ?_⟩
    · simp only [eval] at q
      refine rd_bind (ρ := RR X.K) q back_RR fun μ1 g h1 H1 r v H0 hr er q1 F => ?_
      cases e1 : tru h1 r.frz with
      | none => rw [e1] at F; exact F.elim
      | some b =>
        rw [e1] at F
        exact ⟨b, tru_of hr q1.frz e1, Fin.ok F hr rfl⟩
    · have e : tst (eval Φ G (.not a)) = fun g h => bd (tst (eval Φ G a) g h) fun b h => some (.ok (!b) h) := by
        funext g h
        simp only [tst, eval, bd_assoc]
        congr 1
        funext r h1
        cases tru h1 r.frz <;> rfl
      rw [e] at q
      refine rd_bind (ρ := RB) q back_RB fun μ1 g h1 H1 r v H0 hr er q1 F => ?_
      cases q1
      exact Fin.ok F hr rfl
  | _ => simp [chk] at hc
theorem se_cmp (op : COp) (a b : E) (ha : SE P Φ G k a) (hb : SE P Φ G k b) : SE P Φ G k (.cmp op a b) := fun X W x gd hc => by
  cases x with
  | Compare a' os bs pos =>
    match os, bs, hc with
    | [o], [b'], hc =>
      simp only [chk, Bool.and_eq_true] at hc
      obtain ⟨h1, h2, h3⟩ := hc
      have hm := shape_marks (chk_shape h3) o
      have e : eval Φ G (.cmp op a b) = fun g h => bd (eval Φ G a g h) fun x h => bd (eval Φ G b g h) fun y h => cmpM op x.frz y.frz h := by
        funext g h
        simp only [eval]
      refine ⟨PE_imp (pe_cmpR (opr_cmp (W := W) gd.un op o h1) (ha X W a' gd h2).1 (hb X W b' gd h3).1 hm) fun σ H Q q => rd_two (f := cmpM op) ?_,
        PT_imp (pt_cmpR (opr_cmp (W := W) gd.un op o h1) (ha X W a' gd h2).1 (hb X W b' gd h3).1 hm) fun σ H Q q => rd_two (f := cmpM op) (rd_tst ?_ fun g h r h' er => ?_)⟩
      · rw [e] at q; exact q
      · rw [e] at q; exact q
      · cases c1 : eval Φ G a g h with
        | none => rw [c1] at er; cases er
        | some o1 =>
          rw [c1] at er
          cases o1 with
          | exc _ _ => cases er
          | ok r1 h1 =>
            simp only [bd_ok] at er
            cases c2 : eval Φ G b g h1 with
            | none => rw [c2] at er; cases er
            | some o2 =>
              rw [c2] at er
              cases o2 with
              | exc _ _ => cases er
              | ok r2 h2 =>
                simp only [bd_ok, cmpM] at er
                exact boolR_bl er
    | [], _, hc => simp [chk] at hc
    | [_], [], hc => simp [chk] at hc
    | [_], _ :: _ :: _, hc => simp [chk] at hc
    | _ :: _ :: _, _, hc => simp [chk] at hc
  | _ => simp [chk] at hc
end
end MP

/-! MP.Snd4: expressions: chains, and, or, choices, displays, subscripts. -/
namespace MP
open PySem PySem.Spec PyProof.Rows L2

section
variable {P : PInfo} {Φ : Nat → List D → Heap → Res R} {G : Nat → Option D} {k : Nat}

def cmp2K (o1 o2 : COp) (mc : Env → Heap → Res R) (x y : D) (g : Env) (h : Heap) : Res R := match cmp o1 x y h with
  | some false => some (.ok (.v (.bl false)) h)
  | some true => bd (mc g h) fun z h => cmpM o2 y z.frz h
  | none => none
theorem rd_chain {K : PySem.W.Frag} {W : XK} {σ : L2.St} {H : Hp} {Q : VK} {o1 o2 : COp} {ma mb mc : Env → Heap → Res R}
    (q : rE K W (fun g h => bd (ma g h) fun x h => bd (mb g h) fun y h => cmp2K o1 o2 mc x.frz y.frz g h) σ H Q) :
    tChain (r2 K W (cmpM o1)) (r2 K W (cmpM o2)) (rE K W ma) (rE K W mb) (rE K W mc) σ H Q := by
  refine rd_bind (ρ := RR K) q back_RR fun μ1 g h1 H1 r1 v1 H0 hr er q1 F => ?_
  refine ⟨μ1, g, h1, hr, er, F.bind fun r2 h2 v2 H2 μ2 P q2 F2 => ?_⟩
  have q1' := RD.mono P hr _ _ q1.frz
  have q2' := q2.frz
  have F3 := F2.from P back_RR
  refine ⟨μ2, h2, _, _, P.hr, q1', q2', ?_⟩
  unfold cmp2K at F3
  unfold cmpM
  cases e : cmp o1 r1.frz r2.frz h2 with
  | none => rw [e] at F3; exact F3.elim
  | some t =>
    rw [e] at F3
    intro v H' μ' P' rv
    cases rv
    refine ⟨t, rfl, ?_⟩
    cases t with
    | false => exact F3 _ H' μ' P' rfl
    | true =>
      have er' := (er.mono P hr).mono P' P.hr
      refine ⟨μ', g, h2, P'.hr, er', (F3.from P' back_RR).bind fun r3 h3 v3 H3 μ3 P3 q3 F4 => ?_⟩
      exact ⟨μ3, h3, _, _, P3.hr, RD.mono P3 P'.hr _ _ (RD.mono P' P.hr _ _ q2'), q3.frz, F4.from P3 back_RR⟩
theorem se_cmp2 (o1 o2 : COp) (a b c : E) (ha : SE P Φ G k a) (hb : SE P Φ G k b) (hcc : SE P Φ G k c) : SE P Φ G k (.cmp2 o1 o2 a b c) := fun X W x gd hc => by
  cases x with
  | Compare a' os bs pos =>
    match os, bs, hc with
    | [p1, p2], [b', c'], hc =>
      simp only [chk, Bool.and_eq_true] at hc
      obtain ⟨⟨h1, h2⟩, h3, h4, h5⟩ := hc
      have hm : lastMarks [p1, p2] [b', c'] = false := by
        show behindInMarks p2 c' = false
        exact shape_marks (chk_shape h5) p2
      have e : eval Φ G (.cmp2 o1 o2 a b c) = fun g h => bd (eval Φ G a g h) fun x h => bd (eval Φ G b g h) fun y h => cmp2K o1 o2 (eval Φ G c) x.frz y.frz g h := by
        funext g h
        simp only [eval]
        rfl
      have isb : ∀ g h r h', eval Φ G (.cmp2 o1 o2 a b c) g h = some (.ok r h') → ∃ b, r = .v (.bl b) := fun g h r h' er => by
        rw [e] at er
        simp only at er
        cases c1 : eval Φ G a g h with
        | none => rw [c1] at er; cases er
        | some o1 =>
          rw [c1] at er
          cases o1 with
          | exc _ _ => cases er
          | ok r1 h1 =>
            simp only [bd_ok] at er
            cases c2 : eval Φ G b g h1 with
            | none => rw [c2] at er; cases er
            | some o2 =>
              rw [c2] at er
              cases o2 with
              | exc _ _ => cases er
              | ok r2 h2 =>
                simp only [bd_ok, cmp2K] at er
                split at er
                · cases er
                  exact ⟨_, rfl⟩
                · cases c3 : eval Φ G c g h2 with
                  | none => rw [c3] at er; cases er
                  | some o3 =>
                    rw [c3] at er
                    cases o3 with
                    | exc _ _ => cases er
                    | ok r3 h3 => exact boolR_bl er
                · cases er
      have A1 := (ha X W a' gd h3).1
      have A2 := (hb X W b' gd h4).1
      have A3 := (hcc X W c' gd h5).1
      refine ⟨PE_imp (pe_chain (opr_cmp (W := W) gd.un o1 p1 h1) (opr_cmp (W := W) gd.un o2 p2 h2) A1 A2 A3 hm) fun σ H Q q => rd_chain ?_,
        PT_imp (pt_chain (opr_cmp (W := W) gd.un o1 p1 h1) (opr_cmp (W := W) gd.un o2 p2 h2) A1 A2 A3 hm) fun σ H Q q => rd_chain ?_⟩
      · rw [e] at q; exact q
      · have q2 := rd_tst q isb
        rw [e] at q2
        exact q2
    | [], _, hc => simp [chk] at hc
    | [_], _, hc => simp [chk] at hc
    | [_, _], [], hc => simp [chk] at hc
    | [_, _], [_], hc => simp [chk] at hc
    | [_, _], _ :: _ :: _ :: _, hc => simp [chk] at hc
    | _ :: _ :: _ :: _, _, hc => simp [chk] at hc
  | _ => simp [chk] at hc

theorem tst_and (a b : E) : tst (eval Φ G (.and a b)) = fun g h => bd (tst (eval Φ G a) g h) fun c h => if c = true then tst (eval Φ G b) g h else some (.ok false h) := by
  funext g h
  simp only [tst, eval, bd_assoc]
  congr 1
  funext r h1
  cases e : tru h1 r.frz with
  | none => rfl
  | some c => cases c <;> simp [ofO, bd_assoc, e]
theorem tst_or (a b : E) : tst (eval Φ G (.or a b)) = fun g h => bd (tst (eval Φ G a) g h) fun c h => if c = true then some (.ok true h) else tst (eval Φ G b) g h := by
  funext g h
  simp only [tst, eval, bd_assoc]
  congr 1
  funext r h1
  cases e : tru h1 r.frz with
  | none => rfl
  | some c => cases c <;> simp [ofO, bd_assoc, e]
theorem tst_ite (c a b : E) : tst (eval Φ G (.ite c a b)) = fun g h => bd (tst (eval Φ G c) g h) fun t h => if t = true then tst (eval Φ G a) g h else tst (eval Φ G b) g h := by
  funext g h
  simp only [tst, eval, bd_assoc]
  congr 1
  funext r h1
  cases e : tru h1 r.frz with
  | none => rfl
  | some c => cases c <;> simp [ofO, bd_assoc, e]
theorem eval_ite (c a b : E) : eval Φ G (.ite c a b) = fun g h => bd (tst (eval Φ G c) g h) fun t h => if t = true then eval Φ G a g h else eval Φ G b g h := by
  funext g h
  simp only [tst, eval, bd_assoc]
  congr 1
  funext r h1
  cases e : tru h1 r.frz with
  | none => rfl
  | some c => cases c <;> simp [ofO]
-- a test, whatever its whole is
theorem pw_of {X : Cx} {op : PySem.BoolOp} {es : List Expr} {pos : Pos} {t : TT} (h : PT X (.BoolOp op es pos) t) : PW X (.BoolOp op es pos) t := ⟨fun whole => h.run⟩
theorem rdT_if {K : PySem.W.Frag} {W : XK} {σ : L2.St} {H : Hp} {Q : Bool → Hp → Prop} {ma : Env → Heap → Res Bool} {mb mc : Env → Heap → Res Bool} {T1 T2 : L2.St → Hp → Prop}
    (q : rT K W (fun g h => bd (ma g h) fun c h => if c = true then mb g h else mc g h) σ H Q)
    (h1 : ∀ H1, rT K W mb σ H1 Q → T1 σ H1) (h2 : ∀ H1, rT K W mc σ H1 Q → T2 σ H1) : rT K W ma σ H (fun c H1 => if c = true then T1 σ H1 else T2 σ H1) := by
  refine rd_bind (ρ := RB) q back_RB fun μ1 g h1' H1 c c' H0 hr er q1 F => ?_
  cases q1
  cases c with
  | true => exact iteT (h1 H1 ⟨μ1, g, h1', hr, er, F⟩)
  | false => exact iteF (h2 H1 ⟨μ1, g, h1', hr, er, F⟩)
theorem rT_ret {K : PySem.W.Frag} {W : XK} {σ : L2.St} {H : Hp} {Q : Bool → Hp → Prop} {b : Bool} (q : rT K W (fun _ h => some (.ok b h)) σ H Q) : Q b H := by
  obtain ⟨μ, g, h, r, er, F⟩ := q
  exact Fin.ok F r rfl
theorem se_and (a b : E) (ha : SE P Φ G k a) (hb : SE P Φ G k b) : SE P Φ G k (.and a b) := fun X W x gd hc => by
  cases x with
  | BoolOp o es pos =>
    match o, es, hc with
    | .And, [], hc => simp [chk] at hc
    | .Or, _, hc => simp [chk] at hc
    | .And, [_], hc => simp [chk] at hc
    | .And, a' :: b' :: rest, hc =>
      have h12 : chk P X.N X.env.scope a a' = true ∧ PE X (.BoolOp .And (b' :: rest) pos) (rE X.K W (eval Φ G b)) ∧ PW X (.BoolOp .And (b' :: rest) pos) (rT X.K W (tst (eval Φ G b))) := by
        cases rest with
        | nil =>
          simp only [chk, Bool.and_eq_true] at hc
          have ih := hb X W b' gd hc.2
          exact ⟨hc.1, pe_one ih.1, pw_and1 ih.2⟩
        | cons c' r' =>
          simp only [chk, Bool.and_eq_true] at hc
          have ih := hb X W _ gd hc.2
          exact ⟨hc.1, ih.1, pw_of ih.2⟩
      obtain ⟨h1, h2, h3⟩ := h12
      have ih := ha X W a' gd h1
      refine ⟨PE_imp (pe_andT ih.1 h2) fun σ H Q q => ?_, PT_imp (pw_and ih.2 h3).pt fun σ H Q q => ?_⟩
      · simp only [eval] at q
        refine rd_bind (ρ := RR X.K) q back_RR fun μ1 g h1 H1 r v H0 hr er q1 F => ?_
        cases e1 : tru h1 r.frz with
        | none => rw [e1] at F; exact F.elim
        | some c =>
          rw [e1] at F
          refine ⟨c, tru_of hr q1.frz e1, ?_⟩
          cases c with
          | false => exact iteF (Fin.ok F hr q1.frz)
          | true =>
            refine iteT ⟨μ1, g, h1, hr, er, F.bind fun r2 h2 v2 H2 μ2 P2 q2 F2 => ?_⟩
            exact (F2.from P2 back_RR).ok P2.hr q2.frz
      · rw [tst_and] at q
        exact rdT_if (T1 := fun σ H1 => rT X.K W (tst (eval Φ G b)) σ H1 Q) (T2 := fun _ H1 => Q false H1) q (fun H1 q => q) fun H1 q => rT_ret q
  | _ => simp [chk] at hc
theorem se_or (a b : E) (ha : SE P Φ G k a) (hb : SE P Φ G k b) : SE P Φ G k (.or a b) := fun X W x gd hc => by
  cases x with
  | BoolOp o es pos =>
    match o, es, hc with
    | .Or, [], hc => simp [chk] at hc
    | .And, _, hc => simp [chk] at hc
    | .Or, [_], hc => simp [chk] at hc
    | .Or, a' :: b' :: rest, hc =>
      have h12 : chk P X.N X.env.scope a a' = true ∧ PE X (.BoolOp .Or (b' :: rest) pos) (rE X.K W (eval Φ G b)) ∧ PW X (.BoolOp .Or (b' :: rest) pos) (rT X.K W (tst (eval Φ G b))) := by
        cases rest with
        | nil =>
          simp only [chk, Bool.and_eq_true] at hc
          have ih := hb X W b' gd hc.2
          exact ⟨hc.1, pe_one ih.1, pw_or1 ih.2⟩
        | cons c' r' =>
          simp only [chk, Bool.and_eq_true] at hc
          have ih := hb X W _ gd hc.2
          exact ⟨hc.1, ih.1, pw_of ih.2⟩
      obtain ⟨h1, h2, h3⟩ := h12
      have ih := ha X W a' gd h1
      refine ⟨PE_imp (pe_orT ih.1 h2) fun σ H Q q => ?_, PT_imp (pw_or ih.2 h3).pt fun σ H Q q => ?_⟩
      · simp only [eval] at q
        refine rd_bind (ρ := RR X.K) q back_RR fun μ1 g h1 H1 r v H0 hr er q1 F => ?_
        cases e1 : tru h1 r.frz with
        | none => rw [e1] at F; exact F.elim
        | some c =>
          rw [e1] at F
          refine ⟨c, tru_of hr q1.frz e1, ?_⟩
          cases c with
          | true => exact iteT (Fin.ok F hr q1.frz)
          | false =>
            refine iteF ⟨μ1, g, h1, hr, er, F.bind fun r2 h2 v2 H2 μ2 P2 q2 F2 => ?_⟩
            exact (F2.from P2 back_RR).ok P2.hr q2.frz
      · rw [tst_or] at q
        exact rdT_if (T1 := fun _ H1 => Q true H1) (T2 := fun σ H1 => rT X.K W (tst (eval Φ G b)) σ H1 Q) q (fun H1 q => rT_ret q) fun H1 q => q
  | _ => simp [chk] at hc
-- a if c else b as a test
theorem pt_ifExp {X : Cx} {c a b : Expr} {pos : Pos} {tc ta tb : TT} (hc : PT X c tc) (ha : PT X a ta) (hb : PT X b tb) : PT X (.IfExp c a b pos) (fun σ H Q => tc σ H fun d H1 => if d = true then ta σ H1 Q else tb σ H1 Q) := by
  refine ⟨fun pins s σ H Q I h => ?_⟩
  have e : isTrue (.IfExp c a b pos) X.env (PySem.eval (.IfExp c a b pos) X.env) = (do if ← isTrue c X.env (PySem.eval c X.env) then isTrue a X.env (PySem.eval a X.env) else isTrue b X.env (PySem.eval b X.env)) := rfl
  rw [e]
  refine wpAny_bind (thn (hc.run pins s σ H _ I h) fun d s1 ⟨H1, I1, q1⟩ => ?_)
  cases d with
  | true => exact ha.run pins s1 σ H1 Q I1 q1
  | false => exact hb.run pins s1 σ H1 Q I1 q1
theorem se_ite (c a b : E) (hcc : SE P Φ G k c) (ha : SE P Φ G k a) (hb : SE P Φ G k b) : SE P Φ G k (.ite c a b) := fun X W x gd hc => by
  cases x with
  | IfExp c' a' b' pos =>
    simp only [chk, Bool.and_eq_true] at hc
    obtain ⟨h1, h2, h3⟩ := hc
    have ic := hcc X W c' gd h1
    have ia := ha X W a' gd h2
    have ib := hb X W b' gd h3
    refine ⟨PE_imp (pe_ifExp ic.2 ia.1 ib.1) fun σ H Q q => ?_, PT_imp (pt_ifExp ic.2 ia.2 ib.2) fun σ H Q q => ?_⟩
    · rw [eval_ite] at q
      refine rd_bind (ρ := RB) q back_RR fun μ1 g h1' H1 c c' H0 hr er q1 F => ?_
      cases q1
      cases c with
      | true => exact iteT ⟨μ1, g, h1', hr, er, F⟩
      | false => exact iteF ⟨μ1, g, h1', hr, er, F⟩
    · rw [tst_ite] at q
      exact rdT_if (T1 := fun σ H1 => rT X.K W (tst (eval Φ G a)) σ H1 Q) (T2 := fun σ H1 => rT X.K W (tst (eval Φ G b)) σ H1 Q) q (fun H1 q => q) fun H1 q => q
  | _ => simp [chk] at hc
theorem ses_nil : SEs P Φ G k [] := fun X W xs gd hc => by
  cases xs with
  | nil =>
    refine PA_imp pa_nil fun σ H Q ⟨μ, g, h, r, er, F⟩ => ?_
    simp only [evals] at F
    exact Fin.ok F r (by simp [RA, RDs])
  | cons _ _ => simp [chks] at hc
theorem ses_cons (e : E) (es : List E) (he : SE P Φ G k e) (hes : SEs P Φ G k es) : SEs P Φ G k (e :: es) := fun X W xs gd hc => by
  cases xs with
  | nil => simp [chks] at hc
  | cons x xs =>
    simp only [chks, Bool.and_eq_true] at hc
    obtain ⟨h1, h2⟩ := hc
    refine PA_imp (pa_cons (he X W x gd h1).1 (hes X W xs gd h2) (shape_star (chk_shape h1) _ _)) fun σ H Q q => ?_
    simp only [evals] at q
    refine rd_bind (ρ := RR X.K) q back_RA fun μ1 g h1 H1 r v H0 hr er q1 F => ?_
    refine ⟨μ1, g, h1, hr, er, F.bind fun ds h2 vs H2 μ2 P2 q2 F2 => ?_⟩
    refine (F2.from P2 back_RA).ok P2.hr ?_
    simp only [RA, RDs]
    exact ⟨v, vs, rfl, RD.mono P2 hr _ _ q1.frz, q2⟩
theorem fz_new {K : PySem.W.Frag} {μ : Mu} {h : Heap} {H : Hp} (r : HR K μ h H) {p : Addr} (hp : H p = none) : ∀ q, q < h.length → μ q ≠ p := r.ne_none hp
theorem fz_s {K : PySem.W.Frag} {μ : Mu} {h : Heap} {H : Hp} (r : HR K μ h H) {p : Addr} (hp : H p = none) : ¬ μ.s p := fun z => r.sn p z hp
theorem se_tup (es : List E) (hes : SEs P Φ G k es) : SE P Φ G k (.tup es) := fun X W x gd hc => by
  cases x with
  | Tuple es' j pos =>
    simp only [chk] at hc
    have pe : PE X (.Tuple es' j pos) (rE X.K W (eval Φ G (.tup es))) := by
      refine PE_imp (pe_tup (hes X W es' gd hc)) fun σ H Q q => ?_
      simp only [eval] at q
      refine rd_bind (ρ := RA X.K) q back_RR fun μ1 g h1 H1 ds vs H0 hr er q1 F => ?_
      unfold tupM at F
      split at F
      · rename_i hl
        refine ⟨by rw [RDs.length q1, lim_line]; exact hl, fun p hp => ?_⟩
        have Pn := Post.new (o := .tup vs) hr hp
        refine F.okP Pn ?_
        show RD X.K μ1 h1.length _ (.tup ds) (.ref p)
        simp only [RD]
        exact ⟨p, vs, rfl, .inl (.inl upd_same), RDs.mono Pn hr _ _ q1⟩
      · exact F.elim
    exact ⟨pe, pt_plain pe rfl⟩
  | _ => simp [chk] at hc
theorem se_lst (es : List E) (hes : SEs P Φ G k es) : SE P Φ G k (.lst es) := fun X W x gd hc => by
  cases x with
  | List es' pos =>
    simp only [chk] at hc
    have pe : PE X (.List es' pos) (rE X.K W (eval Φ G (.lst es))) := by
      refine PE_imp (pe_lst (hes X W es' gd hc)) fun σ H Q ⟨μ, g, h, r, er, F⟩ => ?_
      simp only [eval] at F
      refine ⟨μ, g, h, r, er, F.bind fun ds h1 vs H1 μ1 P1 q1 F1 => ?_⟩
      unfold lstM at F1
      split at F1
      · rename_i hl
        refine ⟨by rw [RDs.length q1, lim_line]; exact hl, fun p hp => ?_⟩
        have Pn := Post.new (o := .lst vs) P1.hr hp
        exact F1 (.ref p) _ μ1 (P1.trans Pn) (RR.mk P1.hr hp (P1.none_back hp) q1)
      · exact F1.elim
    exact ⟨pe, pt_plain pe rfl⟩
  | _ => simp [chk] at hc
theorem atZ_I {α : Type} (l : List α) (i : Int) : atI l i = atZ l i := by
  unfold atI ixN atZ
  by_cases h0 : 0 ≤ i
  · rw [if_pos h0, if_pos h0]
    by_cases h1 : i < l.length
    · rw [if_pos h1]
      rfl
    · rw [if_neg h1]
      show none = _
      rw [List.getElem?_eq_none]
      omega
  · rw [if_neg h0, if_neg h0]
    split <;> rfl
theorem se_ix (a b : E) (ha : SE P Φ G k a) (hb : SE P Φ G k b) : SE P Φ G k (.ix a b) := fun X W x gd hc => by
  cases x with
  | Subscript a' b' pos =>
    simp only [chk, Bool.and_eq_true] at hc
    obtain ⟨h1, h2⟩ := hc
    have pe : PE X (.Subscript a' b' pos) (rE X.K W (eval Φ G (.ix a b))) := by
      have hr : IxR X (r2 X.K W ixM) := by
        refine IxR_imp (IxR.or ix_list ix_tup) fun x y H Q ⟨μ, h, d1, d2, r, q1, q2, F⟩ => ?_
        unfold ixM at F
        cases e : ixD h d1 d2 with
        | none => rw [e] at F; exact F.elim
        | some d =>
          rw [e] at F
          unfold ixD at e
          cases c : seqOf h d1 with
          | none => rw [c] at e; cases e
          | some l =>
            rw [c] at e
            cases d2 with
            | int i =>
              simp only at e
              cases q2
              obtain ⟨a, vs, rfl, s, t⟩ := seq_of r q1 c
              rw [← atZ_I] at e
              have hv : ∃ v, atI vs i = some v ∧ RD X.K μ h.length H d v := by
                unfold atI at e ⊢
                rw [t.length]
                cases e3 : ixN l.length i with
                | none => rw [e3] at e; cases e
                | some j =>
                  rw [e3] at e
                  exact t.get j d e
              obtain ⟨v, e4, q4⟩ := hv
              rcases s with s | s
              · exact .inl ⟨a, vs, i, v, rfl, rfl, s, e4, Fin.ok F r q4⟩
              · exact .inr ⟨a, vs, i, v, rfl, rfl, s, e4, Fin.ok F r q4⟩
            | _ => cases e
      refine PE_imp (pe_ix hr (ha X W a' gd h1).1 (hb X W b' gd h2).1 (shape_ix (chk_shape h2))) fun σ H Q q => rd_two (f := ixM) ?_
      simpa only [eval] using q
    exact ⟨pe, pt_plain pe rfl⟩
  | _ => simp [chk] at hc
end
end MP

/-! MP.Snd5: what is walked. -/
namespace MP
open PySem PySem.Spec PyProof.Rows L2

/-! ### enumerate(tuple) -/
theorem meets_enum1 {v : Value} {o : Obj} {H : PySem.Heap → Prop} (B : Begins v o H) :
    Meets (Builtin.«enumerate.__new__» ⟨[.type "enumerate", v], []⟩) (fun _ R s => H s.heap ∧
      R (.ok (.ret (.ref (s.heap.push o).objs.size))) { s with heap := (s.heap.push o).push { cls := .type "enumerate", data := .fields #[.none, .bool false, .ref s.heap.objs.size, rawInt 0, .none, .none] } }) :=
  .of_wp fun prog w A R s h => by
    obtain ⟨hp, g, d, tk, os⟩ := s
    obtain ⟨h1, h⟩ := h
    have hsub := PySem.sub_enumerate
    have q1 : ∀ {A' : Around} {E : Value → Shared → Prop} {Q : Value → Shared → Prop}, Q (.ref hp.objs.size) ⟨hp.push o, g, d, tk, os⟩ → wpAny (model prog w) A' (pyIter v) Q E ⟨hp, g, d, tk, os⟩ :=
      fun q => B.iter prog w _ _ ⟨hp, g, d, tk, os⟩ _ h1 q
    wp_walk using q1
    refine wpAny_stack_any fun st => wpAny_pure ?_
    split
    · rename_i c _ _ _ _ _
      cases (c == Value.type "enumerate")
      · wp_walk using q1
        exact ⟨_, rfl, h⟩
      · wp_walk using q1
        exact ⟨_, rfl, h⟩
    · wp_walk using q1
      exact ⟨_, rfl, h⟩
section
variable {prog : Program} {w : World} {A : Around} {E : Value → Shared → Prop} {s : Shared}
theorem call_enum1 {v : Value} {o : Obj} {H : PySem.Heap → Prop} {Q : Value → Shared → Prop} (B : Begins v o H) (h1 : H s.heap)
    (h : ∀ h', IsEnum h' (s.heap.objs.size + 1) s.heap.objs.size 0 .none → h'.get? s.heap.objs.size = some o → h'.objs.size = s.heap.objs.size + 2 →
      (∀ b o, s.heap.get? b = some o → h'.get? b = some o) → Q (.ref (s.heap.objs.size + 1)) { s with heap := h' }) :
    wpAny (model prog w) A (call (.type "enumerate") [v]) Q E s := by
  refine callType_new F.called_enumerate (by decide) (F.typeCall_enumerate_1 _) (F.newCall_enumerate_1 _) (fun obj => F.args_object_init_2 obj _) F.entry_enumerate_new
    (meets_enum1 B) ⟨h1, ?_⟩
  have hz : (s.heap.push o).objs.size = s.heap.objs.size + 1 := Heap.size_push ..
  show _ ∧ _
  rw [hz]
  have he : IsEnum ((s.heap.push o).push { cls := .type "enumerate", data := .fields #[.none, .bool false, .ref s.heap.objs.size, rawInt 0, .none, .none] }) (s.heap.objs.size + 1) s.heap.objs.size 0 .none := by
    have := Heap.get?_push_size (s.heap.push o) (o := { cls := .type "enumerate", data := .fields #[.none, .bool false, .ref s.heap.objs.size, rawInt 0, .none, .none] }) rfl
    rw [hz] at this
    exact this
  refine ⟨⟨_, he, rfl⟩, h _ he (Heap.get?_push_of_some _ (Heap.get?_push_size _ B.free)) (by rw [Heap.size_push, hz]) fun b o x => Heap.get?_push_of_some _ (Heap.get?_push_of_some _ x)⟩
end
-- the tuple at a, each item in a new pair
def Iet (K : PySem.W.Frag) (a : Addr) : It :=
  ⟨fun i H => ∃ (xs : List V) (x : V), SqT K H a xs ∧ xs[i]? = some x, fun i H v H' => ∃ T x, v = .ref T ∧ H T = none ∧ H' = upd H T (.tup [.int (i : Nat), x]) ∧ ∀ xs, SqT K H a xs → xs[i]? = some x, fun i H => ∃ xs : List V, SqT K H a xs ∧ xs.length ≤ i⟩
theorem turn_enumT {P : Program} {w : World} {K : PySem.W.Frag} {elts : List Expr} {kk : Nat} {tpos : Pos} (a e it : Addr) :
    Turn P w K (.Tuple elts kk tpos) (Iet K a) [e, it] e (fun i h => (∃ old, IsEnum h e it ((i : Nat) : Int) old) ∧ h.IsTupleIter it a i ∧ e ≠ it ∧ a ≠ it ∧ a ≠ e) where
  mem := by simp
  obj := fun i h st b hb => by
    obtain ⟨⟨old, he⟩, ⟨o, ho, hc, hd⟩, _⟩ := st
    have e' : b = e ∨ b = it := by simpa using hb
    rcases e' with z | z
    · rw [z]; exact ⟨_, he, fun v q => nomatch q⟩
    · rw [z]; exact ⟨o, ho, fun v q => by rw [hd] at q; cases q⟩
  keep := fun i h h' st k => let ⟨⟨old, he⟩, hi, hne⟩ := st; ⟨⟨old, k e (by simp) _ he⟩, hi.at fun o q => k it (by simp) o q, hne⟩
  item := by
    intro X hP hw hK hc i pins s σ H E I hf st hg
    subst hP hw hK
    obtain ⟨⟨old, he⟩, hit, hne, hai, hae⟩ := st
    obtain ⟨xs, x, hq, hx⟩ := hg
    obtain ⟨its, rv, p, hz⟩ := I.tuple hq
    obtain ⟨u, hu, ru⟩ := rv.get hx
    have hel : e < s.heap.objs.size := Heap.lt_size he
    have hil : it < s.heap.objs.size := by obtain ⟨_, q, _⟩ := hit; exact Heap.lt_size q
    have D := Draws.tuple (prog := X.prog) (w := X.w) (A := X.A.in1) (I.ok.hd hc) it a hai its.toArray
    have hlt : i < its.toArray.size := by
      rcases Nat.lt_or_ge i its.length with q | q
      · simpa using q
      · rw [List.getElem?_eq_none q] at hu; cases hu
    refine wpAny_pyNext_enum_itemD D he ⟨hit, show s.heap.IsTuple a its.toArray from p⟩ hlt hne (by simp; exact ⟨hne, Ne.symm hae⟩) fun y h' tk hy ho hit' hT hsz hk => ?_
    have hyu : y = u := by
      have h2 : its.toArray[i]? = some u := by simpa using hu
      rw [h2] at hy
      exact (Option.some.inj hy).symm
    subst hyu
    refine ⟨_, rfl, wpAny_letOwnedTupleGo_enum (s := { s with heap := h', toks := tk + 1 }) ho fun h'' he' sb => ?_⟩
    have hT2 : h''.get? s.heap.objs.size = some { cls := .type "tuple", data := .seq #[.int i tk, y] } := (sb.2 _ (Nat.ne_of_gt hel)).trans hT
    have new : ObjOk X.prog X.w (upd H s.heap.objs.size (.tup [.int (i : Nat), x])) h'' s.heap.objs.size (.tup [.int (i : Nat), x]) :=
      ⟨by show 2 ≤ sizeLine; decide, [.int i tk, y], .cons ⟨_, rfl⟩ (.cons ru .nil), ⟨_, hT2, rfl, _, rfl⟩⟩
    have I1 : Inv X pins σ (upd H s.heap.objs.size (.tup [.int (i : Nat), x])) { s with heap := h'', toks := tk + 1 } :=
      I.turnedNew (ch := [e, it]) (fun b ob hb q => (sb.2 b (fun z => hb (by simp [z]))).trans (hk b ob (fun z => hb (by simp [z])) (fun z => hb (by simp [z])) q)) hf (Nat.le_refl _) new
    refine ⟨.ref s.heap.objs.size, _, I1, rfl, ⟨_, x, rfl, I.hok.fresh (Nat.le_refl _), rfl, fun ys hy => by rw [I.tuple_inj hy hq]; exact hx⟩, ⟨⟨y, ?_⟩, hit'.1.at fun o q => (sb.2 it (Ne.symm hne)).trans q, hne, hai, hae⟩, fun b hb => ?_⟩
    · have e1 : ((i + 1 : Nat) : Int) = (i : Int) + 1 := by omega
      rw [e1]; exact he'
    · have hb' : b < s.heap.objs.size := by
        have e' : b = e ∨ b = it := by simpa using hb
        rcases e' with z | z
        · rw [z]; exact hel
        · rw [z]; exact hil
      rw [upd_ne (Nat.ne_of_lt hb')]
      exact (hf b hb).1
  done := by
    intro X hP hw hK hc i pins s σ H E I hf st hg
    subst hP hw hK
    obtain ⟨⟨old, he⟩, hit, hne, hai, hae⟩ := st
    obtain ⟨xs, hq, hx⟩ := hg
    obtain ⟨its, rv, p, hz⟩ := I.tuple hq
    obtain ⟨f0, f1, f2, f3, f4, f5⟩ := hf it (by simp)
    have hl := rv.length
    have pT : s.heap.IsTuple a its.toArray := p
    have hh : X.A.in1.handled = none := I.ok.hd hc
    have hT : s.TypeIs (.ref e) "enumerate" := ⟨_, he, rfl⟩
    unfold pyNext
    refine wpAny_bind (wpAny_attempt (wpAny_callSpecial?_slot (name := Str.ofString "__next__") hT F.slot_enumerate_next
      (wpAny_call_entry F.slot_enumerate_next hT F.entry_enumerate_next ?_ (F.args_enumerate_next_1 _))))
    show wpAny _ _ (field (.ref e) 2 >>= _) _ _ _
    refine wpAny_bind (wpAny_field he rfl (x := .ref it) rfl ?_)
    refine wpAny_bind (wpAny_nextOf_tuple_end hh hit pT (by simp; omega) fun h' x he' hx' => ?_)
    obtain ⟨o, ho, hc2⟩ := hx'
    refine wpAny_bind (wpAny_isInstance (T := "StopIteration") (b := true) ⟨o, ho, hc2⟩ isSubtype_stop ?_)
    exact wpAny_pure ⟨rfl, I.turned (t' := s.toks) (fun b o hb q => he' b o hb q) f0 f1 f3 f4 f5⟩
  self := fun A i s Q E st h => let ⟨⟨_, he⟩, _⟩ := st; wpAny_pyIter_enum he h
-- enumerate of a list or of a tuple
def iEnumA (K : PySem.W.Frag) (ta : TA) : TI := fun σ H R => ta σ H fun vs H1 => ∃ a xs, vs = [.ref a] ∧ ((SqL K H1 a xs ∧ R (Ite K a) H1) ∨ (SqT K H1 a xs ∧ R (Iet K a) H1))
theorem pi_enumA {X : Cx} {e : Expr} {ta : TA} {p pos tpos : Pos} {elts : List Expr} {kk : Nat} (hg : Gl X "enumerate") (hm : X.mg "enumerate" = none) (ha : PA X [e] ta) (hs : starEach [e] X.env = [(false, PySem.eval e X.env)]) :
    PI X (.Tuple elts kk tpos) (.Call (.Name "enumerate" p) [e] [] pos) (iEnumA X.K ta) := by
  refine ⟨fun pins s σ H R I h => ?_⟩
  refine Call_ (ld_blt I hg hm boot_enumerate (PyProof.Rows.callWith_type1 (thn (ha.run pos pins s σ H _ I h) fun us s1 ⟨vs, H1, I1, r1, q1⟩ => ?_) hs rfl))
  obtain ⟨a, xs, ex, q⟩ := q1
  subst ex
  cases r1 with
  | cons r rr =>
    cases rr
    cases r
    have fr : ∀ b ∈ [s1.heap.objs.size + 1, s1.heap.objs.size], FpOk X pins H1 b := fun b hb => by
      have e' : b = s1.heap.objs.size + 1 ∨ b = s1.heap.objs.size := by simpa using hb
      have hle : s1.heap.objs.size ≤ b := by
        rcases e' with z | z
        · rw [z]; exact Nat.le_add_right _ _
        · rw [z]; exact Nat.le_refl _
      exact I1.fpOk hle (I1.hok.fresh hle)
    rcases q with ⟨hq, q⟩ | ⟨hq, q⟩
    · obtain ⟨its, rv, p', hz⟩ := I1.list hq
      refine call_enumerate_list p'.isList fun h' he hit hsz hk => wpAny_pyIter_enum he ?_
      have I2 : Inv X pins σ H1 { s1 with heap := h' } := I1.kept (t' := s1.toks) hk
      exact ⟨s1.heap.objs.size + 1, [s1.heap.objs.size + 1, s1.heap.objs.size], _, _, H1, rfl, I2, turn_enum a (s1.heap.objs.size + 1) s1.heap.objs.size, ⟨⟨.none, he⟩, hit, Nat.succ_ne_self _⟩, fr, q⟩
    · obtain ⟨its, rv, p', hz⟩ := I1.tuple hq
      have pT : s1.heap.IsTuple a its.toArray := p'
      have hal : a < s1.heap.objs.size := by obtain ⟨_, e1, _⟩ := p'; exact Heap.lt_size e1
      refine call_enum1 (begins_tuple a its.toArray) pT fun h' he hit hsz hk => wpAny_pyIter_enum he ?_
      have I2 : Inv X pins σ H1 { s1 with heap := h' } := I1.kept (t' := s1.toks) hk
      exact ⟨s1.heap.objs.size + 1, [s1.heap.objs.size + 1, s1.heap.objs.size], _, _, H1, rfl, I2, turn_enumT a (s1.heap.objs.size + 1) s1.heap.objs.size, ⟨⟨.none, he⟩, ⟨_, hit, rfl, rfl⟩, Nat.succ_ne_self _, Nat.ne_of_lt hal, Nat.ne_of_lt (Nat.lt_succ_of_lt hal)⟩, fr, q⟩
-- a list or a tuple
theorem pi_seq {X : Cx} {tg l : Expr} {tl : TE} (hl : PE X l tl) :
    PI X tg l (fun σ H R => tl σ H fun x H1 => ∃ a, x = .ref a ∧ (((∃ xs, SqL X.K H1 a xs) ∧ R (Itl X.K a) H1) ∨ ((∃ xs, SqT X.K H1 a xs) ∧ R (Itt X.K a) H1))) := by
  refine ⟨fun pins s σ H R I h => ?_⟩
  refine thn (hl.run pins s σ H _ I h) fun v s1 ⟨x, H1, I1, r1, q1⟩ => ?_
  obtain ⟨a, e, q⟩ := q1
  subst e
  cases r1
  have fr : ∀ b ∈ [s1.heap.objs.size], FpOk X pins H1 b := fun b hb => by
    have e : b = s1.heap.objs.size := by simpa using hb
    subst e
    exact I1.fpOk (Nat.le_refl _) (I1.hok.fresh (Nat.le_refl _))
  rcases q with ⟨⟨xs, hq⟩, q⟩ | ⟨⟨xs, hq⟩, q⟩
  · obtain ⟨its, rv, p, hz⟩ := I1.list hq
    refine wpAny_pyIter_list p.isList ?_
    exact ⟨s1.heap.objs.size, [s1.heap.objs.size], _, _, H1, rfl, I1.kept (t' := s1.toks) fun b o e => Heap.get?_push_of_some _ e, turn_list a _, ⟨_, Heap.get?_push_size _ rfl, rfl, rfl⟩, fr, q⟩
  · obtain ⟨its, rv, p, hz⟩ := I1.tuple hq
    refine wpAny_pyIter_tuple (show s1.heap.IsTuple a its.toArray from p) ?_
    exact ⟨s1.heap.objs.size, [s1.heap.objs.size], _, _, H1, rfl, I1.kept (t' := s1.toks) fun b o e => Heap.get?_push_of_some _ e, turn_tuple a _, ⟨_, Heap.get?_push_size _ rfl, rfl, rfl⟩, fr, q⟩
end MP

/-! MP.Snd6: items of a walk. -/
namespace MP
open PySem PySem.Spec PyProof.Rows L2

-- a walk over known items, whatever is done as long as its source stays
def WalkD (K : PySem.W.Frag) (its : Items) (J : It) (μ1 : Mu) (h1 : Heap) (H1 : Hp) : Prop :=
  ∀ μ2 h2 H2, Post K μ1 h1 H1 μ2 h2 H2 → still its h2 = true →
    (∀ i, i < its.1.length → J.go i H2) ∧ J.stop its.1.length H2 ∧
      ∀ i x H3, i < its.1.length → J.yld i H2 x H3 → ∃ d, its.1[i]? = some d ∧ Post K μ2 h2 H2 μ2 h2 H3 ∧ RD K μ2 h2.length H3 d x
def RI (K : PySem.W.Frag) : Rel Items It := fun μ h _ H its J => WalkD K its J μ h H ∧ still its h = true
theorem back_RI {K : PySem.W.Frag} : Back K (RI K) := fun _ q => q
section
variable {K : PySem.W.Frag} {μ : Mu} {h : Heap} {H : Hp}
theorem RDs.none_of {l : List D} {vs : List V} {n : Nat} (q : RDs K μ n H l vs) {i : Nat} {v : V} (e : vs[i]? = some v) : ∃ d, l[i]? = some d ∧ RD K μ n H d v := by
  have hl : i < vs.length := by
    rcases Nat.lt_or_ge i vs.length with q' | q'
    · exact q'
    · rw [List.getElem?_eq_none q'] at e; cases e
  have hl2 : i < l.length := by rw [← q.length]; exact hl
  obtain ⟨v', e1, e2⟩ := q.get i l[i] (List.getElem?_eq_getElem hl2)
  rw [e] at e1
  cases e1
  exact ⟨_, List.getElem?_eq_getElem hl2, e2⟩
-- a list, as it stands in each later state
theorem walkd_list {its : Items} {a : Addr} (hs : ∀ μ2 h2 H2, Post K μ h H μ2 h2 H2 → still its h2 = true → ∃ vs, SqL K H2 a vs ∧ RDs K μ2 h2.length H2 its.1 vs) : WalkD K its (Itl K a) μ h H := fun μ2 h2 H2 P st => by
  obtain ⟨vs, sq, q⟩ := hs μ2 h2 H2 P st
  refine ⟨fun i hi => ?_, ⟨vs, sq, by rw [q.length]; exact Nat.le_refl _⟩, fun i x H3 hi y => ?_⟩
  · obtain ⟨v, e, _⟩ := q.get i _ (List.getElem?_eq_getElem hi)
    exact ⟨vs, v, sq, e⟩
  · obtain ⟨e, y⟩ := y
    subst e
    obtain ⟨d, e1, e2⟩ := q.none_of (y vs sq)
    exact ⟨d, e1, Post.refl P.hr, e2⟩
theorem walkd_tup {l : List D} {a : Addr} {vs : List V} (r : HR K μ h H) (s : SqT K H a vs) (t : RDs K μ h.length H l vs) : WalkD K (l, none) (Itt K a) μ h H := fun μ2 h2 H2 P st => by
  have sq := P.rdT r s
  have q := RDs.mono P r _ _ t
  refine ⟨fun i hi => ?_, ⟨vs, sq, by rw [q.length]; exact Nat.le_refl _⟩, fun i x H3 hi y => ?_⟩
  · obtain ⟨v, e, _⟩ := q.get i _ (List.getElem?_eq_getElem hi)
    exact ⟨vs, v, sq, e⟩
  · obtain ⟨e, y⟩ := y
    subst e
    obtain ⟨d, e1, e2⟩ := q.none_of (y vs sq)
    exact ⟨d, e1, Post.refl P.hr, e2⟩
theorem walkd_fz {l : List D} {a : Addr} {vs : List V} (r : HR K μ h H) (s : FzL K μ h.length H a vs) (t : RDs K μ h.length H l vs) : WalkD K (l, none) (Itl K a) μ h H :=
  walkd_list fun μ2 h2 H2 P st => ⟨vs, (P.fz r s).sqk, RDs.mono P r _ _ t⟩
theorem walkd_fz0 {l : List D} {a : Addr} {vs : List V} (r : HR K μ h H) (s : FzL [] μ h.length H a vs) (t : RDs K μ h.length H l vs) : WalkD K (l, none) (Itl K a) μ h H :=
  walkd_list fun μ2 h2 H2 P st => ⟨vs, (P.fz r s).sq, RDs.mono P r _ _ t⟩
theorem walkd_loc {l : List D} {p : Nat} (hp : p < h.length) : WalkD K (l, some p) (Itl K (μ p)) μ h H :=
  walkd_list fun μ2 h2 H2 P st => by
    have e : h2[p]? = some (.lst l) := by
      unfold still at st
      simpa using st
    obtain ⟨vs, e1, e2⟩ := P.hr.ob p _ e
    rw [P.ext p hp] at e1
    exact ⟨vs, .inl (.inl e1), e2⟩
theorem walkd_range (lo hi : Int) : WalkD K (rangeD lo hi, none) (Itr lo (hi - lo).toNat) μ h H := fun μ2 h2 H2 P st => by
  have hl : (rangeD lo hi).length = (hi - lo).toNat := by simp [rangeD]
  refine ⟨fun i hi => by rw [hl] at hi; exact hi, by rw [hl]; exact Nat.le_refl _, fun i x H3 hi' y => ?_⟩
  obtain ⟨e, e2⟩ := y
  subst e e2
  rw [hl] at hi'
  refine ⟨.int (lo + (i : Int)), ?_, Post.refl P.hr, rfl⟩
  simp [rangeD, hi']
-- a new pair of plain parts
theorem pair_new {μ2 : Mu} {h2 : Heap} {H2 : Hp} (r : HR K μ2 h2 H2) {T : Addr} {d e : D} {x y : V} (hT : H2 T = none) (q1 : RD K μ2 h2.length H2 d x) (q2 : RD K μ2 h2.length H2 e y) :
    Post K μ2 h2 H2 μ2 h2 (upd H2 T (.tup [x, y])) ∧ RD K μ2 h2.length (upd H2 T (.tup [x, y])) (.tup [d, e]) (.ref T) := by
  have Pn := Post.new (o := .tup [x, y]) r hT
  refine ⟨Pn, ?_⟩
  simp only [RD]
  refine ⟨T, [x, y], rfl, .inl (.inl upd_same), ?_⟩
  simp only [RDs]
  exact ⟨x, [y], rfl, RD.mono Pn r _ _ q1, y, [], rfl, RD.mono Pn r _ _ q2, rfl⟩
theorem enumD_get (l : List D) (i : Nat) : (enumD l)[i]? = (l[i]?).map fun d => D.tup [.int (i : Int), d] := by
  unfold enumD
  rw [List.getElem?_zipWith]
  by_cases hi : i < l.length
  · simp [hi]
  · simp [hi]
theorem enumD_length (l : List D) : (enumD l).length = l.length := by simp [enumD]
theorem walkd_enumL {l : List D} {a : Addr} {vs : List V} (r : HR K μ h H) (s : FzL [] μ h.length H a vs) (t : RDs K μ h.length H l vs) : WalkD K (enumD l, none) (Ite K a) μ h H := fun μ2 h2 H2 P st => by
  have sq : SqL K H2 a vs := (P.fz r s).sq
  have q := RDs.mono P r _ _ t
  refine ⟨fun i hi => ?_, ⟨vs, sq, by rw [q.length, enumD_length]; exact Nat.le_refl _⟩, fun i x H3 hi y => ?_⟩
  · rw [enumD_length] at hi
    obtain ⟨v, e, _⟩ := q.get i _ (List.getElem?_eq_getElem hi)
    exact ⟨vs, v, sq, e⟩
  · obtain ⟨T, x', rfl, hT, rfl, y⟩ := y
    obtain ⟨d, e1, e2⟩ := q.none_of (y vs sq)
    obtain ⟨p1, p2⟩ := pair_new P.hr hT (show RD K μ2 h2.length H2 (.int (i : Int)) (.int (i : Nat)) from rfl) e2
    exact ⟨_, by rw [enumD_get, e1]; rfl, p1, p2⟩
theorem walkd_enumT {l : List D} {a : Addr} {vs : List V} (r : HR K μ h H) (s : SqT K H a vs) (t : RDs K μ h.length H l vs) : WalkD K (enumD l, none) (Iet K a) μ h H := fun μ2 h2 H2 P st => by
  have sq := P.rdT r s
  have q := RDs.mono P r _ _ t
  refine ⟨fun i hi => ?_, ⟨vs, sq, by rw [q.length, enumD_length]; exact Nat.le_refl _⟩, fun i x H3 hi y => ?_⟩
  · rw [enumD_length] at hi
    obtain ⟨v, e, _⟩ := q.get i _ (List.getElem?_eq_getElem hi)
    exact ⟨vs, v, sq, e⟩
  · obtain ⟨T, x', rfl, hT, rfl, y⟩ := y
    obtain ⟨d, e1, e2⟩ := q.none_of (y vs sq)
    obtain ⟨p1, p2⟩ := pair_new P.hr hT (show RD K μ2 h2.length H2 (.int (i : Int)) (.int (i : Nat)) from rfl) e2
    exact ⟨_, by rw [enumD_get, e1]; rfl, p1, p2⟩
theorem walkd_zipL {l m : List D} {a b : Addr} {vs ws : List V} (r : HR K μ h H) (s : FzL [] μ h.length H a vs) (t : RDs K μ h.length H l vs) (s2 : FzL [] μ h.length H b ws) (t2 : RDs K μ h.length H m ws) :
    WalkD K (l.zipWith (fun x y => D.tup [x, y]) m, none) (Itz K a b) μ h H := fun μ2 h2 H2 P st => by
  have sq : SqL K H2 a vs := (P.fz r s).sq
  have sq2 : SqL K H2 b ws := (P.fz r s2).sq
  have q := RDs.mono P r _ _ t
  have q2 := RDs.mono P r _ _ t2
  have hl : (l.zipWith (fun x y => D.tup [x, y]) m).length = min l.length m.length := List.length_zipWith
  refine ⟨fun i hi => ?_, ⟨vs, ws, sq, sq2, by rw [q.length, q2.length]; simp only [hl]; omega⟩, fun i x H3 hi y => ?_⟩
  · simp only [hl] at hi
    obtain ⟨v, e, _⟩ := q.get i _ (List.getElem?_eq_getElem (show i < l.length by omega))
    obtain ⟨v2, e2, _⟩ := q2.get i _ (List.getElem?_eq_getElem (show i < m.length by omega))
    exact ⟨vs, ws, v, v2, sq, sq2, e, e2⟩
  · obtain ⟨T, x', y', rfl, hT, rfl, y1, y2⟩ := y
    obtain ⟨d, e1, e2⟩ := q.none_of (y1 vs sq)
    obtain ⟨d', e3, e4⟩ := q2.none_of (y2 ws sq2)
    obtain ⟨p1, p2⟩ := pair_new P.hr hT e2 e4
    exact ⟨_, by simp [List.getElem?_zipWith, e1, e3], p1, p2⟩
theorem walkd_zipT {l m : List D} {a b : Addr} {vs ws : List V} (r : HR K μ h H) (s : SqT K H a vs) (t : RDs K μ h.length H l vs) (s2 : SqT K H b ws) (t2 : RDs K μ h.length H m ws) :
    WalkD K (l.zipWith (fun x y => D.tup [x, y]) m, none) (RZ.ItzT K a b) μ h H := fun μ2 h2 H2 P st => by
  have sq := P.rdT r s
  have sq2 := P.rdT r s2
  have q := RDs.mono P r _ _ t
  have q2 := RDs.mono P r _ _ t2
  have hl : (l.zipWith (fun x y => D.tup [x, y]) m).length = min l.length m.length := List.length_zipWith
  refine ⟨fun i hi => ?_, ⟨vs, ws, sq, sq2, by rw [q.length, q2.length]; simp only [hl]; omega⟩, fun i x H3 hi y => ?_⟩
  · simp only [hl] at hi
    obtain ⟨v, e, _⟩ := q.get i _ (List.getElem?_eq_getElem (show i < l.length by omega))
    obtain ⟨v2, e2, _⟩ := q2.get i _ (List.getElem?_eq_getElem (show i < m.length by omega))
    exact ⟨vs, ws, v, v2, sq, sq2, e, e2⟩
  · obtain ⟨T, x', y', rfl, hT, rfl, y1, y2⟩ := y
    obtain ⟨d, e1, e2⟩ := q.none_of (y1 vs sq)
    obtain ⟨d', e3, e4⟩ := q2.none_of (y2 ws sq2)
    obtain ⟨p1, p2⟩ := pair_new P.hr hT e2 e4
    exact ⟨_, by simp [List.getElem?_zipWith, e1, e3], p1, p2⟩
end

section
variable (P : PInfo) (Φ : Nat → List D → Heap → Res R) (G : Nat → Option D) (k : Nat)
def SI (i : I) : Prop := ∀ (X : Cx) (W : XK) (tg x : Expr), Good P Φ G k X W → chkI P X.N X.env.scope i x = true → (tupI i = true → isTupE tg = true) → PI X tg x (rd X.K W (RI X.K) (items Φ G i))
end
theorem PI_imp {X : Cx} {tg e : Expr} {t t' : TI} (p : PI X tg e t) (i : ∀ σ H Q, t' σ H Q → t σ H Q) : PI X tg e t' := ⟨fun pins s σ H Q I q => p.run pins s σ H Q I (i σ H Q q)⟩
section
variable {P : PInfo} {Φ : Nat → List D → Heap → Res R} {G : Nat → Option D} {k : Nat}
theorem rd_it {K : PySem.W.Frag} {W : XK} {σ : L2.St} {H : Hp} {R : It → Hp → Prop} {ma : Env → Heap → Res MP.R} {f : D → Heap → Res Items} {T : V → Hp → Prop}
    (q : rd K W (RI K) (fun g h => bd (ma g h) fun r h => f r.frz h) σ H R) (hT : ∀ μ h H d v, HR K μ h H → RD K μ h.length H d v → Fin K W (RI K) μ h H (f d h) R → T v H) : rE K W ma σ H T :=
  rd_bind (ρ := RR K) (ρ' := RI K) (k := fun g r h => f r.frz h) q back_RI fun μ1 g h1 H1 r v H0 hr er q1 F => hT μ1 h1 H1 _ v hr q1.frz F
theorem si_of (e : E) (he : SE P Φ G k e) : SI P Φ G k (.of e) := fun X W tg x gd hc _ => by
  simp only [chkI] at hc
  refine PI_imp (pi_seq (he X W x gd hc).1) fun σ H Q q => ?_
  refine rd_it (f := seqIt) (by simpa only [items] using q) fun μ h H d v hr q2 F => ?_
  cases d with
  | tup l =>
    simp only [RD] at q2
    obtain ⟨a, vs, rfl, s, t⟩ := q2
    exact ⟨a, rfl, .inr ⟨⟨vs, s⟩, Fin.ok F hr ⟨walkd_tup hr s t, rfl⟩⟩⟩
  | lst l =>
    simp only [RD] at q2
    obtain ⟨a, vs, rfl, s, t⟩ := q2
    exact ⟨a, rfl, .inl ⟨⟨vs, s.sq⟩, Fin.ok F hr ⟨walkd_fz0 hr s t, rfl⟩⟩⟩
  | scr l =>
    simp only [RD] at q2
    obtain ⟨a, vs, rfl, s, t⟩ := q2
    exact ⟨a, rfl, .inl ⟨⟨vs, s.sqk⟩, Fin.ok F hr ⟨walkd_fz hr s t, rfl⟩⟩⟩
  | loc p =>
    simp only [RD] at q2
    obtain ⟨hp, rfl⟩ := q2
    simp only [seqIt] at F
    cases c : h[p]? with
    | none => rw [c] at F; exact F.elim
    | some o =>
      rw [c] at F
      cases o with
      | dic _ => exact F.elim
      | lst l =>
        obtain ⟨vs, e2, t⟩ := hr.ob p _ c
        exact ⟨μ p, rfl, .inl ⟨⟨vs, .inl (.inl e2)⟩, Fin.ok F hr ⟨walkd_loc hp, by simp [still, c]⟩⟩⟩
  | _ => exact F.elim
theorem small_ok {i : Int} (h : small i = true) : -(2 ^ 62) ≤ i ∧ i < 2 ^ 62 := of_decide_eq_true h
theorem si_range1 (e : E) (he : SE P Φ G k e) : SI P Φ G k (.range1 e) := fun X W tg x gd hc _ => by
  simp only [chkI] at hc
  split at hc
  · rename_i n p a' pos
    simp only [Bool.and_eq_true, decide_eq_true_eq] at hc
    obtain ⟨rfl, h2, h3⟩ := hc
    obtain ⟨hg, hdb, hn⟩ := gloB_ok h2
    have hs := chk_shape h3
    refine PI_imp (pi_range1 hg (gd.blt _ (by decide)) (pa_cons (he X W a' gd h3).1 pa_nil (shape_star hs _ _)) (shape_star hs _ _)) fun σ H Q q => ?_
    refine rd_it (f := range1It) (by simpa only [items] using q) fun μ h H d v hr q2 F => ?_
    cases d with
    | int i =>
      cases q2
      simp only [range1It] at F
      split at F
      · rename_i hsm
        obtain ⟨b1, b2⟩ := small_ok hsm
        have e0 : (i - 0).toNat = i.toNat := by rw [Int.sub_zero]
        exact ⟨i, rfl, b1, b2, by rw [← e0]; exact Fin.ok F hr ⟨walkd_range 0 i, rfl⟩⟩
      · exact F.elim
    | _ => exact F.elim
  · cases hc
theorem rd_it2 {K : PySem.W.Frag} {W : XK} {σ : L2.St} {H : Hp} {R : It → Hp → Prop} {ma mb : Env → Heap → Res MP.R} {f : D → D → Heap → Res Items} {T : V → V → Hp → Prop}
    (q : rd K W (RI K) (fun g h => bd (ma g h) fun r h => bd (mb g h) fun q h => f r.frz q.frz h) σ H R) (hT : ∀ μ h H d e v w, HR K μ h H → RD K μ h.length H d v → RD K μ h.length H e w → Fin K W (RI K) μ h H (f d e h) R → T v w H) :
    rE K W ma σ H (fun v H1 => rE K W mb σ H1 (fun w H2 => T v w H2)) := by
  refine rd_bind (ρ := RR K) (ρ' := RI K) (k := fun g r h => bd (mb g h) fun q h => f r.frz q.frz h) q back_RI fun μ1 g h1 H1 r v H0 hr er q1 F => ?_
  refine ⟨μ1, g, h1, hr, er, F.bind fun r2 h2 v2 H2 μ2 P q2 F2 => ?_⟩
  exact hT μ2 h2 H2 _ _ _ _ P.hr (RD.mono P hr _ _ q1.frz) q2.frz (F2.from P back_RI)
theorem si_range2 (a b : E) (ha : SE P Φ G k a) (hb : SE P Φ G k b) : SI P Φ G k (.range2 a b) := fun X W tg x gd hc _ => by
  simp only [chkI] at hc
  split at hc
  · rename_i n p a' b' pos
    simp only [Bool.and_eq_true, decide_eq_true_eq] at hc
    obtain ⟨rfl, h2, h3, h4⟩ := hc
    obtain ⟨hg, hdb, hn⟩ := gloB_ok h2
    have hs := chk_shape h3
    have hs2 := chk_shape h4
    refine PI_imp (pi_range2 hg (gd.blt _ (by decide)) (pa_cons (ha X W a' gd h3).1 (pa_cons (hb X W b' gd h4).1 pa_nil (shape_star hs2 _ _)) (shape_star hs _ _)) (by rw [shape_star hs, shape_star hs2]; rfl) (shape_star hs2 _ _)) fun σ H Q q => ?_
    refine rd_it2 (f := range2It) (by simpa only [items] using q) fun μ h H d e v w hr q2 q3 F => ?_
    cases d with
    | int i =>
      cases e with
      | int j =>
        cases q2
        cases q3
        simp only [range2It, Bool.and_eq_true] at F
        split at F
        · rename_i hsm
          obtain ⟨b1, b2⟩ := small_ok hsm.1
          obtain ⟨b3, b4⟩ := small_ok hsm.2
          exact ⟨i, j, rfl, ⟨b1, b2, b3, b4⟩, Fin.ok F hr ⟨walkd_range i j, rfl⟩⟩
        · exact F.elim
      | _ => exact F.elim
    | _ => exact F.elim
  · cases hc
theorem isTupE_ok {e : Expr} (h : isTupE e = true) : ∃ es kk p, e = .Tuple es kk p := by
  cases e <;> first | exact ⟨_, _, _, rfl⟩ | cases h
theorem si_enum (e : E) (he : SE P Φ G k e) : SI P Φ G k (.enum e) := fun X W tg x gd hc hT => by
  obtain ⟨es, kk, tp, rfl⟩ := isTupE_ok (hT rfl)
  simp only [chkI] at hc
  split at hc
  · rename_i n p a' pos
    simp only [Bool.and_eq_true, decide_eq_true_eq] at hc
    obtain ⟨rfl, h2, h3⟩ := hc
    obtain ⟨hg, hdb, hn⟩ := gloB_ok h2
    have hs := chk_shape h3
    refine PI_imp (pi_enumA hg (gd.blt _ (by decide)) (pa_cons (he X W a' gd h3).1 pa_nil (shape_star hs _ _)) (shape_star hs _ _)) fun σ H Q q => ?_
    refine rd_it (f := enumIt) (by simpa only [items] using q) fun μ h H d v hr q2 F => ?_
    cases d with
    | tup l =>
      simp only [RD] at q2
      obtain ⟨a, vs, rfl, s, t⟩ := q2
      exact ⟨a, vs, rfl, .inr ⟨s, Fin.ok F hr ⟨walkd_enumT hr s t, rfl⟩⟩⟩
    | lst l =>
      simp only [RD] at q2
      obtain ⟨a, vs, rfl, s, t⟩ := q2
      exact ⟨a, vs, rfl, .inl ⟨s.sq, Fin.ok F hr ⟨walkd_enumL hr s t, rfl⟩⟩⟩
    | _ => exact F.elim
  · cases hc
theorem si_zip (a b : E) (ha : SE P Φ G k a) (hb : SE P Φ G k b) : SI P Φ G k (.zip a b) := fun X W tg x gd hc hT => by
  obtain ⟨es, kk, tp, rfl⟩ := isTupE_ok (hT rfl)
  simp only [chkI] at hc
  split at hc
  · rename_i n p a' b' pos
    simp only [Bool.and_eq_true, decide_eq_true_eq] at hc
    obtain ⟨rfl, h2, h3, h4⟩ := hc
    obtain ⟨hg, hdb, hn⟩ := gloB_ok h2
    have hs := chk_shape h3
    have hs2 := chk_shape h4
    refine PI_imp (RZ.pi_zipA hg (gd.blt _ (by decide)) (pa_cons (ha X W a' gd h3).1 (pa_cons (hb X W b' gd h4).1 pa_nil (shape_star hs2 _ _)) (shape_star hs _ _)) (shape_star hs _ _) (by rw [shape_star hs2]; rfl)) fun σ H Q q => ?_
    refine rd_it2 (f := zipIt) (by simpa only [items] using q) fun μ h H d e v w hr q2 q3 F => ?_
    cases d with
    | tup l =>
      cases e with
      | tup m =>
        simp only [RD] at q2 q3
        obtain ⟨a, vs, rfl, s, t⟩ := q2
        obtain ⟨b, ws, rfl, s2, t2⟩ := q3
        exact ⟨a, b, vs, ws, rfl, .inr ⟨s, s2, Fin.ok F hr ⟨walkd_zipT hr s t s2 t2, rfl⟩⟩⟩
      | _ => exact F.elim
    | lst l =>
      cases e with
      | lst m =>
        simp only [RD] at q2 q3
        obtain ⟨a, vs, rfl, s, t⟩ := q2
        obtain ⟨b, ws, rfl, s2, t2⟩ := q3
        exact ⟨a, b, vs, ws, rfl, .inl ⟨s.sq, s2.sq, Fin.ok F hr ⟨walkd_zipL hr s t s2 t2, rfl⟩⟩⟩
      | _ => exact F.elim
    | _ => exact F.elim
  · cases hc
end
end MP

/-! MP.Snd7: targets, comprehensions. -/
namespace MP
open PySem PySem.Spec PyProof.Rows L2

/-! ### targets -/
def rG (K : PySem.W.Frag) (t : Tg) : TG := fun v σ H Q => ∃ μ h g d g', HR K μ h H ∧ ER K μ h.length H g σ ∧ RD K μ h.length H d v ∧ MP.assign t d g = some g' ∧
  ∀ σ', ER K μ h.length H g' σ' → (∀ j, j ∉ slots t → σ'[j]? = σ[j]?) → σ'.length = σ.length → Q σ' H
def rGs (K : PySem.W.Frag) (ts : List Tg) : TGs := fun vs σ H Q => ∃ μ h g ds g', HR K μ h H ∧ ER K μ h.length H g σ ∧ RDs K μ h.length H ds vs ∧ assigns ts ds g = some g' ∧
  ∀ σ', ER K μ h.length H g' σ' → (∀ j, j ∉ slotsL ts → σ'[j]? = σ[j]?) → σ'.length = σ.length → Q σ' H
theorem PG_imp {X : Cx} {e : Expr} {t t' : TG} (p : PG X e t) (i : ∀ v σ H Q, t' v σ H Q → t v σ H Q) : PG X e t' := ⟨fun pins s σ H v u Q I r q => p.run pins s σ H v u Q I r (i v σ H Q q)⟩
theorem PGs_imp {X : Cx} {e : List Expr} {t t' : TGs} (p : PGs X e t) (i : ∀ v σ H Q, t' v σ H Q → t v σ H Q) : PGs X e t' := ⟨fun pins s σ H v u Q I r q => p.run pins s σ H v u Q I r (i v σ H Q q)⟩
-- what targets ask of the context
structure GoodT (X : Cx) (ck : Bool) : Prop where
  nd : X.N.Nodup
  calm : X.calm = true
  fnc : ck = true → ∀ x, X.fn x = true
theorem loc_fn {X : Cx} {ck : Bool} (gd : GoodT X ck) {x : Str} (h : (decide (X.env.scope.names.lookup x = some .local) || (ck && decide (X.env.scope.names.lookup x = some .cell))) = true) :
    L2.Loc X.env.scope x ∧ (X.fn x = true ∨ X.env.scope.names.lookup x = some .local) := by
  simp only [Bool.or_eq_true, Bool.and_eq_true, decide_eq_true_eq] at h
  rcases h with h | ⟨h, h2⟩
  · exact ⟨.inl h, .inr h⟩
  · exact ⟨.inr h2, .inl (gd.fnc h x)⟩
theorem chkT_star {ck : Bool} {N : List Str} {sc : Scope} {y : Expr} {p : Pos} : ∀ t : Tg, chkT ck N sc t (.Starred y p) = false
  | .slot _ => rfl
  | .tup _ => rfl
theorem assignEach_cons {x : Expr} {ck : Bool} {N : List Str} {sc : Scope} {t : Tg} (h : chkT ck N sc t x = true) (es : List Expr) (env : PySem.Env) : assignEach (x :: es) env = (false, PySem.assign x env) :: assignEach es env := by
  cases x <;> first | rfl | (rw [chkT_star] at h; cases h)
theorem chkTs_each {ck : Bool} {N : List Str} {sc : Scope} (env : PySem.Env) : ∀ {ts : List Tg} {es : List Expr}, chkTs ck N sc ts es = true → (assignEach es env).length = ts.length ∧ (assignEach es env).findIdx? (·.1) = none
  | [], [], _ => ⟨rfl, rfl⟩
  | [], _ :: _, h => by simp [chkTs] at h
  | _ :: _, [], h => by simp [chkTs] at h
  | t :: ts, e :: es, h => by
    simp only [chkTs, Bool.and_eq_true] at h
    obtain ⟨a, b⟩ := chkTs_each env h.2
    rw [assignEach_cons h.1]
    refine ⟨by simp [a], ?_⟩
    simp only [List.findIdx?_cons, Bool.false_eq_true, if_false]
    rw [b]
    rfl
theorem assigns_len : ∀ (ts : List Tg) (ds : List D) (g g' : Env), assigns ts ds g = some g' → ds.length = ts.length
  | [], [], _, _, _ => rfl
  | [], _ :: _, _, _, h => by simp [assigns] at h
  | _ :: _, [], _, _, h => by simp [assigns] at h
  | t :: ts, d :: ds, g, g', h => by
    simp only [assigns] at h
    split at h
    · simp [assigns_len ts ds _ _ h]
    · cases h
mutual
theorem pg_of {X : Cx} {ck : Bool} (gd : GoodT X ck) : ∀ (t : Tg) (e : Expr), chkT ck X.N X.env.scope t e = true → PG X e (rG X.K t)
  | .slot i, e, h => by
    cases e with
    | Name n pos =>
      simp only [chkT] at h
      have h' := Bool.and_eq_true_iff.mp h
      have hl := loc_fn gd h'.2
      refine PG_imp (pg_name gd.nd (of_decide_eq_true h'.1) hl.1 hl.2) fun v σ H Q ⟨μ, hp, g, d, g', hr, er, q, ea, k⟩ => ?_
      simp only [MP.assign, Option.some.injEq] at ea
      subst ea
      refine k _ (er.set q) (fun j hj => ?_) (by simp)
      simp only [slots, List.mem_singleton] at hj
      rw [List.getElem?_set_ne (Ne.symm hj)]
    | _ => simp [chkT] at h
  | .tup ts, e, h => by
    cases e with
    | Tuple es kk pos =>
      simp only [chkT] at h
      obtain ⟨a, b⟩ := chkTs_each X.env h
      refine PG_imp (pg_tup gd.calm (pgs_of gd ts es h) a b) fun v σ H Q ⟨μ, hp, g, d, g', hr, er, q, ea, k⟩ => ?_
      cases d with
      | tup l =>
        simp only [MP.assign] at ea
        simp only [RD] at q
        obtain ⟨c, vs, rfl, s, t⟩ := q
        exact ⟨c, vs, rfl, s, by rw [t.length, assigns_len _ _ _ _ ea], ⟨μ, hp, g, l, g', hr, er, t, ea, by simpa only [slots] using k⟩⟩
      | _ => simp [MP.assign] at ea
    | _ => simp [chkT] at h
theorem pgs_of {X : Cx} {ck : Bool} (gd : GoodT X ck) : ∀ (ts : List Tg) (es : List Expr), chkTs ck X.N X.env.scope ts es = true → PGs X es (rGs X.K ts)
  | [], [], _ => by
    refine PGs_imp pgs_nil fun v σ H Q ⟨μ, hp, g, ds, g', hr, er, q, ea, k⟩ => ?_
    cases ds with
    | nil =>
      simp only [assigns, Option.some.injEq] at ea
      subst ea
      simp only [RDs] at q
      subst q
      exact ⟨rfl, k σ er (fun _ _ => rfl) rfl⟩
    | cons _ _ => simp [assigns] at ea
  | [], _ :: _, h => by simp [chkTs] at h
  | _ :: _, [], h => by simp [chkTs] at h
  | t :: ts, e :: es, h => by
    simp only [chkTs, Bool.and_eq_true] at h
    refine PGs_imp (pgs_cons (pg_of gd t e h.1) (pgs_of gd ts es h.2) (by rw [assignEach_cons h.1]; rfl)) fun v σ H Q ⟨μ, hp, g, ds, g', hr, er, q, ea, k⟩ => ?_
    cases ds with
    | nil => simp [assigns] at ea
    | cons d ds =>
      simp only [RDs] at q
      obtain ⟨w, r, rfl, q1, q2⟩ := q
      simp only [assigns] at ea
      cases e1 : MP.assign t d g with
      | none => rw [e1] at ea; cases ea
      | some g1 =>
        rw [e1] at ea
        simp only at ea
        refine ⟨w, r, rfl, μ, hp, g, d, g1, hr, er, q1, e1, fun σ1 er1 a1 l1 => ⟨μ, hp, g1, ds, g', hr, er1, q2, ea, fun σ2 er2 a2 l2 => ?_⟩⟩
        refine k σ2 er2 (fun j hj => ?_) (l2.trans l1)
        simp only [slotsL, List.mem_append, not_or] at hj
        rw [a2 j hj.2, a1 j hj.1]
end
theorem wipe_same {σ σ' : L2.St} (hl : σ'.length = σ.length) : ∀ ws : List Nat, (∀ j, j ∉ ws → σ'[j]? = σ[j]?) → wipe σ' ws = wipe σ ws
  | [], h => by
    simp only [wipe]
    exact List.ext_getElem? fun j => h j (by simp)
  | w :: ws, h => by
    apply List.ext_getElem?
    intro j
    have gen : ∀ (τ : L2.St) (vs : List Nat), (wipe τ vs).length = τ.length := wipe_length
    have get : ∀ (τ : L2.St) (vs : List Nat), (wipe τ vs)[j]? = if j ∈ vs then (τ[j]?).map fun _ => none else τ[j]? := by
      intro τ vs
      induction vs with
      | nil => simp [wipe]
      | cons v vs ih =>
        simp only [wipe]
        by_cases hv : v = j
        · subst hv
          rw [List.getElem?_set]
          simp only [if_true, List.mem_cons, true_or, gen]
          by_cases hl : v < τ.length
          · simp [hl]
          · simp [hl]
        · rw [List.getElem?_set_ne hv, ih]
          have : (j ∈ v :: vs) ↔ j ∈ vs := by simp [Ne.symm hv]
          simp only [this]
    rw [get, get]
    by_cases hj : j ∈ w :: ws
    · rw [if_pos hj, if_pos hj]
      by_cases hlt : j < σ.length
      · rw [List.getElem?_eq_getElem hlt, List.getElem?_eq_getElem (by omega)]
        rfl
      · rw [List.getElem?_eq_none (by omega), List.getElem?_eq_none (by omega)]
    · rw [if_neg hj, if_neg hj]
      exact h j hj
theorem wipe_twice (σ : L2.St) (ws : List Nat) : wipe (wipe σ ws) ws = wipe σ ws := by
  refine List.ext_getElem? fun j => ?_
  have get : ∀ (τ : L2.St) (vs : List Nat), (wipe τ vs)[j]? = if j ∈ vs then (τ[j]?).map fun _ => none else τ[j]? := by
    intro τ vs
    induction vs with
    | nil => simp [wipe]
    | cons v vs ih =>
      simp only [wipe]
      by_cases hv : v = j
      · subst hv
        rw [List.getElem?_set]
        simp only [if_true, List.mem_cons, true_or, wipe_length]
        by_cases hl : v < τ.length
        · simp [hl]
        · simp [hl]
      · rw [List.getElem?_set_ne hv, ih]
        have : (j ∈ v :: vs) ↔ j ∈ vs := by simp [Ne.symm hv]
        simp only [this]
  rw [get, get]
  split
  · cases σ[j]? <;> rfl
  · rfl

/-! ### comprehensions -/
section
variable {K : PySem.W.Frag} {W : XK}
def xk0 : XK := fun _ _ _ => False
theorem rd_lc {σ : L2.St} {H : Hp} {Q : VK} {mi : Env → Heap → Res Items} {tg : Tg} {ws : List Nat} {mt : Env → Heap → Res Bool} {me : Env → Heap → Res R} (hsl : (slots tg).all (ws.contains ·) = true)
    (q : rE K W (fun g h => bd (mi g h) fun its h => bd (lcGo (lcF its tg (wipes g ws) mt me) its.1 h) fun l h => if l.length ≤ lim then some (.ok (.newL l) h) else none) σ H Q) :
    tLc (rd K W (RI K) mi) (rG K tg) (rT K xk0 mt) (rE K xk0 me) ws σ H Q := by
  obtain ⟨μ, g, h, hr, er, F⟩ := q
  refine ⟨μ, g, h, hr, er, F.bind fun its h1 J H1 μ1 P1 wd F1 => fun D0 hD => ?_⟩
  cases eL : lcGo (lcF its tg (wipes g ws) mt me) its.1 h1 with
  | none => rw [eL] at F1; exact F1.elim
  | some ol =>
    rw [eL] at F1
    cases ol with
    | exc x hN =>
      exfalso
      -- a comprehension lets nothing out
      have : ∀ (xs : List D) (h : Heap) (x : Ex) (h' : Heap), lcGo (lcF its tg (wipes g ws) mt me) xs h ≠ some (.exc x h') := by
        intro xs
        induction xs with
        | nil => intro h x h' e; cases e
        | cons y ys ih =>
          intro h x h' e
          simp only [lcGo] at e
          split at e
          · split at e
            · cases e
            · cases e
          · exact ih _ _ _ e
          · cases e
      exact this _ _ _ _ eL
    | ok l hN =>
      simp only [bd_ok] at F1
      split at F1
      · rename_i hlim
        have er1 := er.mono P1 hr
        have P0 : Post K μ1 h1 H1 (μ1.add D0) h1 (upd H1 D0 (.lst [])) := Post.startS P1.hr hD
        have er0 : ER K (μ1.add D0) h1.length (upd H1 D0 (.lst [])) g σ := er1.mono P0 P1.hr
        refine ⟨fun i m Hc => m = its.1.length - i ∧ i ≤ its.1.length ∧ ∃ μ2 h2 acc vs rest, Post K μ1 h1 H1 μ2 h2 Hc ∧ μ2.s D0 ∧ ER K μ2 h2.length Hc g σ ∧ still its h2 = true ∧ Hc D0 = some (.lst vs) ∧ RDs K μ2 h2.length Hc acc vs ∧
          lcGo (lcF its tg (wipes g ws) mt me) (its.1.drop i) h2 = some (.ok rest hN) ∧ acc ++ rest = l, ⟨its.1.length, by simp, Nat.zero_le _, _, _, [], [], l, P0, .inr rfl, er0, wd.2, upd_same, by simp only [RDs], by simpa using eL, rfl⟩, ?_⟩
        rintro i m Hc ⟨rfl, hi, μ2, h2, acc, vs, rest, P2, sD, er2, st2, eD, q2, eR, eA⟩
        obtain ⟨wgo, wstop, wyld⟩ := wd.1 μ2 h2 Hc P2 st2
        by_cases hlt : i < its.1.length
        · right
          refine ⟨wgo i hlt, fun Hc => i + 1 ≤ its.1.length ∧ ∃ μ2 h2 acc vs rest, Post K μ1 h1 H1 μ2 h2 Hc ∧ μ2.s D0 ∧ ER K μ2 h2.length Hc g σ ∧ still its h2 = true ∧ Hc D0 = some (.lst vs) ∧ RDs K μ2 h2.length Hc acc vs ∧
            lcGo (lcF its tg (wipes g ws) mt me) (its.1.drop (i + 1)) h2 = some (.ok rest hN) ∧ acc ++ rest = l, fun H' q => ⟨its.1.length - (i + 1), by omega, rfl, q⟩, fun x H3 y => ?_⟩
          obtain ⟨d, e1, P3, qd⟩ := wyld i x H3 hlt y
          have P13 := P2.trans P3
          have er3 := er2.mono P3 P2.hr
          have eD3 : H3 D0 = some (.lst vs) := P3.keep _ _ eD fun p hp => P2.hr.sp D0 sD p hp
          have q3 := RDs.mono P3 P2.hr _ _ q2
          have edrop : its.1.drop i = d :: its.1.drop (i + 1) := by
            rw [List.drop_eq_getElem_cons hlt]
            congr 1
            rw [List.getElem?_eq_getElem hlt] at e1
            exact Option.some.inj e1
          rw [edrop] at eR
          simp only [lcGo] at eR
          -- the target
          have asg : ∃ g', MP.assign tg d (wipes g ws) = some g' := by
            cases e4 : MP.assign tg d (wipes g ws) with
            | some g' => exact ⟨g', rfl⟩
            | none =>
              have : lcF its tg (wipes g ws) mt me d h2 = none := by simp only [lcF, e4]
              rw [this] at eR
              cases eR
          obtain ⟨g', eg⟩ := asg
          refine ⟨μ2, h2, _, d, g', P3.hr, er3.wipe ws, qd, eg, fun σ2 er4 same len => ⟨?_, ?_⟩⟩
          · rw [wipe_same len ws fun j hj => same j fun hm => hj ?_, wipe_twice]
            have := List.all_eq_true.mp hsl j hm
            simpa using this
          · -- the test
            have eF : lcF its tg (wipes g ws) mt me d h2 = bd (mt g' h2) fun b h => if b && still its h then bd (me g' h) fun r h => if still its h then some (.ok (some r.frz) h) else none else if still its h then some (.ok none h) else none := by
              simp only [lcF, eg]
            refine ⟨μ2, g', h2, P3.hr, er4, ?_⟩
            cases et : mt g' h2 with
            | none =>
              rw [et] at eF
              rw [eF] at eR
              cases eR
            | some ot =>
              rw [et] at eF
              cases ot with
              | exc _ _ =>
                rw [eF] at eR
                cases eR
              | ok b h4 =>
                intro b' H4 μ4 P4 eb
                cases eb
                simp only [bd_ok] at eF
                have er5 := er4.mono P4 P3.hr
                have eD4 : H4 D0 = some (.lst vs) := P4.keep _ _ eD3 fun p hp => P3.hr.sp D0 sD p hp
                have sD4 := P4.sd1 _ sD
                have q4 := RDs.mono P4 P3.hr _ _ q3
                have er3g := er3.mono P4 P3.hr
                cases b with
                | false =>
                  refine iteF ⟨hlt, ?_⟩
                  simp only [Bool.false_and, Bool.false_eq_true, if_false] at eF
                  split at eF
                  · rename_i st4
                    rw [eF] at eR
                    exact ⟨μ4, h4, acc, vs, rest, P13.trans P4, sD4, er3g, st4, eD4, q4, eR, eA⟩
                  · rw [eF] at eR
                    cases eR
                | true =>
                  refine iteT ⟨μ4, g', h4, P4.hr, er5, ?_⟩
                  simp only [Bool.true_and] at eF
                  split at eF
                  · cases ee : me g' h4 with
                    | none =>
                      rw [ee] at eF
                      rw [eF] at eR
                      cases eR
                    | some oe =>
                      rw [ee] at eF
                      cases oe with
                      | exc _ _ =>
                        rw [eF] at eR
                        cases eR
                      | ok r h5 =>
                        intro v H5 μ5 P5 qv
                        simp only [bd_ok] at eF
                        split at eF
                        · rename_i st5
                          rw [eF] at eR
                          simp only at eR
                          have eD5 : H5 D0 = some (.lst vs) := P5.keep _ _ eD4 fun p hp => P4.hr.sp D0 sD4 p hp
                          have sD5 := P5.sd1 _ sD4
                          have q5 := RDs.mono P5 P4.hr _ _ q4
                          have er6 := er3g.mono P5 P4.hr
                          cases er' : lcGo (lcF its tg (wipes g ws) mt me) (its.1.drop (i + 1)) h5 with
                          | none => rw [er'] at eR; cases eR
                          | some oo =>
                            rw [er'] at eR
                            cases oo with
                            | exc _ _ => cases eR
                            | ok ys h6 =>
                              cases eR
                              have qv' := qv.frz
                              have hl2 : acc.length < lim := by
                                have e7 : (acc ++ r.frz :: ys).length ≤ lim := by rw [eA]; exact hlim
                                simp at e7
                                omega
                              refine ⟨vs, eD5, by rw [q5.length, lim_line]; exact hl2, hlt, μ5, h5, acc ++ [r.frz], vs ++ [v], ys, ((P13.trans P4).trans P5).updS hD sD5 eD5, sD5, ?_, st5, upd_same, ?_, er', by simpa using eA⟩
                              · exact ⟨er6.1, fun j d e => by
                                  obtain ⟨w, e8, e9⟩ := er6.2 j d e
                                  exact ⟨w, e8, (RD.updS sD5 eD5).1 _ _ e9⟩⟩
                              · refine (RD.updS sD5 eD5).2 _ _ ?_
                                clear eA hl2 er' eF
                                have app : ∀ (l : List D) (us : List V), RDs K μ5 h5.length H5 l us → RDs K μ5 h5.length H5 (l ++ [r.frz]) (us ++ [v]) := by
                                  intro l
                                  induction l with
                                  | nil =>
                                    intro us e
                                    simp only [RDs] at e
                                    subst e
                                    simp only [List.nil_append, RDs]
                                    exact ⟨v, [], rfl, qv', rfl⟩
                                  | cons c l ih =>
                                    intro us e
                                    simp only [RDs] at e
                                    obtain ⟨w, r', rfl, a1, a2⟩ := e
                                    simp only [List.cons_append, RDs]
                                    exact ⟨w, r' ++ [v], rfl, a1, ih _ a2⟩
                                exact app _ _ q5
                        · rw [eF] at eR
                          cases eR
                  · rw [eF] at eR
                    cases eR
        · left
          have e0 : i = its.1.length := by omega
          subst e0
          rw [List.drop_length] at eR
          cases eR
          rw [List.append_nil] at eA
          subst eA
          exact ⟨wstop, F1 (.ref D0) Hc ⟨μ2.f, μ1.s⟩ (P1.trans P2.endS) ⟨D0, vs, rfl, eD, P2.hr.delS sD eD (fun _ _ => rfl) P2.sd1 (fz_s P1.hr hD), P1.none_back hD, (RD.delS (μ := μ2) (μ0 := ⟨μ2.f, μ1.s⟩) sD eD (fun _ _ => rfl) P2.sd1).2 _ _ q2⟩⟩
      · exact F1.elim
end
end MP

/-! MP.Snd8: comprehensions, calls, built-in functions. -/
namespace MP
open PySem PySem.Spec PyProof.Rows L2

section
variable {P : PInfo} {Φ : Nat → List D → Heap → Res R} {G : Nat → Option D} {k : Nat}
theorem Good.T {X : Cx} {W : XK} (g : Good P Φ G k X W) : GoodT X false := ⟨g.nd, g.calm, fun z => nomatch z⟩
theorem Good.blk {X : Cx} {W : XK} (g : Good P Φ G k X W) (s : Shared) (H : Hp) (scope : Scope) (C : Addr) (cl : List (Str × Addr)) (fp : List Addr) :
    Good P Φ G k (X.blk s H scope (compEnvC scope cl C X.env) fp) xk0 where
  nd := g.nd
  calm := g.calm
  room := g.room
  tk := takes0
  blt := g.blt
  glob := g.glob
  fns := g.fns
theorem tests_nil : tests Φ G [] = fun _ h => some (.ok true h) := by
  funext g h
  simp only [tests]
theorem tests_one (e : E) : tests Φ G [e] = tst (eval Φ G e) := by
  funext g h
  simp only [tests, tst]
  congr 1
  funext r h1
  cases tru h1 r.frz with
  | none => rfl
  | some b => cases b <;> rfl
theorem PTs_imp {X : Cx} {es : List Expr} {t t' : TT} (p : PTs X es t) (i : ∀ σ H Q, t' σ H Q → t σ H Q) : PTs X es t' := ⟨fun pins s σ H Q I q => p.run pins s σ H Q I (i σ H Q q)⟩
theorem se_lc (elt : E) (tg : Tg) (it : I) (cond : List E) (ws : List Nat) (he : SE P Φ G k elt) (hi : SI P Φ G k it) (hcd : ∀ c ∈ cond, SE P Φ G k c) : SE P Φ G k (.lc elt tg it cond ws) := fun X W x gd hc => by
  simp only [chk] at hc
  split at hc
  · rename_i elt' tg' it' ifs' scope pos
    simp only [Bool.and_eq_true, decide_eq_true_eq] at hc
    obtain ⟨h1, h2, h3, h4, h5, h6, h7, h8⟩ := hc
    have hT : tupI it = true → isTupE tg' = true := fun z => by
      rw [z] at h8
      simpa using h8
    have hts : ∀ (s : Shared) (H : Hp) (C : Addr) (cl : List (Str × Addr)) (fp : List Addr), PTs (X.blk s H scope (compEnvC scope cl C X.env) fp) ifs' (rT X.K xk0 (tests Φ G cond)) := fun s H C cl fp => by
      match cond, ifs', h4, h6, hcd with
      | [], [], _, _, _ =>
        refine PTs_imp pts_nil fun σ H Q ⟨μ, g, h, r, er, F⟩ => ?_
        rw [tests_nil] at F
        exact Fin.ok F r rfl
      | [c], [c'], h4, _, hcd =>
        simp only [chks, Bool.and_eq_true] at h4
        rw [tests_one]
        exact pts_one (hcd c (by simp) (X.blk s H scope (compEnvC scope cl C X.env) fp) xk0 c' (gd.blk s H scope C cl fp) h4.1).2
      | _ :: _ :: _, _, _, h6, _ =>
        simp only [List.length_cons] at h6
        omega
      | [], _ :: _, h4, _, _ => simp [chks] at h4
      | [_], [], h4, _, _ => simp [chks] at h4
      | [_], _ :: _ :: _, h4, _, _ => simp [chks] at h4
    have pe : PE X (.ListComp elt' [⟨tg', it', ifs', 0⟩] scope pos) (rE X.K W (eval Φ G (.lc elt tg it cond ws))) := by
      have ews : (ws.map fun i => (X.N.getD i ⟨#[]⟩, i)).map (·.2) = ws := by
        rw [List.map_map]
        exact List.map_id ws
      have base := pe_lc (pos := pos) (g := rG X.K tg) (te := rE X.K xk0 (eval Φ G elt)) gd.calm gd.nd (hi X W tg' it' gd h2 hT) (blkOk_by h1) (fun s H C cl fp => pg_of (gd.blk s H scope C cl fp).T tg tg' h3) hts
        (fun s H C cl fp => (he (X.blk s H scope (compEnvC scope cl C X.env) fp) xk0 elt' (gd.blk s H scope C cl fp) h5).1) (fun x => by
          cases it with
          | of e => exact shape_iter (chk_shape (by simpa only [chkI] using h2)) _ _
          | _ =>
            simp only [chkI] at h2
            split at h2
            · rfl
            · cases h2)
      rw [ews] at base
      refine PE_imp base fun σ H Q q => rd_lc h7 ?_
      have e : eval Φ G (.lc elt tg it cond ws) = fun g h => bd (items Φ G it g h) fun its h => bd (lcGo (lcF its tg (wipes g ws) (tests Φ G cond) (eval Φ G elt)) its.1 h) fun l h => if l.length ≤ lim then some (.ok (.newL l) h) else none := by
        funext g h
        simp only [eval]
      rw [e] at q
      exact q
    exact ⟨pe, pt_plain pe rfl⟩
  · cases hc
theorem se_call (f : Nat) (es : List E) (hes : SEs P Φ G k es) : SE P Φ G k (.call f es) := fun X W x gd hc => by
  simp only [chk] at hc
  split at hc
  · rename_i n p e' es' pos
    simp only [Bool.and_eq_true, decide_eq_true_eq] at hc
    obtain ⟨h1, h2, h3⟩ := hc
    obtain ⟨hg, hdb, hn⟩ := gloB_ok h2
    obtain ⟨a, fd, ps, hm, hk, hb, F, hlen⟩ := gd.fns f n h1
    have hsh := chks_shape h3
    have pe : PE X (.Call (.Name n p) (e' :: es') [] pos) (rE X.K W (eval Φ G (.call f es))) := by
      refine PE_imp (pe_call (dvs := []) (E := W) F gd.room hg hm hk hb .nil (passes_call gd.tk fun cls d σ H h => h) (hes X W _ gd h3) hdb (shape_star (hsh e' (by simp)) _ _) (shapes_any pos X.env fun x hx => hsh x (by simp [hx]))) fun σ H Q q => ?_
      have e : eval Φ G (.call f es) = fun g h => bd (evals Φ G es g h) fun ds h => Φ f ds h := by
        funext g h
        simp only [eval]
      rw [e] at q
      refine rd_bind (ρ := RA X.K) (k := fun g ds h => Φ f ds h) q back_RR fun μ1 g h1 H1 ds vs H0 hr er q1 Fz => ?_
      rw [List.append_nil]
      refine ⟨?_, μ1, h1, ds, hr, q1, Fz⟩
      rw [q1.length]
      exact hlen ds h1 fun z => by
        rw [z] at Fz
        exact Fz
    exact ⟨pe, pt_plain pe rfl⟩
  · cases hc

/-! ### slices -/
def RO' : Rel (Option Int) (Option Int) := fun _ _ _ _ a b => a = b
theorem back_RO {K : PySem.W.Frag} : Back K RO' := fun _ q => q
theorem po_of {X : Cx} {W : XK} (gd : Good P Φ G k X W) (e : E) (b : Bool) (he : SE P Φ G k e) (o : Option Expr) (h : (match o with
      | none => !b
      | some y => b && chk P X.N X.env.scope e y) = true) : PO X o (rd X.K W RO' fun g h => partM b (eval Φ G e g) h) := by
  cases o with
  | none =>
    cases b with
    | true => cases h
    | false =>
      refine ⟨fun pins s σ H Q I q => po_none.run pins s σ H Q I ?_⟩
      obtain ⟨μ, g, h, r, er, F⟩ := q
      exact Fin.ok F r rfl
  | some y =>
    simp only [Bool.and_eq_true] at h
    obtain ⟨rfl, h⟩ := h
    refine ⟨fun pins s σ H Q I q => (po_some (he X W y gd h).1).run pins s σ H Q I ?_⟩
    obtain ⟨μ, g, h, r, er, F⟩ := q
    refine ⟨μ, g, h, r, er, ?_⟩
    simp only [partM, if_true] at F
    refine F.bind fun r1 h1 v H1 μ1 P1 q1 F1 => ?_
    have q2 := q1.frz
    cases e1 : r1.frz with
    | int i =>
      rw [e1] at q2
      simp only [e1] at F1
      cases q2
      exact ⟨i, rfl, F1 _ H1 μ1 P1 rfl⟩
    | _ => simp only [e1] at F1; exact F1.elim
def rS (K : PySem.W.Frag) (W : XK) : V → Option Int → Option Int → Hp → VK → Prop := fun x lo hi H Q => ∃ μ h d, HR K μ h H ∧ RD K μ h.length H d x ∧ Fin K W (RR K) μ h H (sliceM d lo hi h) Q
theorem RDs.drop {K : PySem.W.Frag} {μ : Mu} {n : Nat} {H : Hp} : ∀ (m : Nat) {l : List D} {vs : List V}, RDs K μ n H l vs → RDs K μ n H (l.drop m) (vs.drop m)
  | 0, _, _, q => q
  | m + 1, [], vs, q => by
    simp only [RDs] at q
    subst q
    simp only [List.drop_nil, RDs]
  | m + 1, d :: l, vs, q => by
    simp only [RDs] at q
    obtain ⟨v, r, rfl, _, t⟩ := q
    exact RDs.drop m t
theorem RDs.take {K : PySem.W.Frag} {μ : Mu} {n : Nat} {H : Hp} : ∀ (m : Nat) {l : List D} {vs : List V}, RDs K μ n H l vs → RDs K μ n H (l.take m) (vs.take m)
  | 0, _, _, q => by simp only [List.take_zero, RDs]
  | m + 1, [], vs, q => by
    simp only [RDs] at q
    subst q
    simp only [List.take_nil, RDs]
  | m + 1, d :: l, vs, q => by
    simp only [RDs] at q
    obtain ⟨v, r, rfl, q1, t⟩ := q
    simp only [List.take_succ_cons, RDs]
    exact ⟨v, _, rfl, q1, RDs.take m t⟩
theorem cut_same (n d : Nat) (o : Option Int) : HT.sIx n d o = cutAt n d o := by
  cases o <;> rfl
theorem seq_loc {K : PySem.W.Frag} {μ : Mu} {h : Heap} {H : Hp} (r : HR K μ h H) {p : Nat} {v : V} {l : List D} (q : RD K μ h.length H (.loc p) v) (c : seqOf h (.loc p) = some l) :
    ∃ vs, v = .ref (μ p) ∧ H (μ p) = some (.lst vs) ∧ RDs K μ h.length H l vs := by
  simp only [seqOf] at c
  cases c2 : h[p]? with
  | none => rw [c2] at c; cases c
  | some o =>
    rw [c2] at c
    cases o with
    | dic _ => cases c
    | lst m =>
      cases c
      obtain ⟨us, e1, t1⟩ := r.ob p _ c2
      simp only [RD] at q
      exact ⟨us, q.2, e1, t1⟩
theorem slr {X : Cx} {W : XK} : L2.SlR X (rS X.K W) := by
  refine SlR_imp (L2.SlR.or sl_list sl_tupA) fun x lo hi H Q ⟨μ, h, d, r, q, F⟩ => ?_
  have lists : ∀ (l : List D) (a : Addr) (vs : List V), RDs X.K μ h.length H l vs → Fin X.K W (RR X.K) μ h H (some (.ok (.newL (cutZ l lo hi)) h)) Q → ∀ p, H p = none → Q (.ref p) (upd H p (.lst (cutV vs lo hi))) := fun l a vs t F p hp => by
    have Pn := Post.new (o := .lst (cutV vs lo hi)) r hp
    have ns : ¬ μ.s p := fz_s r hp
    refine F.okP Pn (RR.mk r hp hp ?_)
    unfold cutV cutZ
    rw [cut_same, cut_same, t.length]
    exact (t.drop _).take _
  cases d with
  | tup l =>
    simp only [RD] at q
    obtain ⟨a, vs, rfl, s, t⟩ := q
    simp only [sliceM] at F
    refine .inr ⟨a, vs, rfl, s, fun hw => ?_, fun _ p hp => ?_⟩
    · refine Fin.ok F r ?_
      show RD X.K μ h.length H (.tup (cutZ l lo hi)) (.ref a)
      have e : cutZ l lo hi = l := by
        unfold cutZ
        rw [cut_same, cut_same, t.length] at hw
        rw [hw.1, hw.2]
        simp
      rw [e]
      simp only [RD]
      exact ⟨a, vs, rfl, s, t⟩
    · have Pn := Post.new (o := .tup (cutV vs lo hi)) r hp
      refine F.okP Pn ?_
      show RD X.K μ h.length _ (.tup (cutZ l lo hi)) (.ref p)
      simp only [RD]
      refine ⟨p, _, rfl, .inl (.inl upd_same), RDs.mono Pn r _ _ ?_⟩
      unfold cutV cutZ
      rw [cut_same, cut_same, t.length]
      exact (t.drop _).take _
  | lst l =>
    simp only [RD] at q
    obtain ⟨a, vs, rfl, s, t⟩ := q
    simp only [sliceM, seqOf] at F
    exact .inl ⟨a, vs, rfl, s.sq, lists l a vs t F⟩
  | scr l =>
    simp only [RD] at q
    obtain ⟨a, vs, rfl, s, t⟩ := q
    simp only [sliceM, seqOf] at F
    exact .inl ⟨a, vs, rfl, s.sqk, lists l a vs t F⟩
  | loc p =>
    simp only [sliceM] at F
    cases c : seqOf h (.loc p) with
    | none => rw [c] at F; exact F.elim
    | some l =>
      rw [c] at F
      obtain ⟨vs, rfl, s, t⟩ := seq_loc r q c
      exact .inl ⟨_, vs, rfl, .inl (.inl s), lists l (μ p) vs t F⟩
  | _ => exact F.elim
theorem se_slice (a : E) (bl bh : Bool) (lo hi : E) (ha : SE P Φ G k a) (hl : SE P Φ G k lo) (hh : SE P Φ G k hi) : SE P Φ G k (.slice a bl bh lo hi) := fun X W x gd hc => by
  simp only [chk] at hc
  split at hc
  · rename_i a' lo' hi' p2 pos
    simp only [Bool.and_eq_true] at hc
    obtain ⟨h1, h2, h3⟩ := hc
    have pe : PE X (.Subscript a' (.Slice lo' hi' none p2) pos) (rE X.K W (eval Φ G (.slice a bl bh lo hi))) := by
      refine PE_imp (pe_slice (slr (W := W)) (ha X W a' gd h1).1 (po_of gd lo bl hl lo' h2) (po_of gd hi bh hh hi' h3)) fun σ H Q q => ?_
      have e : eval Φ G (.slice a bl bh lo hi) = fun g h => bd (eval Φ G a g h) fun x h => bd (partM bl (eval Φ G lo g) h) fun l h => bd (partM bh (eval Φ G hi g) h) fun u h => sliceM x.frz l u h := by
        funext g h
        simp only [eval]
      rw [e] at q
      obtain ⟨μ, g, h, hr, er, F⟩ := q
      refine ⟨μ, g, h, hr, er, F.bind fun r h1 v H1 μ1 P1 q1 F1 => ?_⟩
      have er1 := er.mono P1 hr
      refine ⟨μ1, g, h1, P1.hr, er1, (F1.from P1 back_RR).bind fun l h2 l' H2 μ2 P2 q2 F2 => ?_⟩
      cases q2
      refine ⟨μ2, g, h2, P2.hr, er1.mono P2 P1.hr, (F2.from P2 back_RR).bind fun u h3 u' H3 μ3 P3 q3 F3 => ?_⟩
      cases q3
      exact ⟨μ3, h3, _, P3.hr, RD.mono P3 P2.hr _ _ (RD.mono P2 P1.hr _ _ q1.frz), F3.from P3 back_RR⟩
    exact ⟨pe, pt_plain pe rfl⟩
  · cases hc

/-! ### built-in functions -/
def LenOk (K : PySem.W.Frag) (H : Hp) (v : V) (n : Nat) : Prop := ∃ p ys, v = .ref p ∧ (SqL K H p ys ∨ SqT K H p ys) ∧ ys.length = n
theorem valR_fin {K : PySem.W.Frag} {W : XK} {μ : Mu} {h : Heap} {H : Hp} {o : Option D} {Q : VK} (F : Fin K W (RR K) μ h H (valR o h) Q) (r : HR K μ h H) : ∃ d, o = some d ∧ ∀ v, RD K μ h.length H d v → Q v H := by
  cases o with
  | none => exact F.elim
  | some d => exact ⟨d, rfl, fun v q => Fin.ok F r q⟩
theorem boolR_fin {K : PySem.W.Frag} {W : XK} {μ : Mu} {h : Heap} {H : Hp} {o : Option Bool} {Q : VK} (F : Fin K W (RR K) μ h H (boolR o h) Q) (r : HR K μ h H) : ∃ b, o = some b ∧ Q (.bl b) H := by
  cases o with
  | none => exact F.elim
  | some b => exact ⟨b, rfl, Fin.ok F r rfl⟩
-- one argument as a list of arguments
theorem rd_arg1 {K : PySem.W.Frag} {W : XK} {σ : L2.St} {H : Hp} {Q : VK} {ma : Env → Heap → Res R} {f : D → Heap → Res R} {T : List V → Hp → VK → Prop}
    (q : rE K W (fun g h => bd (ma g h) fun r h => f r.frz h) σ H Q) (hT : ∀ μ h H d v, HR K μ h H → RD K μ h.length H d v → Fin K W (RR K) μ h H (f d h) Q → T [v] H Q) : tCB T (tCons (rE K W ma) tNil) σ H Q :=
  rd_bind (ρ := RR K) (ρ' := RR K) (k := fun g r h => f r.frz h) q back_RR fun μ1 g h1 H1 r v H0 hr er q1 F => hT μ1 h1 H1 _ v hr q1.frz F
theorem rd_arg2 {K : PySem.W.Frag} {W : XK} {σ : L2.St} {H : Hp} {Q : VK} {ma mb : Env → Heap → Res R} {f : D → D → Heap → Res R} {T : List V → Hp → VK → Prop}
    (q : rE K W (fun g h => bd (ma g h) fun r h => bd (mb g h) fun q h => f r.frz q.frz h) σ H Q) (hT : ∀ μ h H d e v w, HR K μ h H → RD K μ h.length H d v → RD K μ h.length H e w → Fin K W (RR K) μ h H (f d e h) Q → T [v, w] H Q) :
    tCB T (tCons (rE K W ma) (tCons (rE K W mb) tNil)) σ H Q := by
  refine rd_bind (ρ := RR K) (ρ' := RR K) (k := fun g r h => bd (mb g h) fun q h => f r.frz q.frz h) q back_RR fun μ1 g h1 H1 r v H0 hr er q1 F => ?_
  refine ⟨μ1, g, h1, hr, er, F.bind fun r2 h2 v2 H2 μ2 P q2 F2 => ?_⟩
  exact hT μ2 h2 H2 _ _ _ _ P.hr (RD.mono P hr _ _ q1.frz) q2.frz (F2.from P back_RR)
theorem boot_len' : bootBuiltins "len" = some (.builtin "len") := PySem.boot_len
theorem boot_abs' : bootBuiltins "abs" = some (.builtin "abs") := by decide +kernel
theorem boot_int' : bootBuiltins "int" = some (.type "int") := by decide +kernel
theorem boot_min' : bootBuiltins "min" = some (.builtin "min") := by decide +kernel
theorem boot_max' : bootBuiltins "max" = some (.builtin "max") := by decide +kernel
theorem boot_isi' : bootBuiltins "isinstance" = some (.builtin "isinstance") := by decide +kernel
theorem boot_bool' : bootBuiltins "bool" = some (.type "bool") := by decide +kernel
theorem boot_tuple' : bootBuiltins "tuple" = some (.type "tuple") := by decide +kernel
theorem boot_list' : bootBuiltins "list" = some (.type "list") := by decide +kernel
theorem boot_str' : bootBuiltins "str" = some (.type "str") := by decide +kernel
theorem boot_sum' : bootBuiltins "sum" = some (.builtin "sum") := by decide +kernel
theorem boot_all' : bootBuiltins "all" = some (.builtin "all") := by decide +kernel
theorem boot_any' : bootBuiltins "any" = some (.builtin "any") := by decide +kernel
theorem boot_sorted' : bootBuiltins "sorted" = some (.builtin "sorted") := by decide +kernel
theorem se_b1 (f : B1) (a : E) (ha : SE P Φ G k a) : SE P Φ G k (.b1 f a) := fun X W x gd hc => by
  simp only [chk] at hc
  split at hc
  · rename_i n p a' pos
    simp only [Bool.and_eq_true, decide_eq_true_eq] at hc
    obtain ⟨rfl, h2, h3⟩ := hc
    obtain ⟨hg, hdb, hn⟩ := gloB_ok h2
    have hs := chk_shape h3
    have hpa := pa_cons (ha X W a' gd h3).1 pa_nil (shape_star hs _ _)
    have e : eval Φ G (.b1 f a) = fun g h => bd (eval Φ G a g h) fun r h => b1M f r.frz h := by
      funext g h
      simp only [eval]
    have pe : PE X (.Call (.Name (b1N f) p) [a'] [] pos) (rE X.K W (eval Φ G (.b1 f a))) := by
      rw [e]
      cases f with
      | len =>
        refine PE_imp (pe_callB call_len_seq hg (gd.blt _ (by decide)) boot_len' hpa hn hdb (shape_star hs _ _) rfl) fun σ H Q q => rd_arg1 q fun μ h H d v hr q1 F => ?_
        obtain ⟨d', e1, k1⟩ := valR_fin F hr
        simp only [b1] at e1
        cases c : seqOf h d with
        | none => rw [c] at e1; cases e1
        | some l =>
          rw [c] at e1
          cases e1
          obtain ⟨p', vs, rfl, s, t⟩ := seq_of hr q1 c
          exact ⟨p', vs, rfl, s, k1 _ (by rw [t.length]; rfl)⟩
      | abs =>
        refine PE_imp (pe_callB call_abs hg (gd.blt _ (by decide)) boot_abs' hpa hn hdb (shape_star hs _ _) rfl) fun σ H Q q => rd_arg1 q fun μ h H d v hr q1 F => ?_
        obtain ⟨d', e1, k1⟩ := valR_fin F hr
        cases d with
        | int i =>
          cases e1
          cases q1
          exact ⟨i, rfl, k1 _ rfl⟩
        | _ => cases e1
      | int =>
        refine PE_imp (pe_callTy call_int1 hg (gd.blt _ (by decide)) boot_int' hpa hn hdb (shape_star hs _ _) rfl) fun σ H Q q => rd_arg1 q fun μ h H d v hr q1 F => ?_
        obtain ⟨d', e1, k1⟩ := valR_fin F hr
        cases d with
        | int i =>
          cases e1
          cases q1
          exact .inl ⟨i, rfl, k1 _ rfl⟩
        | bl b =>
          cases e1
          cases q1
          exact .inr ⟨b, rfl, k1 _ rfl⟩
        | _ => cases e1
    exact ⟨pe, pt_plain pe rfl⟩
  · cases hc
theorem se_b2 (f : B2) (a b : E) (ha : SE P Φ G k a) (hb : SE P Φ G k b) : SE P Φ G k (.b2 f a b) := fun X W x gd hc => by
  simp only [chk] at hc
  split at hc
  · rename_i n p a' b' pos
    simp only [Bool.and_eq_true, decide_eq_true_eq] at hc
    obtain ⟨rfl, h2, h3, h4⟩ := hc
    obtain ⟨hg, hdb, hn⟩ := gloB_ok h2
    have hs := chk_shape h3
    have hs2 := chk_shape h4
    have hpa := pa_cons (ha X W a' gd h3).1 (pa_cons (hb X W b' gd h4).1 pa_nil (shape_star hs2 _ _)) (shape_star hs _ _)
    have hany : (backTo pos (starEach [b'] X.env)).any (·.1) = false := by rw [shape_star hs2]; rfl
    have e : eval Φ G (.b2 f a b) = fun g h => bd (eval Φ G a g h) fun r h => bd (eval Φ G b g h) fun q h => b2M f r.frz q.frz h := by
      funext g h
      simp only [eval]
    have pe : PE X (.Call (.Name (b2N f) p) [a', b'] [] pos) (rE X.K W (eval Φ G (.b2 f a b))) := by
      rw [e]
      have two : ∀ {μ : Mu} {h : Heap} {H : Hp} {d1 d2 : D} {v w : V} {d' : D}, RD X.K μ h.length H d1 v → RD X.K μ h.length H d2 w → b2 f d1 d2 = some d' → ∃ i j, d1 = .int i ∧ d2 = .int j ∧ v = .int i ∧ w = .int j := by
        intro μ h H d1 d2 v w d' q1 q2 e1
        cases d1 with
        | int i =>
          cases d2 with
          | int j => exact ⟨i, j, rfl, rfl, q1, q2⟩
          | _ => cases f <;> cases e1
        | _ => cases f <;> cases e1
      cases f with
      | min =>
        refine PE_imp (pe_callB (call_min2 gd.calm) hg (gd.blt _ (by decide)) boot_min' hpa hn hdb (shape_star hs _ _) hany) fun σ H Q q => rd_arg2 q fun μ h H d e v w hr q1 q2 F => ?_
        obtain ⟨d', e1, k1⟩ := valR_fin F hr
        obtain ⟨i, j, rfl, rfl, rfl, rfl⟩ := two q1 q2 e1
        cases e1
        exact ⟨i, j, rfl, k1 _ rfl⟩
      | max =>
        refine PE_imp (pe_callB (call_max2 gd.calm) hg (gd.blt _ (by decide)) boot_max' hpa hn hdb (shape_star hs _ _) hany) fun σ H Q q => rd_arg2 q fun μ h H d e v w hr q1 q2 F => ?_
        obtain ⟨d', e1, k1⟩ := valR_fin F hr
        obtain ⟨i, j, rfl, rfl, rfl, rfl⟩ := two q1 q2 e1
        cases e1
        exact ⟨i, j, rfl, k1 _ rfl⟩
    exact ⟨pe, pt_plain pe rfl⟩
  · cases hc

/-! ### isinstance -/
theorem isTy_of {K : PySem.W.Frag} {μ : Mu} {h : Heap} {H : Hp} {d : D} {v : V} {t : Ty} {b : Bool} (r : HR K μ h H) (q : RD K μ h.length H d v) (e : isTy h t d = some b) : ∃ u, TyX K H v (.type u) ∧ kitB u (tyN t) = some b := by
  have lst : ∀ (o : Option Bool), o = some (decide (t = .list)) → o = some b → kitB "list" (tyN t) = some b := by
    intro o e1 e2
    rw [e1] at e2
    cases e2
    cases t <;> decide +kernel
  have tup : some (decide (t = .tuple)) = some b → kitB "tuple" (tyN t) = some b := by
    intro e2
    cases e2
    cases t <;> decide +kernel
  cases d with
  | non => cases q; cases e; exact ⟨_, .base .non, by cases t <;> decide +kernel⟩
  | bl c => cases q; cases e; exact ⟨_, .base (.bl c), by cases t <;> decide +kernel⟩
  | int c => cases q; cases e; exact ⟨_, .base (.int c), by cases t <;> decide +kernel⟩
  | str c => cases q; cases e; exact ⟨_, .base (.str c), by cases t <;> decide +kernel⟩
  | tup l =>
    simp only [RD] at q
    obtain ⟨a, vs, rfl, s, _⟩ := q
    refine ⟨"tuple", ?_, tup e⟩
    rcases s with (s | ⟨o, s⟩) | ⟨o, its, n, hk, hc, _⟩
    · exact .base (.tup s)
    · exact .fTuple s
    · exact .kTuple hk hc
  | lst l =>
    simp only [RD] at q
    obtain ⟨a, vs, rfl, s, _⟩ := q
    refine ⟨"list", ?_, lst _ rfl e⟩
    rcases (show SqL K H a vs from s.sq) with (s | ⟨o, s⟩) | ⟨o, its, n, hk, hc, _⟩
    · exact .base (.lst s)
    · exact .base (.frz s)
    · exact .kList hk hc
  | scr l =>
    simp only [RD] at q
    obtain ⟨a, vs, rfl, s, _⟩ := q
    refine ⟨"list", ?_, lst _ rfl e⟩
    rcases s.sqk with (s | ⟨o, s⟩) | ⟨o, its, n, hk, hc, _⟩
    · exact .base (.lst s)
    · exact .base (.frz s)
    · exact .kList hk hc
  | dic ks l =>
    cases e
    simp only [RD] at q
    obtain ⟨a, kvs, rfl, ⟨s, _⟩, _⟩ := q
    refine ⟨"dict", ?_, by cases t <;> decide +kernel⟩
    rcases s with s | ⟨o, s⟩
    · exact .base (.dK s)
    · exact .fDict s
  | loc p =>
    simp only [isTy] at e
    cases c : h[p]? with
    | none => rw [c] at e; cases e
    | some o =>
      rw [c] at e
      cases o with
      | dic _ =>
        cases e
        obtain ⟨kvs, e1, _⟩ := r.ob p _ c
        simp only [RD] at q
        rw [q.2]
        exact ⟨"dict", .base (.dK e1), by cases t <;> decide +kernel⟩
      | lst m =>
        obtain ⟨vs, e1, _⟩ := r.ob p _ c
        simp only [RD] at q
        rw [q.2]
        exact ⟨"list", .base (.lst e1), lst _ rfl e⟩
theorem boot_ty (t : Ty) : bootBuiltins (Str.ofString (tyN t)) = some (.type (tyN t)) := by
  cases t <;> decide +kernel
theorem se_isinst (a : E) (t : Ty) (ha : SE P Φ G k a) : SE P Φ G k (.isinst a t) := fun X W x gd hc => by
  simp only [chk] at hc
  split at hc
  · rename_i n p a' m pm pos
    simp only [Bool.and_eq_true, decide_eq_true_eq] at hc
    obtain ⟨rfl, h2, rfl, h3, h4⟩ := hc
    obtain ⟨hg, hdb, hn⟩ := gloB_ok h2
    obtain ⟨hg2, hdb2, hn2⟩ := gloB_ok h3
    have hs := chk_shape h4
    have hm2 : X.mg (Str.ofString (tyN t)) = none := gd.blt _ (by cases t <;> decide)
    have hty : PE X (.Name (Str.ofString (tyN t)) pm) (tC (.ty (tyN t))) := pe_bltn hg2 hm2 (boot_ty t) rfl hn2 hdb2
    have e : eval Φ G (.isinst a t) = fun g h => bd (eval Φ G a g h) fun r h => tyM t r.frz h := by
      funext g h
      simp only [eval]
    have pe : PE X (.Call (.Name "isinstance" p) [a', .Name (Str.ofString (tyN t)) pm] [] pos) (rE X.K W (eval Φ G (.isinst a t))) := by
      rw [e]
      refine PE_imp (pe_callB call_isi hg (gd.blt _ (by decide)) boot_isi' (pa_cons (ha X W a' gd h4).1 (pa_cons hty pa_nil rfl) (shape_star hs _ _)) hn hdb (shape_star hs _ _) rfl) fun σ H Q q => ?_
      refine rd_bind (ρ := RR X.K) (ρ' := RR X.K) (k := fun g r h => tyM t r.frz h) q back_RR fun μ1 g h1 H1 r v H0 hr er q1 F => ?_
      obtain ⟨b, e1, k1⟩ := boolR_fin F hr
      obtain ⟨u, ty, kb⟩ := isTy_of hr q1.frz e1
      exact ⟨v, .ty (tyN t), _, _, b, rfl, .ty _, ty, kit_ty kb, k1⟩
    exact ⟨pe, pt_plain pe rfl⟩
  · cases hc
end
end MP

/-! MP.Snd9: built-in functions over sequences; methods of lists; new places. -/
namespace MP
open PySem PySem.Spec PyProof.Rows L2

/-! ### what the library has for lists, for tuples -/
section
variable {prog : Program} {w : World} {A : Around} {E : Value → Shared → Prop} {s : Shared}
theorem iter_tup {l : Addr} {items : Array Value} {Q : Value → Shared → Prop} (hl : s.heap.IsTuple l items)
    (h : ∀ s₂ : Shared, s₂ = { s with heap := s.heap.push { cls := .type "tuple_iterator", data := .fields #[.ref l, .int 0 0] } } →
      (s₂.heap.IsTupleIter s.heap.objs.size l 0 ∧ s₂.heap.IsTuple l items) → l ≠ s.heap.objs.size → Q (.ref s.heap.objs.size) s₂) : wpAny (model prog w) A (pyIter (.ref l)) Q E s := by
  have hlt : l < s.heap.objs.size := by obtain ⟨_, e, _⟩ := hl; exact Heap.lt_size e
  exact wpAny_pyIter_tuple hl (h _ rfl ⟨⟨_, Heap.get?_push_size _ rfl, rfl, rfl⟩, hl.push _⟩ (Nat.ne_of_lt hlt))
theorem sum_tup {l : Addr} {xs : Array (Int × Tok)} {Q : Value → Shared → Prop} (hh : A.handled = none) (hl : s.heap.IsTuple l (intItems xs))
    (h : ∀ h' tk t', (∀ b o, s.heap.get? b = some o → h'.get? b = some o) → Q (.int (preSum (numAt xs) xs.size) t') { s with heap := h', toks := tk }) :
    wpAny (model prog w) A (call (.builtin "sum") [.ref l]) Q E s := by
  refine call_sum_walkG (iter_tup hl fun s₂ e st hne => ?_)
  subst e
  have hlt : l < s.heap.objs.size := by obtain ⟨_, e, _⟩ := hl; exact Heap.lt_size e
  refine ⟨_, _, _, _, _, _, numAt xs, rfl, Walks.tuple (A := A.in1) hh _ l hne (intItems xs), st, fun b hb => ?_, (fun _ _ => intItems_at), fun h' tk t' hk => ?_⟩
  · show b < (s.heap.push _).objs.size
    rw [Heap.size_push]
    have e' : b = s.heap.objs.size ∨ b = l := by simpa using hb
    rcases e' with e | e
    · rw [e]; exact Nat.lt_succ_self _
    · rw [e]; exact Nat.lt_succ_of_lt hlt
  · have := h h' tk t' fun b o eo => hk b o (fun hmem => by
      have e1 : b = s.heap.objs.size := by simpa using hmem
      exact absurd (e1 ▸ Heap.lt_size eo) (Nat.lt_irrefl _)) (Heap.get?_push_of_some _ eo)
    simpa [intItems] using this
end
section
variable {X : Cx}
theorem cr_sumT (hc : X.calm = true) : CallR X (.builtin "sum") (fun vs H Q => ∃ (a : Addr) (ns : List Int), vs = [V.ref a] ∧ SqT X.K H a (ns.map V.int) ∧ Q (.int ns.sum) H) := by
  intro pins s σ H vs us Q I r h
  obtain ⟨a, ns, rfl, hs, q⟩ := h
  obtain ⟨its, rv, hl, _⟩ := I.tuple hs
  rw [Vals.ref1 r]
  have hi := rv.ints
  obtain ⟨xs, e⟩ := hi.allInts.items
  have hn : numsOf (intItems xs).toList = ns := by rw [← e]; exact hi.numsOf
  rw [nums_intItems] at hn
  rw [e] at hl
  have hl' : s.heap.IsTuple a (intItems xs) := hl
  refine sum_tup (I.ok.hd hc) hl' fun h' tk t' hk => ?_
  refine ⟨.int _, H, I.kept hk, ⟨_, rfl⟩, ?_⟩
  rw [preSum_eq, List.take_of_length_le (by simp), hn]
  exact q
theorem cr_anyT (hc : X.calm = true) : CallR X (.builtin "any") (fun vs H Q => ∃ (a : Addr) (bs : List Bool), vs = [V.ref a] ∧ SqT X.K H a (bs.map V.bl) ∧ Q (.bl (bs.any id)) H) := by
  intro pins s σ H vs us Q I r h
  obtain ⟨a, bs, rfl, hs, q⟩ := h
  obtain ⟨its, rv, hl, _⟩ := I.tuple hs
  have hl' : s.heap.IsTuple a its.toArray := hl
  rw [Vals.ref1 r]
  have hb := rv.bls
  refine call_any_walk (iter_tup hl' fun s₂ e2 st hne => ?_)
  subst e2
  refine ⟨_, _, _, _, _, _, _, rfl, Walks.tuple (A := X.A.in1) (I.ok.hd hc) _ a hne its.toArray, st, truth_bools hb, fun h' tk hk => ?_⟩
  refine ⟨.bl _, H, I.kept fun b o eo => hk b o (fun hmem => ?_) (Heap.get?_push_of_some _ eo), ?_, q⟩
  · have e1 : b = s.heap.objs.size := by simpa using hmem
    exact absurd (e1 ▸ Heap.lt_size eo) (Nat.lt_irrefl _)
  · show Value.bool _ = Value.bool _
    rw [← L2.any_range, hb, List.size_toArray, List.length_map]
theorem cr_allT (hc : X.calm = true) : CallR X (.builtin "all") (fun vs H Q => ∃ (a : Addr) (bs : List Bool), vs = [V.ref a] ∧ SqT X.K H a (bs.map V.bl) ∧ Q (.bl (bs.all id)) H) := by
  intro pins s σ H vs us Q I r h
  obtain ⟨a, bs, rfl, hs, q⟩ := h
  obtain ⟨its, rv, hl, _⟩ := I.tuple hs
  have hl' : s.heap.IsTuple a its.toArray := hl
  rw [Vals.ref1 r]
  have hb := rv.bls
  refine call_all_walk (iter_tup hl' fun s₂ e2 st hne => ?_)
  subst e2
  refine ⟨_, _, _, _, _, _, _, rfl, Walks.tuple (A := X.A.in1) (I.ok.hd hc) _ a hne its.toArray, st, truth_bools hb, fun h' tk hk => ?_⟩
  refine ⟨.bl _, H, I.kept fun b o eo => hk b o (fun hmem => ?_) (Heap.get?_push_of_some _ eo), ?_, q⟩
  · have e1 : b = s.heap.objs.size := by simpa using hmem
    exact absurd (e1 ▸ Heap.lt_size eo) (Nat.lt_irrefl _)
  · show Value.bool _ = Value.bool _
    rw [← L2.all_range, hb, List.size_toArray, List.length_map]
end
/-! ### sorted of a tuple -/
section
open PyProof.Rows Srt SrtO
variable {prog : Program} {w : World} {A : Around} {E : Value → Shared → Prop} {s : Shared}
theorem collect_tup {l : Addr} {vs : List Value} {Q : List Value → Shared → Prop} (hl : s.heap.IsTuple l vs.toArray)
    (h : Q vs { s with heap := (s.heap.push (seqObj "list" #[] 0)).update s.heap.objs.size (Obj.mapSeq (· ++ vs.toArray)) }) (hsz : vs.length ≤ sizeLine) :
    wpAny (model prog w) A (collect (.ref l)) Q E s := by
  obtain ⟨o, ho, hc, n, hd⟩ := id hl
  unfold collect
  refine wpAny_bind (wpAny_runValue (codeAny_builtin entry_proto_collect' ?_))
  show wpAny _ _ (do again (.builtin "list.__iadd__" ⟨[← newList [], .ref l], []⟩)) _ _ s
  refine wpAny_bind (wpAny_newList (wpAny_pure ⟨Code.quiet_builtin _ (by decide +kernel), codeAny_builtin entry_list_iadd' ?_⟩))
  show wpAny _ _ (Builtin.List.listExtendWith (.ref s.heap.objs.size) (.ref l) (.ref s.heap.objs.size)) _ _ { s with heap := s.heap.push (seqObj "list" #[] 0) }
  unfold Builtin.List.listExtendWith
  have ho' : (s.heap.push (seqObj "list" #[] 0)).get? l = some o := Heap.get?_push_of_some _ ho
  refine wpAny_bind (wpAny_typeOf (T := "tuple") ⟨o, ho', hc⟩ ?_)
  have ht : (Value.type "tuple" == Value.type "tuple") = true := by rfl
  rw [if_pos (by rw [ht]; simp)]
  refine wpAny_bind (listItems_at ho' hd ?_)
  refine wpAny_bind (listItems_at (xs := #[]) (n := 0) (Heap.get?_push_size _ rfl) rfl ?_)
  rw [if_neg (by simp)]
  refine wpAny_bind (listUpdate_at (xs := #[]) (n := 0) (Heap.get?_push_size _ rfl) rfl ?_ (Nat.zero_le _) (by show (#[] ++ vs.toArray).size ≤ sizeLine + 1; simp only [Array.size_append, List.size_toArray, List.length_nil]; omega))
  refine wpAny_pure ?_
  show wpAny (model prog w) A (do
      let o ← load s.heap.objs.size
      match o.data with
      | .seq xs _ => pure xs.toList
      | _ => unsupported "internal:collect") Q E { s with heap := (s.heap.push (seqObj "list" #[] 0)).update s.heap.objs.size (Obj.mapSeq (· ++ vs.toArray)) }
  refine wpAny_bind (wpAny_load (get?_update_seq (Heap.get?_push_size _ rfl) _) ?_)
  show wpAny _ _ (pure ((#[] : Array Value) ++ vs.toArray).toList) Q E _
  rw [show ((#[] : Array Value) ++ vs.toArray).toList = vs by simp]
  exact wpAny_pure h
theorem sorted_ordT {l : Addr} {vs : List Value} {ltv : Value → Value → Bool} {Q : Value → Shared → Prop} (O : Swo ltv) (hl : s.heap.IsTuple l vs.toArray) (hz : vs.length ≤ sizeLine)
    (hS : 2 ≤ vs.length → ∀ (h₁ : PySem.Heap) (a : Addr), h₁.get? a = some (seqObj "list" vs.toArray 0) → (∀ b o, s.heap.get? b = some o → b ≠ a ∧ h₁.get? b = some o) → SortableO prog w A.in1.in1 { s with heap := h₁ } a vs ltv)
    (h : ∀ out : List Value, Srtd ltv out → Stb ltv out vs → Q (.ref (s.heap.objs.size + 1)) { s with heap := sortedAll s.heap vs out.toArray }) :
    wpAny (model prog w) A (call (.builtin "sorted") [.ref l]) Q E s := by
  refine Calls.call_function_entry kind_sorted plain_sorted entry_sorted (args_sorted1 _) ?_
  unfold Builtin.«sorted»
  refine wpAny_bind (m := checkCount "sorted" 1 1 _) (wpAny_pure ?_)
  refine wpAny_bind (collect_tup hl ?_ hz)
  refine wpAny_bind (wpAny_newList ?_ hz)
  have hsz : ((s.heap.push (seqObj "list" #[] 0)).update s.heap.objs.size (Obj.mapSeq (· ++ vs.toArray))).objs.size = s.heap.objs.size + 1 := by
    rw [Heap.size_update, size_push']
  have hoL : (((s.heap.push (seqObj "list" #[] 0)).update s.heap.objs.size (Obj.mapSeq (· ++ vs.toArray))).push (seqObj "list" vs.toArray 0)).get? (s.heap.objs.size + 1) = some (seqObj "list" vs.toArray 0) := by
    rw [← hsz]
    exact Heap.get?_push_size _ rfl
  have keep : ∀ b o, s.heap.get? b = some o → b ≠ s.heap.objs.size + 1 ∧ (((s.heap.push (seqObj "list" #[] 0)).update s.heap.objs.size (Obj.mapSeq (· ++ vs.toArray))).push (seqObj "list" vs.toArray 0)).get? b = some o := fun b o q => by
    have hlt : b < s.heap.objs.size := Heap.lt_size q
    refine ⟨Nat.ne_of_lt (Nat.lt_succ_of_lt hlt), Heap.get?_push_of_some _ ?_⟩
    rw [Heap.get?_update_ne _ _ _ _ (Nat.ne_of_lt hlt)]
    exact Heap.get?_push_of_some _ q
  show wpAny _ _ _ _ _ { s with heap := ((s.heap.push (seqObj "list" #[] 0)).update s.heap.objs.size (Obj.mapSeq (· ++ vs.toArray))).push (seqObj "list" vs.toArray 0) }
  rw [hsz]
  refine wpAny_bind (wpAny_holding (wpAny_call_entry slot_list_sort ⟨_, hoL, rfl⟩ entry_list_sort (list_sort_ord O hoL hz (fun h2 => hS h2 _ _ hoL keep) fun out hs hb => ⟨_, rfl, ?_⟩) (args_list_sort _)))
  exact wpAny_pure ⟨_, rfl, h out hs hb⟩
theorem sorted_pairsT {l : Addr} {vs : List Value} {k : Value → Int × Int} {Q : Value → Shared → Prop} (hl : s.heap.IsTuple l vs.toArray) (hz : vs.length ≤ sizeLine) (hp : ∀ v ∈ vs, IsPair s.heap v (k v).1 (k v).2)
    (h : ∀ (h' : PySem.Heap) (d : Addr) (out : List Value), Srtd (fun v u => lexB (k v) (k u)) out → Stb (fun v u => lexB (k v) (k u)) out vs → (∀ b o, s.heap.get? b = some o → h'.get? b = some o) → s.heap.objs.size ≤ d → (∃ n, h'.get? d = some (seqObj "list" out.toArray n)) → Q (.ref d) { s with heap := h' }) :
    wpAny (model prog w) A (call (.builtin "sorted") [.ref l]) Q E s := by
  refine sorted_ordT (swo_lex k) hl hz (fun h2 h₁ a ha kk => ?_) fun out hs hb => ?_
  · refine pairs_sortableO (s := { s with heap := h₁ }) (by omega) (fun v hm => (hp v hm).keeps fun b o e _ => (kk b o e).2) fun o e => ?_
    have e' : some o = some (seqObj "list" vs.toArray 0) := e.symm.trans ha
    cases e'
    intro c
    exact absurd (Value.type.inj c) (by decide)
  · exact h _ _ out hs hb (fun b o e => sortedAll_old e) (Nat.le_succ _) (sortedAll_at s.heap vs out.toArray)
end
section
variable {X : Cx}
-- sorted of a list or a tuple of ints, of pairs of ints
def rSrtI (K : PySem.W.Frag) : List V → Hp → VK → Prop := fun vs H Q => ∃ (a : Addr) (ns : List Int), vs = [V.ref a] ∧ (SqL K H a (ns.map V.int) ∨ SqT K H a (ns.map V.int)) ∧
  ∀ (ns' : List Int) (p : Addr), ns'.Perm ns → ns'.Pairwise (· ≤ ·) → H p = none → Q (.ref p) (upd H p (.lst (ns'.map V.int)))
theorem cr_srtI : CallR X (.builtin "sorted") (rSrtI X.K) := by
  intro pins s σ H vs us Q I r h
  obtain ⟨a, ns, rfl, hs, q⟩ := h
  rcases hs with hs | hs
  · exact cr_sortedI pins s σ H _ us Q I r ⟨a, ns, rfl, hs, q⟩
  · obtain ⟨its, rv, hl, hz⟩ := I.tuple hs
    have hl' : s.heap.IsTuple a its.toArray := hl
    rw [Vals.ref1 r]
    have hi := rv.ints
    refine sorted_ordT SrtO.swo_int hl' (by rw [← rv.length]; exact hz) (fun h2 h₁ a' _ _ => SrtO.ints_sortable hi h2) fun out h1 h2 => ?_
    obtain ⟨k1, k2, k3⟩ := SrtO.ints_out hi h1 h2
    obtain ⟨ep, he'⟩ := PyProof.Rows.sortedAll_at s.heap its out.toArray
    have hlen : ((out.map SrtO.iv).map V.int).length ≤ sizeLine := by
      rw [List.length_map, k2.length_eq]
      rw [List.length_map] at hz
      exact hz
    exact ⟨.ref _, upd H (s.heap.objs.size + 1) (.lst ((out.map SrtO.iv).map V.int)), I.laid (t' := s.toks) (fun _ _ => PyProof.Rows.sortedAll_old) (Nat.le_succ _) ⟨hlen, out, ep, vals_of_ints k1, he'⟩, rfl, q _ _ k2 k3 (I.hok.fresh (Nat.le_succ _))⟩
def rSrtP (K : PySem.W.Frag) : List V → Hp → VK → Prop := fun vs H Q => ∃ (a : Addr) (xs : List V) (k : V → Int × Int), vs = [V.ref a] ∧ (SqL K H a xs ∨ SqT K H a xs) ∧ (∀ x ∈ xs, ∃ t, x = V.ref t ∧ SqT K H t [.int (k x).1, .int (k x).2]) ∧
  ∀ ys p, SrtO.Srtd (ltP k) ys → SrtO.Stb (ltP k) ys xs → H p = none → Q (.ref p) (upd H p (.lst ys))
theorem cr_srtP : CallR X (.builtin "sorted") (rSrtP X.K) := by
  intro pins s σ H vs us Q I r h
  obtain ⟨a, xs, k, rfl, hs, hx, q⟩ := h
  rw [Vals.ref1 r]
  have main : ∀ (its : List Value), Vals xs its → xs.length ≤ sizeLine → (s.heap.IsList a its.toArray ∨ s.heap.IsTuple a its.toArray) → wpAny (model X.prog X.w) X.A (call (.builtin "sorted") [.ref a]) (EP X pins σ Q) X.xe s := fun its rv hz hl => by
    obtain ⟨e1, e2⟩ := refs_back rv fun x m => by
      obtain ⟨t, e, _⟩ := hx x m
      exact ⟨t, e⟩
    have hp : ∀ v ∈ its, Srt.IsPair s.heap v (k (backV v)).1 (k (backV v)).2 := fun v hv => by
      obtain ⟨t, rfl⟩ := e2 v hv
      have hm : V.ref t ∈ xs := by rw [e1]; exact List.mem_map.mpr ⟨_, hv, rfl⟩
      obtain ⟨t', e, ht⟩ := hx _ hm
      cases e
      obtain ⟨its2, r2, ⟨o, ho, hc, n, hd⟩, _⟩ := I.tuple ht
      obtain ⟨u1, u2, rfl, ri, rj⟩ := vals2 r2
      obtain ⟨t1, rfl⟩ := ri
      obtain ⟨t2, rfl⟩ := rj
      exact ⟨t, o, t1, t2, n, rfl, ho, hc, hd⟩
    have fin : ∀ (h' : PySem.Heap) (d : Addr) (out : List Value), SrtO.Srtd (fun v u => SrtO.lexB (k (backV v)) (k (backV u))) out → SrtO.Stb (fun v u => SrtO.lexB (k (backV v)) (k (backV u))) out its → (∀ b o, s.heap.get? b = some o → h'.get? b = some o) → s.heap.objs.size ≤ d → (∃ n, h'.get? d = some (seqObj "list" out.toArray n)) → EP X pins σ Q (.ref d) { s with heap := h' } := fun h' d out h1 h2 kp hd hn => by
      have h3 : ∀ u ∈ out, ∃ a, u = Value.ref a := fun u hu => e2 u (h2.perm.mem_iff.mp hu)
      obtain ⟨n, hn⟩ := hn
      have hb : SrtO.Stb (ltP k) (out.map backV) xs := by
        rw [e1]
        exact SrtO.Stb.map (ltP_swo k) backV h2
      refine ⟨.ref d, upd H d (.lst (out.map backV)), I.laid (t' := s.toks) kp hd ⟨?_, out, n, vals_back h3, hn⟩, rfl, q _ d (SrtO.srtd_map h1) hb (I.hok.fresh hd)⟩
      rw [hb.len]
      exact hz
    rcases hl with hl | hl
    · exact SrtO.sorted_pairsO (k := fun u => k (backV u)) hl (by rw [← rv.length]; exact hz) hp fin
    · exact sorted_pairsT (k := fun u => k (backV u)) hl (by rw [← rv.length]; exact hz) hp fin
  rcases hs with hs | hs
  · obtain ⟨its, rv, hl, hz⟩ := I.list hs
    exact main its rv hz (.inl hl.isList)
  · obtain ⟨its, rv, hl, hz⟩ := I.tuple hs
    exact main its rv hz (.inr hl)
end
/-! ### there is just one such list -/
theorem sorted_uniq {α : Type} {r : α → α → Prop} (anti : ∀ a b, r a b → r b a → a = b) : ∀ {l m : List α}, l.Perm m → l.Pairwise r → m.Pairwise r → l = m
  | [], m, p, _, _ => (List.Perm.nil_eq p)
  | a :: l, [], p, _, _ => absurd p.length_eq (by simp)
  | a :: l, b :: m, p, hl, hm => by
    have h1 : a = b := by
      have ha : a ∈ b :: m := p.subset (List.mem_cons_self)
      have hb : b ∈ a :: l := p.symm.subset (List.mem_cons_self)
      rcases List.mem_cons.mp ha with e | ha
      · exact e
      · rcases List.mem_cons.mp hb with e | hb
        · exact e.symm
        · exact anti a b ((List.pairwise_cons.mp hl).1 b hb) ((List.pairwise_cons.mp hm).1 a ha)
    subst h1
    rw [sorted_uniq anti p.cons_inv (List.pairwise_cons.mp hl).2 (List.pairwise_cons.mp hm).2]
theorem insBy_perm {α : Type} (le : α → α → Bool) (x : α) : ∀ l : List α, (insBy le x l).Perm (x :: l)
  | [] => .refl _
  | y :: r => by
    unfold insBy
    split
    · exact .refl _
    · exact ((insBy_perm le x r).cons y).trans (.swap x y r)
theorem sortBy_perm {α : Type} (le : α → α → Bool) : ∀ l : List α, (sortBy le l).Perm l
  | [] => .refl _
  | x :: r => (insBy_perm le x (sortBy le r)).trans ((sortBy_perm le r).cons x)
theorem insBy_sorted {α : Type} {le : α → α → Bool} (tot : ∀ a b, le a b = false → le b a = true) (tr : ∀ a b c, le a b = true → le b c = true → le a c = true) (x : α) :
    ∀ l : List α, l.Pairwise (fun a b => le a b = true) → (insBy le x l).Pairwise (fun a b => le a b = true)
  | [], _ => by simp [insBy]
  | y :: r, h => by
    obtain ⟨h1, h2⟩ := List.pairwise_cons.mp h
    unfold insBy
    split
    · rename_i hxy
      refine List.pairwise_cons.mpr ⟨fun z hz => ?_, h⟩
      rcases List.mem_cons.mp hz with rfl | hz
      · exact hxy
      · exact tr x y z hxy (h1 z hz)
    · rename_i hxy
      refine List.pairwise_cons.mpr ⟨fun z hz => ?_, insBy_sorted tot tr x r h2⟩
      rcases List.mem_cons.mp ((insBy_perm le x r).subset hz) with rfl | hz
      · exact tot z y (by simpa using hxy)
      · exact h1 z hz
theorem sortBy_sorted {α : Type} {le : α → α → Bool} (tot : ∀ a b, le a b = false → le b a = true) (tr : ∀ a b c, le a b = true → le b c = true → le a c = true) : ∀ l : List α, (sortBy le l).Pairwise (fun a b => le a b = true)
  | [] => .nil
  | x :: r => insBy_sorted tot tr x _ (sortBy_sorted tot tr r)
theorem leI_tot (a b : Int) (h : leI a b = false) : leI b a = true := by
  simp only [leI, decide_eq_false_iff_not, decide_eq_true_eq] at h ⊢
  omega
theorem leI_tr (a b c : Int) (h : leI a b = true) (h2 : leI b c = true) : leI a c = true := by
  simp only [leI, decide_eq_true_eq] at h h2 ⊢
  omega
theorem leP_iff (a b : Int × Int) : leP a b = true ↔ a.1 < b.1 ∨ (a.1 = b.1 ∧ a.2 ≤ b.2) := by
  simp only [leP, Bool.or_eq_true, Bool.and_eq_true, decide_eq_true_eq]
theorem leP_tot (a b : Int × Int) (h : leP a b = false) : leP b a = true := by
  rw [leP_iff]
  have : ¬ (a.1 < b.1 ∨ (a.1 = b.1 ∧ a.2 ≤ b.2)) := by
    rw [← leP_iff, h]
    exact Bool.false_ne_true
  omega
theorem leP_tr (a b c : Int × Int) (h : leP a b = true) (h2 : leP b c = true) : leP a c = true := by
  rw [leP_iff] at *
  omega
theorem leP_anti (a b : Int × Int) (h : leP a b = true) (h2 : leP b a = true) : a = b := by
  rw [leP_iff] at *
  exact Prod.ext (by omega) (by omega)
theorem sorted_ints {ns ns' : List Int} (p : ns'.Perm ns) (s : ns'.Pairwise (· ≤ ·)) : ns' = sortBy leI ns :=
  sorted_uniq (r := fun a b => a ≤ b) (fun a b h1 h2 => Int.le_antisymm h1 h2) (p.trans (sortBy_perm leI ns).symm) s ((sortBy_sorted leI_tot leI_tr ns).imp fun h => by simpa [leI] using h)
-- a pair of ints at v
def PairV (K : PySem.W.Frag) (H : Hp) (v : V) (p : Int × Int) : Prop := ∃ t, v = .ref t ∧ SqT K H t [.int p.1, .int p.2]
def PairsV (K : PySem.W.Frag) (H : Hp) : List V → List (Int × Int) → Prop
  | [], ps => ps = []
  | v :: vs, ps => ∃ p r, ps = p :: r ∧ PairV K H v p ∧ PairsV K H vs r
theorem PairsV.mem {K : PySem.W.Frag} {H : Hp} : ∀ {vs : List V} {ps : List (Int × Int)}, PairsV K H vs ps → ∀ v ∈ vs, ∃ p, PairV K H v p
  | [], _, _, v, h => absurd h (by simp)
  | w :: vs, _, q, v, h => by
    obtain ⟨p, r, rfl, q1, q2⟩ := q
    rcases List.mem_cons.mp h with rfl | h
    · exact ⟨p, q1⟩
    · exact PairsV.mem q2 v h
section
variable {X : Cx}
def rSrtQ (K : PySem.W.Frag) : List V → Hp → VK → Prop := fun vs H Q => ∃ (a : Addr) (xs : List V) (ps : List (Int × Int)), vs = [V.ref a] ∧ (SqL K H a xs ∨ SqT K H a xs) ∧ PairsV K H xs ps ∧
  ∀ ys p, PairsV K H ys (sortBy leP ps) → H p = none → Q (.ref p) (upd H p (.lst ys))
open Classical in
theorem cr_srtQ : CallR X (.builtin "sorted") (rSrtQ X.K) := by
  intro pins s σ H vs us Q I r h
  obtain ⟨a, xs, ps, rfl, hs, hp, q⟩ := h
  let k : V → Int × Int := fun v => if z : ∃ p, PairV X.K H v p then z.choose else (0, 0)
  have kp : ∀ v p, PairV X.K H v p → k v = p := fun v p hv => by
    have z : ∃ p, PairV X.K H v p := ⟨p, hv⟩
    have e : k v = z.choose := dif_pos z
    obtain ⟨t, e1, s1⟩ := z.choose_spec
    obtain ⟨t2, e2, s2⟩ := hv
    rw [e1] at e2
    cases e2
    have e3 := I.tuple_inj s1 s2
    simp only [List.cons.injEq, V.int.injEq, and_true] at e3
    rw [e]
    exact Prod.ext e3.1 e3.2
  have kps : ∀ {vs : List V} {ps : List (Int × Int)}, PairsV X.K H vs ps → vs.map k = ps := by
    intro vs
    induction vs with
    | nil => intro ps e; exact e.symm
    | cons v vs ih =>
      intro ps e
      obtain ⟨p, r, rfl, q1, q2⟩ := e
      rw [List.map_cons, kp v p q1, ih q2]
  refine cr_srtP pins s σ H _ us Q I r ⟨a, xs, k, rfl, hs, fun x hx => ?_, fun ys p h1 h2 hpn => q ys p ?_ hpn⟩
  · obtain ⟨p, hv⟩ := hp.mem x hx
    rw [kp x p hv]
    exact hv
  · have e1 : ys.map k = sortBy leP ps := by
      refine sorted_uniq (r := fun a b => leP a b = true) leP_anti ?_ ?_ (sortBy_sorted leP_tot leP_tr ps)
      · rw [← kps hp]
        exact (h2.perm.map k).trans (sortBy_perm leP _).symm
      · rw [List.pairwise_map]
        refine List.Pairwise.imp (fun {v w} z => ?_) h1
        have z' : SrtO.lexB (k w) (k v) = false := z
        rw [SrtO.lexB_no] at z'
        rw [leP_iff]
        omega
    rw [← e1]
    have all : ∀ v ∈ ys, PairV X.K H v (k v) := fun v hv => by
      obtain ⟨p, hp'⟩ := hp.mem v (h2.perm.mem_iff.mp hv)
      rw [kp v p hp']
      exact hp'
    clear e1 h1 h2 hpn
    induction ys with
    | nil => rfl
    | cons v vs ih => exact ⟨k v, _, rfl, all v (by simp), ih fun w hw => all w (by simp [hw])⟩
end
end MP

/-! MP.Snd10: built-in functions over sequences, methods, new places; all expressions. -/
namespace MP
open PySem PySem.Spec PyProof.Rows L2

section
variable {K : PySem.W.Frag} {μ : Mu} {n : Nat} {H : Hp}
theorem ints_V : ∀ {l : List D} {vs : List V} {ns : List Int}, RDs K μ n H l vs → MP.intsD l = some ns → vs = ns.map V.int
  | [], vs, ns, q, e => by
    simp only [RDs] at q
    subst q
    cases e
    rfl
  | d :: l, vs, ns, q, e => by
    simp only [RDs] at q
    obtain ⟨v, r, rfl, q1, q2⟩ := q
    cases d with
    | int i =>
      simp only [MP.intsD] at e
      cases c : MP.intsD l with
      | none => rw [c] at e; cases e
      | some ms =>
        rw [c] at e
        cases e
        cases q1
        rw [ints_V q2 c]
        rfl
    | _ => cases e
theorem bools_V : ∀ {l : List D} {vs : List V} {ns : List Bool}, RDs K μ n H l vs → bools l = some ns → vs = ns.map V.bl
  | [], vs, ns, q, e => by
    simp only [RDs] at q
    subst q
    cases e
    rfl
  | d :: l, vs, ns, q, e => by
    simp only [RDs] at q
    obtain ⟨v, r, rfl, q1, q2⟩ := q
    cases d with
    | bl i =>
      simp only [bools] at e
      cases c : bools l with
      | none => rw [c] at e; cases e
      | some ms =>
        rw [c] at e
        cases e
        cases q1
        rw [bools_V q2 c]
        rfl
    | _ => cases e
theorem ints_D (ns : List Int) : RDs K μ n H (ns.map D.int) (ns.map V.int) := by
  induction ns with
  | nil => simp only [List.map_nil, RDs]
  | cons i ns ih =>
    simp only [List.map_cons, RDs]
    exact ⟨_, _, rfl, rfl, ih⟩
theorem pairs_V : ∀ {l : List D} {vs : List V} {ps : List (Int × Int)}, RDs K μ n H l vs → pairs l = some ps → PairsV K H vs ps
  | [], vs, ns, q, e => by
    simp only [RDs] at q
    subst q
    cases e
    rfl
  | d :: l, vs, ns, q, e => by
    simp only [RDs] at q
    obtain ⟨v, r, rfl, q1, q2⟩ := q
    unfold pairs at e
    split at e
    · rename_i hq
      cases hq
    · rename_i i j r' hq
      cases hq
      cases c : pairs l with
      | none => rw [c] at e; cases e
      | some ms =>
        rw [c] at e
        cases e
        simp only [RD] at q1
        obtain ⟨a, us, rfl, s, t⟩ := q1
        simp only [RDs] at t
        obtain ⟨x, _, rfl, e1, y, _, rfl, e2, rfl⟩ := t
        cases e1
        cases e2
        exact ⟨_, _, rfl, ⟨a, rfl, s⟩, pairs_V q2 c⟩
    · cases e
theorem pairs_D : ∀ {vs : List V} {ps : List (Int × Int)}, PairsV K H vs ps → RDs K μ n H (ps.map pairD) vs
  | [], ps, q => by
    cases q
    simp only [List.map_nil, RDs]
  | v :: vs, ps, q => by
    obtain ⟨p, r, rfl, ⟨t, rfl, s⟩, q2⟩ := q
    simp only [List.map_cons, RDs, pairD, RD]
    refine ⟨_, _, rfl, ⟨t, _, rfl, s, _, _, rfl, rfl, _, _, rfl, rfl, rfl⟩, ?_⟩
    exact pairs_D q2
end
section
variable {P : PInfo} {Φ : Nat → List D → Heap → Res R} {G : Nat → Option D} {k : Nat}
-- a sequence, read: the items and where they stand
theorem intKs_V : ∀ {ks : List (Sum Int Str)} {ns : List Int}, intKs ks = some ns → ks = ns.map Sum.inl
  | [], ns, e => by cases e; rfl
  | .inl i :: r, ns, e => by
    simp only [intKs] at e
    cases c : intKs r with
    | none => rw [c] at e; cases e
    | some m =>
      rw [c] at e
      cases e
      rw [intKs_V c]
      rfl
  | .inr _ :: _, ns, e => by cases e
theorem RDs.zipl {K : PySem.W.Frag} {μ : Mu} {n : Nat} {H : Hp} : ∀ {ks : List (Sum Int Str)} {vs : List D} {us : List V}, RDs K μ n H vs us → ks.length = us.length → (ks.zip vs).map (·.1) = ks ∧ (ks.zip vs).map (·.2) = vs
  | [], [], us, q, e => ⟨rfl, rfl⟩
  | [], d :: vs, us, q, e => by
    have := q.length
    simp only [List.length_cons, List.length_nil] at this e
    omega
  | k :: ks, [], us, q, e => by
    have := q.length
    simp only [List.length_cons, List.length_nil] at this e
    omega
  | k :: ks, d :: vs, us, q, e => by
    simp only [RDs] at q
    obtain ⟨v, r, rfl, _, q2⟩ := q
    obtain ⟨a, b⟩ := RDs.zipl (ks := ks) q2 (by simpa using e)
    simp only [List.zip_cons_cons, List.map_cons, a, b, and_self]
theorem dic_of {K : PySem.W.Frag} {μ : Mu} {h : Heap} {H : Hp} {d : D} {v : V} {l : List (Sum Int Str × D)} (r : HR K μ h H) (q : RD K μ h.length H d v) (e : dicOf h d = some l) :
    ∃ (a : Addr) (kvs : List (Key × V)), v = .ref a ∧ Rd H a (.dK kvs) ∧ kvs.map (·.1) = l.map (·.1) ∧ RDs K μ h.length H (l.map (·.2)) (kvs.map (·.2)) := by
  cases d with
  | dic ks vs =>
    cases e
    simp only [RD] at q
    obtain ⟨a, kvs, rfl, s, ek, t⟩ := q
    obtain ⟨z1, z2⟩ := RDs.zipl (ks := ks) t (by rw [← ek]; simp)
    exact ⟨a, kvs, rfl, s.1, by rw [z1, ek], by rw [z2]; exact t⟩
  | loc p =>
    simp only [dicOf] at e
    cases c : h[p]? with
    | none => rw [c] at e; cases e
    | some o =>
      rw [c] at e
      cases o with
      | lst _ => cases e
      | dic m =>
        cases e
        obtain ⟨kvs, e1, ek, t⟩ := r.ob p _ c
        simp only [RD] at q
        exact ⟨_, kvs, q.2, .inl e1, ek, t⟩
  | _ => cases e
theorem seqIt_of {K : PySem.W.Frag} {μ : Mu} {h : Heap} {H : Hp} {d : D} {v : V} {its : Items} {h' : Heap} (r : HR K μ h H) (q : RD K μ h.length H d v) (e : seqIt d h = some (.ok its h')) :
    h' = h ∧ ∃ a vs, v = .ref a ∧ RDs K μ h.length H its.1 vs ∧ ((SqL K H a vs) ∨ (SqT K H a vs ∧ d = .tup its.1)) := by
  cases d with
  | tup l =>
    cases e
    simp only [RD] at q
    obtain ⟨a, vs, rfl, s, t⟩ := q
    exact ⟨rfl, a, vs, rfl, t, .inr ⟨s, rfl⟩⟩
  | lst l =>
    cases e
    simp only [RD] at q
    obtain ⟨a, vs, rfl, s, t⟩ := q
    exact ⟨rfl, a, vs, rfl, t, .inl s.sq⟩
  | scr l =>
    cases e
    simp only [RD] at q
    obtain ⟨a, vs, rfl, s, t⟩ := q
    exact ⟨rfl, a, vs, rfl, t, .inl s.sqk⟩
  | loc p =>
    simp only [seqIt] at e
    cases c : h[p]? with
    | none => rw [c] at e; cases e
    | some o =>
      rw [c] at e
      cases o with
      | dic _ => cases e
      | lst m =>
        cases e
        obtain ⟨vs, e1, t⟩ := r.ob p _ c
        simp only [RD] at q
        exact ⟨rfl, _, vs, q.2, t, .inl (.inl (.inl e1))⟩
  | _ => cases e
def seqB (f : BI) (d : D) (h : Heap) : Res R := bd (seqIt d h) fun it h => ofO (bi f it.1) h
theorem bi_args {K : PySem.W.Frag} {W : XK} {μ : Mu} {h : Heap} {H : Hp} {f : BI} {d : D} {v : V} {Q : VK} (hr : HR K μ h H) (q : RD K μ h.length H d v) (F : Fin K W (RR K) μ h H (seqB f d h) Q) :
    ∃ a vs l, v = .ref a ∧ RDs K μ h.length H l vs ∧ (SqL K H a vs ∨ (SqT K H a vs ∧ d = .tup l)) ∧ ∃ r, bi f l = some r ∧ ∀ v' H' μ', Post K μ h H μ' h H' → RR K μ' h H H' r v' → Q v' H' := by
  unfold seqB at F
  cases c : seqIt d h with
  | none => rw [c] at F; exact F.elim
  | some o =>
    rw [c] at F
    cases o with
    | exc x h' =>
      exfalso
      cases d <;> first | (cases c; done) | (simp only [seqIt] at c; split at c <;> cases c)
    | ok its h' =>
      obtain ⟨rfl, a, vs, rfl, t, s⟩ := seqIt_of hr q c
      simp only [bd_ok, ofO] at F
      cases e : bi f its.1 with
      | none => rw [e] at F; exact F.elim
      | some r =>
        rw [e] at F
        exact ⟨a, vs, its.1, rfl, t, s, r, e, F⟩
theorem callR_seq {X : Cx} {W : XK} (gd : Good P Φ G k X W) (f : BI) : CallR X (match f with
    | .tuple => .type "tuple"
    | .list => .type "list"
    | .sum => .builtin "sum"
    | .all => .builtin "all"
    | .any => .builtin "any"
    | .sorted => .builtin "sorted") (fun xs H Q => ∃ v, xs = [v] ∧ r1 X.K W (seqB f) v H Q) := by
  cases f with
  | tuple =>
    refine CallR_imp call_tuple_of fun xs H Q ⟨v, e, μ, h, d, hr, q, F⟩ => ?_
    subst e
    obtain ⟨a, vs, l, rfl, t, s, r, e, kf⟩ := bi_args hr q F
    simp only [bi] at e
    split at e <;> first | (cases e; done) | skip
    cases e
    rcases s with s | ⟨s, rfl⟩
    · refine ⟨a, vs, rfl, .inl ⟨s, fun p hp => ?_⟩⟩
      have Pn := Post.new (o := .tup vs) hr hp
      refine kf _ _ μ Pn ?_
      show RD X.K μ h.length _ (.tup l) (.ref p)
      simp only [RD]
      exact ⟨p, vs, rfl, .inl (.inl upd_same), RDs.mono Pn hr _ _ t⟩
    · exact ⟨a, vs, rfl, .inr ⟨s, kf _ _ μ (Post.refl hr) q⟩⟩
  | list =>
    refine CallR_imp call_list_of fun xs H Q ⟨v, e, μ, h, d, hr, q, F⟩ => ?_
    subst e
    obtain ⟨a, vs, l, rfl, t, s, r, e, kf⟩ := bi_args hr q F
    simp only [bi] at e
    split at e <;> first | (cases e; done) | skip
    cases e
    refine ⟨a, vs, rfl, s.imp id (·.1), fun p hp => ?_⟩
    have Pn := Post.new (o := .lst vs) hr hp
    exact kf _ _ μ Pn (RR.mk hr hp hp t)
  | sum =>
    refine CallR_imp (CallR.or (cr_sum gd.calm) (cr_sumT gd.calm)) fun xs H Q ⟨v, e, μ, h, d, hr, q, F⟩ => ?_
    subst e
    obtain ⟨a, vs, l, rfl, t, s, r, e, kf⟩ := bi_args hr q F
    simp only [bi] at e
    cases c : MP.intsD l with
    | none => rw [c] at e; cases e
    | some ns =>
      rw [c] at e
      cases e
      have ev := ints_V t c
      subst ev
      rcases s with s | ⟨s, _⟩
      · exact .inl ⟨a, ns, rfl, s, kf _ _ μ (Post.refl hr) rfl⟩
      · exact .inr ⟨a, ns, rfl, s, kf _ _ μ (Post.refl hr) rfl⟩
  | all =>
    refine CallR_imp (CallR.or (cr_all gd.calm) (cr_allT gd.calm)) fun xs H Q ⟨v, e, μ, h, d, hr, q, F⟩ => ?_
    subst e
    obtain ⟨a, vs, l, rfl, t, s, r, e, kf⟩ := bi_args hr q F
    simp only [bi] at e
    cases c : bools l with
    | none => rw [c] at e; cases e
    | some ns =>
      rw [c] at e
      cases e
      have ev := bools_V t c
      subst ev
      rcases s with s | ⟨s, _⟩
      · exact .inl ⟨a, ns, rfl, s, kf _ _ μ (Post.refl hr) rfl⟩
      · exact .inr ⟨a, ns, rfl, s, kf _ _ μ (Post.refl hr) rfl⟩
  | any =>
    refine CallR_imp (CallR.or (cr_any gd.calm) (cr_anyT gd.calm)) fun xs H Q ⟨v, e, μ, h, d, hr, q, F⟩ => ?_
    subst e
    obtain ⟨a, vs, l, rfl, t, s, r, e, kf⟩ := bi_args hr q F
    simp only [bi] at e
    cases c : bools l with
    | none => rw [c] at e; cases e
    | some ns =>
      rw [c] at e
      cases e
      have ev := bools_V t c
      subst ev
      rcases s with s | ⟨s, _⟩
      · exact .inl ⟨a, ns, rfl, s, kf _ _ μ (Post.refl hr) rfl⟩
      · exact .inr ⟨a, ns, rfl, s, kf _ _ μ (Post.refl hr) rfl⟩
  | sorted =>
    refine CallR_imp (CallR.or cr_srtI cr_srtQ) fun xs H Q ⟨v, e, μ, h, d, hr, q, F⟩ => ?_
    subst e
    obtain ⟨a, vs, l, rfl, t, s, r, e, kf⟩ := bi_args hr q F
    simp only [bi, sortD] at e
    cases c : MP.intsD l with
    | some ns =>
      rw [c] at e
      cases e
      have ev := ints_V t c
      subst ev
      refine .inl ⟨a, ns, rfl, s.imp id (·.1), fun ns' p h1 h2 hp => ?_⟩
      rw [sorted_ints h1 h2]
      have Pn := Post.new (o := .lst ((sortBy leI ns).map V.int)) hr hp
      exact kf _ _ μ Pn (RR.mk hr hp hp (ints_D _))
    | none =>
      rw [c] at e
      cases c2 : pairs l with
      | none => rw [c2] at e; cases e
      | some ps =>
        rw [c2] at e
        cases e
        refine .inr ⟨a, vs, ps, rfl, s.imp id (·.1), pairs_V t c2, fun ys p hy hp => ?_⟩
        have Pn := Post.new (o := .lst ys) hr hp
        exact kf _ _ μ Pn (RR.mk hr hp hp (pairs_D hy))
theorem callR_srtD {X : Cx} {W : XK} (gd : Good P Φ G k X W) : CallR X (.builtin "sorted") (fun xs H Q => ∃ v, xs = [v] ∧ r1 X.K W srtDM v H Q) := by
  refine CallR_imp (call_sortedDI gd.calm) fun xs H Q ⟨v, e, μ, h, d, hr, q, F⟩ => ?_
  subst e
  unfold srtDM at F
  cases c : dicOf h d with
  | none => rw [c] at F; exact F.elim
  | some l =>
    rw [c] at F
    cases c2 : intKs (l.map (·.1)) with
    | none => simp only [c2] at F; exact F.elim
    | some ks =>
      simp only [c2] at F
      split at F
      · rename_i h64
        obtain ⟨a, kvs, rfl, s, ek, t⟩ := dic_of hr q c
        refine ⟨a, kvs, ks, rfl, s, by rw [ek, intKs_V c2], h64, fun ys p h1 h2 hp => ?_⟩
        rw [sorted_ints h1 h2]
        have Pn := Post.new (o := .lst ((sortBy leI ks).map V.int)) hr hp
        exact F.okP Pn (RR.mk hr hp hp (ints_D _))
      · exact F.elim
theorem se_srtD (a : E) (ha : SE P Φ G k a) : SE P Φ G k (.srtD a) := fun X W x gd hc => by
  simp only [chk] at hc
  split at hc
  · rename_i n p a' pos
    simp only [Bool.and_eq_true, decide_eq_true_eq] at hc
    obtain ⟨rfl, h2, h3⟩ := hc
    obtain ⟨hg, hdb, hn⟩ := gloB_ok h2
    have hs := chk_shape h3
    have hpa := pa_cons (ha X W a' gd h3).1 pa_nil (shape_star hs _ _)
    have e : eval Φ G (.srtD a) = fun g h => bd (eval Φ G a g h) fun r h => srtDM r.frz h := by
      funext g h
      simp only [eval]
    have pe : PE X (.Call (.Name "sorted" p) [a'] [] pos) (rE X.K W (eval Φ G (.srtD a))) := by
      rw [e]
      exact PE_imp (pe_callB (callR_srtD gd) hg (gd.blt _ (by decide)) boot_sorted' hpa hn hdb (shape_star hs _ _) rfl) fun σ H Q q => rd_arg1 q fun μ h H d v hr q1 F => ⟨v, rfl, μ, h, d, hr, q1, F⟩
    exact ⟨pe, pt_plain pe rfl⟩
  · cases hc
theorem se_dct : SE P Φ G k .dct := fun X W x gd hc => by
  simp only [chk] at hc
  split at hc
  · rename_i pos
    have pe : PE X (.Dict [] [] pos) (rE X.K W (eval Φ G .dct)) := by
      refine PE_imp pe_dnewK fun σ H Q ⟨μ, g, h, r, er, F⟩ p hp => ?_
      simp only [eval] at F
      have Pn := Post.new (o := .dK []) r hp
      exact F (.ref p) _ μ Pn (RR.mkD r hp hp rfl (by simp only [List.map_nil, RDs]))
    exact ⟨pe, pt_plain pe rfl⟩
  · cases hc
theorem boot_bi (f : BI) : bootBuiltins (biN f) = some (match f with
    | .tuple => .type "tuple"
    | .list => .type "list"
    | .sum => .builtin "sum"
    | .all => .builtin "all"
    | .any => .builtin "any"
    | .sorted => .builtin "sorted") := by cases f <;> decide +kernel
theorem se_bi_of (f : BI) (a : E) (ha : SE P Φ G k a) : SE P Φ G k (.bi f (.of a)) := fun X W x gd hc => by
  simp only [chk, chkI] at hc
  split at hc
  · rename_i n p a' pos
    simp only [Bool.and_eq_true, decide_eq_true_eq] at hc
    obtain ⟨rfl, _, h2, h3⟩ := hc
    obtain ⟨hg, hdb, hn⟩ := gloB_ok h2
    have hs := chk_shape h3
    have hpa := pa_cons (ha X W a' gd h3).1 pa_nil (shape_star hs _ _)
    have e : eval Φ G (.bi f (.of a)) = fun g h => bd (eval Φ G a g h) fun r h => seqB f r.frz h := by
      funext g h
      simp only [eval, items, bd_assoc, seqB]
    have hm : X.mg (biN f) = none := gd.blt _ (by cases f <;> decide)
    have hc := callR_seq gd f
    have hb := boot_bi f
    have pe : PE X (.Call (.Name (biN f) p) [a'] [] pos) (rE X.K W (eval Φ G (.bi f (.of a)))) := by
      rw [e]
      have fin : ∀ σ H Q, rE X.K W (fun g h => bd (eval Φ G a g h) fun r h => seqB f r.frz h) σ H Q → tCB (fun xs H Q => ∃ v, xs = [v] ∧ r1 X.K W (seqB f) v H Q) (tCons (rE X.K W (eval Φ G a)) tNil) σ H Q :=
        fun σ H Q q => rd_arg1 q fun μ h H d v hr q1 F => ⟨v, rfl, μ, h, d, hr, q1, F⟩
      cases f with
      | tuple => exact PE_imp (pe_callTy hc hg hm hb hpa hn hdb (shape_star hs _ _) rfl) fin
      | list => exact PE_imp (pe_callTy hc hg hm hb hpa hn hdb (shape_star hs _ _) rfl) fin
      | sum => exact PE_imp (pe_callB hc hg hm hb hpa hn hdb (shape_star hs _ _) rfl) fin
      | all => exact PE_imp (pe_callB hc hg hm hb hpa hn hdb (shape_star hs _ _) rfl) fin
      | any => exact PE_imp (pe_callB hc hg hm hb hpa hn hdb (shape_star hs _ _) rfl) fin
      | sorted => exact PE_imp (pe_callB hc hg hm hb hpa hn hdb (shape_star hs _ _) rfl) fin
    exact ⟨pe, pt_plain pe rfl⟩
  · cases hc
end
end MP

/-! MP.Snd11: ranges made lists, methods of lists, new places; all expressions. -/
namespace MP
open PySem PySem.Spec PyProof.Rows L2

theorem atN_same (n : Nat) (i : Int) : L2.ixN n i = atN n i := by
  unfold L2.ixN atN
  by_cases h0 : 0 ≤ i
  · rw [if_pos h0, if_pos h0]
    by_cases h1 : i < n
    · rw [if_pos h1, if_pos (by omega)]
    · rw [if_neg h1, if_neg (by omega)]
  · rw [if_neg h0, if_neg h0]
section
variable {P : PInfo} {Φ : Nat → List D → Heap → Res R} {G : Nat → Option D} {k : Nat}

/-! ### ranges -/
theorem rg_D {K : PySem.W.Frag} {μ : Mu} {n : Nat} {H : Hp} (a b : Int) : RDs K μ n H (rangeD a b) (rgV a b) := by
  have gen : ∀ l : List Nat, RDs K μ n H (l.map fun (k : Nat) => D.int (a + (k : Int))) (l.map fun i => V.int (a + (i : Nat))) := by
    intro l
    induction l with
    | nil => simp only [List.map_nil, RDs]
    | cons i l ih =>
      simp only [List.map_cons, RDs]
      exact ⟨_, _, rfl, rfl, ih⟩
  exact gen _
theorem rangeD_len (a b : Int) : (rangeD a b).length = (b - a).toNat := by
  unfold rangeD
  rw [List.length_map, List.length_range]
def rgB (f : BI) (a b : Int) (h : Heap) : Res R := if small a && small b then ofO (bi f (rangeD a b)) h else none
theorem prg_imp {X : Cx} {e : Expr} {t t' : L2.St → Hp → (Int → Int → Hp → Prop) → Prop} (p : PRg X e t) (i : ∀ σ H Q, t' σ H Q → t σ H Q) : PRg X e t' := fun pins s σ H Q I q => p pins s σ H Q I (i σ H Q q)
theorem rg_fin {K : PySem.W.Frag} {W : XK} {μ : Mu} {h : Heap} {H : Hp} {f : BI} {a b : Int} {Q : VK} (hf : f = .tuple ∨ f = .list) (hr : HR K μ h H) (F : Fin K W (RR K) μ h H (rgB f a b h) Q) :
    RgOk a b ∧ ∀ q, H q = none → Q (.ref q) (upd H q (if f = .tuple then .tup (rgV a b) else .lst (rgV a b))) := by
  unfold rgB at F
  split at F
  · rename_i hs
    simp only [Bool.and_eq_true] at hs
    obtain ⟨b1, b2⟩ := small_ok hs.1
    obtain ⟨b3, b4⟩ := small_ok hs.2
    rcases hf with rfl | rfl
    · simp only [bi] at F
      split at F
      · rename_i hl
        rw [rangeD_len] at hl
        refine ⟨⟨b1, b2, b3, b4, by simpa using hl⟩, fun q hq => ?_⟩
        simp only [if_true]
        have Pn := Post.new (o := .tup (rgV a b)) hr hq
        refine F.okP Pn ?_
        show RD K μ h.length _ (.tup (rangeD a b)) (.ref q)
        simp only [RD]
        exact ⟨q, _, rfl, .inl (.inl upd_same), rg_D a b⟩
      · exact F.elim
    · simp only [bi] at F
      split at F
      · rename_i hl
        rw [rangeD_len] at hl
        refine ⟨⟨b1, b2, b3, b4, by simpa using hl⟩, fun q hq => ?_⟩
        simp only [reduceCtorEq, if_false]
        have Pn := Post.new (o := .lst (rgV a b)) hr hq
        exact F.okP Pn (RR.mk hr hq hq (rg_D a b))
      · exact F.elim
  · exact F.elim
theorem se_bi_rg {X : Cx} {W : XK} {f : BI} (gd : Good P Φ G k X W) (hf : f = .tuple ∨ f = .list) {p pos : Pos} {x : Expr} {t : L2.St → Hp → (Int → Int → Hp → Prop) → Prop} {m : Env → Heap → Res R} (h2 : gloB X.env.scope (biN f) = true) (hs : shape x = true) (hp : PRg X x t)
    (ht : ∀ σ H Q, rE X.K W m σ H Q → t σ H fun a b H1 => RgOk a b ∧ ∀ q, H1 q = none → Q (.ref q) (upd H1 q (if f = .tuple then .tup (rgV a b) else .lst (rgV a b)))) :
    PE X (.Call (.Name (biN f) p) [x] [] pos) (rE X.K W m) := by
  obtain ⟨hg, _, _⟩ := gloB_ok h2
  rcases hf with rfl | rfl
  · refine PE_imp (pe_tupRg gd.calm hg (gd.blt _ (by decide)) hp (shape_star hs _ _)) fun σ H Q q => ?_
    have z := ht σ H Q q
    simp only [if_true] at z
    exact z
  · refine PE_imp (pe_listRg gd.calm hg (gd.blt _ (by decide)) hp (shape_star hs _ _)) fun σ H Q q => ?_
    have z := ht σ H Q q
    simp only [reduceCtorEq, if_false] at z
    exact z
theorem biOk_rg {f : BI} {a : E} (h : biOk f (.range1 a) = true) : f = .tuple ∨ f = .list := by
  cases f <;> first | exact .inl rfl | exact .inr rfl | cases h
theorem biOk_rg2 {f : BI} {a b : E} (h : biOk f (.range2 a b) = true) : f = .tuple ∨ f = .list := by
  cases f <;> first | exact .inl rfl | exact .inr rfl | cases h
theorem se_bi_r1 (f : BI) (a : E) (ha : SE P Φ G k a) : SE P Φ G k (.bi f (.range1 a)) := fun X W x gd hc => by
  simp only [chk, chkI] at hc
  split at hc
  · rename_i n p x' pos
    simp only [Bool.and_eq_true, decide_eq_true_eq] at hc
    obtain ⟨rfl, hb, h2, h3⟩ := hc
    split at h3
    · rename_i n2 p2 a' pos2
      simp only [Bool.and_eq_true, decide_eq_true_eq] at h3
      obtain ⟨rfl, h4, h5⟩ := h3
      obtain ⟨hg, hdb, hn⟩ := gloB_ok h4
      have hs := chk_shape h5
      have pe : PE X (.Call (.Name (biN f) p) [.Call (.Name "range" p2) [a'] [] pos2] [] pos) (rE X.K W (eval Φ G (.bi f (.range1 a)))) := by
        refine se_bi_rg gd (biOk_rg hb) h2 rfl (prg_1 hg (gd.blt _ (by decide)) (ha X W a' gd h5).1 (shape_star hs _ _)) fun σ H Q q => ?_
        have e : eval Φ G (.bi f (.range1 a)) = fun g h => bd (eval Φ G a g h) fun r h => bd (range1It r.frz h) fun it h => ofO (bi f it.1) h := by
          funext g h
          simp only [eval, items, bd_assoc]
        rw [e] at q
        refine rd_bind (ρ := RR X.K) q back_RR fun μ1 g h1 H1 r v H0 hr er q1 F => ?_
        have q2 := q1.frz
        cases e1 : r.frz with
        | int i =>
          rw [e1] at q2 F
          cases q2
          have e2 : (bd (range1It (.int i) h1) fun it h => ofO (bi f it.1) h) = rgB f 0 i h1 := by
            have s0 : small 0 = true := by decide
            unfold rgB
            simp only [range1It, s0, Bool.true_and]
            split <;> rfl
          rw [e2] at F
          exact ⟨i, rfl, rg_fin (biOk_rg hb) hr F⟩
        | _ => rw [e1] at F; exact F.elim
      exact ⟨pe, pt_plain pe rfl⟩
    · cases h3
  · cases hc
theorem se_bi_r2 (f : BI) (a b : E) (ha : SE P Φ G k a) (hb' : SE P Φ G k b) : SE P Φ G k (.bi f (.range2 a b)) := fun X W x gd hc => by
  simp only [chk, chkI] at hc
  split at hc
  · rename_i n p x' pos
    simp only [Bool.and_eq_true, decide_eq_true_eq] at hc
    obtain ⟨rfl, hb, h2, h3⟩ := hc
    split at h3
    · rename_i n2 p2 a' b' pos2
      simp only [Bool.and_eq_true, decide_eq_true_eq] at h3
      obtain ⟨rfl, h4, h5, h6⟩ := h3
      obtain ⟨hg, hdb, hn⟩ := gloB_ok h4
      have hs := chk_shape h5
      have hs2 := chk_shape h6
      have pe : PE X (.Call (.Name (biN f) p) [.Call (.Name "range" p2) [a', b'] [] pos2] [] pos) (rE X.K W (eval Φ G (.bi f (.range2 a b)))) := by
        refine se_bi_rg gd (biOk_rg2 hb) h2 rfl (prg_2 hg (gd.blt _ (by decide)) (ha X W a' gd h5).1 (hb' X W b' gd h6).1 (shape_star hs _ _) (shape_star hs2 _ _) (by rw [shape_star hs2]; rfl)) fun σ H Q q => ?_
        have e : eval Φ G (.bi f (.range2 a b)) = fun g h => bd (eval Φ G a g h) fun r h => bd (eval Φ G b g h) fun q h => bd (range2It r.frz q.frz h) fun it h => ofO (bi f it.1) h := by
          funext g h
          simp only [eval, items, bd_assoc]
        rw [e] at q
        refine rd_bind (ρ := RR X.K) (ρ' := RR X.K) (k := fun g r h => bd (eval Φ G b g h) fun q h => bd (range2It r.frz q.frz h) fun it h => ofO (bi f it.1) h) q back_RR fun μ1 g h1 H1 r v H0 hr er q1 F => ?_
        refine ⟨μ1, g, h1, hr, er, F.bind fun r2 h2 v2 H2 μ2 P2 q2 F2 => ?_⟩
        have q3 := RD.mono P2 hr _ _ q1.frz
        have q4 := q2.frz
        have F3 := F2.from P2 back_RR
        cases e1 : r.frz with
        | int i =>
          cases e3 : r2.frz with
          | int j =>
            rw [e1] at q3 F3
            rw [e3] at q4 F3
            cases q3
            cases q4
            have e2 : (bd (range2It (.int i) (.int j) h2) fun it h => ofO (bi f it.1) h) = rgB f i j h2 := by
              unfold rgB
              simp only [range2It]
              split <;> rfl
            rw [e2] at F3
            exact ⟨i, j, rfl, rfl, rg_fin (biOk_rg2 hb) P2.hr F3⟩
          | _ => rw [e1, e3] at F3; exact F3.elim
        | _ => rw [e1] at F3; cases r2.frz <;> exact F3.elim
      exact ⟨pe, pt_plain pe rfl⟩
    · cases h3
  · cases hc

/-! ### methods of lists -/
theorem noCall0 {N : List Str} {sc : Scope} (n : Str) (p pos : Pos) : ∀ e : E, chk P N sc e (.Call (.Name n p) [] [] pos) = false
  | .alloc e => by
    have := noCall0 (N := N) (sc := sc) n p pos e
    simp only [chk, this, Bool.and_false]
  | .var _ | .c _ | .glob _ | .bin _ _ _ | .neg _ | .not _ | .cmp _ _ _ | .cmp2 _ _ _ _ _ | .and _ _ | .or _ _ | .ite _ _ _ | .tup _ | .lst _ | .ix _ _ | .slice _ _ _ _ _ | .call _ _ | .b1 _ _ | .b2 _ _ _ | .isinst _ _ | .bi _ _ | .lc _ _ _ _ _ | .meth _ _ _ | .dct | .srtD _ => by simp only [chk]
theorem chk_base {N : List Str} {sc : Scope} {e : E} {o : Expr} (h : chk P N sc e o = true) (n : Str) (env : PySem.Env) (w : Sem Value) : attributeBase o n env w = w := by
  unfold attributeBase
  split
  · rename_i id p pos
    rw [noCall0] at h
    cases h
  · rfl
-- writing a place of the store
theorem RD.setm {K : PySem.W.Frag} {μ : Mu} {h : Heap} {H : Hp} (r : HR K μ h H) {p : Nat} (hp : p < h.length) {u : HO} :
    (∀ (d : D) (v : V), RD K μ h.length H d v → RD K μ h.length (upd H (μ p) u) d v) ∧ ∀ (ds : List D) (us : List V), RDs K μ h.length H ds us → RDs K μ h.length (upd H (μ p) u) ds us := by
  have tupk : ∀ a xs, SqT K H a xs → SqT K (upd H (μ p) u) a xs := fun a xs q => by
    rcases q with (q | ⟨o, q⟩) | q
    · exact .inl (.inl (by rw [upd_ne fun z => r.ne_tup q p hp z.symm]; exact q))
    · exact .inl (.inr ⟨o, by rw [upd_ne fun z => r.ne_frz q p hp z.symm]; exact q⟩)
    · exact .inr q
  have fzk : ∀ a w, Fz μ h.length H a w → Fz μ h.length (upd H (μ p) u) a w := fun a w q => by
    obtain ⟨q, ne, ns⟩ := q
    have na : a ≠ μ p := fun z => ne p hp z.symm
    refine ⟨?_, ne, ns⟩
    rcases q with q | ⟨o, q⟩
    · exact .inl (by rw [upd_ne na]; exact q)
    · exact .inr ⟨o, by rw [upd_ne na]; exact q⟩
  exact ⟨fun d v q => RD.gen tupk fzk (fun p hp _ => ⟨hp, rfl⟩) d v (RD.cl d v q) q, fun ds us q => RDs.gen tupk fzk (fun p hp _ => ⟨hp, rfl⟩) ds us (RDs.cl ds us q) q⟩
theorem Post.setO {K : PySem.W.Frag} {μ : Mu} {h : Heap} {H : Hp} (r : HR K μ h H) {p : Nat} (hp : p < h.length) {o : O} {u : HO} (t : RO K μ h.length (upd H (μ p) u) (μ p) o) :
    Post K μ h H μ (h.set p o) (upd H (μ p) u) := by
  have mono := (RD.setm (u := u) r hp).2
  have hl : (h.set p o).length = h.length := List.length_set
  refine ⟨by rw [hl]; exact Nat.le_refl _, fun _ z => z, fun _ z => .inl z, fun _ _ => rfl, ⟨fun a sa => ?_, fun a sa q hq => r.sp a sa q (by rwa [hl] at hq), fun a b ha hb => r.inj a b (by rwa [hl] at ha) (by rwa [hl] at hb), fun q o' e2 => ?_⟩, fun q h1 h2 => ?_, fun b o e2 ne => ?_⟩
  · by_cases ha : a = μ p
    · rw [ha, upd_same]; exact fun z => nomatch z
    · rw [upd_ne ha]; exact r.sn a sa
  · rw [hl]
    by_cases hq : p = q
    · subst hq
      rw [List.getElem?_set] at e2
      simp only [if_true, hp] at e2
      cases e2
      exact t
    · rw [List.getElem?_set_ne hq] at e2
      have hq2 : q < h.length := by
        rcases Nat.lt_or_ge q h.length with z | z
        · exact z
        · rw [List.getElem?_eq_none z] at e2; cases e2
      have := r.ob q o' e2
      cases o' with
      | lst m =>
        obtain ⟨us, e3, e4⟩ := this
        refine ⟨us, ?_, mono _ _ e4⟩
        rw [upd_ne]
        · exact e3
        · exact fun z => hq (r.inj q p hq2 hp z).symm
      | dic m =>
        obtain ⟨us, e3, ek, e4⟩ := this
        refine ⟨us, ?_, ek, mono _ _ e4⟩
        rw [upd_ne]
        · exact e3
        · exact fun z => hq (r.inj q p hq2 hp z).symm
  · rw [hl] at h2
    omega
  · rw [upd_ne fun z => ne p hp z.symm]
    exact e2
theorem Post.set {K : PySem.W.Frag} {μ : Mu} {h : Heap} {H : Hp} (r : HR K μ h H) {p : Nat} (hp : p < h.length) {l : List D} {vs : List V} (t : RDs K μ h.length H l vs) :
    Post K μ h H μ (h.set p (.lst l)) (upd H (μ p) (.lst vs)) := Post.setO r hp ⟨vs, upd_same, (RD.setm r hp).2 _ _ t⟩
theorem Post.setD {K : PySem.W.Frag} {μ : Mu} {h : Heap} {H : Hp} (r : HR K μ h H) {p : Nat} (hp : p < h.length) {l : List (Sum Int Str × D)} {kvs : List (Key × V)} (ek : kvs.map (·.1) = l.map (·.1)) (t : RDs K μ h.length H (l.map (·.2)) (kvs.map (·.2))) :
    Post K μ h H μ (h.set p (.dic l)) (upd H (μ p) (.dK kvs)) := Post.setO r hp ⟨kvs, upd_same, ek, (RD.setm r hp).2 _ _ t⟩
theorem RDs.app {K : PySem.W.Frag} {μ : Mu} {n : Nat} {H : Hp} : ∀ {l m : List D} {us vs : List V}, RDs K μ n H l us → RDs K μ n H m vs → RDs K μ n H (l ++ m) (us ++ vs)
  | [], m, us, vs, a, b => by
    simp only [RDs] at a
    subst a
    exact b
  | d :: l, m, us, vs, a, b => by
    simp only [RDs] at a
    obtain ⟨v, r, rfl, q, t⟩ := a
    simp only [List.cons_append, RDs]
    exact ⟨v, _, rfl, q, RDs.app t b⟩
theorem RDs.dropLast {K : PySem.W.Frag} {μ : Mu} {n : Nat} {H : Hp} {l : List D} {us : List V} (q : RDs K μ n H l us) : RDs K μ n H l.dropLast us.dropLast := by
  rw [List.dropLast_eq_take, List.dropLast_eq_take, q.length]
  exact q.take _
theorem RDs.erase {K : PySem.W.Frag} {μ : Mu} {n : Nat} {H : Hp} {l : List D} {us : List V} (j : Nat) (q : RDs K μ n H l us) : RDs K μ n H (l.eraseIdx j) (us.eraseIdx j) := by
  rw [List.eraseIdx_eq_take_drop_succ, List.eraseIdx_eq_take_drop_succ]
  exact (q.take _).app (q.drop _)
-- the method's promise
def rM (K : PySem.W.Frag) (W : XK) (m : M) : V → List V → Hp → VK → Prop := fun x xs H Q => ∃ μ h d ds, HR K μ h H ∧ RD K μ h.length H d x ∧ RDs K μ h.length H ds xs ∧ Fin K W (RR K) μ h H (meth m d ds h) Q
theorem at_place {K : PySem.W.Frag} {μ : Mu} {h : Heap} {H : Hp} (hr : HR K μ h H) {p : Nat} {x : V} {l : List D} (q : RD K μ h.length H (.loc p) x) (e : h[p]? = some (.lst l)) :
    p < h.length ∧ x = .ref (μ p) ∧ ∃ vs, H (μ p) = some (.lst vs) ∧ RDs K μ h.length H l vs := by
  simp only [RD] at q
  obtain ⟨vs, e1, t⟩ := hr.ob p _ e
  exact ⟨q.1, q.2, vs, e1, t⟩
theorem meth_ty {K : PySem.W.Frag} {W : XK} {μ : Mu} {h : Heap} {H : Hp} {m : M} {d : D} {ds : List D} {x : V} {xs : List V} {Q : VK} (hr : HR K μ h H) (q1 : RD K μ h.length H d x) (q2 : RDs K μ h.length H ds xs) (F : Fin K W (RR K) μ h H (meth m d ds h) Q) :
    (m = .append ∧ rAppend x xs H Q) ∨ (m = .pop ∧ (rPop x xs H Q ∨ rPopAt x xs H Q)) := by
  unfold meth at F
  split at F
  · -- append
    rename_i p d
    split at F
    · rename_i l e
      split at F
      · rename_i hl
        obtain ⟨hp, rfl, vs, e1, t⟩ := at_place hr q1 e
        simp only [RDs] at q2
        obtain ⟨y, _, rfl, qy, rfl⟩ := q2
        refine .inl ⟨rfl, _, vs, y, rfl, rfl, e1, by rw [t.length, lim_line]; exact hl, ?_⟩
        exact F.okP (Post.set hr hp (t.app (m := [d]) (vs := [y]) (by simp only [RDs]; exact ⟨y, [], rfl, qy, rfl⟩))) rfl
      · exact F.elim
    · exact F.elim
  · -- pop()
    rename_i p
    split at F
    · rename_i l e
      split at F
      · rename_i d e2
        obtain ⟨hp, rfl, vs, e1, t⟩ := at_place hr q1 e
        simp only [RDs] at q2
        subst q2
        rw [List.getLast?_eq_getElem?] at e2
        obtain ⟨v, e3, q3⟩ := t.get _ d e2
        rw [← t.length] at e3
        have P := Post.set hr hp t.dropLast
        exact .inr ⟨rfl, .inl ⟨_, vs, v, rfl, rfl, e1, e3, F.okP P (RD.mono P hr _ _ q3)⟩⟩
      · exact F.elim
    · exact F.elim
  · -- pop(i)
    rename_i p i
    split at F
    · rename_i l e
      split at F
      · rename_i j e4
        split at F
        · rename_i d e2
          obtain ⟨hp, rfl, vs, e1, t⟩ := at_place hr q1 e
          simp only [RDs] at q2
          obtain ⟨y, _, rfl, qy, rfl⟩ := q2
          cases qy
          obtain ⟨v, e3, q3⟩ := t.get _ d e2
          rw [← atN_same, ← t.length] at e4
          obtain ⟨e5, hj, b1, b2⟩ := ixN_seq e4
          have P := Post.set hr hp (t.erase j)
          split at F
          · rename_i hsm
            obtain ⟨c1, c2⟩ := small_ok hsm
            exact .inr ⟨rfl, .inr ⟨_, vs, i, j, v, rfl, rfl, e1, by omega, by omega, e5, e3, F.okP P (RD.mono P hr _ _ q3)⟩⟩
          · exact F.elim
        · exact F.elim
      · exact F.elim
    · exact F.elim
  · exact F.elim
theorem mt_of {X : Cx} {W : XK} (m : M) : MtR X (match m with
    | .append => "list.append"
    | .pop => "list.pop") (rM X.K W m) := by
  cases m with
  | append =>
    intro pins s σ H x xs v us Q I rx rv ⟨μ, h, d, ds, hr, q1, q2, F⟩
    rcases meth_ty hr q1 q2 F with ⟨_, q⟩ | ⟨z, _⟩
    · exact mt_append pins s σ H x xs v us Q I rx rv q
    · cases z
  | pop =>
    intro pins s σ H x xs v us Q I rx rv ⟨μ, h, d, ds, hr, q1, q2, F⟩
    rcases meth_ty hr q1 q2 F with ⟨z, _⟩ | ⟨_, q | q⟩
    · cases z
    · exact mt_pop pins s σ H x xs v us Q I rx rv q
    · exact mt_popAt pins s σ H x xs v us Q I rx rv q
theorem recv_of {K : PySem.W.Frag} {μ : Mu} {h : Heap} {H : Hp} {m : M} {d : D} {x : V} (hr : HR K μ h H) (q : RD K μ h.length H d x) (e : recv m d h = true) : tyV K "list" x H := by
  unfold recv at e
  split at e
  · split at e
    · rename_i l e1
      obtain ⟨_, rfl, vs, e2, _⟩ := at_place hr q e1
      exact .inl ⟨rfl, vs, .inl (.inl e2)⟩
    · cases e
  · cases e
theorem chks_few {N : List Str} {sc : Scope} {es : List E} {xs : List Expr} (h : chks P N sc es xs = true) (pos : Pos) (env : PySem.Env) (hl : xs.length < 29) :
    ((backTo pos (starEach xs env)).all (fun x => !x.1) && (backToKw pos (keywordEach [] env)).all (fun x => x.1.isSome)
      && decide (xs.length + ([] : List Keyword).length + (if ([] : List Keyword).isEmpty then 0 else 1) < 30)) = true := by
  have a := shapes_any pos env (chks_shape h)
  have b : (backTo pos (starEach xs env)).all (fun x => !x.1) = true := by
    rw [List.any_eq_false] at a
    rw [List.all_eq_true]
    intro x hx
    have := a x hx
    simpa using this
  rw [b]
  simp only [Bool.true_and]
  have c : (backToKw pos (keywordEach [] env)).all (fun x => x.1.isSome) = true := rfl
  rw [c]
  simp
  omega
theorem slot_me (m : M) : PySem.Slot "list" (meN m) (match m with
    | .append => "list.append"
    | .pop => "list.pop") := by
  cases m
  · exact PySem.F.slot_list_append
  · exact PySem.F.slot_list_pop
theorem type_me (m : M) : typeOf (.builtin (match m with
    | .append => "list.append"
    | .pop => "list.pop")) = pure (.type "method_descriptor") := by
  cases m
  · exact PySem.F.type_list_append
  · exact PySem.F.type_list_pop
theorem se_meth (m : M) (o : E) (es : List E) (ho : SE P Φ G k o) (hes : SEs P Φ G k es) : SE P Φ G k (.meth m o es) := fun X W x gd hc => by
  simp only [chk] at hc
  split at hc
  · rename_i o' n p es' pos
    simp only [Bool.and_eq_true, decide_eq_true_eq] at hc
    obtain ⟨rfl, hline, hl, h1, h2⟩ := hc
    have hbase := chk_base h1 (meN m) X.env (PySem.eval o' X.env)
    have e : eval Φ G (.meth m o es) = fun g h => bd (eval Φ G o g h) fun x h => if recv m x.frz h then bd (evals Φ G es g h) fun ds h => meth m x.frz ds h else none := by
      funext g h
      simp only [eval]
    have pe : PE X (.Call (.Attribute o' (meN m) p) es' [] pos) (rE X.K W (eval Φ G (.meth m o es))) := by
      rw [e]
      cases es' with
      | nil =>
        have hnil : es = [] := by
          cases es with
          | nil => rfl
          | cons _ _ => simp [chks] at h2
        subst hnil
        refine PE_imp (pe_bm0 PySem.F.plainAttrs_list (slot_me m) (type_me m) (mt_of (W := W) m) (ho X W o' gd h1).1 hbase hline) fun σ H Q q => ?_
        refine rd_bind (ρ := RR X.K) (k := fun g x h => if recv m x.frz h then bd (evals Φ G [] g h) fun ds h => meth m x.frz ds h else none) q back_RR fun μ1 g h1 H1 r v H0 hr er q1 F => ?_
        split at F
        · rename_i hrv
          refine ⟨recv_of hr q1.frz hrv, μ1, h1, _, [], hr, q1.frz, by simp only [RDs], ?_⟩
          simp only [evals, bd_ok] at F
          exact F
        · exact F.elim
      | cons e' es' =>
        have hsh := chks_shape h2
        refine PE_imp (pe_bm PySem.F.plainAttrs_list (slot_me m) (type_me m) (mt_of (W := W) m) (ho X W o' gd h1).1 (hes X W _ gd h2) hbase (chks_few h2 pos X.env hl) hline (shape_star (hsh e' (by simp)) _ _) (shapes_any pos X.env fun x hx => hsh x (by simp [hx]))) fun σ H Q q => ?_
        refine rd_bind (ρ := RR X.K) (k := fun g x h => if recv m x.frz h then bd (evals Φ G es g h) fun ds h => meth m x.frz ds h else none) q back_RR fun μ1 g h1 H1 r v H0 hr er q1 F => ?_
        split at F
        · rename_i hrv
          refine ⟨recv_of hr q1.frz hrv, μ1, g, h1, hr, er, F.bind fun ds h2 vs H2 μ2 P2 q2 F2 => ?_⟩
          exact ⟨μ2, h2, _, ds, P2.hr, RD.mono P2 hr _ _ q1.frz, q2, F2.from P2 back_RR⟩
        · exact F.elim
    exact ⟨pe, pt_plain pe rfl⟩
  · cases hc

/-! ### a new place -/
-- a list that nothing else holds gets a place of its own
theorem rd_alloc {K : PySem.W.Frag} {W : XK} {σ : L2.St} {H : Hp} {Q : VK} {m : Env → Heap → Res R} (q : rE K W (fun g h => bd (m g h) fun r h => allocM r h) σ H Q) : rE K W m σ H Q := by
  obtain ⟨μ, g, h, hr, er, F⟩ := q
  refine ⟨μ, g, h, hr, er, F.bind fun r h1 v H1 μ1 P1 q1 F1 => ?_⟩
  cases r with
  | v d => exact F1.elim
  | newL l =>
    obtain ⟨a, vs, rfl, e1, hr1, e0, t⟩ := q1
    have P2 := P1.del hr1 e0
    have P3 := Post.put hr1 (del_same H1 a) t
    rw [upd_del e1] at P3
    refine F1 _ H1 _ (P2.trans P3) ?_
    show RD K _ _ H1 (.loc h1.length) (.ref a)
    simp only [RD]
    exact ⟨by simp, by rw [Mu.put_same]⟩
  | newD l =>
    obtain ⟨a, vs, rfl, e1, hr1, e0, ek, t⟩ := q1
    have P2 := P1.del hr1 e0
    have P3 := Post.putD hr1 (del_same H1 a) ek t
    rw [upd_del e1] at P3
    refine F1 _ H1 _ (P2.trans P3) ?_
    show RD K _ _ H1 (.loc h1.length) (.ref a)
    simp only [RD]
    exact ⟨by simp, by rw [Mu.put_same]⟩
theorem se_alloc (e : E) (he : SE P Φ G k e) : SE P Φ G k (.alloc e) := fun X W x gd hc => by
  simp only [chk, Bool.and_eq_true] at hc
  have ih := he X W x gd hc.2
  have e1 : eval Φ G (.alloc e) = fun g h => bd (eval Φ G e g h) fun r h => allocM r h := by
    funext g h
    simp only [eval]
  have pe : PE X x (rE X.K W (eval Φ G (.alloc e))) := PE_imp ih.1 fun σ H Q q => rd_alloc (by rw [e1] at q; exact q)
  exact ⟨pe, pt_plain pe hc.1⟩

/-! ### all expressions -/
end
def AllSE (P : PInfo) (Φ : Nat → List D → Heap → Res R) (G : Nat → Option D) (k : Nat) : List E → Prop
  | [] => True
  | e :: es => SE P Φ G k e ∧ AllSE P Φ G k es
section
variable {P : PInfo} {Φ : Nat → List D → Heap → Res R} {G : Nat → Option D} {k : Nat}
theorem AllSE.mem : ∀ {es : List E}, AllSE P Φ G k es → ∀ c ∈ es, SE P Φ G k c
  | [], _, c, h => by cases h
  | e :: es, q, c, h => by
    rcases List.mem_cons.mp h with rfl | h
    · exact q.1
    · exact AllSE.mem q.2 c h
mutual
theorem sound_e : ∀ e : E, SE P Φ G k e
  | .var i => se_var i
  | .c d => se_c d
  | .glob i => se_glob i
  | .bin op a b => se_bin op a b (sound_e a) (sound_e b)
  | .neg a => se_neg a (sound_e a)
  | .not a => se_not a (sound_e a)
  | .cmp op a b => se_cmp op a b (sound_e a) (sound_e b)
  | .cmp2 o1 o2 a b c => se_cmp2 o1 o2 a b c (sound_e a) (sound_e b) (sound_e c)
  | .and a b => se_and a b (sound_e a) (sound_e b)
  | .or a b => se_or a b (sound_e a) (sound_e b)
  | .ite c a b => se_ite c a b (sound_e c) (sound_e a) (sound_e b)
  | .tup es => se_tup es (sound_es es)
  | .lst es => se_lst es (sound_es es)
  | .ix a b => se_ix a b (sound_e a) (sound_e b)
  | .slice a bl bh lo hi => se_slice a bl bh lo hi (sound_e a) (sound_e lo) (sound_e hi)
  | .call f es => se_call f es (sound_es es)
  | .b1 f a => se_b1 f a (sound_e a)
  | .b2 f a b => se_b2 f a b (sound_e a) (sound_e b)
  | .isinst a t => se_isinst a t (sound_e a)
  | .bi f (.of a) => se_bi_of f a (sound_e a)
  | .bi f (.range1 a) => se_bi_r1 f a (sound_e a)
  | .bi f (.range2 a b) => se_bi_r2 f a b (sound_e a) (sound_e b)
  | .bi f (.enum a) => fun X W x gd hc => by
    simp only [chk] at hc
    split at hc
    · simp only [Bool.and_eq_true] at hc
      cases f <;> cases hc.2.1
    · cases hc
  | .bi f (.zip a b) => fun X W x gd hc => by
    simp only [chk] at hc
    split at hc
    · simp only [Bool.and_eq_true] at hc
      cases f <;> cases hc.2.1
    · cases hc
  | .lc elt tg it cond ws => se_lc elt tg it cond ws (sound_e elt) (sound_i it) (AllSE.mem (sound_all cond))
  | .meth m o es => se_meth m o es (sound_e o) (sound_es es)
  | .alloc e => se_alloc e (sound_e e)
  | .dct => se_dct
  | .srtD a => se_srtD a (sound_e a)
theorem sound_es : ∀ es : List E, SEs P Φ G k es
  | [] => ses_nil
  | e :: es => ses_cons e es (sound_e e) (sound_es es)
theorem sound_all : ∀ es : List E, AllSE P Φ G k es
  | [] => trivial
  | e :: es => ⟨sound_e e, sound_all es⟩
theorem sound_i : ∀ i : I, SI P Φ G k i
  | .of e => si_of e (sound_e e)
  | .range1 a => si_range1 a (sound_e a)
  | .range2 a b => si_range2 a b (sound_e a) (sound_e b)
  | .enum a => si_enum a (sound_e a)
  | .zip a b => si_zip a b (sound_e a) (sound_e b)
end
end
end MP

/-! MP.Snd12: statements. -/
namespace MP
open PySem PySem.Spec PyProof.Rows L2

/-! ### readings of statements -/
def FinF (K : PySem.W.Frag) (W : XK) (μ : Mu) (h : Heap) (H : Hp) (res : Res Fl) (D : Ends) : Prop := match res with
  | some (.ok (.nx g) h') => ∀ σ H' μ', Post K μ h H μ' h' H' → ER K μ' h'.length H' g σ → D.nx σ H'
  | some (.ok (.bk g) h') => ∀ σ H' μ', Post K μ h H μ' h' H' → ER K μ' h'.length H' g σ → D.bk σ H'
  | some (.ok (.ct g) h') => ∀ σ H' μ', Post K μ h H μ' h' H' → ER K μ' h'.length H' g σ → D.ct σ H'
  | some (.ok (.rt r) h') => ∀ v H' μ', Post K μ h H μ' h' H' → RR K μ' h' H H' r v → D.rt v H'
  | some (.exc x h') => ∀ c d H' μ', Post K μ h H μ' h' H' → RX K μ' h'.length H' x c d → W c d H'
  | none => False
def rF (K : PySem.W.Frag) (W : XK) (m : Env → Heap → Res Fl) : TS := fun D σ H => ∃ μ g h, HR K μ h H ∧ ER K μ h.length H g σ ∧ FinF K W μ h H (m g h) D
section
variable {α β : Type} {K : PySem.W.Frag} {W : XK} {ρ : Rel α β} {μ μ1 : Mu} {h h1 : Heap} {H H1 : Hp} {D : Ends}
theorem FinF.from {res : Res Fl} (F : FinF K W μ h H res D) (P : Post K μ h H μ1 h1 H1) : FinF K W μ1 h1 H1 res D := by
  cases res with
  | none => exact F
  | some o =>
    cases o with
    | exc x h2 => exact fun c d H2 μ2 P2 q => F c d H2 μ2 (P.trans P2) q
    | ok a h2 =>
      cases a with
      | nx g => exact fun σ H2 μ2 P2 q => F σ H2 μ2 (P.trans P2) q
      | bk g => exact fun σ H2 μ2 P2 q => F σ H2 μ2 (P.trans P2) q
      | ct g => exact fun σ H2 μ2 P2 q => F σ H2 μ2 (P.trans P2) q
      | rt r => exact fun v H2 μ2 P2 q => F v H2 μ2 (P.trans P2) (back_RR P q)
-- first m, then what follows
theorem FinF.bind {m : Res α} {k : α → Heap → Res Fl} {Q1 : β → Hp → Prop} (F : FinF K W μ h H (bd m k) D)
    (hk : ∀ a h1 b H1 μ1, Post K μ h H μ1 h1 H1 → ρ μ1 h1 H H1 a b → FinF K W μ1 h1 H1 (k a h1) D → Q1 b H1) : Fin K W ρ μ h H m Q1 := by
  cases m with
  | none => exact F
  | some o =>
    cases o with
    | ok a h2 => exact fun b H2 μ2 P2 q => hk a h2 b H2 μ2 P2 q (FinF.from (h1 := h2) (show FinF K W μ h H (k a h2) D from F) P2)
    | exc x h2 => exact F
theorem FinF.next {g : Env} {σ : L2.St} (F : FinF K W μ h H (some (.ok (.nx g) h)) D) (r : HR K μ h H) (e : ER K μ h.length H g σ) : D.nx σ H := F σ H μ (Post.refl r) e
theorem FinF.nextP {h' : Heap} {H' : Hp} {μ' : Mu} {g : Env} {σ : L2.St} (F : FinF K W μ h H (some (.ok (.nx g) h')) D) (P : Post K μ h H μ' h' H') (e : ER K μ' h'.length H' g σ) : D.nx σ H' := F σ H' μ' P e
theorem rF_bind {m : Env → Heap → Res α} {k : Env → α → Heap → Res Fl} {Q1 : β → Hp → Prop} {σ : L2.St} (q : rF K W (fun g h => bd (m g h) (k g)) D σ H)
    (hk : ∀ μ1 g h1 H1 a b H0, HR K μ1 h1 H1 → ER K μ1 h1.length H1 g σ → ρ μ1 h1 H0 H1 a b → FinF K W μ1 h1 H1 (k g a h1) D → Q1 b H1) : rd K W ρ m σ H Q1 := by
  obtain ⟨μ, g, h, r, er, F⟩ := q
  exact ⟨μ, g, h, r, er, F.bind fun a h1 b H1 μ1 P q F1 => hk μ1 g h1 H1 a b H P.hr (er.mono P r) q F1⟩
end

section
variable (P : PInfo) (Φ : Nat → List D → Heap → Res R) (G : Nat → Option D) (k : Nat)
structure GoodF (X : Cx) (W : XK) : Prop extends Good P Φ G k X W where
  kind : X.env.scope.kind = .function
  fnc : ∀ x, X.fn x = true
  own : PassesOwn (model X.prog X.w) X.A X.env X.xe
def SS (s : St) : Prop := ∀ (X : Cx) (W : XK) (x : Stmt), GoodF P Φ G k X W → chkS P X.N X.env.scope s x = true → PS X x (rF X.K W (exec Φ G s))
def SSs (s : List St) : Prop := ∀ (X : Cx) (W : XK) (x : List Stmt), GoodF P Φ G k X W → chkSs P X.N X.env.scope s x = true → PSs X x (rF X.K W (execs Φ G s))
end
section
variable {P : PInfo} {Φ : Nat → List D → Heap → Res R} {G : Nat → Option D} {k : Nat}
theorem GoodF.T {X : Cx} {W : XK} (g : GoodF P Φ G k X W) : GoodT X true := ⟨g.nd, g.calm, fun _ => g.fnc⟩
theorem GoodF.bk {X : Cx} {W : XK} (g : GoodF P Φ G k X W) : X.env.blockKind = .function := by
  unfold PySem.Env.blockKind
  rw [g.kind]
  rfl

/-! ### one after another -/
theorem sss_nil : SSs P Φ G k [] := fun X W x gd hc => by
  cases x with
  | cons _ _ => simp [chkSs] at hc
  | nil =>
    refine PSs_imp pss_nil fun D σ H ⟨μ, g, h, r, er, F⟩ => ?_
    simp only [execs] at F
    exact FinF.next F r er
theorem sss_cons (s : St) (ss : List St) (hs : SS P Φ G k s) (hss : SSs P Φ G k ss) : SSs P Φ G k (s :: ss) := fun X W x gd hc => by
  cases x with
  | nil => simp [chkSs] at hc
  | cons x xs =>
    simp only [chkSs, Bool.and_eq_true] at hc
    refine PSs_imp (pss_cons (hs X W x gd hc.1) (hss X W xs gd hc.2)) fun D σ H ⟨μ, g, h, r, er, F⟩ => ?_
    refine ⟨μ, g, h, r, er, ?_⟩
    simp only [execs] at F
    cases e : exec Φ G s g h with
    | none => rw [e] at F; exact F
    | some o =>
      rw [e] at F
      cases o with
      | exc x h2 => exact F
      | ok fl h2 =>
        simp only [bd_ok] at F
        cases fl with
        | nx g' => exact fun σ' H' μ' P' er' => ⟨μ', g', h2, P'.hr, er', FinF.from (h1 := h2) F P'⟩
        | rt r => exact F
        | bk g' => exact F
        | ct g' => exact F

/-! ### small statements -/
theorem ss_pass : SS P Φ G k .pass := fun X W x gd hc => by
  have fin : ∀ D σ H, rF X.K W (exec Φ G .pass) D σ H → tNext D σ H := fun D σ H ⟨μ, g, h, r, er, F⟩ => by
    simp only [exec] at F
    exact F.next r er
  simp only [chkS] at hc
  split at hc
  · exact PS_imp ps_pass fin
  · exact PS_imp ps_doc fin
  · cases hc
theorem ss_brk : SS P Φ G k .brk := fun X W x gd hc => by
  simp only [chkS] at hc
  split at hc
  · refine PS_imp ps_break fun D σ H ⟨μ, g, h, r, er, F⟩ => ?_
    simp only [exec] at F
    exact F σ H μ (Post.refl r) er
  · cases hc
theorem ss_cont : SS P Φ G k .cont := fun X W x gd hc => by
  simp only [chkS] at hc
  split at hc
  · refine PS_imp ps_continue fun D σ H ⟨μ, g, h, r, er, F⟩ => ?_
    simp only [exec] at F
    exact F σ H μ (Post.refl r) er
  · cases hc
theorem noComp_sw {e : Expr} (h : noComp e = true) (t : Option Expr) (l : Nat) (env : PySem.Env) : swapsWith e t l env = pure false := by
  cases e <;> first | rfl | cases h
theorem ss_expr (e : E) : SS P Φ G k (.expr e) := fun X W x gd hc => by
  simp only [chkS] at hc
  split at hc
  · rename_i e' pos
    simp only [Bool.and_eq_true] at hc
    refine PS_imp (ps_expr (sound_e e X W e' gd.toGood hc.1).1 (noComp_sw hc.2 _ _ _)) fun D σ H q => ?_
    simp only [exec] at q
    refine rF_bind (ρ := RR X.K) (k := fun g _ h => some (.ok (.nx g) h)) q fun μ1 g h1 H1 r v H0 hr er q1 F => ?_
    exact F.next hr er
  · cases hc
theorem ss_ret (e : E) : SS P Φ G k (.ret e) := fun X W x gd hc => by
  simp only [chkS] at hc
  split at hc
  · rename_i e' pos
    refine PS_imp (ps_ret (sound_e e X W e' gd.toGood hc).1) fun D σ H ⟨μ, g, h, hr, er, F⟩ => ?_
    refine ⟨μ, g, h, hr, er, ?_⟩
    simp only [exec] at F
    cases c : eval Φ G e g h with
    | none => rw [c] at F; exact F
    | some o =>
      rw [c] at F
      cases o with
      | exc _ _ => exact F
      | ok r h1 => exact F
  · cases hc
theorem ss_ret0 : SS P Φ G k .ret0 := fun X W x gd hc => by
  simp only [chkS] at hc
  split at hc
  · refine PS_imp ps_retN fun D σ H ⟨μ, g, h, hr, er, F⟩ => ?_
    simp only [exec] at F
    exact F .non H μ (Post.refl hr) rfl
  · cases hc
theorem ss_if (c : E) (a b : List St) (ha : SSs P Φ G k a) (hb : SSs P Φ G k b) : SS P Φ G k (.if_ c a b) := fun X W x gd hc => by
  simp only [chkS] at hc
  split at hc
  · rename_i c' a' b' pos
    simp only [Bool.and_eq_true] at hc
    obtain ⟨h1, h2, h3⟩ := hc
    refine PS_imp (ps_if (sound_e c X W c' gd.toGood h1).2 (ha X W a' gd h2) (hb X W b' gd h3)) fun D σ H q => ?_
    have e : exec Φ G (.if_ c a b) = fun g h => bd (tst (eval Φ G c) g h) fun t h => if t = true then execs Φ G a g h else execs Φ G b g h := by
      funext g h
      simp only [tst, exec, bd_assoc]
      congr 1
      funext r h1
      cases e : tru h1 r.frz with
      | none => rfl
      | some c => cases c <;> simp [ofO]
    rw [e] at q
    refine rF_bind (ρ := RB) (k := fun g t h => if t = true then execs Φ G a g h else execs Φ G b g h) q fun μ1 g h1 H1 t t' H0 hr er q1 F => ?_
    cases q1
    cases t with
    | true => exact iteT ⟨μ1, g, h1, hr, er, F⟩
    | false => exact iteF ⟨μ1, g, h1, hr, er, F⟩
  · cases hc
end
end MP

/-! MP.Snd13: stores and loops; all statements. -/
namespace MP
open PySem PySem.Spec PyProof.Rows L2

/-! ### which stores are swapped -/
theorem swB_ok {sc : Scope} {env : PySem.Env} (hk : env.blockKind = .function) (hs : env.scope = sc) {e t : Expr} (hn : noComp e = true ∨ isLc e = true) (l : Nat) : swapsWithSole [t] e l env = pure (swB sc e t) := by
  show swapsWith e (some t) l env = _
  cases e with
  | ListComp elt gs s p =>
    cases t with
    | Name y py =>
      unfold swapsWith swB
      subst hs
      have q : (env.kindOf y == some NameKind.local) = decide (env.scope.names.lookup y = some .local) := by
        show (env.scope.names.lookup y == some NameKind.local) = _
        by_cases h : env.scope.names.lookup y = some .local
        · rw [h]; decide
        · simp only [h, decide_false]
          exact beq_eq_false_iff_ne.mpr h
      simp only [hk, q]
      rfl
    | _ => rfl
  | SetComp _ _ _ _ => rcases hn with h | h <;> cases h
  | DictComp _ _ _ _ _ => rcases hn with h | h <;> cases h
  | _ => cases t <;> rfl
theorem nmS_ok {env : PySem.Env} {sc : Scope} (hs : env.scope = sc) (ts : List Expr) : (ts.filterMap fun
    | .Name id pos => if env.kindOf id == some .local && pos.line == (ts.head?.map (·.pos.line)).getD 0 then some id else none
    | _ => none) = nmS sc ts := by
  subst hs
  rfl
theorem swN_ok {sc : Scope} {env : PySem.Env} (hk : env.blockKind = .function) (hs : env.scope = sc) {e t : Expr} (h : swN sc t e = true) : swappedStores [t] e env = pure none := by
  unfold swN at h
  split at h
  · rename_i ts _ _ vs _ _
    unfold swappedStores
    simp only [hk]
    split
    · rfl
    · rename_i c1
      split
      · rfl
      · split
        · rfl
        · rename_i c2
          split
          · rfl
          · rename_i c3
            exfalso
            subst hs
            have c2' : ¬ (((nmS env.scope ts).length != ts.length || (nmS env.scope ts).eraseDups.length != (nmS env.scope ts).length) = true) := c2
            simp only [Bool.or_eq_true, not_or] at c1 c2' h
            rcases h with ((h | h) | h) | h
            · exact c1.1.1 h
            · exact c1.1.2 h
            · exact c2'.1 h
            · exact c3 h
  · cases h
  · rename_i h1 h2
    unfold swappedStores
    split
    · rename_i ts vs heq
      exfalso
      split at heq
      · rename_i e1
        cases e1
        exact h2 _ _ _ _ _ _ rfl rfl
      · rename_i e1
        cases e1
        exact h1 _ _ rfl
      · cases heq
    · rfl
theorem swY_ok {sc : Scope} {env : PySem.Env} (hk : env.blockKind = .function) (hs : env.scope = sc) {ts vs : List Expr} {k1 k2 : Nat} {p1 p2 : Pos} {ns : List Str} (h : swY sc ts vs = some ns) (hv : ∀ x ∈ vs, shape x = true) :
    swappedStores [.Tuple ts k1 p1] (.Tuple vs k2 p2) env = pure (some ns) := by
  unfold swY at h
  split at h
  · rename_i c
    cases h
    simp only [Bool.and_eq_true, Bool.not_eq_true'] at c
    obtain ⟨⟨⟨⟨⟨a1, a2⟩, a3⟩, a4⟩, a5⟩, a6⟩ := c
    unfold swappedStores
    simp only [hk]
    have b2 : (vs.length != ts.length) = false := by
      simp only [bne, a2, Bool.not_true]
    have b3 : ((nmS sc ts).length != ts.length) = false := by
      simp only [bne, a3, Bool.not_true]
    have b4 : ((nmS sc ts).eraseDups.length != (nmS sc ts).length) = false := by
      simp only [bne, a4, Bool.not_true]
    have st : (vs.any fun x => match x with
        | .Starred _ _ => true
        | _ => false) = false := by
      rw [List.any_eq_false]
      intro x hx
      have := hv x hx
      cases x <;> first | (simp; done) | cases this
    subst hs
    rw [if_neg (by rw [a1, b2]; decide)]
    have c2 : ¬ (((nmS env.scope ts).length != ts.length || (nmS env.scope ts).eraseDups.length != (nmS env.scope ts).length) = true) := by
      rw [b3, b4]
      decide
    split
    · rename_i z
      exact absurd (st.symm.trans z) Bool.false_ne_true
    split
    · rename_i c3
      exact absurd c3 c2
    · rw [if_neg (by rw [a5]; decide), if_neg (by rw [a6]; decide)]
      rfl
  · cases h

section
variable {P : PInfo} {Φ : Nat → List D → Heap → Res R} {G : Nat → Option D} {k : Nat}
/-! ### target = value -/
-- a comprehension stored in place
theorem ps_lcIn (elt : E) (tg : Tg) (it : I) (cond : List E) (ws : List Nat) {X : Cx} {W : XK} (gd : GoodF P Φ G k X W) {x : Expr} (hc : chk P X.N X.env.scope (.lc elt tg it cond ws) x = true) {y : Str} {py pos' : Pos} {i : Nat}
    (hy : X.N[i]? = some y) (hs : swB X.env.scope x (.Name y py) = true) : PS X (.Assign [.Name y py] x pos') (tAsg (rE X.K W (eval Φ G (.lc elt tg it cond ws))) (gName i)) := by
  have he := sound_e (P := P) (Φ := Φ) (G := G) (k := k) elt
  have hi := sound_i (P := P) (Φ := Φ) (G := G) (k := k) it
  have hcd := AllSE.mem (sound_all (P := P) (Φ := Φ) (G := G) (k := k) cond)
  have gd' := gd.toGood
  simp only [chk] at hc
  split at hc
  · rename_i elt' tg' it' ifs' scope pos
    simp only [Bool.and_eq_true, decide_eq_true_eq] at hc
    obtain ⟨h1, h2, h3, h4, h5, h6, h7, h8⟩ := hc
    have hT : tupI it = true → isTupE tg' = true := fun z => by
      rw [z] at h8
      simpa using h8
    have hts : ∀ (s : Shared) (H : Hp) (C : Addr) (cl : List (Str × Addr)) (fp : List Addr), PTs (X.blk s H scope (compEnvC scope cl C X.env) fp) ifs' (rT X.K xk0 (tests Φ G cond)) := fun s H C cl fp => by
      match cond, ifs', h4, h6, hcd with
      | [], [], _, _, _ =>
        refine PTs_imp pts_nil fun σ H Q ⟨μ, g, h, r, er, F⟩ => ?_
        rw [tests_nil] at F
        exact Fin.ok F r rfl
      | [c], [c'], h4, _, hcd =>
        simp only [chks, Bool.and_eq_true] at h4
        rw [tests_one]
        exact pts_one (hcd c (by simp) (X.blk s H scope (compEnvC scope cl C X.env) fp) xk0 c' (gd'.blk s H scope C cl fp) h4.1).2
      | _ :: _ :: _, _, _, h6, _ =>
        simp only [List.length_cons] at h6
        omega
      | [], _ :: _, h4, _, _ => simp [chks] at h4
      | [_], [], h4, _, _ => simp [chks] at h4
      | [_], _ :: _ :: _, h4, _, _ => simp [chks] at h4
    have ews : (ws.map fun i => (X.N.getD i ⟨#[]⟩, i)).map (·.2) = ws := by
      rw [List.map_map]
      exact List.map_id ws
    unfold swB at hs
    simp only [Bool.and_eq_true, decide_eq_true_eq, Bool.not_eq_true'] at hs
    obtain ⟨⟨s1, s2⟩, s3⟩ := hs
    have base := ps_setLc (py := py) (pos := pos) (spos := pos') (g := rG X.K tg) (te := rE X.K xk0 (eval Φ G elt)) gd.calm gd.nd hy s1 (sw_true gd.kind s1 s2 s3) (hi X W tg' it' gd' h2 hT) (blkOk_by h1) (fun s H C cl fp => pg_of (gd'.blk s H scope C cl fp).T tg tg' h3) hts
      (fun s H C cl fp => (he (X.blk s H scope (compEnvC scope cl C X.env) fp) xk0 elt' (gd'.blk s H scope C cl fp) h5).1) (fun x => by
        cases it with
        | of e => exact shape_iter (chk_shape (by simpa only [chkI] using h2)) _ _
        | _ =>
          simp only [chkI] at h2
          split at h2
          · rfl
          · cases h2)
    rw [ews] at base
    refine PS_imp base fun D σ H q => rd_lc h7 ?_
    have e : eval Φ G (.lc elt tg it cond ws) = fun g h => bd (items Φ G it g h) fun its h => bd (lcGo (lcF its tg (wipes g ws) (tests Φ G cond) (eval Φ G elt)) its.1 h) fun l h => if l.length ≤ lim then some (.ok (.newL l) h) else none := by
      funext g h
      simp only [eval]
    have q : rE X.K W (eval Φ G (.lc elt tg it cond ws)) σ H (fun x H1 => gName i x σ H1 D.nx) := q
    rw [e] at q
    exact q
  · cases hc
theorem lc_only {N : List Str} {sc : Scope} {e : E} {elt : Expr} {gs : List Comprehension} {s : Scope} {p : Pos} (h : chk P N sc e (.ListComp elt gs s p) = true) : (∃ a b c d f, e = .lc a b c d f) ∨ ∃ e', e = .alloc e' ∧ chk P N sc e' (.ListComp elt gs s p) = true := by
  cases e with
  | lc a b c d f => exact .inl ⟨a, b, c, d, f, rfl⟩
  | alloc e' =>
    simp only [chk, Bool.and_eq_true] at h
    exact .inr ⟨e', rfl, h.2⟩
  | _ => simp [chk] at h
theorem ps_lcAll {X : Cx} {W : XK} (gd : GoodF P Φ G k X W) {x : Expr} {y : Str} {py pos' : Pos} {i : Nat} (hy : X.N[i]? = some y) (hs : swB X.env.scope x (.Name y py) = true) :
    ∀ e : E, chk P X.N X.env.scope e x = true → PS X (.Assign [.Name y py] x pos') (tAsg (rE X.K W (eval Φ G e)) (gName i))
  | .lc elt tg it cond ws, hc => ps_lcIn elt tg it cond ws gd hc hy hs
  | .alloc e, hc => by
    simp only [chk, Bool.and_eq_true] at hc
    refine PS_imp (ps_lcAll gd hy hs e hc.2) fun D σ H q => ?_
    have q : rE X.K W (eval Φ G (.alloc e)) σ H (fun x H1 => gName i x σ H1 D.nx) := q
    have e1 : eval Φ G (.alloc e) = fun g h => bd (eval Φ G e g h) fun r h => allocM r h := by
      funext g h
      simp only [eval]
    rw [e1] at q
    exact rd_alloc q
  | .var _, hc | .c _, hc | .glob _, hc | .bin _ _ _, hc | .neg _, hc | .not _, hc | .cmp _ _ _, hc | .cmp2 _ _ _ _ _, hc | .and _ _, hc | .or _ _, hc | .ite _ _ _, hc | .tup _, hc | .lst _, hc | .ix _ _, hc | .slice _ _ _ _ _, hc | .call _ _, hc | .b1 _ _, hc | .b2 _ _ _, hc | .isinst _ _, hc | .bi _ _, hc | .meth _ _ _, hc | .dct, hc | .srtD _, hc => by
    exfalso
    cases x with
    | ListComp a b c d => rcases lc_only hc with ⟨_, _, _, _, _, e⟩ | ⟨_, e, _⟩ <;> cases e
    | _ => cases hs
theorem chkT_one {N : List Str} {sc : Scope} {t : Tg} {x : Expr} (h : chkT true N sc t x = true) (env : PySem.Env) : (assignEach [x] env).map (·.2) = [PySem.assign x env] := by
  rw [assignEach_cons h]
  rfl
theorem ss_asg (tg : Tg) (e : E) : SS P Φ G k (.asg tg e) := fun X W x gd hc => by
  simp only [chkS] at hc
  split at hc
  · rename_i t e' pos
    simp only [Bool.and_eq_true, Bool.or_eq_true] at hc
    obtain ⟨h1, h2, h3, h4⟩ := hc
    have hsw := swB_ok gd.bk rfl h3 (t := t) pos.line
    have hsn := swN_ok gd.bk rfl h4
    have imp : ∀ D σ H, rF X.K W (exec Φ G (.asg tg e)) D σ H → tAsg (rE X.K W (eval Φ G e)) (rG X.K tg) D σ H := fun D σ H q => by
      simp only [exec] at q
      refine rF_bind (ρ := RR X.K) (k := fun g r h => match MP.assign tg r.frz g with
        | some g => some (.ok (.nx g) h)
        | none => none) q fun μ1 g h1 H1 r v H0 hr er q1 F => ?_
      cases ea : MP.assign tg r.frz g with
      | none => simp only [ea] at F; exact F.elim
      | some g' =>
        simp only [ea] at F
        exact ⟨μ1, h1, g, _, g', hr, er, q1.frz, ea, fun σ' er' _ _ => F.next hr er'⟩
    cases c : swB X.env.scope e' t with
    | false =>
      rw [c] at hsw
      exact PS_imp (ps_asg (sound_e e X W e' gd.toGood h2).1 (pg_of gd.T tg t h1) hsw hsn (chkT_one h1 X.env)) imp
    | true =>
      cases t with
      | Name y py =>
        cases tg with
        | slot i =>
          have hi : X.N[i]? = some y := by
            simp only [chkT, Bool.and_eq_true, decide_eq_true_eq] at h1
            exact h1.1
          refine PS_imp (ps_lcAll gd hi c e h2) fun D σ H q => ?_
          obtain ⟨μ, g, h, hr, er, F⟩ := imp D σ H q
          refine ⟨μ, g, h, hr, er, ?_⟩
          refine Fin.imp F fun v H' q => ?_
          obtain ⟨μ, hh, g, d, g', hr, er, q1, ea, kf⟩ := q
          simp only [MP.assign, Option.some.injEq] at ea
          subst ea
          refine kf _ (er.set q1) (fun j hj => ?_) (by simp)
          simp only [slots, List.mem_singleton] at hj
          rw [List.getElem?_set_ne (Ne.symm hj)]
        | tup _ => simp [chkT] at h1
      | _ =>
        unfold swB at c
        split at c
        · rename_i heq
          cases heq
        · cases c
  · cases hc
end
end MP

/-! MP.Snd14: pairs of stores, items, loops; all statements. -/
namespace MP
open PySem PySem.Spec PyProof.Rows L2

section
variable {P : PInfo} {Φ : Nat → List D → Heap → Res R} {G : Nat → Option D} {k : Nat}
theorem ss_par (is : List Nat) (es : List E) : SS P Φ G k (.par is es) := fun X W x gd hc => by
  have par : ∀ D σ H, rF X.K W (exec Φ G (.par is es)) D σ H → rA X.K W (evals Φ G es) σ H fun vs H1 => ∃ μ h g ds g', HR X.K μ h H1 ∧ ER X.K μ h.length H1 g σ ∧ RDs X.K μ h.length H1 ds vs ∧ setAll is ds g = some g' ∧ ∀ σ', ER X.K μ h.length H1 g' σ' → D.nx σ' H1 := fun D σ H q => by
    simp only [exec] at q
    refine rF_bind (ρ := RA X.K) (k := fun g ds h => match setAll is ds g with
        | some g => some (.ok (.nx g) h)
        | none => none) q fun μ1 g h1 H1 ds vs H0 hr er q1 F => ?_
    cases e : setAll is ds g with
    | none => simp only [e] at F; exact F.elim
    | some g' =>
      simp only [e] at F
      exact ⟨μ1, h1, g, ds, g', hr, er, q1, e, fun σ' er' => F.next hr er'⟩
  simp only [chkS] at hc
  split at hc
  · rename_i i j a p b q kt pt u v k2 p2 pos
    simp only [Bool.and_eq_true, decide_eq_true_eq] at hc
    obtain ⟨⟨hi, hj, hij, ha, hb⟩, h1, h2⟩ := hc
    refine PS_imp (ps_par gd.calm gd.nd hi hj hij ha hb (sound_es es X W _ gd.toGood h1) (swY_ok gd.bk rfl h2 (chks_shape h1)) (by rw [swB_ok gd.bk rfl (.inl rfl)]; rfl)) fun D σ H q => ?_
    obtain ⟨μ, g, h, hr, er, F⟩ := par D σ H q
    refine ⟨μ, g, h, hr, er, Fin.imp F fun vs H1 ⟨μ, h, g, ds, g', hr, er, rds, e, kf⟩ => ?_⟩
    match ds, rds, e with
    | [d1, d2], rds, e =>
      simp only [RDs] at rds
      obtain ⟨v1, _, rfl, r1, v2, _, rfl, r2, rfl⟩ := rds
      simp only [setAll, Option.some.injEq] at e
      subst e
      exact ⟨v1, v2, rfl, kf _ ((er.set r1).set r2)⟩
    | [], _, e => simp [setAll] at e
    | [_], _, e => simp [setAll] at e
    | _ :: _ :: _ :: _, _, e => simp [setAll] at e
  · rename_i i j l a p b q c r kt pt u v w k2 p2 pos
    simp only [Bool.and_eq_true, decide_eq_true_eq] at hc
    obtain ⟨⟨hi, hj, hl, ⟨hij, hil, hjl⟩, ha, hb, hcc⟩, h1, h2⟩ := hc
    refine PS_imp (ps_par3 gd.calm gd.nd hi hj hl hij hil hjl ha hb hcc (sound_es es X W _ gd.toGood h1) (swY_ok gd.bk rfl h2 (chks_shape h1)) (by rw [swB_ok gd.bk rfl (.inl rfl)]; rfl)) fun D σ H q => ?_
    obtain ⟨μ, g, h, hr, er, F⟩ := par D σ H q
    refine ⟨μ, g, h, hr, er, Fin.imp F fun vs H1 ⟨μ, h, g, ds, g', hr, er, rds, e, kf⟩ => ?_⟩
    match ds, rds, e with
    | [d1, d2, d3], rds, e =>
      simp only [RDs] at rds
      obtain ⟨v1, _, rfl, r1, v2, _, rfl, r2, v3, _, rfl, r3, rfl⟩ := rds
      simp only [setAll, Option.some.injEq] at e
      subst e
      exact ⟨v1, v2, v3, rfl, kf _ (((er.set r1).set r2).set r3)⟩
    | [], _, e => simp [setAll] at e
    | [_], _, e => simp [setAll] at e
    | [_, _], _, e => simp [setAll] at e
    | _ :: _ :: _ :: _ :: _, _, e => simp [setAll] at e
  · cases hc
theorem aug_int {X : Cx} {op : BOp} {o : Operator} (h1 : bopB op o = true) (h2 : op = .add ∨ op = .sub) : PIp X o (fun x y H Q => ∃ i j d, x = .int i ∧ y = .int j ∧ augD op (.int i) (.int j) = some (.int d) ∧ Q (.int d) H) := by
  intro pins s σ H x y v u Q I r1 r2 ⟨i, j, d, e1, e2, e3, q⟩
  rcases h2 with rfl | rfl
  · cases o <;> first | (cases h1; done) | skip
    cases e3
    exact ip_add pins s σ H x y v u Q I r1 r2 ⟨i, j, e1, e2, q⟩
  · cases o <;> first | (cases h1; done) | skip
    cases e3
    exact ip_sub pins s σ H x y v u Q I r1 r2 ⟨i, j, e1, e2, q⟩
theorem augD_int {op : BOp} {x y d : D} (h : augD op x y = some d) : ∃ i j n, x = .int i ∧ y = .int j ∧ d = .int n := by
  unfold augD at h
  split at h
  · cases h; exact ⟨_, _, _, rfl, rfl, rfl⟩
  · cases h; exact ⟨_, _, _, rfl, rfl, rfl⟩
  · cases h
theorem ss_aug (i : Nat) (op : BOp) (e : E) : SS P Φ G k (.aug i op e) := fun X W x gd hc => by
  simp only [chkS] at hc
  split at hc
  · rename_i n p o e' pos
    simp only [Bool.and_eq_true, Bool.or_eq_true, beq_iff_eq, decide_eq_true_eq] at hc
    obtain ⟨hi, hl, he, ho, hop⟩ := hc
    refine PS_imp (ps_aug gd.nd hi (locB_ok hl) (sound_e e X W e' gd.toGood he).1 (aug_int ho hop) (.inl (gd.fnc n))) fun D σ H ⟨μ, g, h, hr, er, F⟩ => ?_
    simp only [exec] at F
    split at F
    · rename_i d eg
      obtain ⟨v, e1, q1⟩ := er.2 i d eg
      refine ⟨v, e1, μ, g, h, hr, er, F.bind fun r h1 w H1 μ1 P1 q2 F2 => ?_⟩
      cases ea : augD op d r.frz with
      | none => simp only [ea] at F2; exact F2.elim
      | some z =>
        simp only [ea] at F2
        obtain ⟨a, b, c, rfl, e2, rfl⟩ := augD_int ea
        have q3 := q2.frz
        rw [e2] at q3 ea
        cases q1
        cases q3
        exact ⟨a, b, c, rfl, rfl, ea, F2.next P1.hr ((er.mono P1 hr).set rfl)⟩
    · exact F.elim
  · cases hc
theorem RDs.set {K : PySem.W.Frag} {μ : Mu} {n : Nat} {H : Hp} {d : D} {v : V} : ∀ {l : List D} {us : List V} (j : Nat), RDs K μ n H l us → RD K μ n H d v → RDs K μ n H (l.set j d) (us.set j v)
  | [], us, j, a, b => by
    simp only [RDs] at a
    subst a
    simp only [List.set_nil, RDs]
  | c :: l, us, 0, a, b => by
    simp only [RDs] at a
    obtain ⟨w, r, rfl, q, t⟩ := a
    simp only [List.set_cons_zero, RDs]
    exact ⟨v, r, rfl, b, t⟩
  | c :: l, us, j + 1, a, b => by
    simp only [RDs] at a
    obtain ⟨w, r, rfl, q, t⟩ := a
    simp only [List.set_cons_succ, RDs]
    exact ⟨w, _, rfl, q, RDs.set j t b⟩
theorem sub_assign {k' : Expr} (h : shape k' = true) (o : Expr) (pos : Pos) (env : PySem.Env) (v : Value) : PySem.assign (.Subscript o k' pos) env v = (do
      let ov ← holding [v] (PySem.eval o env)
      let iv ← holding [v, ov] (PySem.eval k' env)
      standAt pos
      holding [v, ov, iv] (setItem ov iv v)
      release [v, ov, iv] []) := by
  cases k' <;> first | rfl | cases h
-- d[k] = v
def rSetD : V → V → V → Hp → (Hp → Prop) → Prop := fun o i v H Q => ∃ (p : Addr) (kvs : List (Key × V)) (k : Key), o = .ref p ∧ i = kV k ∧ H p = some (.dK kvs) ∧ kvs.length < sizeLine ∧ Q (upd H p (.dK (putK kvs k v)))
theorem set_dict {X : Cx} (hu : X.A.units + 1 < cLine) : PSet X rSetD := by
  intro pins s σ H o i v ov iv u Q I ro ri rv ⟨p, kvs, k, eo, ei, hp, hl, q⟩
  subst eo ei
  cases ro
  exact d_setItem hu I (DPut.k hp hl) ri rv fun s' I' => ⟨_, I', q⟩
theorem PSet.or {X : Cx} {r r' : TSet} (a : PSet X r) (b : PSet X r') : PSet X (fun o i v H Q => r o i v H Q ∨ r' o i v H Q) := by
  intro pins s σ H o i v ov iv u Q I ro ri rv q
  rcases q with q | q
  · exact a pins s σ H o i v ov iv u Q I ro ri rv q
  · exact b pins s σ H o i v ov iv u Q I ro ri rv q
theorem put_rel {K : PySem.W.Frag} {μ : Mu} {n : Nat} {H : Hp} {k : Key} {d : D} {v : V} (qv : RD K μ n H d v) {l : List (Sum Int Str × D)} {kvs : List (Key × V)} (ek : kvs.map (·.1) = l.map (·.1)) (t : RDs K μ n H (l.map (·.2)) (kvs.map (·.2))) :
    (putK kvs k v).map (·.1) = (putD l k d).map (·.1) ∧ RDs K μ n H ((putD l k d).map (·.2)) ((putK kvs k v).map (·.2)) := by
  have ea : (kvs.any fun kv => decide (kv.1 = k)) = l.any fun kv => decide (kv.1 = k) := by
    have a1 : (kvs.any fun kv => decide (kv.1 = k)) = (kvs.map (·.1)).any fun j => decide (j = k) := by rw [List.any_map]; rfl
    have a2 : (l.any fun kv => decide (kv.1 = k)) = (l.map (·.1)).any fun j => decide (j = k) := by rw [List.any_map]; rfl
    rw [a1, a2, ek]
  unfold putK putD
  rw [ea]
  split
  · rename_i hyes
    clear hyes ea
    induction l generalizing kvs with
    | nil =>
      cases kvs with
      | nil => exact ⟨rfl, t⟩
      | cons _ _ => cases ek
    | cons p l ih =>
      cases kvs with
      | nil => cases ek
      | cons q kvs =>
        simp only [List.map_cons, List.cons.injEq] at ek
        simp only [List.map_cons, RDs] at t
        obtain ⟨w, r, e, t1, t2⟩ := t
        simp only [List.cons.injEq] at e
        obtain ⟨rfl, rfl⟩ := e
        obtain ⟨i1, i2⟩ := ih ek.2 t2
        simp only [List.map_cons, RDs]
        refine ⟨?_, ?_⟩
        · rw [i1, ek.1]
          congr 1
          split
          · rfl
          · exact ek.1
        · refine ⟨_, _, rfl, ?_, i2⟩
          rw [ek.1]
          split
          · exact qv
          · exact t1
  · simp only [List.map_append, List.map_cons, List.map_nil]
    exact ⟨by rw [ek], t.app (by simp only [RDs]; exact ⟨v, [], rfl, qv, rfl⟩)⟩
theorem at_dict {K : PySem.W.Frag} {μ : Mu} {h : Heap} {H : Hp} (hr : HR K μ h H) {p : Nat} {x : V} {l : List (Sum Int Str × D)} (q : RD K μ h.length H (.loc p) x) (e : h[p]? = some (.dic l)) :
    p < h.length ∧ x = .ref (μ p) ∧ ∃ kvs : List (Key × V), H (μ p) = some (.dK kvs) ∧ kvs.map (·.1) = l.map (·.1) ∧ RDs K μ h.length H (l.map (·.2)) (kvs.map (·.2)) := by
  simp only [RD] at q
  obtain ⟨vs, e1, t⟩ := hr.ob p _ e
  exact ⟨q.1, q.2, vs, e1, t⟩
theorem ss_setix (o i e : E) : SS P Φ G k (.setix o i e) := fun X W x gd hc => by
  simp only [chkS] at hc
  split at hc
  · rename_i o' k' p e' pos
    simp only [Bool.and_eq_true, Bool.or_eq_true] at hc
    obtain ⟨h1, h2, h3, h4⟩ := hc
    have A := (sound_e o X W o' gd.toGood h1).1
    have B := (sound_e i X W k' gd.toGood h2).1
    have C := (sound_e e X W e' gd.toGood h3).1
    have hsw : swapsWithSole [.Subscript o' k' p] e' pos.line X.env = pure false := by
      rw [swB_ok gd.bk rfl h4]
      cases e' <;> rfl
    refine PS_imp (ps_asg C (pg_sub A B (PSet.or set_list (set_dict (by have := gd.un; omega))) (fun v => sub_assign (chk_shape h2) _ _ _ v)) hsw rfl rfl) fun D σ H q => ?_
    simp only [exec] at q
    obtain ⟨μ, g, h, hr, er, F⟩ := q
    refine ⟨μ, g, h, hr, er, F.bind fun r h1 v H1 μ1 P1 q1 F1 => ?_⟩
    have er1 := er.mono P1 hr
    refine ⟨μ1, g, h1, P1.hr, er1, F1.bind fun x h2 xv H2 μ2 P2 q2 F2 => ?_⟩
    have er2 := er1.mono P2 P1.hr
    refine ⟨μ2, g, h2, P2.hr, er2, F2.bind fun y h3 yv H3 μ3 P3 q3 F3 => ?_⟩
    have er3 := er2.mono P3 P2.hr
    have q1' := RD.mono P3 P2.hr _ _ (RD.mono P2 P1.hr _ _ q1.frz)
    have q2' := RD.mono P3 P2.hr _ _ q2.frz
    have q3' := q3.frz
    cases es : setM x.frz y.frz r.frz h3 with
    | none => simp only [es] at F3; exact F3.elim
    | some hN =>
      simp only [es] at F3
      unfold setM at es
      split at es
      · rename_i p i e1 e2
        rw [e1] at q2'
        rw [e2] at q3'
        cases q3'
        split at es
        · rename_i l e3
          split at es
          · rename_i j e4
            cases es
            obtain ⟨hp, rfl, vs, e5, t⟩ := at_place P3.hr q2' e3
            rw [← atN_same, ← t.length] at e4
            have Pn := Post.set P3.hr hp (t.set j q1')
            exact .inl ⟨_, vs, i, j, rfl, rfl, e5, e4, F3.nextP Pn (er3.mono Pn P3.hr)⟩
          · cases es
        · rename_i l e3
          split at es
          · rename_i hl
            cases es
            obtain ⟨hp, rfl, kvs, e5, ek, t⟩ := at_dict P3.hr q2' e3
            obtain ⟨z1, z2⟩ := put_rel (k := .inl i) q1' ek t
            have Pn := Post.setD P3.hr hp z1 z2
            have el := congrArg List.length ek
            simp only [List.length_map] at el
            exact .inr ⟨_, kvs, .inl i, rfl, rfl, e5, by rw [el, lim_line]; exact hl, F3.nextP Pn (er3.mono Pn P3.hr)⟩
          · cases es
        · cases es
      · rename_i p i e1 e2
        rw [e1] at q2'
        rw [e2] at q3'
        cases q3'
        split at es
        · rename_i l e3
          split at es
          · rename_i hl
            cases es
            obtain ⟨hp, rfl, kvs, e5, ek, t⟩ := at_dict P3.hr q2' e3
            obtain ⟨z1, z2⟩ := put_rel (k := .inr i) q1' ek t
            have Pn := Post.setD P3.hr hp z1 z2
            have el := congrArg List.length ek
            simp only [List.length_map] at el
            exact .inr ⟨_, kvs, .inr i, rfl, rfl, e5, by rw [el, lim_line]; exact hl, F3.nextP Pn (er3.mono Pn P3.hr)⟩
          · cases es
        · cases es
      · cases es
  · cases hc
end
end MP

/-! MP.Snd15: loops; all statements. -/
namespace MP
open PySem PySem.Spec PyProof.Rows L2

section
variable {P : PInfo} {Φ : Nat → List D → Heap → Res R} {G : Nat → Option D} {k : Nat}
theorem rd_for {K : PySem.W.Frag} {W : XK} {σ : L2.St} {H : Hp} {D : Ends} {mi : Env → Heap → Res Items} {tg : Tg} {mb : Env → Heap → Res Fl}
    (q : rF K W (fun g h => bd (mi g h) fun its h => forGo its (forF tg mb) its.1 g h) D σ H) : tFor (rd K W (RI K) mi) (rG K tg) (rF K W mb) D σ H := by
  refine rF_bind (ρ := RI K) (k := fun g its h => forGo its (forF tg mb) its.1 g h) q fun μ1 g h1 H1 its J H0 hr er wd F => ?_
  refine ⟨fun i m σc Hc => m = its.1.length - i ∧ i ≤ its.1.length ∧ ∃ μ2 h2 g2, Post K μ1 h1 H1 μ2 h2 Hc ∧ ER K μ2 h2.length Hc g2 σc ∧ still its h2 = true ∧ FinF K W μ2 h2 Hc (forGo its (forF tg mb) (its.1.drop i) g2 h2) D,
    ⟨its.1.length, by simp, Nat.zero_le _, μ1, h1, g, Post.refl hr, er, wd.2, by simpa using F⟩, ?_⟩
  rintro i m σc Hc ⟨rfl, hi, μ2, h2, g2, P2, er2, st2, F2⟩
  obtain ⟨wgo, wstop, wyld⟩ := wd.1 μ2 h2 Hc P2 st2
  by_cases hlt : i < its.1.length
  · right
    refine ⟨wgo i hlt, fun σ' H' => i + 1 ≤ its.1.length ∧ ∃ μ2 h2 g2, Post K μ1 h1 H1 μ2 h2 H' ∧ ER K μ2 h2.length H' g2 σ' ∧ still its h2 = true ∧ FinF K W μ2 h2 H' (forGo its (forF tg mb) (its.1.drop (i + 1)) g2 h2) D,
      fun σ' H' q => ⟨its.1.length - (i + 1), by omega, rfl, q⟩, fun x H3 y => ?_⟩
    obtain ⟨d, e1, P3, qd⟩ := wyld i x H3 hlt y
    have edrop : its.1.drop i = d :: its.1.drop (i + 1) := by
      rw [List.drop_eq_getElem_cons hlt]
      congr 1
      rw [List.getElem?_eq_getElem hlt] at e1
      exact Option.some.inj e1
    rw [edrop] at F2
    simp only [forGo] at F2
    cases ea : MP.assign tg d g2 with
    | none =>
      simp only [forF, ea] at F2
      exact F2.elim
    | some g3 =>
      simp only [forF, ea] at F2
      have F3 := FinF.from F2 P3
      refine ⟨μ2, h2, g2, d, g3, P3.hr, er2.mono P3 P2.hr, qd, ea, fun σ3 er3 _ _ => ⟨μ2, g3, h2, P3.hr, er3, ?_⟩⟩
      cases eb : mb g3 h2 with
      | none => rw [eb] at F3; exact F3
      | some o =>
        rw [eb] at F3
        cases o with
        | exc _ _ => exact F3
        | ok fl h4 =>
          simp only [bd_ok] at F3
          cases fl with
          | nx g4 =>
            intro σ' H' μ' P' er'
            simp only at F3
            split at F3
            · rename_i st4
              exact ⟨hlt, μ', h4, g4, (P2.trans P3).trans P', er', st4, FinF.from F3 P'⟩
            · exact F3.elim
          | ct g4 =>
            intro σ' H' μ' P' er'
            simp only at F3
            split at F3
            · rename_i st4
              exact ⟨hlt, μ', h4, g4, (P2.trans P3).trans P', er', st4, FinF.from F3 P'⟩
            · exact F3.elim
          | bk g4 => exact fun σ' H' μ' P' er' => F3 σ' H' μ' P' er'
          | rt r => exact F3
  · left
    have e0 : i = its.1.length := by omega
    subst e0
    rw [List.drop_length] at F2
    exact ⟨wstop, F2.next P2.hr er2⟩
theorem ss_for (tg : Tg) (it : I) (body : List St) (hb : SSs P Φ G k body) : SS P Φ G k (.for_ tg it body) := fun X W x gd hc => by
  simp only [chkS] at hc
  split at hc
  · rename_i tg' it' body' pos
    simp only [Bool.and_eq_true] at hc
    obtain ⟨h1, h2, h3, h4⟩ := hc
    have hT : tupI it = true → isTupE tg' = true := fun z => by
      rw [z] at h4
      simpa using h4
    refine PS_imp (ps_for gd.own gd.calm (sound_i it X W tg' it' gd.toGood h2 hT) (pg_of gd.T tg tg' h1) (hb X W body' gd h3) (fun x => by
        cases it with
        | of e => exact shape_iter (chk_shape (by simpa only [chkI] using h2)) _ _
        | _ =>
          simp only [chkI] at h2
          split at h2
          · rfl
          · cases h2)) fun D σ H q => rd_for ?_
    have e : exec Φ G (.for_ tg it body) = fun g h => bd (items Φ G it g h) fun its h => forGo its (forF tg (execs Φ G body)) its.1 g h := by
      funext g h
      simp only [exec]
    rw [e] at q
    exact q
  · cases hc
theorem while_some {c : Env → Heap → Res Bool} {f : Env → Heap → Res Fl} {g : Env} {h : Heap} : whileD c f g h = none ∨ ∃ n, whileD c f g h = whileGo c f n g h := by
  unfold whileD
  split
  · rename_i q
    exact .inr ⟨_, q.choose_spec.choose_spec.symm⟩
  · exact .inl rfl
theorem ss_while (c : E) (body : List St) (hb : SSs P Φ G k body) : SS P Φ G k (.while_ c body) := fun X W x gd hc => by
  simp only [chkS] at hc
  split at hc
  · rename_i c' body' pos
    simp only [Bool.and_eq_true] at hc
    refine PS_imp (ps_while gd.own (sound_e c X W c' gd.toGood hc.1).2 (hb X W body' gd hc.2)) fun D σ H ⟨μ, g, h, hr, er, F⟩ => ?_
    have e : exec Φ G (.while_ c body) = fun g h => whileD (tst (eval Φ G c)) (execs Φ G body) g h := by
      funext g h
      simp only [exec]
    rw [e] at F
    simp only at F
    rcases while_some (c := tst (eval Φ G c)) (f := execs Φ G body) (g := g) (h := h) with z | ⟨n, z⟩
    · rw [z] at F
      exact F.elim
    rw [z] at F
    refine ⟨fun m σ H => ∃ μ g h, HR X.K μ h H ∧ ER X.K μ h.length H g σ ∧ FinF X.K W μ h H (whileGo (tst (eval Φ G c)) (execs Φ G body) m g h) D, ⟨n, μ, g, h, hr, er, F⟩, ?_⟩
    rintro m σ1 H1 ⟨μ1, g1, h1, hr1, er1, F1⟩
    cases m with
    | zero => exact F1.elim
    | succ m =>
      simp only [whileGo] at F1
      refine ⟨μ1, g1, h1, hr1, er1, F1.bind fun b h2 b' H2 μ2 P2 q2 F2 => ?_⟩
      cases q2
      have er2 := er1.mono P2 hr1
      cases b with
      | false =>
        refine iteF ?_
        simp only [Bool.false_eq_true, if_false] at F2
        exact F2.next P2.hr er2
      | true =>
        refine iteT ⟨fun σ' H' => ∃ μ g h, HR X.K μ h H' ∧ ER X.K μ h.length H' g σ' ∧ FinF X.K W μ h H' (whileGo (tst (eval Φ G c)) (execs Φ G body) m g h) D, fun σ' H' q => ⟨m, by omega, q⟩, μ2, g1, h2, P2.hr, er2, ?_⟩
        simp only [if_true] at F2
        cases eb : execs Φ G body g1 h2 with
        | none => rw [eb] at F2; exact F2
        | some o =>
          rw [eb] at F2
          cases o with
          | exc _ _ => exact F2
          | ok fl h4 =>
            simp only [bd_ok] at F2
            cases fl with
            | nx g4 => exact fun σ' H' μ' P' er' => ⟨μ', g4, h4, P'.hr, er', FinF.from F2 P'⟩
            | ct g4 => exact fun σ' H' μ' P' er' => ⟨μ', g4, h4, P'.hr, er', FinF.from F2 P'⟩
            | bk g4 => exact fun σ' H' μ' P' er' => F2 σ' H' μ' P' er'
            | rt r => exact F2
  · cases hc

mutual
theorem sound_s : ∀ s : St, SS P Φ G k s
  | .asg tg e => ss_asg tg e
  | .par is es => ss_par is es
  | .aug i op e => ss_aug i op e
  | .setix o i e => ss_setix o i e
  | .expr e => ss_expr e
  | .ret e => ss_ret e
  | .ret0 => ss_ret0
  | .if_ c a b => ss_if c a b (sound_ss a) (sound_ss b)
  | .for_ tg it body => ss_for tg it body (sound_ss body)
  | .while_ c body => ss_while c body (sound_ss body)
  | .pass => ss_pass
  | .brk => ss_brk
  | .cont => ss_cont
  | .never => fun X W x gd hc => PS_imp ps_never fun D σ H ⟨μ, g, h, hr, er, F⟩ => by
    simp only [exec] at F
    exact F
theorem sound_ss : ∀ ss : List St, SSs P Φ G k ss
  | [] => sss_nil
  | s :: ss => sss_cons s ss (sound_s s) (sound_ss ss)
end
end
end MP

/-! MP.Snd16: defs. -/
namespace MP
open PySem PySem.Spec PyProof.Rows L2

/-! ### what a call leaves -/
section
variable {K : PySem.W.Frag} {μ : Mu} {h : Heap} {H : Hp} {n : Nat}
theorem Fz.cut {m : Nat} (hn : n ≤ m) {a : Addr} {u : HO} (q : Fz μ m H a u) : Fz μ n H a u := ⟨q.1, fun p hp => q.2.1 p (Nat.lt_of_lt_of_le hp hn), q.2.2⟩
theorem RD.cut {m : Nat} (hn : n ≤ m) : (∀ (d : D) (v : V), MP.cl n d = true → RD K μ m H d v → RD K μ n H d v) ∧ ∀ (ds : List D) (us : List V), clL n ds = true → RDs K μ m H ds us → RDs K μ n H ds us :=
  ⟨fun d v c q => RD.gen (m := n) (fun _ _ z => z) (fun _ _ z => z.cut hn) (fun p _ hp => ⟨hp, rfl⟩) d v c q, fun ds us c q => RDs.gen (m := n) (fun _ _ z => z) (fun _ _ z => z.cut hn) (fun p _ hp => ⟨hp, rfl⟩) ds us c q⟩
theorem take_get {α : Type} {l : List α} {n i : Nat} {a : α} (e : (l.take n)[i]? = some a) : i < n ∧ l[i]? = some a := by
  have hi : i < n := by
    rcases Nat.lt_or_ge i n with z | z
    · exact z
    · rw [List.getElem?_eq_none (by rw [List.length_take]; omega)] at e; cases e
  rw [List.getElem?_take_of_lt hi] at e
  exact ⟨hi, e⟩
theorem HR.cut (r : HR K μ h H) (hn : n ≤ h.length) (hc : ∀ i o, i < n → h[i]? = some o → clO n o = true) : HR K μ (h.take n) H := by
  have hl : (h.take n).length = n := by rw [List.length_take]; omega
  refine ⟨r.sn, fun a sa p hp => r.sp a sa p (by omega), fun p q hp hq e => r.inj p q (by omega) (by omega) e, fun p o e => ?_⟩
  obtain ⟨hp, e⟩ := take_get e
  rw [hl]
  have q := r.ob p o e
  have c := hc p o hp e
  cases o with
  | lst l =>
    obtain ⟨vs, e1, t⟩ := q
    exact ⟨vs, e1, (RD.cut hn).2 _ _ c t⟩
  | dic l =>
    obtain ⟨vs, e1, ek, t⟩ := q
    exact ⟨vs, e1, ek, (RD.cut hn).2 _ _ c t⟩
-- a place given up: its list is nothing's
theorem RD.cutDel (r : HR K μ h H) (hn : n ≤ h.length) {p : Nat} (h1 : n ≤ p) (h2 : p < h.length) : (∀ (d : D) (v : V), MP.cl n d = true → RD K μ h.length H d v → RD K μ n (MP.del H (μ p)) d v) ∧ ∀ (ds : List D) (us : List V), clL n ds = true → RDs K μ h.length H ds us → RDs K μ n (MP.del H (μ p)) ds us := by
  have tupk : ∀ a xs, SqT K H a xs → SqT K (MP.del H (μ p)) a xs := fun a xs q => by
    rcases q with (q | ⟨o, q⟩) | q
    · exact .inl (.inl (by rw [del_ne fun z => r.ne_tup q p h2 z.symm]; exact q))
    · exact .inl (.inr ⟨o, by rw [del_ne fun z => r.ne_frz q p h2 z.symm]; exact q⟩)
    · exact .inr q
  have fzk : ∀ a u, Fz μ h.length H a u → Fz μ n (MP.del H (μ p)) a u := fun a u q => by
    obtain ⟨q, ne, ns⟩ := q
    have na : a ≠ μ p := fun z => ne p h2 z.symm
    refine ⟨?_, fun q hq => ne q (by omega), ns⟩
    rcases q with q | ⟨o, q⟩
    · exact .inl (by rw [del_ne na]; exact q)
    · exact .inr ⟨o, by rw [del_ne na]; exact q⟩
  exact ⟨fun d v c q => RD.gen (m := n) tupk fzk (fun p _ hp => ⟨hp, rfl⟩) d v c q, fun ds us c q => RDs.gen (m := n) tupk fzk (fun p _ hp => ⟨hp, rfl⟩) ds us c q⟩
theorem HR.cutDel (r : HR K μ h H) (hn : n ≤ h.length) (hc : ∀ i o, i < n → h[i]? = some o → clO n o = true) {p : Nat} (h1 : n ≤ p) (h2 : p < h.length) : HR K μ (h.take n) (MP.del H (μ p)) := by
  have hl : (h.take n).length = n := by rw [List.length_take]; omega
  refine ⟨fun a sa => ?_, fun a sa p hp => r.sp a sa p (by omega), fun p q hp hq e => r.inj p q (by omega) (by omega) e, fun q o e => ?_⟩
  · rw [del_ne fun z => r.sp a sa p h2 z.symm]
    exact r.sn a sa
  obtain ⟨hq, e⟩ := take_get e
  rw [hl]
  have t := r.ob q o e
  have c := hc q o hq e
  cases o with
  | lst l =>
    obtain ⟨vs, e1, t⟩ := t
    refine ⟨vs, ?_, (RD.cutDel r hn h1 h2).2 _ _ c t⟩
    rw [del_ne fun z => ?_]
    · exact e1
    · have := r.inj q p (by omega) h2 z
      omega
  | dic l =>
    obtain ⟨vs, e1, ek, t⟩ := t
    refine ⟨vs, ?_, ek, (RD.cutDel r hn h1 h2).2 _ _ c t⟩
    rw [del_ne fun z => ?_]
    · exact e1
    · have := r.inj q p (by omega) h2 z
      omega
theorem HR.closed (r : HR K μ h H) {i : Nat} {o : O} (e : h[i]? = some o) : clO h.length o = true := by
  have q := r.ob i o e
  cases o with
  | lst l =>
    obtain ⟨vs, _, t⟩ := q
    exact RDs.cl l vs t
  | dic l =>
    obtain ⟨vs, _, _, t⟩ := q
    exact RDs.cl _ _ t
theorem gc_ok {W : XK} {μ1 : Mu} {h1 : Heap} {H1 : Hp} {r : R} {v : V} {Q : VK} (hr : HR K μ h H) (P : Post K μ h H μ1 h1 H1) (q : RR K μ1 h1 H H1 r v) (F : Fin K W (RR K) μ h H (gc h r h1) Q) : Q v H1 := by
  unfold gc at F
  split at F
  · rename_i ok
    have hn : h.length ≤ h1.length := P.len
    have hl : (h1.take h.length).length = h.length := by rw [List.length_take]; omega
    have hc : ∀ i o, i < h.length → h1[i]? = some o → clO h.length o = true := fun i o hi e => by
      rcases ok.2 i hi with e2 | ⟨o', e2, c⟩
      · rw [e2] at e
        exact hr.closed e
      · rw [e2] at e
        cases e
        exact c
    have Pc : ∀ {H2 : Hp}, Post K μ h H μ1 h1 H2 → Post K μ h H μ1 (h1.take h.length) H2 := fun {H2} P => ⟨by omega, P.sd1, P.sd2, P.ext, P.hr.cut hn hc, fun p a b => absurd b (by omega), P.keep⟩
    cases r with
    | newL l =>
      simp only at F
      split at F
      · rename_i c
        obtain ⟨a, vs, rfl, e1, hra, e0, t⟩ := q
        refine F _ H1 μ1 (Pc P) ⟨a, vs, rfl, e1, hra.cut hn hc, e0, ?_⟩
        rw [hl]
        exact (RD.cut hn).2 _ _ c t
      · exact F.elim
    | newD l =>
      simp only at F
      split at F
      · rename_i c
        obtain ⟨a, vs, rfl, e1, hra, e0, ek, t⟩ := q
        refine F _ H1 μ1 (Pc P) ⟨a, vs, rfl, e1, hra.cut hn hc, e0, ek, ?_⟩
        rw [hl]
        exact (RD.cut hn).2 _ _ c t
      · exact F.elim
    | v d =>
      cases d with
      | loc p =>
        simp only at F
        split at F
        · rename_i hp
          refine F v H1 μ1 (Pc P) ?_
          show RD K μ1 (h1.take h.length).length H1 (.loc p) v
          have q : RD K μ1 h1.length H1 (.loc p) v := q
          simp only [RD] at q ⊢
          exact ⟨by omega, q.2⟩
        · rename_i hp
          split at F
          · rename_i l e
            split at F
            · rename_i c
              obtain ⟨hp1, rfl, vs, e1, t⟩ := at_place P.hr q e
              refine F _ H1 μ1 (Pc P) ⟨_, vs, rfl, e1, P.hr.cutDel hn hc (by omega) hp1, P.fresh p (by omega) hp1, ?_⟩
              rw [hl]
              exact (RD.cutDel P.hr hn (by omega) hp1).2 _ _ c t
            · exact F.elim
          · rename_i l e
            split at F
            · rename_i c
              obtain ⟨hp1, rfl, vs, e1, ek, t⟩ := at_dict P.hr q e
              refine F _ H1 μ1 (Pc P) ⟨_, vs, rfl, e1, P.hr.cutDel hn hc (by omega) hp1, P.fresh p (by omega) hp1, ek, ?_⟩
              rw [hl]
              exact (RD.cutDel P.hr hn (by omega) hp1).2 _ _ c t
            · exact F.elim
          · exact F.elim
      | _ =>
        simp only at F
        split at F
        · rename_i c
          refine F v H1 μ1 (Pc P) ?_
          show RD K μ1 (h1.take h.length).length H1 _ v
          rw [hl]
          exact (RD.cut hn).1 _ v c q
        · exact F.elim
  · exact F.elim
end
end MP

/-! MP.Snd17: every def of the table does what the evaluator says. -/
namespace MP
open PySem PySem.Spec PyProof.Rows L2

-- a def of the text that is this def of the table
structure DefAt (P : PInfo) (K : PySem.W.Frag) (mg : Str → Option Value) (x : Str) (d : Def) (a : Addr) (fd : FuncData) (ps : List Str) : Prop where
  mga : mg x = some (.ref a)
  keep : PySem.W.keepIn K (.ref a) = true
  binds : Binds K fd ps []
  np : d.np = ps.length
  fn : ∃ (nm qual : Str) (st : Stmt) (N : List Str), C8.Fun K nm qual st a fd ∧ FnScope N ps (C8.fnScope st) ∧ d.nl = N.length ∧ chkSs P N (C8.fnScope st) d.body (C8.fnBody st) = true
structure World (P : PInfo) (T : Tab) (K : PySem.W.Frag) (mg : Str → Option Value) : Prop where
  blt : ∀ x ∈ blts, mg x = none
  glob : ∀ (i : Nat) (x : Str) (d : D), P.globs[i]? = some (x, d) → T.globs[i]? = some d ∧ ∃ v u, mg x = some u ∧ RelV v u ∧ RG d v
  defs : ∀ (f : Nat) (x : Str), P.names[f]? = some x → ∃ d a fd ps, T.defs[f]? = some d ∧ DefAt P K mg x d a fd ps

section
variable {P : PInfo} {T : Tab} {prog : Program} {w : PySem.World} {K : PySem.W.Frag} {mg : Str → Option Value} {base : PySem.Heap}
theorem start_er {μ : Mu} {n : Nat} {H : Hp} {d : Def} {ds : List D} {vs : List V} {N : List Str} (q : RDs K μ n H ds vs) (hN : d.nl = N.length) : ER K μ n H (MP.start d ds) (L2.start N vs) := by
  unfold MP.start L2.start
  refine ⟨by simp [q.length, hN], fun i x e => ?_⟩
  have hl := q.length
  rcases Nat.lt_or_ge i ds.length with hi | hi
  · rw [List.getElem?_append_left (by simpa using hi), List.getElem?_map] at e
    cases c : ds[i]? with
    | none => rw [c] at e; cases e
    | some y =>
      rw [c] at e
      cases e
      obtain ⟨v, e1, e2⟩ := q.get i _ c
      refine ⟨v, ?_, e2⟩
      rw [List.getElem?_append_left (by simp; omega), List.getElem?_map, e1]
      rfl
  · rw [List.getElem?_append_right (by simpa using hi), List.getElem?_replicate] at e
    split at e <;> cases e
theorem callI_some {k f : Nat} {ds : List D} {h : Heap} (e : callI T k f ds h ≠ none) : ∃ d, T.defs[f]? = some d ∧ ds.length = d.np := by
  cases k with
  | zero => exact absurd rfl e
  | succ k =>
    simp only [callI] at e
    cases c : T.defs[f]? with
    | none => rw [c] at e; exact absurd rfl e
    | some d =>
      rw [c] at e
      simp only at e
      split at e
      · exact ⟨d, rfl, by assumption⟩
      · exact absurd rfl e
theorem good_at (wd : World P T K mg) {k : Nat} (ih : ∀ (f : Nat) (x : Str) (d : Def) (a : Addr) (fd : FuncData) (ps : List Str), P.names[f]? = some x → T.defs[f]? = some d → DefAt P K mg x d a fd ps → FnOk prog w K mg base (L2.CX prog w) k a fd ps (spI K ps.length (callI T k f)))
    {X : Cx} {W : XK} (nd : X.N.Nodup) (calm : X.calm = true) (room : Room k X.A) (tk : Takes X (fun c d _ H => W c d H)) (e1 : X.prog = prog) (e2 : X.w = w) (e3 : X.K = K) (e4 : X.mg = mg) (e5 : X.base = base) : Good P (callI T k) T.get k X W where
  nd := nd
  calm := calm
  room := room
  tk := tk
  blt := fun x hx => by rw [e4]; exact wd.blt x hx
  glob := fun i x d e => by rw [e4]; exact wd.glob i x d e
  fns := fun f x e => by
    obtain ⟨d, a, fd, ps, ed, da⟩ := wd.defs f x e
    subst e1 e2 e3 e4 e5
    refine ⟨a, fd, ps, da.mga, da.keep, da.binds, ih f x d a fd ps e ed da, fun ds h q => ?_⟩
    obtain ⟨d', ed', el⟩ := callI_some q
    rw [ed] at ed'
    cases ed'
    rw [el, da.np]
theorem fns_ok (wd : World P T K mg) : ∀ (k f : Nat) (x : Str) (d : Def) (a : Addr) (fd : FuncData) (ps : List Str), P.names[f]? = some x → T.defs[f]? = some d → DefAt P K mg x d a fd ps → FnOk prog w K mg base (L2.CX prog w) k a fd ps (spI K ps.length (callI T k f))
  | 0, f, x, d, a, fd, ps, _, _, _ => ⟨fun vs H Q E q => q.1, fun A outer s H args us vs Q E _ _ _ _ q => by
    obtain ⟨_, μ, h, ds, _, _, F⟩ := q
    exact F.elim⟩
  | k + 1, f, x, d, a, fd, ps, ex, ed, da => by
    obtain ⟨nm, qual, st, N, F, S, hN, hch⟩ := da.fn
    obtain ⟨oc, od, dV, kV, doc, pm, an, cdv, ct, osl, rfl, lk, hcd⟩ := F.ex
    refine fn_of lk hcd S (fun vs H Q E q => q.1) fun A outer s H vs Q E hr hsp => ?_
    obtain ⟨hlen, μ, h, ds, hhr, rds, Fi⟩ := hsp
    let X := cxOf (L2.CX prog w) prog w K mg base N qual (C8.fnScope st) a cdv A outer s H E
    have gd : GoodF P (callI T k) T.get k X E :=
      { toGood := good_at wd (fun f x d a fd ps => fns_ok wd k f x d a fd ps) S.nd rfl hr (takes_of rfl rfl rfl rfl) rfl rfl rfl rfl rfl
        kind := S.kind
        fnc := fun _ => rfl
        own := passes_of rfl }
    refine ⟨rF K E (execs (callI T k) T.get d.body), sound_ss d.body X E _ gd hch, μ, MP.start d ds, h, hhr, start_er rds hN, ?_⟩
    have hl : ds.length = d.np := by rw [← rds.length, hlen, da.np]
    simp only [callI, ed, if_pos hl] at Fi
    unfold endI at Fi
    cases c : execs (callI T k) T.get d.body (MP.start d ds) h with
    | none => rw [c] at Fi; exact Fi.elim
    | some o =>
      rw [c] at Fi
      cases o with
      | exc y h1 => exact fun cv dv H' μ' P' q => Fi cv dv H' μ' P' q
      | ok fl h1 =>
        cases fl with
        | rt r => exact fun v H' μ' P' q => gc_ok hhr P' q Fi
        | nx g => exact fun σ H' μ' P' _ => gc_ok hhr P' (show RR K μ' h1 H H' (.v .non) .non from rfl) Fi
        | bk g => exact Fi.elim
        | ct g => exact Fi.elim
end
end MP

/-! MP.Snd18: a law's end. -/
namespace MP
open PySem PySem.Spec PyProof.Rows L2

def psOf (d : He.DefD) : List Str := d.params.args.map (·.arg)
-- parameters without defaults, all by place
def BindOk (d : He.DefD) : Prop := ∀ (kV doc pm : Value) (an : Option Addr) (cdv ct : Value) (us : List Value), us.length = (psOf d).length → bindArgs (PySem.W.fnOf d.name d.qual d.params d.body d.scope .none kV doc pm an cdv ct) ⟨us, []⟩ = pure ((psOf d).zip us)
-- a def of the text beside a def of the table
def dchk (P : PInfo) (x : Str) (d : Def) (hd : He.DefD) (N : List Str) : Bool := (decide (hd.at_ = (x, none)) && (hd.dfl.isEmpty && hd.kwd.isEmpty)) && (C8.scC N (psOf hd) hd.scope && ((decide (d.np = (psOf hd).length) && decide (d.nl = N.length)) && chkSs P N hd.scope d.body hd.body))
def gfa : Str × D → He.Fa
  | (x, .int i) => .int x i
  | (x, .str z) => .str x z
  | (x, _) => .glo x
structure LawOk (P : PInfo) (T : Tab) (fn : List He.DefD) (Ns : List (List Str)) : Prop where
  ln : fn.length = P.names.length
  lt : T.defs.length = P.names.length
  chk : ∀ (i : Nat) (x : Str) (d : Def) (hd : He.DefD) (N : List Str), P.names[i]? = some x → T.defs[i]? = some d → fn[i]? = some hd → Ns[i]? = some N → dchk P x d hd N = true
  lN : Ns.length = P.names.length
  bind : ∀ hd ∈ fn, BindOk hd
  globs : T.globs = P.globs.map (·.2)
  gk : ∀ q ∈ P.globs, (∃ i, q.2 = .int i) ∨ (∃ z, q.2 = .str z)
def faOf (P : PInfo) : List He.Fa := P.names.map .glo ++ (blts.map .free ++ P.globs.map gfa)
section
variable {P : PInfo} {T : Tab} {fn : List He.DefD} {Ns : List (List Str)} {prog : Program} {w : PySem.World} {K : PySem.W.Frag} {mg : Str → Option Value} {h : PySem.Heap}
theorem get_of_len {α β : Type} {l : List α} {m : List β} {i : Nat} {a : α} (e : l[i]? = some a) (hl : m.length = l.length) : ∃ b, m[i]? = some b := by
  have hi : i < l.length := by
    rcases Nat.lt_or_ge i l.length with z | z
    · exact z
    · rw [List.getElem?_eq_none z] at e; cases e
  exact ⟨_, List.getElem?_eq_getElem (by omega)⟩
theorem def_at (L : LawOk P T fn Ns) (X : K.In h) (G : h.Ns mainGlobals mg) (c : He.SaysD (faOf P) fn K) {f : Nat} {x : Str} (ex : P.names[f]? = some x) :
    ∃ d a fd ps hd, T.defs[f]? = some d ∧ DefAt P K mg x d a fd ps ∧ fn[f]? = some hd ∧ ps = psOf hd ∧ a = He.ga K x ∧ ∀ (s : Shared) (us : List Value), us.length = ps.length → BindsTo s fd ⟨us, []⟩ (ps.zip us) := by
  obtain ⟨d, ed⟩ := get_of_len ex L.lt
  obtain ⟨hd, eh⟩ := get_of_len ex L.ln
  obtain ⟨N, eN⟩ := get_of_len ex L.lN
  have hc := L.chk f x d hd N ex ed eh eN
  unfold dchk at hc
  simp only [Bool.and_eq_true, decide_eq_true_eq, List.isEmpty_iff] at hc
  obtain ⟨⟨hat, hdf, hkw⟩, hsc, ⟨hnp, hnl⟩, hch⟩ := hc
  obtain ⟨fd, F⟩ := c.def_ f eh
  have hb := L.bind hd (List.mem_of_getElem? eh)
  have edv : hd.dvs K = [] := by unfold He.DefD.dvs; rw [hdf]; rfl
  rw [edv] at F
  have ea : He.fAd K hd.at_ = He.ga K x := by rw [hat]; rfl
  rw [ea] at F
  have g : mg x = some (.ref (He.ga K x)) := He.glo_ok X G (c.facts (f := .glo x) (List.mem_append_left _ (List.mem_map.mpr ⟨x, List.mem_of_getElem? ex, rfl⟩)))
  obtain ⟨oc, od, dV, kV, doc, pm, an, cdv, ct, osl, e1, lk, hcd, hD, hK⟩ := F.ex
  refine ⟨d, He.ga K x, fd, psOf hd, hd, ed, ⟨g, F.kp, F.bindsN hb, hnp, hd.name, hd.qual, .FunctionDef hd.name hd.params hd.body [] none [] hd.scope none hd.name ⟨0, 0, 0, 0⟩, N, ?_, C8.fnScope_by hsc, hnl, hch⟩, eh, rfl, rfl, fun s us hl => FunD.bindsA F hb s us hl⟩
  exact ⟨⟨oc, od, dV, kV, doc, pm, an, cdv, ct, osl, e1, lk, hcd⟩⟩
theorem world_of (L : LawOk P T fn Ns) (X : K.In h) (G : h.Ns mainGlobals mg) (c : He.SaysD (faOf P) fn K) : World P T K mg where
  blt := fun x hx => He.free_ok X G (c.facts (f := .free x) (List.mem_append_right _ (List.mem_append_left _ (List.mem_map.mpr ⟨x, hx, rfl⟩))))
  glob := fun i x d e => by
    refine ⟨by rw [L.globs, List.getElem?_map, e]; rfl, ?_⟩
    have hm := List.mem_of_getElem? e
    have cf := c.facts (f := gfa (x, d)) (List.mem_append_right _ (List.mem_append_right _ (List.mem_map.mpr ⟨_, hm, rfl⟩)))
    rcases L.gk _ hm with ⟨j, ej⟩ | ⟨z, ez⟩
    · simp only at ej
      subst ej
      obtain ⟨t, q⟩ := He.int_ok X G cf
      exact ⟨.int j, _, q, ⟨t, rfl⟩, rfl⟩
    · simp only at ez
      subst ez
      obtain ⟨t, q⟩ := He.str_ok X G cf
      exact ⟨.str z, _, q, ⟨t, rfl⟩, rfl⟩
  defs := fun f x e => by
    obtain ⟨d, a, fd, ps, hd, ed, da, _⟩ := def_at L X G c e
    exact ⟨d, a, fd, ps, ed, da⟩
theorem cx_no' {P : Program} {w : PySem.World} {o : List PySem.Env} {H : Hp} {s : Shared} {e : Value} {s' : Shared} (c : L2.CX P w o H s (fun _ _ _ => False) e s') : False := by
  obtain ⟨_, _, _, _, _, _, _, _, _, _, _, _, q⟩ := c
  exact q
theorem fn_cx0 {P : Program} {w : PySem.World} {K : PySem.W.Frag} {mg : Str → Option Value} {base : PySem.Heap} {k : Nat} {a : Addr} {fd : FuncData} {ps : List Str} {sp : Sp} (F : FnOk P w K mg base (L2.CX P w) k a fd ps sp) :
    FnOk P w K mg base (fun _ _ _ _ _ _ => False) k a fd ps (fun vs H Q _ => sp vs H Q (fun _ _ _ => False)) :=
  ⟨fun vs H Q E q => F.len vs H Q _ q, fun A outer s H args us vs Q E hr e0 hb r q => codeAny_mono (F.run A outer s H args us vs Q _ hr e0 hb r q) fun r s' h => by
    cases r with
    | error e => exact cx_no' h
    | ok v => cases v <;> exact h⟩
-- THE LAW: by what the evaluator says
theorem law_end (L : LawOk P T fn Ns) (X : K.In h) (G : h.Ns mainGlobals mg) (c : He.SaysD (faOf P) fn K) {k f n : Nat} {fa : Addr} (hf : P.names[f]? = some ("law" : Str)) (hp : (fn[f]?).map psOf = some [("script" : Str)]) (hfa : mg ("law" : Str) = some (.ref fa))
    (val : ∀ ns : List Int, ns.length ≤ n → ∃ h', callI T k f [.scr (ns.map D.int)] [] = some (.ok (.v (.bl true)) h')) :
    ∃ (K : PySem.W.Frag) (fd : FuncData) (sp : Sp), K.In h ∧ (∀ (s : Shared) (u : Value), BindsTo s fd ⟨[u], []⟩ [("script", u)]) ∧
      (∀ (H : Hp) (a : Addr) (ns : List Int), ns.length ≤ n → Only H → SqL K H a (ns.map V.int) → sp [.ref a] H (fun v _ => v = .bl true) fun _ _ _ => False) ∧
        ∀ base : PySem.Heap, K.In base → base.Ns mainGlobals mg → FnOk prog w K mg base (fun _ _ _ _ _ _ => False) k fa fd [("script" : Str)] sp := by
  obtain ⟨d, a, fd, ps, hd, ed, da, eh, eps, ea, hb⟩ := def_at L X G c hf
  rw [eh] at hp
  simp only [Option.map_some, Option.some.injEq] at hp
  rw [hp] at eps
  subst eps
  have e := hfa.symm.trans da.mga
  cases e
  refine ⟨K, fd, fun vs H Q _ => spI K 1 (callI T k f) vs H Q (fun _ _ _ => False), X, fun s u => hb s [u] rfl, fun H a ns hl _ hS => ?_, fun base _ _ => fn_cx0 (fns_ok (world_of L X G c) k f _ d fa fd _ hf ed da)⟩
  refine ⟨rfl, ⟨fun _ => 0, fun _ => False⟩, [], [.scr (ns.map D.int)], ⟨fun _ z => z.elim, fun _ z => z.elim, fun p q hp => absurd hp (by simp), fun p o e => by simp at e⟩, ?_, ?_⟩
  · simp only [RDs, RD]
    refine ⟨.ref a, [], rfl, ⟨a, ns.map V.int, rfl, ?_, ints_D ns⟩, rfl⟩
    rcases hS with hS | hS
    · exact .inr ⟨hS, fun p hp => absurd hp (by simp), fun z => z⟩
    · exact .inl hS
  · obtain ⟨h', e⟩ := val ns hl
    rw [e]
    exact fun v H' μ' _ q => q
end
end MP

/-! MP.Snd19: working with the evaluator. -/
namespace MP
open PySem

-- a chain is worked at its head alone
theorem bd_congr {α β : Type} {m m' : Res α} {k : α → Heap → Res β} (e : m = m') : bd m k = bd m' k := by rw [e]
theorem lcGo_congr {f : D → Heap → Res (Option D)} {xs ys : List D} {h h' : Heap} (e : xs = ys) (e2 : h = h') : lcGo f xs h = lcGo f ys h' := by rw [e, e2]
theorem forGo_congr {its : Items} {f : D → Env → Heap → Res Fl} {xs ys : List D} {g g' : Env} {h h' : Heap} (e : xs = ys) (e2 : g = g') (e3 : h = h') : forGo its f xs g h = forGo its f ys g' h' := by rw [e, e2, e3]
theorem whileD_congr {c : Env → Heap → Res Bool} {f : Env → Heap → Res Fl} {g g' : Env} {h h' : Heap} (e2 : g = g') (e3 : h = h') : whileD c f g h = whileD c f g' h' := by rw [e2, e3]
theorem endI_congr {h : Heap} {m m' : Res Fl} (e : m = m') : endI h m = endI h m' := by rw [e]

/-! ### values -/
@[simp] theorem tests_n (Φ : Nat → List D → Heap → Res R) (G : Nat → Option D) (g : Env) (h : Heap) : tests Φ G [] g h = some (.ok true h) := by simp only [tests]
@[simp] theorem tests_c (Φ : Nat → List D → Heap → Res R) (G : Nat → Option D) (e : E) (es : List E) (g : Env) (h : Heap) : tests Φ G (e :: es) g h = bd (eval Φ G e g h) fun r h => match tru h r.frz with
    | some true => tests Φ G es g h
    | some false => some (.ok false h)
    | none => none := by
  simp only [tests]
  try rfl
@[simp] theorem lim_val : lim = 16777216 := rfl
@[simp] theorem tru_non (h : Heap) : tru h .non = some false := rfl
@[simp] theorem tru_bl (h : Heap) (b : Bool) : tru h (.bl b) = some b := rfl
@[simp] theorem tru_int (h : Heap) (i : Int) : tru h (.int i) = some (decide (i ≠ 0)) := rfl
@[simp] theorem tru_tup (h : Heap) (l : List D) : tru h (.tup l) = some (!l.isEmpty) := rfl
@[simp] theorem tru_lst (h : Heap) (l : List D) : tru h (.lst l) = some (!l.isEmpty) := rfl
@[simp] theorem dok_int (n : Nat) (i : Int) : dok n (.int i) = true := by cases n <;> rfl
@[simp] theorem dok_bl (n : Nat) (i : Bool) : dok n (.bl i) = true := by cases n <;> rfl
@[simp] theorem dok_non (n : Nat) : dok n .non = true := by cases n <;> rfl
@[simp] theorem dok_tup (n : Nat) (l : List D) : dok (n + 1) (.tup l) = dokL n l := rfl
@[simp] theorem dok_lst (n : Nat) (l : List D) : dok (n + 1) (.lst l) = dokL n l := rfl
@[simp] theorem dokL_nil (n : Nat) : dokL n [] = true := by cases n <;> rfl
@[simp] theorem dokL_cons (n : Nat) (d : D) (ds : List D) : dokL n (d :: ds) = (dok n d && dokL n ds) := by cases n <;> rfl
@[simp] theorem eqD_int (i j : Int) : eqD (.int i) (.int j) = decide (i = j) := rfl
@[simp] theorem eqD_tup (l m : List D) : eqD (.tup l) (.tup m) = eqDL l m := rfl
@[simp] theorem eqD_lst (l m : List D) : eqD (.lst l) (.lst m) = eqDL l m := rfl
@[simp] theorem eqDL_nil : eqDL [] [] = true := rfl
@[simp] theorem eqDL_nc (d : D) (ds : List D) : eqDL [] (d :: ds) = false := rfl
@[simp] theorem eqDL_cn (d : D) (ds : List D) : eqDL (d :: ds) [] = false := rfl
@[simp] theorem eqDL_cons (d e : D) (ds es : List D) : eqDL (d :: ds) (e :: es) = (eqD d e && eqDL ds es) := rfl
@[simp] theorem atZ_nn {α : Type} (l : List α) {i : Int} (h : 0 ≤ i) : atZ l i = l[i.toNat]? := if_pos h
@[simp] theorem atZ_last {α : Type} (l : List α) : atZ l (-1) = l.getLast? := by
  unfold atZ
  rw [if_neg (by decide), List.getLast?_eq_getElem?]
  by_cases hl : l.length = 0
  · rw [if_neg (by omega), List.getElem?_eq_none (by omega)]
  · rw [if_pos (by omega)]
    congr 1
    omega
@[simp] theorem set_end {α : Type} (h : List α) (x y : α) : (h ++ [x]).set h.length y = h ++ [y] := by simp
@[simp] theorem get_end {α : Type} (h : List α) (x : α) : (h ++ [x])[h.length]? = some x := by simp
@[simp] theorem take_end {α : Type} (h x : List α) : (h ++ x).take h.length = h := by simp
theorem all_tt {α : Type} (l : List α) : (l.all fun _ => true) = true := by simp
theorem dokL_ints (n : Nat) (l : List Int) : dokL n (l.map D.int) = true := by
  induction l with
  | nil => simp
  | cons i l ih => simp [ih]
theorem eqDL_ints : ∀ (l m : List Int), eqDL (l.map D.int) (m.map D.int) = decide (l = m)
  | [], [] => by simp
  | [], _ :: _ => by simp
  | _ :: _, [] => by simp
  | i :: l, j :: m => by
    simp only [List.map_cons, eqDL_cons, eqD_int, eqDL_ints l m, List.cons.injEq, Bool.decide_and]
theorem ints_map (l : List Int) : MP.intsD (l.map D.int) = some l := by
  induction l with
  | nil => rfl
  | cons i l ih => simp [MP.intsD, ih]
theorem bools_mapf {α : Type} (l : List α) (f : α → D) (g : α → Bool) (h : ∀ x, f x = .bl (g x)) : bools (l.map f) = some (l.map g) := by
  induction l with
  | nil => rfl
  | cons i l ih => simp [bools, h, ih]
theorem ints_mapf {α : Type} (l : List α) (f : α → D) (g : α → Int) (h : ∀ x, f x = .int (g x)) : MP.intsD (l.map f) = some (l.map g) := by
  induction l with
  | nil => rfl
  | cons i l ih => simp [MP.intsD, h, ih]
theorem bools_map (l : List Bool) : bools (l.map D.bl) = some l := by
  induction l with
  | nil => rfl
  | cons i l ih => simp [bools, ih]

/-! ### what a call leaves -/
theorem oldOk_refl (h : Heap) : OldOk h h := ⟨Nat.le_refl _, fun _ _ => .inl rfl⟩
def noLoc : D → Bool
  | .loc _ => false
  | _ => true
theorem gc_v {h : Heap} {d : D} (hd : noLoc d = true) (c : cl h.length d = true) : gc h (.v d) h = some (.ok (.v d) h) := by
  unfold gc
  rw [if_pos (oldOk_refl h)]
  cases d with
  | loc p => cases hd
  | _ => simp only [c, if_true, List.take_length]
theorem gc_int (h : Heap) (i : Int) : gc h (.v (.int i)) h = some (.ok (.v (.int i)) h) := gc_v rfl rfl
theorem gc_bl (h : Heap) (i : Bool) : gc h (.v (.bl i)) h = some (.ok (.v (.bl i)) h) := gc_v rfl rfl
theorem gc_non (h : Heap) : gc h (.v .non) h = some (.ok (.v .non) h) := gc_v rfl rfl
theorem gc_tup {h : Heap} {l : List D} (c : clL h.length l = true) : gc h (.v (.tup l)) h = some (.ok (.v (.tup l)) h) := gc_v rfl c
theorem gc_lst {h : Heap} {l : List D} (c : clL h.length l = true) : gc h (.v (.lst l)) h = some (.ok (.v (.lst l)) h) := gc_v rfl c
theorem gc_new {h : Heap} {l : List D} (c : clL h.length l = true) : gc h (.newL l) h = some (.ok (.newL l) h) := by
  unfold gc
  rw [if_pos (oldOk_refl h)]
  simp only [c, if_true, List.take_length]
-- what is not a place, over a heap that grew or changed
theorem gc_v2 {h h1 : Heap} {d : D} (ok : OldOk h h1) (hd : noLoc d = true) (c : cl h.length d = true) : gc h (.v d) h1 = some (.ok (.v d) (h1.take h.length)) := by
  unfold gc
  rw [if_pos ok]
  cases d with
  | loc p => cases hd
  | _ => simp only [c, if_true]
theorem gc_new2 {h h1 : Heap} {l : List D} (ok : OldOk h h1) (c : clL h.length l = true) : gc h (.newL l) h1 = some (.ok (.newL l) (h1.take h.length)) := by
  unfold gc
  rw [if_pos ok]
  simp only [c, if_true]
-- a new place given back: its list
theorem gc_loc2 {h h1 : Heap} {p : Nat} {l : List D} (ok : OldOk h h1) (hp : h.length ≤ p) (e : h1[p]? = some (.lst l)) (c : clL h.length l = true) : gc h (.v (.loc p)) h1 = some (.ok (.newL l) (h1.take h.length)) := by
  unfold gc
  rw [if_pos ok]
  simp only [if_neg (show ¬ p < h.length by omega), e, c, if_true]
theorem oldOk_app (h x : Heap) : OldOk h (h ++ x) := ⟨by simp, fun i hi => .inl (by rw [List.getElem?_append_left hi])⟩
theorem cl_ints (n : Nat) (l : List Int) : clL n (l.map D.int) = true := by
  induction l with
  | nil => rfl
  | cons i l ih => simp only [List.map_cons, clL, cl, ih, Bool.and_self]

/-! ### calls -/
theorem call_of {T : Tab} {k f : Nat} {args : List D} {h : Heap} {d : Def} (hd : T.defs[f]? = some d) (hn : args.length = d.np) :
    callI T (k + 1) f args h = endI h (execs (callI T k) T.get d.body (start d args) h) := by
  simp only [callI, hd, if_pos hn]
@[simp] theorem endI_rt (h h1 : Heap) (r : R) : endI h (some (.ok (.rt r) h1)) = gc h r h1 := rfl
@[simp] theorem endI_nx (h h1 : Heap) (g : Env) : endI h (some (.ok (.nx g) h1)) = gc h (.v .non) h1 := rfl

-- one statement after another, by their places
theorem execs_at {Φ : Nat → List D → Heap → Res R} {G : Nat → Option D} {b : List St} (i : Nat) {g g' : Env} {h h' : Heap} (hi : i < b.length) (e : exec Φ G (b.getD i .never) g h = some (.ok (.nx g') h')) : execs Φ G (b.drop i) g h = execs Φ G (b.drop (i + 1)) g' h' := by
  rw [List.drop_eq_getElem_cons hi]
  rw [List.getD_eq_getElem?_getD, List.getElem?_eq_getElem hi] at e
  simp only [Option.getD_some] at e
  simp only [execs, e, bd_ok]
theorem execs_rt {Φ : Nat → List D → Heap → Res R} {G : Nat → Option D} {b : List St} (i : Nat) {g : Env} {h h' : Heap} {r : R} (hi : i < b.length) (e : exec Φ G (b.getD i .never) g h = some (.ok (.rt r) h')) : execs Φ G (b.drop i) g h = some (.ok (.rt r) h') := by
  rw [List.drop_eq_getElem_cons hi]
  rw [List.getD_eq_getElem?_getD, List.getElem?_eq_getElem hi] at e
  simp only [Option.getD_some] at e
  simp only [execs, e, bd_ok]

/-! ### loops -/
section
variable {S : Type}
-- a for whose body goes on each time, the heap as it is: a fold
theorem forGo_fold {its : Items} {f : D → Env → Heap → Res Fl} {h : Heap} (E : S → Env) (step : S → D → S) (hs : still its h = true) : ∀ (xs : List D) (s : S),
    (∀ x ∈ xs, ∀ s, f x (E s) h = some (.ok (.nx (E (step s x))) h)) → forGo its f xs (E s) h = some (.ok (.nx (E (xs.foldl step s))) h)
  | [], s, _ => rfl
  | x :: xs, s, hf => by
    rw [forGo, hf x (by simp) s]
    simp only [bd_ok, hs, if_true]
    exact forGo_fold E step hs xs _ fun y hy => hf y (by simp [hy])
-- a for over ints whose body goes on each time
theorem forGo_ints {its : Items} {f : D → Env → Heap → Res Fl} {h : Heap} (E : S → Option D → Env) (step : S → Int → S) (hs : still its h = true) : ∀ (l : List Int) (s : S) (z : Option D),
    (∀ i ∈ l, ∀ s z, f (.int i) (E s z) h = some (.ok (.nx (E (step s i) (some (.int i)))) h)) → ∃ z', forGo its f (l.map D.int) (E s z) h = some (.ok (.nx (E (l.foldl step s) z')) h)
  | [], s, z, _ => ⟨z, rfl⟩
  | x :: xs, s, z, hf => by
    rw [List.map_cons, forGo, hf x (by simp) s z]
    simp only [bd_ok, hs, if_true]
    exact forGo_ints E step hs xs _ _ fun y hy => hf y (by simp [hy])
-- a for by an invariant; R: what a return gives, B: what a break leaves
theorem forGo_inv' {its : Items} {f : D → Env → Heap → Res Fl} (I : Nat → Env → Heap → Prop) (R : R → Heap → Prop) (B : Env → Heap → Prop)
    (hf : ∀ i x g h, its.1[i]? = some x → I i g h → ∃ fl h', f x g h = some (.ok fl h') ∧ match fl with
      | .nx g' => still its h' = true ∧ I (i + 1) g' h'
      | .ct g' => still its h' = true ∧ I (i + 1) g' h'
      | .bk g' => B g' h'
      | .rt r => R r h') : ∀ (xs : List D) (i : Nat) (g : Env) (h : Heap), its.1.drop i = xs → i ≤ its.1.length → I i g h →
    ∃ fl h', forGo its f xs g h = some (.ok fl h') ∧ match fl with
      | .nx g' => I its.1.length g' h' ∨ B g' h'
      | .rt r => R r h'
      | _ => False
  | [], i, g, h, e, hi, hI => ⟨.nx g, h, rfl, by
    have hl : its.1.length ≤ i := List.drop_eq_nil_iff.mp e
    have : i = its.1.length := by omega
    subst this
    exact .inl hI⟩
  | x :: xs, i, g, h, e, hi, hI => by
    have hx : its.1[i]? = some x := by
      have : (its.1.drop i)[0]? = some x := by rw [e]; rfl
      simpa using this
    have hr : its.1.drop (i + 1) = xs := by
      rw [← List.drop_drop, e]
      rfl
    have hlt : i < its.1.length := by
      rcases Nat.lt_or_ge i its.1.length with z | z
      · exact z
      · rw [List.getElem?_eq_none z] at hx; cases hx
    obtain ⟨fl, h', e1, q⟩ := hf i x g h hx hI
    simp only [forGo, e1, bd_ok]
    cases fl with
    | nx g' =>
      simp only at q ⊢
      rw [if_pos q.1]
      exact forGo_inv' I R B hf xs (i + 1) g' h' hr hlt q.2
    | ct g' =>
      simp only at q ⊢
      rw [if_pos q.1]
      exact forGo_inv' I R B hf xs (i + 1) g' h' hr hlt q.2
    | bk g' => exact ⟨.nx g', h', rfl, .inr q⟩
    | rt r => exact ⟨.rt r, h', rfl, q⟩
theorem forGo_inv {its : Items} {f : D → Env → Heap → Res Fl} (I : Nat → Env → Heap → Prop) (R : R → Heap → Prop) (B : Env → Heap → Prop) {g : Env} {h : Heap} (h0 : I 0 g h)
    (hf : ∀ i x g h, its.1[i]? = some x → I i g h → ∃ fl h', f x g h = some (.ok fl h') ∧ match fl with
      | .nx g' => still its h' = true ∧ I (i + 1) g' h'
      | .ct g' => still its h' = true ∧ I (i + 1) g' h'
      | .bk g' => B g' h'
      | .rt r => R r h') :
    ∃ fl h', forGo its f its.1 g h = some (.ok fl h') ∧ match fl with
      | .nx g' => I its.1.length g' h' ∨ B g' h'
      | .rt r => R r h'
      | _ => False := forGo_inv' I R B hf its.1 0 g h rfl (Nat.zero_le _) h0
-- a for that always goes on
theorem forGo_go {its : Items} {f : D → Env → Heap → Res Fl} (I : Nat → Env → Heap → Prop) {g : Env} {h : Heap} (h0 : I 0 g h)
    (hf : ∀ i x g h, its.1[i]? = some x → I i g h → ∃ g' h', f x g h = some (.ok (.nx g') h') ∧ still its h' = true ∧ I (i + 1) g' h') :
    ∃ g' h', forGo its f its.1 g h = some (.ok (.nx g') h') ∧ I its.1.length g' h' := by
  obtain ⟨fl, h', e, q⟩ := forGo_inv I (fun _ _ => False) (fun _ _ => False) h0 fun i x g h hx hI => by
    obtain ⟨g', h', e, q⟩ := hf i x g h hx hI
    exact ⟨.nx g', h', e, q⟩
  cases fl with
  | nx g' => exact ⟨g', h', e, q.resolve_right id⟩
  | rt r => exact q.elim
  | bk g => exact q.elim
  | ct g => exact q.elim
theorem still_none (l : List D) (h : Heap) : still (l, none) h = true := rfl
theorem still_some {l : List D} {p : Nat} {h : Heap} (e : h[p]? = some (.lst l)) : still (l, some p) h = true := by simp [still, e]
-- a comprehension, the heap as it is
theorem lcGo_map {f : D → Heap → Res (Option D)} {h : Heap} (v : D → Option D) : ∀ (xs : List D), (∀ x ∈ xs, f x h = some (.ok (v x) h)) → lcGo f xs h = some (.ok (xs.filterMap v) h)
  | [], _ => rfl
  | x :: xs, hf => by
    rw [lcGo, hf x (by simp)]
    have ih := lcGo_map v xs fun y hy => hf y (by simp [hy])
    cases e : v x with
    | none => simp only [ih, List.filterMap_cons, e]
    | some y => simp only [ih, List.filterMap_cons, e]
-- a comprehension by an invariant
theorem lcGo_inv' {f : D → Heap → Res (Option D)} (I : Nat → List D → Heap → Prop) (all : List D)
    (hf : ∀ i x acc h, all[i]? = some x → I i acc h → ∃ o h', f x h = some (.ok o h') ∧ I (i + 1) (acc ++ o.toList) h') : ∀ (xs : List D) (i : Nat) (acc : List D) (h : Heap), all.drop i = xs → i ≤ all.length → I i acc h →
    ∃ l h', lcGo f xs h = some (.ok l h') ∧ I all.length (acc ++ l) h'
  | [], i, acc, h, e, hi, hI => ⟨[], h, rfl, by
    have hl : all.length ≤ i := List.drop_eq_nil_iff.mp e
    have : i = all.length := by omega
    subst this
    rw [List.append_nil]
    exact hI⟩
  | x :: xs, i, acc, h, e, hi, hI => by
    have hx : all[i]? = some x := by
      have : (all.drop i)[0]? = some x := by rw [e]; rfl
      simpa using this
    have hr : all.drop (i + 1) = xs := by
      rw [← List.drop_drop, e]
      rfl
    have hlt : i < all.length := by
      rcases Nat.lt_or_ge i all.length with z | z
      · exact z
      · rw [List.getElem?_eq_none z] at hx; cases hx
    obtain ⟨o, h', e1, q⟩ := hf i x acc h hx hI
    obtain ⟨l, h2, e2, q2⟩ := lcGo_inv' I all hf xs (i + 1) _ h' hr hlt q
    rw [lcGo, e1]
    cases o with
    | none => exact ⟨l, h2, e2, by simpa using q2⟩
    | some y =>
      refine ⟨y :: l, h2, by simp only [e2], ?_⟩
      simpa using q2
theorem lcGo_inv {f : D → Heap → Res (Option D)} (I : Nat → List D → Heap → Prop) (all : List D) {h : Heap} (h0 : I 0 [] h)
    (hf : ∀ i x acc h, all[i]? = some x → I i acc h → ∃ o h', f x h = some (.ok o h') ∧ I (i + 1) (acc ++ o.toList) h') :
    ∃ l h', lcGo f all h = some (.ok l h') ∧ I all.length l h' := by
  obtain ⟨l, h', e, q⟩ := lcGo_inv' I all hf all 0 [] h rfl (Nat.zero_le _) h0
  exact ⟨l, h', e, by simpa using q⟩
-- a while: its turns
theorem whileGo_mono {c : Env → Heap → Res Bool} {f : Env → Heap → Res Fl} : ∀ (k : Nat) (g : Env) (h : Heap) (r : Out Fl), whileGo c f k g h = some r → ∀ m, k ≤ m → whileGo c f m g h = some r
  | 0, _, _, _, e, _, _ => by cases e
  | k + 1, g, h, r, e, m, hm => by
    obtain ⟨m, rfl⟩ : ∃ n, m = n + 1 := ⟨m - 1, by omega⟩
    simp only [whileGo] at e ⊢
    cases e1 : c g h with
    | none => rw [e1] at e; cases e
    | some o =>
      rw [e1] at e
      cases o with
      | exc x h' => exact e
      | ok b h' =>
        simp only [bd_ok] at e ⊢
        cases b with
        | false => exact e
        | true =>
          simp only [if_true] at e ⊢
          cases e2 : f g h' with
          | none => rw [e2] at e; cases e
          | some o =>
            rw [e2] at e
            cases o with
            | exc x h2 => exact e
            | ok fl h2 =>
              simp only [bd_ok] at e ⊢
              cases fl with
              | nx g' => exact whileGo_mono k g' h2 r e m (by omega)
              | ct g' => exact whileGo_mono k g' h2 r e m (by omega)
              | bk g' => exact e
              | rt v => exact e
theorem whileD_of {c : Env → Heap → Res Bool} {f : Env → Heap → Res Fl} {k : Nat} {g : Env} {h : Heap} {r : Out Fl} (e : whileGo c f k g h = some r) : whileD c f g h = some r := by
  have q : ∃ k r, whileGo c f k g h = some r := ⟨k, r, e⟩
  unfold whileD
  rw [dif_pos q]
  have gen : ∀ (n : Nat) (r' : Out Fl), whileGo c f n g h = some r' → some r' = some r := fun n r' e2 => by
    rcases Nat.le_total k n with z | z
    · exact e2.symm.trans (whileGo_mono _ _ _ _ e _ z)
    · exact (whileGo_mono _ _ _ _ e2 _ z).symm.trans e
  exact gen _ _ q.choose_spec.choose_spec
-- a while by an invariant with a measure
theorem whileD_inv {c : Env → Heap → Res Bool} {f : Env → Heap → Res Fl} (I : Nat → Env → Heap → Prop) (R : R → Heap → Prop) (B : Env → Heap → Prop)
    (hf : ∀ m g h, I m g h → ∃ b h', c g h = some (.ok b h') ∧ if b = true then ∃ fl h2, f g h' = some (.ok fl h2) ∧ match fl with
      | .nx g' => ∃ m', m' < m ∧ I m' g' h2
      | .ct g' => ∃ m', m' < m ∧ I m' g' h2
      | .bk g' => B g' h2
      | .rt r => R r h2 else B g h') : ∀ (m : Nat) (g : Env) (h : Heap), I m g h → ∃ fl h', whileD c f g h = some (.ok fl h') ∧ match fl with
      | .nx g' => B g' h'
      | .rt r => R r h'
      | _ => False := by
  suffices H : ∀ (n m : Nat) (g : Env) (h : Heap), m < n → I m g h → ∃ fl h', whileGo c f n g h = some (.ok fl h') ∧ match fl with
      | .nx g' => B g' h'
      | .rt r => R r h'
      | _ => False by
    intro m g h hI
    obtain ⟨fl, h', e, q⟩ := H (m + 1) m g h (by omega) hI
    exact ⟨fl, h', whileD_of e, q⟩
  intro n
  induction n with
  | zero => intro m g h hm; omega
  | succ n ih =>
    intro m g h hm hI
    obtain ⟨b, h', e, q⟩ := hf m g h hI
    simp only [whileGo, e, bd_ok]
    cases b with
    | false => exact ⟨.nx g, h', rfl, by simpa using q⟩
    | true =>
      simp only [if_true] at q ⊢
      obtain ⟨fl, h2, e2, q⟩ := q
      simp only [e2, bd_ok]
      cases fl with
      | nx g' =>
        obtain ⟨m', hm', hI'⟩ := q
        exact ih m' g' h2 (by omega) hI'
      | ct g' =>
        obtain ⟨m', hm', hI'⟩ := q
        exact ih m' g' h2 (by omega) hI'
      | bk g' => exact ⟨.nx g', h2, rfl, q⟩
      | rt r => exact ⟨.rt r, h2, rfl, q⟩
end
end MP

/-! MP.Snd20: the laws' dice. -/
namespace MP
open PySem

-- a draw below total
def rollDef (A M1 Bc M2 C Ev : Int) : Def := ⟨2, 5, [
  .if_ (.cmp .gt (.ix (.var 0) (.c (.int 0))) (.c (.int 0))) [.asg (.slot 2) (.bin .mod (.ix (.var 0) (.c (.int 0))) (.var 1)), .setix (.var 0) (.c (.int 0)) (.bin .fdiv (.ix (.var 0) (.c (.int 0))) (.var 1)), .ret (.b1 .int (.var 2))] [],
  .setix (.var 0) (.c (.int 2)) (.bin .add (.ix (.var 0) (.c (.int 2))) (.c (.int 1))),
  .asg (.slot 3) (.bin .mod (.bin .add (.ix (.var 0) (.c (.int 1))) (.bin .mul (.c (.int A)) (.ix (.var 0) (.c (.int 2))))) (.c (.int M1))),
  .asg (.slot 4) (.bin .add (.bin .mul (.bin .mod (.bin .add (.bin .mul (.var 3) (.var 3)) (.bin .mul (.c (.int Bc)) (.ix (.var 0) (.c (.int 2))))) (.c (.int M2))) (.c (.int C))) (.var 3)),
  .ret (.bin .mod (.b1 .int (.bin .fdiv (.var 4) (.c (.int Ev)))) (.var 1))]⟩

-- what the dice hold at p, over a store that is h0 elsewhere
structure Dice (h0 : Heap) (p n : Nat) (h : Heap) : Prop where
  len : h.length = h0.length
  old : ∀ q, q ≠ p → h[q]? = h0[q]?
  at_ : ∃ a b c : Int, h[p]? = some (.lst [.int a, .int b, .int c]) ∧ 0 ≤ a ∧ a < 2 ^ 2000 ∧ 0 ≤ b ∧ b < 2 ^ 200 ∧ 0 ≤ c ∧ c ≤ n
theorem Dice.lt {h0 h : Heap} {p n : Nat} (d : Dice h0 p n h) : p < h.length := by
  obtain ⟨a, b, c, e, _⟩ := d.at_
  rcases Nat.lt_or_ge p h.length with z | z
  · exact z
  · rw [List.getElem?_eq_none z] at e; cases e
theorem Dice.set {h0 h : Heap} {p n m : Nat} (d : Dice h0 p n h) {a b c : Int} (h1 : 0 ≤ a) (h2 : a < 2 ^ 2000) (h3 : 0 ≤ b) (h4 : b < 2 ^ 200) (h5 : 0 ≤ c) (h6 : c ≤ m) : Dice h0 p m (h.set p (.lst [.int a, .int b, .int c])) := by
  refine ⟨by rw [List.length_set]; exact d.len, fun q hq => by rw [List.getElem?_set_ne (Ne.symm hq)]; exact d.old q hq, a, b, c, ?_, h1, h2, h3, h4, h5, h6⟩
  rw [List.getElem?_set]
  simp [d.lt]
theorem Dice.set_get {h0 h : Heap} {p n : Nat} (d : Dice h0 p n h) (o : O) : (h.set p o)[p]? = some o := by
  rw [List.getElem?_set]
  simp [d.lt]
theorem Dice.mono {h0 h : Heap} {p n m : Nat} (d : Dice h0 p n h) (hn : n ≤ m) : Dice h0 p m h := by
  obtain ⟨a, b, c, e, h1, h2, h3, h4, h5, h6⟩ := d.at_
  exact ⟨d.len, d.old, a, b, c, e, h1, h2, h3, h4, h5, by omega⟩
theorem Dice.oldOk {h0 h h' : Heap} {p n m : Nat} (d : Dice h0 p n h) (d' : Dice h0 p m h') : OldOk h h' := by
  refine ⟨by rw [d.len, d'.len]; exact Nat.le_refl _, fun i hi => ?_⟩
  by_cases hp : i = p
  · subst hp
    obtain ⟨a, b, c, e, _⟩ := d'.at_
    exact .inr ⟨_, e, rfl⟩
  · exact .inl (by rw [d.old i hp, d'.old i hp])
theorem Dice.take {h0 h h' : Heap} {p n m : Nat} (d : Dice h0 p n h) (d' : Dice h0 p m h') : h'.take h.length = h' := by
  rw [d.len, ← d'.len, List.take_length]
theorem log2_lt {i : Int} {m : Nat} (hm : 0 < m) (h0 : 0 ≤ i) (h : i < 2 ^ m) : i.natAbs.log2 < m := by
  by_cases hz : i.natAbs = 0
  · rw [hz]
    simpa using hm
  · rw [Nat.log2_lt hz]
    have : ((i.natAbs : Nat) : Int) < ((2 ^ m : Nat) : Int) := by
      rw [Int.natAbs_of_nonneg h0]
      simpa using h
    exact_mod_cast this
theorem fdiv_ok {t : Int} (h0 : 0 < t) (h : t < 2 ^ 9000) : fdivOk t = true := decide_eq_true ⟨h0, log2_lt (by decide) (Int.le_of_lt h0) h⟩
theorem mul_ok {i j : Int} {m n : Nat} (hm : 0 < m) (hn : 0 < n) (hs : m + n ≤ 1000000) (h1 : -(2 ^ m) < i) (h2 : i < 2 ^ m) (h3 : -(2 ^ n) < j) (h4 : j < 2 ^ n) : mulOk i j = true := by
  have gen : ∀ {i : Int} {m : Nat}, 0 < m → -(2 ^ m) < i → i < 2 ^ m → i.natAbs.log2 < m := fun {i m} hm a b => by
    rcases Int.le_total 0 i with z | z
    · exact log2_lt hm z b
    · have := log2_lt (i := -i) hm (by omega) (by omega)
      simpa using this
  have a := gen hm h1 h2
  have b := gen hn h3 h4
  exact decide_eq_true (by omega)
theorem roll_spec {T : Tab} {k f : Nat} {A M1 Bc M2 C Ev : Int} (hT : T.defs[f]? = some (rollDef A M1 Bc M2 C Ev)) (hc : (0 < A ∧ A < 2 ^ 64) ∧ (0 < M1 ∧ M1 < 2 ^ 64) ∧ (0 < Bc ∧ Bc < 2 ^ 64) ∧ (0 < M2 ∧ M2 < 2 ^ 64) ∧ (0 < C ∧ C < 2 ^ 64) ∧ 0 < Ev ∧ Ev < 2 ^ 64)
    {h0 h : Heap} {p n : Nat} (d : Dice h0 p n h) (hn : (n : Int) < 2 ^ 100) {t : Int} (ht : 0 < t) (ht2 : t < 2 ^ 9000) :
    ∃ r h', callI T (k + 1) f [.loc p, .int t] h = some (.ok (.v (.int r)) h') ∧ 0 ≤ r ∧ r < t ∧ Dice h0 p (n + 1) h' := by
  obtain ⟨⟨A1, A2⟩, ⟨B1, B2⟩, ⟨C1, C2⟩, ⟨D1, D2⟩, ⟨E1, E2⟩, F1, F2⟩ := hc
  obtain ⟨a, b, c, e, h1, h2, h3, h4, h5, h6⟩ := d.at_
  rw [call_of hT rfl]
  have f1 := fdiv_ok ht ht2
  by_cases ha : 0 < a
  · have hle : a / t ≤ a := Int.ediv_le_self t h1
    have d' : Dice h0 p n (h.set p (.lst [.int (a / t), .int b, .int c])) := d.set (Int.ediv_nonneg h1 (Int.le_of_lt ht)) (by omega) h3 h4 h5 h6
    refine ⟨a % t, _, ?_, Int.emod_nonneg a (by omega), Int.emod_lt_of_pos a ht, d'.mono (Nat.le_succ n)⟩
    simp [rollDef, e, ha, ht, f1, endI_rt]
    rw [gc_v2 (d.oldOk d') rfl rfl, d.take d']
  · have f2 := fdiv_ok F1 (show Ev < 2 ^ 9000 by omega)
    have d' : Dice h0 p (n + 1) (h.set p (.lst [.int a, .int b, .int (c + 1)])) := d.set h1 h2 h3 h4 (by omega) (by omega)
    have es := d.set_get
    have m1 : mulOk A (c + 1) = true := mul_ok (m := 64) (n := 101) (by decide) (by decide) (by decide) (by omega) A2 (by omega) (by omega)
    have o1 := Int.emod_nonneg (b + A * (c + 1)) (show M1 ≠ 0 by omega)
    have o2 := Int.emod_lt_of_pos (b + A * (c + 1)) B1
    have m3 : mulOk Bc (c + 1) = true := mul_ok (m := 64) (n := 101) (by decide) (by decide) (by decide) (by omega) C2 (by omega) (by omega)
    generalize hone : (b + A * (c + 1)) % M1 = one at o1 o2
    have m2 : mulOk one one = true := mul_ok (m := 64) (n := 64) (by decide) (by decide) (by decide) (by omega) (by omega) (by omega) (by omega)
    have t1 := Int.emod_nonneg (one * one + Bc * (c + 1)) (show M2 ≠ 0 by omega)
    have t2 := Int.emod_lt_of_pos (one * one + Bc * (c + 1)) D1
    generalize htwo : (one * one + Bc * (c + 1)) % M2 = two at t1 t2
    have m4 : mulOk two C = true := mul_ok (m := 64) (n := 64) (by decide) (by decide) (by decide) (by omega) (by omega) (by omega) (by omega)
    refine ⟨(two * C + one) / Ev % t, _, ?_, Int.emod_nonneg _ (by omega), Int.emod_lt_of_pos _ ht, d'⟩
    simp [rollDef, e, es, ha, ht, endI_rt, m1, B1, hone, m2, m3, D1, htwo, m4, f2]
    rw [gc_v2 (d.oldOk d') rfl rfl, d.take d']
end MP

set_option exponentiation.threshold 3000
/-! MP.Snd21: the laws' dice: how they are made, a choice. -/
namespace MP
open PySem

def diceDef (K1 K2 M K4 K5 K6 K7 : Int) : Def := ⟨2, 5, [
  .asg (.slot 2) (.ite (.cmp .lt (.var 1) (.b1 .len (.var 0))) (.b1 .int (.ix (.var 0) (.var 1))) (.bin .add (.bin .mul (.c (.int K1)) (.var 1)) (.c (.int K2)))),
  .asg (.slot 3) (.bin .mod (.b1 .int (.b1 .abs (.var 2))) (.bin .pow (.bin .pow (.c (.int 10)) (.c (.int 54))) (.c (.int 6)))),
  .asg (.slot 4) (.bin .add (.bin .add (.bin .add (.bin .mul (.bin .mod (.var 3) (.c (.int M))) (.c (.int K4))) (.bin .mul (.c (.int K5)) (.var 1))) (.bin .mul (.c (.int K6)) (.b1 .int (.cmp .lt (.var 2) (.c (.int 0)))))) (.c (.int K7))),
  .ret (.lst [(.b2 .max (.c (.int 0)) (.bin .sub (.var 3) (.bin .pow (.c (.int 10)) (.c (.int 16))))), (.var 4), (.c (.int 0))])]⟩
theorem dice_spec {T : Tab} {k f : Nat} {K1 K2 M K4 K5 K6 K7 : Int} (hT : T.defs[f]? = some (diceDef K1 K2 M K4 K5 K6 K7)) (hc : (0 < K1 ∧ K1 < 2 ^ 64) ∧ (0 < M ∧ M < 2 ^ 64) ∧ (0 < K4 ∧ K4 < 2 ^ 64) ∧ (0 < K5 ∧ K5 < 2 ^ 64) ∧ (0 < K6 ∧ K6 < 2 ^ 64) ∧ (0 < K7 ∧ K7 < 2 ^ 64))
    (ns : List Int) (h : Heap) (i : Nat) (hi : i < 2 ^ 32) :
    ∃ a b, callI T (k + 1) f [.scr (ns.map .int), .int i] h = some (.ok (.newL [.int a, .int b, .int 0]) h) ∧ 0 ≤ a ∧ a < 2 ^ 2000 ∧ 0 ≤ b ∧ b < 2 ^ 200 := by
  obtain ⟨⟨A1, A2⟩, ⟨B1, B2⟩, ⟨C1, C2⟩, ⟨D1, D2⟩, ⟨E1, E2⟩, F1, F2⟩ := hc
  rw [call_of hT rfl]
  have m1 : mulOk K1 i = true := mul_ok (m := 64) (n := 64) (by decide) (by decide) (by decide) (by omega) (by omega) (by omega) (by omega)
  have m3 : mulOk K5 i = true := mul_ok (m := 64) (n := 64) (by decide) (by decide) (by decide) (by omega) (by omega) (by omega) (by omega)
  have p1 : powOk 10 54 = true := by decide +kernel
  have p2 : powOk (10 ^ 54) 6 = true := by decide +kernel
  have p3 : powOk 10 16 = true := by decide +kernel
  -- the cell
  obtain ⟨cell, hcell⟩ : ∃ cell : Int, eval (callI T k) T.get (.ite (.cmp .lt (.var 1) (.b1 .len (.var 0))) (.b1 .int (.ix (.var 0) (.var 1))) (.bin .add (.bin .mul (.c (.int K1)) (.var 1)) (.c (.int K2)))) (start (diceDef K1 K2 M K4 K5 K6 K7) [.scr (ns.map .int), .int i]) h = some (.ok (.v (.int cell)) h) := by
    by_cases hl : i < ns.length
    · refine ⟨ns[i], ?_⟩
      simp [diceDef, hl]
    · refine ⟨K1 * i + K2, ?_⟩
      simp [diceDef, hl, m1]
  have p2' : powOk (10 ^ 54) 6 = powOk 1000000000000000000000000000000000000000000000000000000 6 := by simp
  rw [p2'] at p2
  -- the great part
  obtain ⟨great, hgreat, g1, g2⟩ : ∃ great : Int, eval (callI T k) T.get (.bin .mod (.b1 .int (.b1 .abs (.var 2))) (.bin .pow (.bin .pow (.c (.int 10)) (.c (.int 54))) (.c (.int 6)))) [some (D.scr (List.map D.int ns)), some (D.int ↑i), some (.int cell), none, none] h = some (.ok (.v (.int great)) h) ∧ 0 ≤ great ∧ great < 2 ^ 2000 := by
    refine ⟨(if cell < 0 then -cell else cell) % (10 ^ 324), by simp [p1, p2], Int.emod_nonneg _ (by decide +kernel), ?_⟩
    have := Int.emod_lt_of_pos (if cell < 0 then -cell else cell) (show (0 : Int) < 10 ^ 324 by decide +kernel)
    have e : (10 : Int) ^ 324 < 2 ^ 2000 := by decide +kernel
    omega
  have s1 := Int.emod_nonneg great (show M ≠ 0 by omega)
  have s2 := Int.emod_lt_of_pos great B1
  generalize hs : great % M = sd at s1 s2
  have m4 : mulOk sd K4 = true := mul_ok (m := 64) (n := 64) (by decide) (by decide) (by decide) (by omega) (by omega) (by omega) (by omega)
  have m6 : ∀ b : Bool, mulOk K6 (b2i b) = true := fun b => mul_ok (m := 64) (n := 64) (by decide) (by decide) (by decide) (by omega) (by omega) (by cases b <;> decide) (by cases b <;> decide)
  simp only [diceDef, start, List.map_cons, List.map_nil, List.length_cons, List.length_nil, List.replicate, List.cons_append, List.nil_append] at hcell
  simp only [diceDef, execs, exec, start, List.map_cons, List.map_nil, List.length_cons, List.length_nil, List.replicate, List.cons_append, List.nil_append, hcell, bd_ok, R.frz_v, assign, List.set_cons_zero, List.set_cons_succ, hgreat]
  have bb := m6 (decide (cell < 0))
  have b1 : mulOk sd K4 = true := m4
  have q1 : 0 ≤ b2i (decide (cell < 0)) ∧ b2i (decide (cell < 0)) ≤ 1 := by cases decide (cell < 0) <;> decide
  have q2 : 0 ≤ sd * K4 ∧ sd * K4 < 2 ^ 128 := ⟨Int.mul_nonneg s1 (by omega), by
    have := Int.mul_le_mul (show sd ≤ 2 ^ 64 by omega) (show K4 ≤ 2 ^ 64 - 1 by omega) (by omega) (by decide)
    omega⟩
  have q3 : 0 ≤ K5 * i ∧ K5 * i < 2 ^ 128 := ⟨Int.mul_nonneg (by omega) (by omega), by
    have := Int.mul_le_mul (show K5 ≤ 2 ^ 64 by omega) (show (i : Int) ≤ 2 ^ 64 - 1 by omega) (by omega) (by decide)
    omega⟩
  have q4 : 0 ≤ K6 * b2i (decide (cell < 0)) ∧ K6 * b2i (decide (cell < 0)) < 2 ^ 64 := by
    cases decide (cell < 0)
    · simp [b2i]
    · simp only [b2i, if_true, Int.mul_one]
      omega
  generalize hb : b2i (decide (cell < 0)) = bz at q1 q4 bb
  generalize e1 : sd * K4 = x1 at q2
  generalize e2 : K5 * (i : Int) = x2 at q3
  generalize e3 : K6 * bz = x3 at q4
  have p4 : (10000000000000000 : Int) = 10 ^ 16 := by decide
  refine ⟨if great - 10000000000000000 > 0 then great - 10000000000000000 else 0, x1 + x2 + x3 + K7, ?_, by split <;> omega, by split <;> omega, by omega, by omega⟩
  simp [p3, B1, hs, m4, m3, hb, bb, e1, e2, e3, endI_rt]
  rw [gc_new rfl]
-- one of a list
def pickDef (rl : Nat) : Def := ⟨2, 2, [
  .ret (.ix (.var 1) (.call rl [(.var 0), (.b1 .len (.var 1))]))]⟩
def RollOk (T : Tab) (rl : Nat) : Prop := ∀ (k : Nat) (h0 h : Heap) (p n : Nat) (t : Int), Dice h0 p n h → (n : Int) < 2 ^ 100 → 0 < t → t < 2 ^ 9000 →
  ∃ r h', callI T (k + 1) rl [.loc p, .int t] h = some (.ok (.v (.int r)) h') ∧ 0 ≤ r ∧ r < t ∧ Dice h0 p (n + 1) h'
theorem pick_spec {T : Tab} {k f rl : Nat} (hT : T.defs[f]? = some (pickDef rl)) (R : RollOk T rl) {h0 h : Heap} {p n : Nat} (d : Dice h0 p n h) (hn : (n : Int) < 2 ^ 100) {l : List D} (hl : 0 < l.length) (hl2 : (l.length : Int) < 2 ^ 9000) (hx : ∀ x ∈ l, noLoc x = true ∧ cl h.length x = true) :
    ∃ x h', callI T (k + 2) f [.loc p, .lst l] h = some (.ok (.v x) h') ∧ x ∈ l ∧ Dice h0 p (n + 1) h' := by
  obtain ⟨r, h', e, r0, r1, d'⟩ := R k h0 h p n l.length d hn (by omega) hl2
  have hr : r.toNat < l.length := by omega
  have hm : l[r.toNat] ∈ l := List.getElem_mem hr
  refine ⟨l[r.toNat], h', ?_, hm, d'⟩
  rw [call_of hT rfl]
  simp [pickDef, e, r0, List.getElem?_eq_getElem hr]
  rw [gc_v2 (d.oldOk d') (hx _ hm).1 (hx _ hm).2, d.take d']
-- draws by a comprehension over a range
theorem lc_draws {f : D → Heap → Res (Option D)} {h0 : Heap} {p : Nat} (c : Nat) (Pr : Int → Prop) {lo hi : Int} {h : Heap} {n : Nat} (d : Dice h0 p n h)
    (hf : ∀ (j : Int) (h : Heap) (m : Nat), m ≤ n + c * (hi - lo).toNat → Dice h0 p m h → ∃ x h', f (.int j) h = some (.ok (some (.int x)) h') ∧ Pr x ∧ Dice h0 p (m + c) h') :
    ∃ (l : List Int) (h' : Heap), lcGo f (rangeD lo hi) h = some (.ok (l.map .int) h') ∧ l.length = (hi - lo).toNat ∧ (∀ x ∈ l, Pr x) ∧ Dice h0 p (n + c * (hi - lo).toNat) h' := by
  obtain ⟨l, h', e, ⟨l2, rfl, hl, hp⟩, d'⟩ := lcGo_inv (f := f) (fun i acc h => (∃ l : List Int, acc = l.map .int ∧ l.length = i ∧ ∀ x ∈ l, Pr x) ∧ Dice h0 p (n + c * i) h) (rangeD lo hi) (h := h) ⟨⟨[], rfl, rfl, by simp⟩, by simpa using d⟩ (by
    rintro i x acc h hx ⟨⟨l, rfl, hl, hp⟩, d⟩
    have hi' : i < (hi - lo).toNat := by
      rcases Nat.lt_or_ge i (hi - lo).toNat with q | q
      · exact q
      · rw [List.getElem?_eq_none (by rw [rangeD_len]; exact q)] at hx; cases hx
    obtain ⟨j, rfl⟩ : ∃ j, x = .int j := by
      unfold rangeD at hx
      rw [List.getElem?_map] at hx
      cases c : (List.range (hi - lo).toNat)[i]? with
      | none => rw [c] at hx; cases hx
      | some a => rw [c] at hx; cases hx; exact ⟨_, rfl⟩
    obtain ⟨x, h', e, px, d'⟩ := hf j h (n + c * i) (by have := Nat.mul_le_mul_left c (Nat.le_of_lt hi'); omega) d
    refine ⟨some (.int x), h', e, ⟨l ++ [x], by simp, by simp [hl], fun y hy => ?_⟩, ?_⟩
    · rcases List.mem_append.mp hy with q | q
      · exact hp y q
      · simp only [List.mem_singleton] at q
        rw [q]
        exact px
    · rw [Nat.mul_add, Nat.mul_one, ← Nat.add_assoc]
      exact d')
  rw [rangeD_len] at hl d'
  exact ⟨l2, h', e, hl, hp, d'⟩
end MP

/-! The law's defs as texts of MP (printed by a tool), the table. -/
namespace K02
open PySem MP

def names : List Str := [(PySem.Str.ofString "is_integer"), (PySem.Str.ofString "is_within"), (PySem.Str.ofString "end_of"), (PySem.Str.ofString "is_span"), (PySem.Str.ofString "are_spans"), (PySem.Str.ofString "lean_in"), (PySem.Str.ofString "shared_in"), (PySem.Str.ofString "less_in"), (PySem.Str.ofString "size_in"), (PySem.Str.ofString "rank_in"), (PySem.Str.ofString "does_hold"), (PySem.Str.ofString "cell_in"), (PySem.Str.ofString "first_in"), (PySem.Str.ofString "pairs_in"), (PySem.Str.ofString "is_lot"), (PySem.Str.ofString "require_lot"), (PySem.Str.ofString "require_lots"), (PySem.Str.ofString "require_cell"), (PySem.Str.ofString "told"), (PySem.Str.ofString "lot_of"), (PySem.Str.ofString "joined"), (PySem.Str.ofString "shared"), (PySem.Str.ofString "less"), (PySem.Str.ofString "are_apart"), (PySem.Str.ofString "size"), (PySem.Str.ofString "holds"), (PySem.Str.ofString "rank"), (PySem.Str.ofString "cell_at"), (PySem.Str.ofString "first_cells"), (PySem.Str.ofString "pairs_of"), (PySem.Str.ofString "_law_dice"), (PySem.Str.ofString "_law_roll"), (PySem.Str.ofString "_law_pick"), (PySem.Str.ofString "_law_lean"), (PySem.Str.ofString "_law_cells"), (PySem.Str.ofString "_law_spans"), (PySem.Str.ofString "_law_moved"), (PySem.Str.ofString "_law_pairs"), (PySem.Str.ofString "_law_right"), (PySem.Str.ofString "law")]
def tops : List Nat := [6, 7, 11, 12, 13, 14, 15, 16, 17, 18, 19, 20, 21, 22, 23, 24, 25, 26, 27, 28, 29, 30, 31, 32, 33, 34, 35, 36, 37, 38, 40, 41, 42, 43, 44, 45, 46, 47, 48, 49]
-- 0: is_integer(value); names: 0=value
def N0 : List Str := [(PySem.Str.ofString "value")]
def d0 : Def := ⟨1, 1, [
  .ret (.and (.isinst (.var 0) .int) (.not (.isinst (.var 0) .bool)))]⟩

-- 1: is_within(value, low, most); names: 0=value 1=low 2=most
def N1 : List Str := [(PySem.Str.ofString "value"), (PySem.Str.ofString "low"), (PySem.Str.ofString "most")]
def d1 : Def := ⟨3, 3, [
  .ret (.and (.call 0 [(.var 0)]) (.cmp2 .le .le (.var 1) (.var 0) (.var 2)))]⟩

-- 2: end_of(span); names: 0=span
def N2 : List Str := [(PySem.Str.ofString "span")]
def d2 : Def := ⟨1, 1, [
  .ret (.bin .add (.ix (.var 0) (.c (.int 0))) (.ix (.var 0) (.c (.int 1))))]⟩

-- 3: is_span(value); names: 0=value
def N3 : List Str := [(PySem.Str.ofString "value")]
def d3 : Def := ⟨1, 1, [
  .if_ (.or (.not (.isinst (.var 0) .tuple)) (.or (.cmp .ne (.b1 .len (.var 0)) (.c (.int 2))) (.not (.call 1 [(.ix (.var 0) (.c (.int 0))), (.c (.int 0)), (.glob 0)])))) [.ret (.c (.bl false))] [],
  .ret (.and (.call 1 [(.ix (.var 0) (.c (.int 1))), (.c (.int 1)), (.glob 0)]) (.cmp .le (.call 2 [(.var 0)]) (.glob 0)))]⟩

-- 4: are_spans(value); names: 0=value 1=span
def N4 : List Str := [(PySem.Str.ofString "value"), (PySem.Str.ofString "span")]
def e4_1 : E := (.call 3 [(.var 1)])
def d4 : Def := ⟨1, 2, [
  .ret (.and (.isinst (.var 0) .tuple) (.and (.cmp .le (.b1 .len (.var 0)) (.glob 1)) (.bi .all (.of (.lc e4_1 (.slot 1) (.of (.var 0)) [] [1])))))]⟩

-- 5: lean_in(spans); names: 0=spans 1=found 2=start 3=many 4=end
def N5 : List Str := [(PySem.Str.ofString "spans"), (PySem.Str.ofString "found"), (PySem.Str.ofString "start"), (PySem.Str.ofString "many"), (PySem.Str.ofString "end")]
def b5_1 : List St := [.if_ (.and (.cmp .ne (.var 1) (.lst [])) (.cmp .le (.var 2) (.call 2 [(.ix (.var 1) (.neg (.c (.int 1))))]))) [.asg (.slot 4) (.b2 .max (.bin .add (.var 2) (.var 3)) (.call 2 [(.ix (.var 1) (.neg (.c (.int 1))))])), .setix (.var 1) (.neg (.c (.int 1))) (.tup [(.ix (.ix (.var 1) (.neg (.c (.int 1)))) (.c (.int 0))), (.bin .sub (.var 4) (.ix (.ix (.var 1) (.neg (.c (.int 1)))) (.c (.int 0))))])] [.expr (.meth .append (.var 1) [(.tup [(.var 2), (.var 3)])])]]
def d5 : Def := ⟨1, 5, [
  .asg (.slot 1) (.alloc (.lst [])),
  .for_ (.tup [(.slot 2), (.slot 3)]) (.of (.bi .sorted (.of (.var 0)))) b5_1,
  .ret (.bi .tuple (.of (.var 1)))]⟩

-- 6: shared_in(one, other); names: 0=one 1=other 2=found 3=at 4=spot 5=low 6=high
def N6 : List Str := [(PySem.Str.ofString "one"), (PySem.Str.ofString "other"), (PySem.Str.ofString "found"), (PySem.Str.ofString "at"), (PySem.Str.ofString "spot"), (PySem.Str.ofString "low"), (PySem.Str.ofString "high")]
def w6_1 : E := (.and (.cmp .lt (.var 3) (.b1 .len (.var 0))) (.cmp .lt (.var 4) (.b1 .len (.var 1))))
def b6_2 : List St := [.asg (.slot 5) (.b2 .max (.ix (.ix (.var 0) (.var 3)) (.c (.int 0))) (.ix (.ix (.var 1) (.var 4)) (.c (.int 0)))), .asg (.slot 6) (.b2 .min (.call 2 [(.ix (.var 0) (.var 3))]) (.call 2 [(.ix (.var 1) (.var 4))])), .if_ (.cmp .lt (.var 5) (.var 6)) [.expr (.meth .append (.var 2) [(.tup [(.var 5), (.bin .sub (.var 6) (.var 5))])])] [], .if_ (.cmp .lt (.call 2 [(.ix (.var 0) (.var 3))]) (.call 2 [(.ix (.var 1) (.var 4))])) [.asg (.slot 3) (.bin .add (.var 3) (.c (.int 1)))] [.asg (.slot 4) (.bin .add (.var 4) (.c (.int 1)))]]
def d6 : Def := ⟨2, 7, [
  .par [2, 3, 4] [(.alloc (.lst [])), (.c (.int 0)), (.c (.int 0))],
  .while_ w6_1 b6_2,
  .ret (.bi .tuple (.of (.var 2)))]⟩

-- 7: less_in(one, other); names: 0=one 1=other 2=found 3=spot 4=span 5=here 6=end 7=after
def N7 : List Str := [(PySem.Str.ofString "one"), (PySem.Str.ofString "other"), (PySem.Str.ofString "found"), (PySem.Str.ofString "spot"), (PySem.Str.ofString "span"), (PySem.Str.ofString "here"), (PySem.Str.ofString "end"), (PySem.Str.ofString "after")]
def w7_1 : E := (.and (.cmp .lt (.var 3) (.b1 .len (.var 1))) (.cmp .le (.call 2 [(.ix (.var 1) (.var 3))]) (.var 5)))
def b7_2 : List St := [.asg (.slot 3) (.bin .add (.var 3) (.c (.int 1)))]
def w7_3 : E := (.and (.cmp .lt (.var 7) (.b1 .len (.var 1))) (.cmp .lt (.ix (.ix (.var 1) (.var 7)) (.c (.int 0))) (.var 6)))
def b7_4 : List St := [.if_ (.cmp .gt (.ix (.ix (.var 1) (.var 7)) (.c (.int 0))) (.var 5)) [.expr (.meth .append (.var 2) [(.tup [(.var 5), (.bin .sub (.ix (.ix (.var 1) (.var 7)) (.c (.int 0))) (.var 5))])])] [], .par [5, 7] [(.b2 .max (.var 5) (.call 2 [(.ix (.var 1) (.var 7))])), (.bin .add (.var 7) (.c (.int 1)))]]
def b7_5 : List St := [.par [5, 6] [(.ix (.var 4) (.c (.int 0))), (.call 2 [(.var 4)])], .while_ w7_1 b7_2, .asg (.slot 7) (.var 3), .while_ w7_3 b7_4, .if_ (.cmp .lt (.var 5) (.var 6)) [.expr (.meth .append (.var 2) [(.tup [(.var 5), (.bin .sub (.var 6) (.var 5))])])] []]
def d7 : Def := ⟨2, 8, [
  .par [2, 3] [(.alloc (.lst [])), (.c (.int 0))],
  .for_ (.slot 4) (.of (.var 0)) b7_5,
  .ret (.bi .tuple (.of (.var 2)))]⟩

-- 8: size_in(lot); names: 0=lot 1=start 2=many
def N8 : List Str := [(PySem.Str.ofString "lot"), (PySem.Str.ofString "start"), (PySem.Str.ofString "many")]
def e8_1 : E := (.var 2)
def d8 : Def := ⟨1, 3, [
  .ret (.bi .sum (.of (.lc e8_1 (.tup [(.slot 1), (.slot 2)]) (.of (.var 0)) [] [1, 2])))]⟩

-- 9: rank_in(lot, cell); names: 0=lot 1=cell 2=start 3=many
def N9 : List Str := [(PySem.Str.ofString "lot"), (PySem.Str.ofString "cell"), (PySem.Str.ofString "start"), (PySem.Str.ofString "many")]
def e9_1 : E := (.b2 .min (.var 3) (.bin .sub (.var 1) (.var 2)))
def d9 : Def := ⟨2, 4, [
  .ret (.bi .sum (.of (.lc e9_1 (.tup [(.slot 2), (.slot 3)]) (.of (.var 0)) [(.cmp .lt (.var 2) (.var 1))] [2, 3])))]⟩

-- 10: does_hold(lot, cell); names: 0=lot 1=cell 2=start 3=many
def N10 : List Str := [(PySem.Str.ofString "lot"), (PySem.Str.ofString "cell"), (PySem.Str.ofString "start"), (PySem.Str.ofString "many")]
def e10_1 : E := (.cmp2 .le .lt (.var 2) (.var 1) (.bin .add (.var 2) (.var 3)))
def d10 : Def := ⟨2, 4, [
  .ret (.bi .any (.of (.lc e10_1 (.tup [(.slot 2), (.slot 3)]) (.of (.var 0)) [] [2, 3])))]⟩

-- 11: cell_in(lot, index); names: 0=lot 1=index 2=start 3=many
def N11 : List Str := [(PySem.Str.ofString "lot"), (PySem.Str.ofString "index"), (PySem.Str.ofString "start"), (PySem.Str.ofString "many")]
def b11_1 : List St := [.if_ (.cmp .lt (.var 1) (.var 3)) [.ret (.bin .add (.var 2) (.var 1))] [], .asg (.slot 1) (.bin .sub (.var 1) (.var 3))]
def d11 : Def := ⟨2, 4, [
  .for_ (.tup [(.slot 2), (.slot 3)]) (.of (.var 0)) b11_1,
  .ret (.c .non)]⟩

-- 12: first_in(lot, many); names: 0=lot 1=many 2=found 3=start 4=size
def N12 : List Str := [(PySem.Str.ofString "lot"), (PySem.Str.ofString "many"), (PySem.Str.ofString "found"), (PySem.Str.ofString "start"), (PySem.Str.ofString "size")]
def b12_1 : List St := [.if_ (.cmp .gt (.var 1) (.c (.int 0))) [.expr (.meth .append (.var 2) [(.tup [(.var 3), (.b2 .min (.var 4) (.var 1))])]), .asg (.slot 1) (.bin .sub (.var 1) (.b2 .min (.var 4) (.var 1)))] []]
def d12 : Def := ⟨2, 5, [
  .asg (.slot 2) (.alloc (.lst [])),
  .for_ (.tup [(.slot 3), (.slot 4)]) (.of (.var 0)) b12_1,
  .ret (.bi .tuple (.of (.var 2)))]⟩

-- 13: pairs_in(one, other); names: 0=one 1=other 2=found 3=at 4=done 5=spot 6=gone 7=many
def N13 : List Str := [(PySem.Str.ofString "one"), (PySem.Str.ofString "other"), (PySem.Str.ofString "found"), (PySem.Str.ofString "at"), (PySem.Str.ofString "done"), (PySem.Str.ofString "spot"), (PySem.Str.ofString "gone"), (PySem.Str.ofString "many")]
def w13_1 : E := (.cmp .lt (.var 3) (.b1 .len (.var 0)))
def b13_2 : List St := [.asg (.slot 7) (.b2 .min (.bin .sub (.ix (.ix (.var 0) (.var 3)) (.c (.int 1))) (.var 4)) (.bin .sub (.ix (.ix (.var 1) (.var 5)) (.c (.int 1))) (.var 6))), .expr (.meth .append (.var 2) [(.tup [(.bin .add (.ix (.ix (.var 0) (.var 3)) (.c (.int 0))) (.var 4)), (.bin .add (.ix (.ix (.var 1) (.var 5)) (.c (.int 0))) (.var 6)), (.var 7)])]), .par [4, 6] [(.bin .add (.var 4) (.var 7)), (.bin .add (.var 6) (.var 7))], .if_ (.cmp .eq (.var 4) (.ix (.ix (.var 0) (.var 3)) (.c (.int 1)))) [.par [3, 4] [(.bin .add (.var 3) (.c (.int 1))), (.c (.int 0))]] [], .if_ (.cmp .eq (.var 6) (.ix (.ix (.var 1) (.var 5)) (.c (.int 1)))) [.par [5, 6] [(.bin .add (.var 5) (.c (.int 1))), (.c (.int 0))]] []]
def d13 : Def := ⟨2, 8, [
  .asg (.tup [(.slot 2), (.slot 3), (.slot 4), (.slot 5), (.slot 6)]) (.tup [(.alloc (.lst [])), (.c (.int 0)), (.c (.int 0)), (.c (.int 0)), (.c (.int 0))]),
  .while_ w13_1 b13_2,
  .ret (.var 2)]⟩

-- 14: is_lot(value); names: 0=value 1=span 2=later
def N14 : List Str := [(PySem.Str.ofString "value"), (PySem.Str.ofString "span"), (PySem.Str.ofString "later")]
def e14_1 : E := (.cmp .lt (.call 2 [(.var 1)]) (.ix (.var 2) (.c (.int 0))))
def d14 : Def := ⟨1, 3, [
  .if_ (.not (.call 4 [(.var 0)])) [.ret (.c (.bl false))] [],
  .ret (.bi .all (.of (.lc e14_1 (.tup [(.slot 1), (.slot 2)]) (.zip (.var 0) (.slice (.var 0) true false (.c (.int 1)) (.c .non))) [] [1, 2])))]⟩

-- 15: require_lot(lot); names: 0=lot
def N15 : List Str := [(PySem.Str.ofString "lot")]
def d15 : Def := ⟨1, 1, [
  .if_ (.not (.call 14 [(.var 0)])) [.never] []]⟩

-- 16: require_lots(one, other); names: 0=one 1=other
def N16 : List Str := [(PySem.Str.ofString "one"), (PySem.Str.ofString "other")]
def d16 : Def := ⟨2, 2, [
  .expr (.call 15 [(.var 0)]),
  .expr (.call 15 [(.var 1)])]⟩

-- 17: require_cell(cell); names: 0=cell
def N17 : List Str := [(PySem.Str.ofString "cell")]
def d17 : Def := ⟨1, 1, [
  .if_ (.not (.call 1 [(.var 0), (.c (.int 0)), (.glob 0)])) [.never] []]⟩

-- 18: told(spans); names: 0=spans
def N18 : List Str := [(PySem.Str.ofString "spans")]
def d18 : Def := ⟨1, 1, [
  .if_ (.cmp .gt (.b1 .len (.var 0)) (.glob 1)) [.never] [],
  .ret (.bi .tuple (.of (.var 0)))]⟩

-- 19: lot_of(spans); names: 0=spans
def N19 : List Str := [(PySem.Str.ofString "spans")]
def d19 : Def := ⟨1, 1, [
  .if_ (.not (.call 4 [(.var 0)])) [.never] [],
  .ret (.call 5 [(.var 0)])]⟩

-- 20: joined(one, other); names: 0=one 1=other
def N20 : List Str := [(PySem.Str.ofString "one"), (PySem.Str.ofString "other")]
def d20 : Def := ⟨2, 2, [
  .expr (.call 16 [(.var 0), (.var 1)]),
  .ret (.call 18 [(.call 5 [(.bin .add (.var 0) (.var 1))])])]⟩

-- 21: shared(one, other); names: 0=one 1=other
def N21 : List Str := [(PySem.Str.ofString "one"), (PySem.Str.ofString "other")]
def d21 : Def := ⟨2, 2, [
  .expr (.call 16 [(.var 0), (.var 1)]),
  .ret (.call 18 [(.call 6 [(.var 0), (.var 1)])])]⟩

-- 22: less(one, other); names: 0=one 1=other
def N22 : List Str := [(PySem.Str.ofString "one"), (PySem.Str.ofString "other")]
def d22 : Def := ⟨2, 2, [
  .expr (.call 16 [(.var 0), (.var 1)]),
  .ret (.call 18 [(.call 7 [(.var 0), (.var 1)])])]⟩

-- 23: are_apart(one, other); names: 0=one 1=other
def N23 : List Str := [(PySem.Str.ofString "one"), (PySem.Str.ofString "other")]
def d23 : Def := ⟨2, 2, [
  .expr (.call 16 [(.var 0), (.var 1)]),
  .ret (.cmp .eq (.call 6 [(.var 0), (.var 1)]) (.tup []))]⟩

-- 24: size(lot); names: 0=lot
def N24 : List Str := [(PySem.Str.ofString "lot")]
def d24 : Def := ⟨1, 1, [
  .expr (.call 15 [(.var 0)]),
  .ret (.call 8 [(.var 0)])]⟩

-- 25: holds(lot, cell); names: 0=lot 1=cell
def N25 : List Str := [(PySem.Str.ofString "lot"), (PySem.Str.ofString "cell")]
def d25 : Def := ⟨2, 2, [
  .expr (.call 15 [(.var 0)]),
  .expr (.call 17 [(.var 1)]),
  .ret (.call 10 [(.var 0), (.var 1)])]⟩

-- 26: rank(lot, cell); names: 0=lot 1=cell
def N26 : List Str := [(PySem.Str.ofString "lot"), (PySem.Str.ofString "cell")]
def d26 : Def := ⟨2, 2, [
  .expr (.call 15 [(.var 0)]),
  .expr (.call 17 [(.var 1)]),
  .ret (.call 9 [(.var 0), (.var 1)])]⟩

-- 27: cell_at(lot, index); names: 0=lot 1=index
def N27 : List Str := [(PySem.Str.ofString "lot"), (PySem.Str.ofString "index")]
def d27 : Def := ⟨2, 2, [
  .expr (.call 15 [(.var 0)]),
  .if_ (.not (.call 1 [(.var 1), (.c (.int 0)), (.bin .sub (.call 8 [(.var 0)]) (.c (.int 1)))])) [.never] [],
  .ret (.call 11 [(.var 0), (.var 1)])]⟩

-- 28: first_cells(lot, many); names: 0=lot 1=many
def N28 : List Str := [(PySem.Str.ofString "lot"), (PySem.Str.ofString "many")]
def d28 : Def := ⟨2, 2, [
  .expr (.call 15 [(.var 0)]),
  .if_ (.not (.call 1 [(.var 1), (.c (.int 0)), (.call 8 [(.var 0)])])) [.never] [],
  .ret (.call 12 [(.var 0), (.var 1)])]⟩

-- 29: pairs_of(one, other); names: 0=one 1=other
def N29 : List Str := [(PySem.Str.ofString "one"), (PySem.Str.ofString "other")]
def d29 : Def := ⟨2, 2, [
  .expr (.call 16 [(.var 0), (.var 1)]),
  .if_ (.cmp .ne (.call 8 [(.var 0)]) (.call 8 [(.var 1)])) [.never] [],
  .ret (.call 18 [(.call 13 [(.var 0), (.var 1)])])]⟩

-- 30: _law_dice(script, spot); names: 0=script 1=spot 2=cell 3=great 4=seed
def N30 : List Str := [(PySem.Str.ofString "script"), (PySem.Str.ofString "spot"), (PySem.Str.ofString "cell"), (PySem.Str.ofString "great"), (PySem.Str.ofString "seed")]
def d30 : Def := ⟨2, 5, [
  .asg (.slot 2) (.ite (.cmp .lt (.var 1) (.b1 .len (.var 0))) (.b1 .int (.ix (.var 0) (.var 1))) (.bin .add (.bin .mul (.c (.int 149)) (.var 1)) (.c (.int 53)))),
  .asg (.slot 3) (.bin .mod (.b1 .int (.b1 .abs (.var 2))) (.bin .pow (.bin .pow (.c (.int 10)) (.c (.int 54))) (.c (.int 6)))),
  .asg (.slot 4) (.bin .add (.bin .add (.bin .add (.bin .mul (.bin .mod (.var 3) (.c (.int 2305843009213693921))) (.c (.int 67))) (.bin .mul (.c (.int 743)) (.var 1))) (.bin .mul (.c (.int 37)) (.b1 .int (.cmp .lt (.var 2) (.c (.int 0)))))) (.c (.int 29))),
  .ret (.lst [(.b2 .max (.c (.int 0)) (.bin .sub (.var 3) (.bin .pow (.c (.int 10)) (.c (.int 16))))), (.var 4), (.c (.int 0))])]⟩

-- 31: _law_roll(dice, total); names: 0=dice 1=total 2=found 3=one 4=two
def N31 : List Str := [(PySem.Str.ofString "dice"), (PySem.Str.ofString "total"), (PySem.Str.ofString "found"), (PySem.Str.ofString "one"), (PySem.Str.ofString "two")]
def d31 : Def := ⟨2, 5, [
  .if_ (.cmp .gt (.ix (.var 0) (.c (.int 0))) (.c (.int 0))) [.asg (.slot 2) (.bin .mod (.ix (.var 0) (.c (.int 0))) (.var 1)), .setix (.var 0) (.c (.int 0)) (.bin .fdiv (.ix (.var 0) (.c (.int 0))) (.var 1)), .ret (.b1 .int (.var 2))] [],
  .setix (.var 0) (.c (.int 2)) (.bin .add (.ix (.var 0) (.c (.int 2))) (.c (.int 1))),
  .asg (.slot 3) (.bin .mod (.bin .add (.ix (.var 0) (.c (.int 1))) (.bin .mul (.c (.int 86028157)) (.ix (.var 0) (.c (.int 2))))) (.c (.int 2305843009213693951))),
  .asg (.slot 4) (.bin .add (.bin .mul (.bin .mod (.bin .add (.bin .mul (.var 3) (.var 3)) (.bin .mul (.c (.int 179)) (.ix (.var 0) (.c (.int 2))))) (.c (.int 2305843009213693907))) (.c (.int 15485867))) (.var 3)),
  .ret (.bin .mod (.b1 .int (.bin .fdiv (.var 4) (.c (.int 65579)))) (.var 1))]⟩

-- 32: _law_pick(dice, items); names: 0=dice 1=items
def N32 : List Str := [(PySem.Str.ofString "dice"), (PySem.Str.ofString "items")]
def d32 : Def := ⟨2, 2, [
  .ret (.ix (.var 1) (.call 31 [(.var 0), (.b1 .len (.var 1))]))]⟩

-- 33: _law_lean(spans); names: 0=spans 1=cells 2=start 3=many 4=cell 5=found
def N33 : List Str := [(PySem.Str.ofString "spans"), (PySem.Str.ofString "cells"), (PySem.Str.ofString "start"), (PySem.Str.ofString "many"), (PySem.Str.ofString "cell"), (PySem.Str.ofString "found")]
def b33_1 : List St := [.setix (.var 1) (.var 4) (.c (.bl true))]
def b33_2 : List St := [.for_ (.slot 4) (.range2 (.var 2) (.bin .add (.var 2) (.var 3))) b33_1]
def b33_3 : List St := [.if_ (.and (.cmp .ne (.var 5) (.lst [])) (.cmp .eq (.bin .add (.ix (.ix (.var 5) (.neg (.c (.int 1)))) (.c (.int 0))) (.ix (.ix (.var 5) (.neg (.c (.int 1)))) (.c (.int 1)))) (.var 4))) [.setix (.var 5) (.neg (.c (.int 1))) (.tup [(.ix (.ix (.var 5) (.neg (.c (.int 1)))) (.c (.int 0))), (.bin .add (.ix (.ix (.var 5) (.neg (.c (.int 1)))) (.c (.int 1))) (.c (.int 1)))])] [.expr (.meth .append (.var 5) [(.tup [(.var 4), (.c (.int 1))])])]]
def d33 : Def := ⟨1, 6, [
  .asg (.slot 1) (.alloc .dct),
  .for_ (.tup [(.slot 2), (.slot 3)]) (.of (.var 0)) b33_2,
  .asg (.slot 5) (.alloc (.lst [])),
  .for_ (.slot 4) (.of (.srtD (.var 1))) b33_3,
  .ret (.var 5)]⟩

-- 34: _law_cells(lot); names: 0=lot 1=found 2=start 3=many
def N34 : List Str := [(PySem.Str.ofString "lot"), (PySem.Str.ofString "found"), (PySem.Str.ofString "start"), (PySem.Str.ofString "many")]
def b34_1 : List St := [.asg (.slot 1) (.bin .add (.var 1) (.bi .list (.range2 (.var 2) (.bin .add (.var 2) (.var 3)))))]
def d34 : Def := ⟨1, 4, [
  .asg (.slot 1) (.lst []),
  .for_ (.tup [(.slot 2), (.slot 3)]) (.of (.var 0)) b34_1,
  .ret (.var 1)]⟩

-- 35: _law_spans(dice); names: 0=dice 1=turn
def N35 : List Str := [(PySem.Str.ofString "dice"), (PySem.Str.ofString "turn")]
def e35_1 : E := (.tup [(.call 31 [(.var 0), (.c (.int 55))]), (.bin .add (.c (.int 1)) (.call 31 [(.var 0), (.c (.int 6))]))])
def d35 : Def := ⟨1, 2, [
  .ret (.bi .tuple (.of (.lc e35_1 (.slot 1) (.range1 (.call 31 [(.var 0), (.c (.int 8))])) [] [1])))]⟩

-- 36: _law_moved(lot, far); names: 0=lot 1=far 2=start 3=many
def N36 : List Str := [(PySem.Str.ofString "lot"), (PySem.Str.ofString "far"), (PySem.Str.ofString "start"), (PySem.Str.ofString "many")]
def e36_1 : E := (.tup [(.bin .add (.var 2) (.var 1)), (.var 3)])
def d36 : Def := ⟨2, 4, [
  .ret (.bi .tuple (.of (.lc e36_1 (.tup [(.slot 2), (.slot 3)]) (.of (.var 0)) [] [2, 3])))]⟩

-- 37: _law_pairs(one, other); names: 0=one 1=other 2=found 3=cell 4=goal
def N37 : List Str := [(PySem.Str.ofString "one"), (PySem.Str.ofString "other"), (PySem.Str.ofString "found"), (PySem.Str.ofString "cell"), (PySem.Str.ofString "goal")]
def b37_1 : List St := [.if_ (.and (.cmp .ne (.var 2) (.lst [])) (.and (.cmp .eq (.bin .add (.ix (.ix (.var 2) (.neg (.c (.int 1)))) (.c (.int 0))) (.ix (.ix (.var 2) (.neg (.c (.int 1)))) (.c (.int 2)))) (.var 3)) (.cmp .eq (.bin .add (.ix (.ix (.var 2) (.neg (.c (.int 1)))) (.c (.int 1))) (.ix (.ix (.var 2) (.neg (.c (.int 1)))) (.c (.int 2)))) (.var 4)))) [.setix (.var 2) (.neg (.c (.int 1))) (.tup [(.ix (.ix (.var 2) (.neg (.c (.int 1)))) (.c (.int 0))), (.ix (.ix (.var 2) (.neg (.c (.int 1)))) (.c (.int 1))), (.bin .add (.ix (.ix (.var 2) (.neg (.c (.int 1)))) (.c (.int 2))) (.c (.int 1)))])] [.expr (.meth .append (.var 2) [(.tup [(.var 3), (.var 4), (.c (.int 1))])])]]
def d37 : Def := ⟨2, 5, [
  .asg (.slot 2) (.alloc (.lst [])),
  .for_ (.tup [(.slot 3), (.slot 4)]) (.zip (.call 34 [(.var 0)]) (.call 34 [(.var 1)])) b37_1,
  .ret (.var 2)]⟩

-- 38: _law_right(dice); names: 0=dice 1=spans 2=others 3=far 4=left 5=right 6=one 7=other 8=cell 9=both 10=rest 11=index 12=many 13=few 14=first 15=last 16=due 17=here 18=start 19=goal 20=wide
def N38 : List Str := [(PySem.Str.ofString "dice"), (PySem.Str.ofString "spans"), (PySem.Str.ofString "others"), (PySem.Str.ofString "far"), (PySem.Str.ofString "left"), (PySem.Str.ofString "right"), (PySem.Str.ofString "one"), (PySem.Str.ofString "other"), (PySem.Str.ofString "cell"), (PySem.Str.ofString "both"), (PySem.Str.ofString "rest"), (PySem.Str.ofString "index"), (PySem.Str.ofString "many"), (PySem.Str.ofString "few"), (PySem.Str.ofString "first"), (PySem.Str.ofString "last"), (PySem.Str.ofString "due"), (PySem.Str.ofString "here"), (PySem.Str.ofString "start"), (PySem.Str.ofString "goal"), (PySem.Str.ofString "wide")]
def e38_1 : E := (.var 8)
def e38_2 : E := (.tup [(.var 8), (.c (.int 1))])
def e38_3 : E := (.var 8)
def e38_4 : E := (.tup [(.var 8), (.c (.int 1))])
def e38_5 : E := (.c (.int 1))
def e38_6 : E := (.tup [(.var 17), (.c (.int 1))])
def e38_7 : E := (.tup [(.bin .add (.var 18) (.var 3)), (.bin .add (.var 19) (.var 3)), (.var 20)])
def d38 : Def := ⟨1, 21, [
  .par [1, 2] [(.call 35 [(.var 0)]), (.call 35 [(.var 0)])],
  .asg (.slot 3) (.call 32 [(.var 0), (.lst [(.c (.int 0)), (.bin .pow (.c (.int 10)) (.c (.int 60)))])]),
  .asg (.tup [(.slot 4), (.slot 5)]) (.tup [(.call 34 [(.call 33 [(.var 1)])]), (.call 34 [(.call 33 [(.var 2)])])]),
  .par [6, 7] [(.call 19 [(.call 36 [(.var 1), (.var 3)])]), (.call 19 [(.call 36 [(.var 2), (.var 3)])])],
  .if_ (.or (.cmp .ne (.var 6) (.call 36 [(.call 33 [(.var 1)]), (.var 3)])) (.cmp .notN (.call 14 [(.var 6)]) (.c (.bl true)))) [.ret (.c (.bl false))] [],
  .if_ (.cmp .ne (.call 20 [(.var 6), (.var 7)]) (.call 36 [(.call 33 [(.bin .add (.var 1) (.var 2))]), (.var 3)])) [.ret (.c (.bl false))] [],
  .asg (.slot 9) (.lc e38_1 (.slot 8) (.of (.var 4)) [(.cmp .mem (.var 8) (.var 5))] [8]),
  .if_ (.or (.cmp .ne (.call 21 [(.var 6), (.var 7)]) (.call 36 [(.call 33 [(.lc e38_2 (.slot 8) (.of (.var 9)) [] [8])]), (.var 3)])) (.cmp .ne (.call 23 [(.var 6), (.var 7)]) (.cmp .eq (.var 9) (.lst [])))) [.ret (.c (.bl false))] [],
  .asg (.slot 10) (.lc e38_3 (.slot 8) (.of (.var 4)) [(.cmp .nmem (.var 8) (.var 5))] [8]),
  .if_ (.or (.cmp .ne (.call 22 [(.var 6), (.var 7)]) (.call 36 [(.call 33 [(.lc e38_4 (.slot 8) (.of (.var 10)) [] [8])]), (.var 3)])) (.cmp .ne (.call 24 [(.var 6)]) (.b1 .len (.var 4)))) [.ret (.c (.bl false))] [],
  .asg (.slot 8) (.call 31 [(.var 0), (.c (.int 65))]),
  .if_ (.or (.cmp .ne (.call 25 [(.var 6), (.bin .add (.var 8) (.var 3))]) (.cmp .mem (.var 8) (.var 4))) (.cmp .ne (.call 26 [(.var 6), (.bin .add (.var 8) (.var 3))]) (.b1 .len (.lc e38_5 (.slot 17) (.of (.var 4)) [(.cmp .lt (.var 17) (.var 8))] [17])))) [.ret (.c (.bl false))] [],
  .if_ (.cmp .ne (.var 4) (.lst [])) [.asg (.slot 11) (.call 31 [(.var 0), (.b1 .len (.var 4))]), .if_ (.cmp .ne (.call 27 [(.var 6), (.var 11)]) (.bin .add (.ix (.var 4) (.var 11)) (.var 3))) [.ret (.c (.bl false))] []] [],
  .asg (.slot 12) (.call 31 [(.var 0), (.bin .add (.b1 .len (.var 4)) (.c (.int 1)))]),
  .if_ (.cmp .ne (.call 28 [(.var 6), (.var 12)]) (.call 36 [(.call 33 [(.lc e38_6 (.slot 17) (.of (.slice (.var 4) false true (.c .non) (.var 12))) [] [17])]), (.var 3)])) [.ret (.c (.bl false))] [],
  .asg (.slot 13) (.b2 .min (.b1 .len (.var 4)) (.b1 .len (.var 5))),
  .par [14, 15] [(.call 28 [(.var 6), (.var 13)]), (.call 28 [(.var 7), (.var 13)])],
  .asg (.slot 16) (.call 37 [(.call 36 [(.var 14), (.bin .sub (.c (.int 0)) (.var 3))]), (.call 36 [(.var 15), (.bin .sub (.c (.int 0)) (.var 3))])]),
  .ret (.cmp .eq (.call 29 [(.var 14), (.var 15)]) (.bi .tuple (.of (.lc e38_7 (.tup [(.slot 18), (.slot 19), (.slot 20)]) (.of (.var 16)) [] [18, 19, 20]))))]⟩

-- 39: law(script); names: 0=script 1=odd 2=spot 3=dice 4=turn 5=value
def N39 : List Str := [(PySem.Str.ofString "script"), (PySem.Str.ofString "odd"), (PySem.Str.ofString "spot"), (PySem.Str.ofString "dice"), (PySem.Str.ofString "turn"), (PySem.Str.ofString "value")]
def b39_1 : List St := [.if_ (.not (.call 38 [(.var 3)])) [.ret (.c (.bl false))] []]
def b39_2 : List St := [.asg (.slot 3) (.alloc (.call 30 [(.var 0), (.var 2)])), .for_ (.slot 4) (.range1 (.c (.int 3))) b39_1]
def e39_3 : E := (.var 5)
def d39 : Def := ⟨1, 6, [
  .asg (.slot 1) (.lst [(.c .non), (.c (.int 0)), (.lst [(.tup [(.c (.int 0)), (.c (.int 1))])]), (.tup [(.tup [(.c (.int 0)), (.c (.int 0))])]), (.tup [(.tup [(.neg (.c (.int 1))), (.c (.int 2))])]), (.tup [(.tup [(.c (.int 0)), (.c (.int 2))]), (.tup [(.c (.int 2)), (.c (.int 1))])]), (.tup [(.tup [(.c (.int 3)), (.c (.int 1))]), (.tup [(.c (.int 0)), (.c (.int 1))])]), (.tup [(.tup [(.c (.int 0)), (.c (.int 3))]), (.tup [(.c (.int 2)), (.c (.int 2))])]), (.tup [(.tup [(.c (.int 0))])]), (.tup [(.c (.int 0)), (.c (.int 1))])]),
  .asg (.slot 1) (.bin .add (.var 1) (.lst [(.tup [(.tup [(.c (.bl true)), (.c (.int 1))])]), (.tup [(.tup [(.c (.int 0)), (.c (.str (PySem.Str.ofString "1")))])]), (.tup [(.tup [(.bin .pow (.c (.int 10)) (.c (.int 61))), (.c (.int 1))])]), (.bin .mul (.tup [(.tup [(.c (.int 0)), (.c (.int 1))])]) (.c (.int 2))), .dct, (.c (.str (PySem.Str.ofString "01"))), (.tup [(.tup [(.c (.int 0)), (.c (.int 1)), (.c (.int 2))])])])),
  .for_ (.slot 2) (.range1 (.b2 .max (.c (.int 1)) (.b2 .min (.c (.int 6)) (.b1 .len (.var 0))))) b39_2,
  .if_ (.cmp .ne (.lc e39_3 (.slot 5) (.of (.var 1)) [(.cmp .notN (.call 14 [(.var 5)]) (.c (.bl false)))] [5]) (.lst [])) [.ret (.c (.bl false))] [],
  .ret (.and (.cmp .isN (.call 14 [(.tup [])]) (.c (.bl true))) (.and (.cmp .isN (.call 14 [(.tup [(.tup [(.bin .sub (.bin .pow (.c (.int 10)) (.c (.int 61))) (.c (.int 1))), (.c (.int 1))])])]) (.c (.bl true))) (.cmp .eq (.call 29 [(.tup []), (.tup [])]) (.tup []))))]⟩

def defs : List Def := [d0, d1, d2, d3, d4, d5, d6, d7, d8, d9, d10, d11, d12, d13, d14, d15, d16, d17, d18, d19, d20, d21, d22, d23, d24, d25, d26, d27, d28, d29, d30, d31, d32, d33, d34, d35, d36, d37, d38, d39]
def Ns : List (List Str) := [N0, N1, N2, N3, N4, N5, N6, N7, N8, N9, N10, N11, N12, N13, N14, N15, N16, N17, N18, N19, N20, N21, N22, N23, N24, N25, N26, N27, N28, N29, N30, N31, N32, N33, N34, N35, N36, N37, N38, N39]



def globs : List (Str × D) := [((PySem.Str.ofString "MOST_CELL"), D.int (10000000000000000000000000000000000000000000000000000000000000)), ((PySem.Str.ofString "MOST_SPANS"), D.int (5000))]
def P : PInfo := ⟨names, globs⟩
def T : Tab := ⟨defs, globs.map (·.2)⟩

theorem t0 : T.defs[0]? = some d0 := rfl
theorem t1 : T.defs[1]? = some d1 := rfl
theorem t2 : T.defs[2]? = some d2 := rfl
theorem t3 : T.defs[3]? = some d3 := rfl
theorem t4 : T.defs[4]? = some d4 := rfl
theorem t5 : T.defs[5]? = some d5 := rfl
theorem t6 : T.defs[6]? = some d6 := rfl
theorem t7 : T.defs[7]? = some d7 := rfl
theorem t8 : T.defs[8]? = some d8 := rfl
theorem t9 : T.defs[9]? = some d9 := rfl
theorem t10 : T.defs[10]? = some d10 := rfl
theorem t11 : T.defs[11]? = some d11 := rfl
theorem t12 : T.defs[12]? = some d12 := rfl
theorem t13 : T.defs[13]? = some d13 := rfl
theorem t14 : T.defs[14]? = some d14 := rfl
theorem t15 : T.defs[15]? = some d15 := rfl
theorem t16 : T.defs[16]? = some d16 := rfl
theorem t17 : T.defs[17]? = some d17 := rfl
theorem t18 : T.defs[18]? = some d18 := rfl
theorem t19 : T.defs[19]? = some d19 := rfl
theorem t20 : T.defs[20]? = some d20 := rfl
theorem t21 : T.defs[21]? = some d21 := rfl
theorem t22 : T.defs[22]? = some d22 := rfl
theorem t23 : T.defs[23]? = some d23 := rfl
theorem t24 : T.defs[24]? = some d24 := rfl
theorem t25 : T.defs[25]? = some d25 := rfl
theorem t26 : T.defs[26]? = some d26 := rfl
theorem t27 : T.defs[27]? = some d27 := rfl
theorem t28 : T.defs[28]? = some d28 := rfl
theorem t29 : T.defs[29]? = some d29 := rfl
theorem t30 : T.defs[30]? = some d30 := rfl
theorem t31 : T.defs[31]? = some d31 := rfl
theorem t32 : T.defs[32]? = some d32 := rfl
theorem t33 : T.defs[33]? = some d33 := rfl
theorem t34 : T.defs[34]? = some d34 := rfl
theorem t35 : T.defs[35]? = some d35 := rfl
theorem t36 : T.defs[36]? = some d36 := rfl
theorem t37 : T.defs[37]? = some d37 := rfl
theorem t38 : T.defs[38]? = some d38 := rfl
theorem t39 : T.defs[39]? = some d39 := rfl
end K02

/-! The checks, the head. -/
namespace K02
open PySem MP
abbrev pg : PySem.Program := PySem.Challenge.pw_spanswaps_k02_whole_lots_of_cells
abbrev rw : PySem.W.OpenLaw := PySem.Challenge.rw_spanswaps_k02_whole_lots_of_cells


def top (i : Nat) : Stmt := pg.main.body.getD i (.Pass ⟨0, 0, 0, 0⟩)
def mk (x : Str) (i : Nat) : He.DefD := ⟨(x, none), x, x, L2.defArgs (top i), L2.defBody (top i), L2.defScope (top i), [], []⟩

def h0 : He.DefD := mk (PySem.Str.ofString "is_integer") 6
def h1 : He.DefD := mk (PySem.Str.ofString "is_within") 7
def h2 : He.DefD := mk (PySem.Str.ofString "end_of") 11
def h3 : He.DefD := mk (PySem.Str.ofString "is_span") 12
def h4 : He.DefD := mk (PySem.Str.ofString "are_spans") 13
def h5 : He.DefD := mk (PySem.Str.ofString "lean_in") 14
def h6 : He.DefD := mk (PySem.Str.ofString "shared_in") 15
def h7 : He.DefD := mk (PySem.Str.ofString "less_in") 16
def h8 : He.DefD := mk (PySem.Str.ofString "size_in") 17
def h9 : He.DefD := mk (PySem.Str.ofString "rank_in") 18
def h10 : He.DefD := mk (PySem.Str.ofString "does_hold") 19
def h11 : He.DefD := mk (PySem.Str.ofString "cell_in") 20
def h12 : He.DefD := mk (PySem.Str.ofString "first_in") 21
def h13 : He.DefD := mk (PySem.Str.ofString "pairs_in") 22
def h14 : He.DefD := mk (PySem.Str.ofString "is_lot") 23
def h15 : He.DefD := mk (PySem.Str.ofString "require_lot") 24
def h16 : He.DefD := mk (PySem.Str.ofString "require_lots") 25
def h17 : He.DefD := mk (PySem.Str.ofString "require_cell") 26
def h18 : He.DefD := mk (PySem.Str.ofString "told") 27
def h19 : He.DefD := mk (PySem.Str.ofString "lot_of") 28
def h20 : He.DefD := mk (PySem.Str.ofString "joined") 29
def h21 : He.DefD := mk (PySem.Str.ofString "shared") 30
def h22 : He.DefD := mk (PySem.Str.ofString "less") 31
def h23 : He.DefD := mk (PySem.Str.ofString "are_apart") 32
def h24 : He.DefD := mk (PySem.Str.ofString "size") 33
def h25 : He.DefD := mk (PySem.Str.ofString "holds") 34
def h26 : He.DefD := mk (PySem.Str.ofString "rank") 35
def h27 : He.DefD := mk (PySem.Str.ofString "cell_at") 36
def h28 : He.DefD := mk (PySem.Str.ofString "first_cells") 37
def h29 : He.DefD := mk (PySem.Str.ofString "pairs_of") 38
def h30 : He.DefD := mk (PySem.Str.ofString "_law_dice") 40
def h31 : He.DefD := mk (PySem.Str.ofString "_law_roll") 41
def h32 : He.DefD := mk (PySem.Str.ofString "_law_pick") 42
def h33 : He.DefD := mk (PySem.Str.ofString "_law_lean") 43
def h34 : He.DefD := mk (PySem.Str.ofString "_law_cells") 44
def h35 : He.DefD := mk (PySem.Str.ofString "_law_spans") 45
def h36 : He.DefD := mk (PySem.Str.ofString "_law_moved") 46
def h37 : He.DefD := mk (PySem.Str.ofString "_law_pairs") 47
def h38 : He.DefD := mk (PySem.Str.ofString "_law_right") 48
def h39 : He.DefD := mk (PySem.Str.ofString "law") 49
def fn : List He.DefD := [h0, h1, h2, h3, h4, h5, h6, h7, h8, h9, h10, h11, h12, h13, h14, h15, h16, h17, h18, h19, h20, h21, h22, h23, h24, h25, h26, h27, h28, h29, h30, h31, h32, h33, h34, h35, h36, h37, h38, h39]
theorem c0 : dchk P (PySem.Str.ofString "is_integer") d0 h0 N0 = true := by decide +kernel
theorem c1 : dchk P (PySem.Str.ofString "is_within") d1 h1 N1 = true := by decide +kernel
theorem c2 : dchk P (PySem.Str.ofString "end_of") d2 h2 N2 = true := by decide +kernel
theorem c3 : dchk P (PySem.Str.ofString "is_span") d3 h3 N3 = true := by decide +kernel
theorem c4 : dchk P (PySem.Str.ofString "are_spans") d4 h4 N4 = true := by decide +kernel
theorem c5 : dchk P (PySem.Str.ofString "lean_in") d5 h5 N5 = true := by decide +kernel
theorem c6 : dchk P (PySem.Str.ofString "shared_in") d6 h6 N6 = true := by decide +kernel
theorem c7 : dchk P (PySem.Str.ofString "less_in") d7 h7 N7 = true := by decide +kernel
theorem c8 : dchk P (PySem.Str.ofString "size_in") d8 h8 N8 = true := by decide +kernel
theorem c9 : dchk P (PySem.Str.ofString "rank_in") d9 h9 N9 = true := by decide +kernel
theorem c10 : dchk P (PySem.Str.ofString "does_hold") d10 h10 N10 = true := by decide +kernel
theorem c11 : dchk P (PySem.Str.ofString "cell_in") d11 h11 N11 = true := by decide +kernel
theorem c12 : dchk P (PySem.Str.ofString "first_in") d12 h12 N12 = true := by decide +kernel
theorem c13 : dchk P (PySem.Str.ofString "pairs_in") d13 h13 N13 = true := by decide +kernel
theorem c14 : dchk P (PySem.Str.ofString "is_lot") d14 h14 N14 = true := by decide +kernel
theorem c15 : dchk P (PySem.Str.ofString "require_lot") d15 h15 N15 = true := by decide +kernel
theorem c16 : dchk P (PySem.Str.ofString "require_lots") d16 h16 N16 = true := by decide +kernel
theorem c17 : dchk P (PySem.Str.ofString "require_cell") d17 h17 N17 = true := by decide +kernel
theorem c18 : dchk P (PySem.Str.ofString "told") d18 h18 N18 = true := by decide +kernel
theorem c19 : dchk P (PySem.Str.ofString "lot_of") d19 h19 N19 = true := by decide +kernel
theorem c20 : dchk P (PySem.Str.ofString "joined") d20 h20 N20 = true := by decide +kernel
theorem c21 : dchk P (PySem.Str.ofString "shared") d21 h21 N21 = true := by decide +kernel
theorem c22 : dchk P (PySem.Str.ofString "less") d22 h22 N22 = true := by decide +kernel
theorem c23 : dchk P (PySem.Str.ofString "are_apart") d23 h23 N23 = true := by decide +kernel
theorem c24 : dchk P (PySem.Str.ofString "size") d24 h24 N24 = true := by decide +kernel
theorem c25 : dchk P (PySem.Str.ofString "holds") d25 h25 N25 = true := by decide +kernel
theorem c26 : dchk P (PySem.Str.ofString "rank") d26 h26 N26 = true := by decide +kernel
theorem c27 : dchk P (PySem.Str.ofString "cell_at") d27 h27 N27 = true := by decide +kernel
theorem c28 : dchk P (PySem.Str.ofString "first_cells") d28 h28 N28 = true := by decide +kernel
theorem c29 : dchk P (PySem.Str.ofString "pairs_of") d29 h29 N29 = true := by decide +kernel
theorem c30 : dchk P (PySem.Str.ofString "_law_dice") d30 h30 N30 = true := by decide +kernel
theorem c31 : dchk P (PySem.Str.ofString "_law_roll") d31 h31 N31 = true := by decide +kernel
theorem c32 : dchk P (PySem.Str.ofString "_law_pick") d32 h32 N32 = true := by decide +kernel
theorem c33 : dchk P (PySem.Str.ofString "_law_lean") d33 h33 N33 = true := by decide +kernel
theorem c34 : dchk P (PySem.Str.ofString "_law_cells") d34 h34 N34 = true := by decide +kernel
theorem c35 : dchk P (PySem.Str.ofString "_law_spans") d35 h35 N35 = true := by decide +kernel
theorem c36 : dchk P (PySem.Str.ofString "_law_moved") d36 h36 N36 = true := by decide +kernel
theorem c37 : dchk P (PySem.Str.ofString "_law_pairs") d37 h37 N37 = true := by decide +kernel
theorem c38 : dchk P (PySem.Str.ofString "_law_right") d38 h38 N38 = true := by decide +kernel
theorem c39 : dchk P (PySem.Str.ofString "law") d39 h39 N39 = true := by decide +kernel
theorem b0 : BindOk h0 := fun _ _ _ _ _ _ us hl => match us, hl with | [_], _ => rfl
theorem b1 : BindOk h1 := fun _ _ _ _ _ _ us hl => match us, hl with | [_, _, _], _ => rfl
theorem b2 : BindOk h2 := fun _ _ _ _ _ _ us hl => match us, hl with | [_], _ => rfl
theorem b3 : BindOk h3 := fun _ _ _ _ _ _ us hl => match us, hl with | [_], _ => rfl
theorem b4 : BindOk h4 := fun _ _ _ _ _ _ us hl => match us, hl with | [_], _ => rfl
theorem b5 : BindOk h5 := fun _ _ _ _ _ _ us hl => match us, hl with | [_], _ => rfl
theorem b6 : BindOk h6 := fun _ _ _ _ _ _ us hl => match us, hl with | [_, _], _ => rfl
theorem b7 : BindOk h7 := fun _ _ _ _ _ _ us hl => match us, hl with | [_, _], _ => rfl
theorem b8 : BindOk h8 := fun _ _ _ _ _ _ us hl => match us, hl with | [_], _ => rfl
theorem b9 : BindOk h9 := fun _ _ _ _ _ _ us hl => match us, hl with | [_, _], _ => rfl
theorem b10 : BindOk h10 := fun _ _ _ _ _ _ us hl => match us, hl with | [_, _], _ => rfl
theorem b11 : BindOk h11 := fun _ _ _ _ _ _ us hl => match us, hl with | [_, _], _ => rfl
theorem b12 : BindOk h12 := fun _ _ _ _ _ _ us hl => match us, hl with | [_, _], _ => rfl
theorem b13 : BindOk h13 := fun _ _ _ _ _ _ us hl => match us, hl with | [_, _], _ => rfl
theorem b14 : BindOk h14 := fun _ _ _ _ _ _ us hl => match us, hl with | [_], _ => rfl
theorem b15 : BindOk h15 := fun _ _ _ _ _ _ us hl => match us, hl with | [_], _ => rfl
theorem b16 : BindOk h16 := fun _ _ _ _ _ _ us hl => match us, hl with | [_, _], _ => rfl
theorem b17 : BindOk h17 := fun _ _ _ _ _ _ us hl => match us, hl with | [_], _ => rfl
theorem b18 : BindOk h18 := fun _ _ _ _ _ _ us hl => match us, hl with | [_], _ => rfl
theorem b19 : BindOk h19 := fun _ _ _ _ _ _ us hl => match us, hl with | [_], _ => rfl
theorem b20 : BindOk h20 := fun _ _ _ _ _ _ us hl => match us, hl with | [_, _], _ => rfl
theorem b21 : BindOk h21 := fun _ _ _ _ _ _ us hl => match us, hl with | [_, _], _ => rfl
theorem b22 : BindOk h22 := fun _ _ _ _ _ _ us hl => match us, hl with | [_, _], _ => rfl
theorem b23 : BindOk h23 := fun _ _ _ _ _ _ us hl => match us, hl with | [_, _], _ => rfl
theorem b24 : BindOk h24 := fun _ _ _ _ _ _ us hl => match us, hl with | [_], _ => rfl
theorem b25 : BindOk h25 := fun _ _ _ _ _ _ us hl => match us, hl with | [_, _], _ => rfl
theorem b26 : BindOk h26 := fun _ _ _ _ _ _ us hl => match us, hl with | [_, _], _ => rfl
theorem b27 : BindOk h27 := fun _ _ _ _ _ _ us hl => match us, hl with | [_, _], _ => rfl
theorem b28 : BindOk h28 := fun _ _ _ _ _ _ us hl => match us, hl with | [_, _], _ => rfl
theorem b29 : BindOk h29 := fun _ _ _ _ _ _ us hl => match us, hl with | [_, _], _ => rfl
theorem b30 : BindOk h30 := fun _ _ _ _ _ _ us hl => match us, hl with | [_, _], _ => rfl
theorem b31 : BindOk h31 := fun _ _ _ _ _ _ us hl => match us, hl with | [_, _], _ => rfl
theorem b32 : BindOk h32 := fun _ _ _ _ _ _ us hl => match us, hl with | [_, _], _ => rfl
theorem b33 : BindOk h33 := fun _ _ _ _ _ _ us hl => match us, hl with | [_], _ => rfl
theorem b34 : BindOk h34 := fun _ _ _ _ _ _ us hl => match us, hl with | [_], _ => rfl
theorem b35 : BindOk h35 := fun _ _ _ _ _ _ us hl => match us, hl with | [_], _ => rfl
theorem b36 : BindOk h36 := fun _ _ _ _ _ _ us hl => match us, hl with | [_, _], _ => rfl
theorem b37 : BindOk h37 := fun _ _ _ _ _ _ us hl => match us, hl with | [_, _], _ => rfl
theorem b38 : BindOk h38 := fun _ _ _ _ _ _ us hl => match us, hl with | [_], _ => rfl
theorem b39 : BindOk h39 := fun _ _ _ _ _ _ us hl => match us, hl with | [_], _ => rfl
theorem ok : LawOk P T fn Ns where
  ln := rfl
  lt := rfl
  lN := rfl
  globs := rfl
  gk := by intro q hq; simp only [P, globs, List.mem_cons, List.not_mem_nil, or_false] at hq; rcases hq with rfl | rfl <;> first | exact .inl ⟨_, rfl⟩ | exact .inr ⟨_, rfl⟩
  chk := fun i x d hd N e1 e2 e3 e4 => match i, e1, e2, e3, e4 with
    | 0, e1, e2, e3, e4 => by cases e1; cases e2; cases e3; cases e4; exact c0
    | 1, e1, e2, e3, e4 => by cases e1; cases e2; cases e3; cases e4; exact c1
    | 2, e1, e2, e3, e4 => by cases e1; cases e2; cases e3; cases e4; exact c2
    | 3, e1, e2, e3, e4 => by cases e1; cases e2; cases e3; cases e4; exact c3
    | 4, e1, e2, e3, e4 => by cases e1; cases e2; cases e3; cases e4; exact c4
    | 5, e1, e2, e3, e4 => by cases e1; cases e2; cases e3; cases e4; exact c5
    | 6, e1, e2, e3, e4 => by cases e1; cases e2; cases e3; cases e4; exact c6
    | 7, e1, e2, e3, e4 => by cases e1; cases e2; cases e3; cases e4; exact c7
    | 8, e1, e2, e3, e4 => by cases e1; cases e2; cases e3; cases e4; exact c8
    | 9, e1, e2, e3, e4 => by cases e1; cases e2; cases e3; cases e4; exact c9
    | 10, e1, e2, e3, e4 => by cases e1; cases e2; cases e3; cases e4; exact c10
    | 11, e1, e2, e3, e4 => by cases e1; cases e2; cases e3; cases e4; exact c11
    | 12, e1, e2, e3, e4 => by cases e1; cases e2; cases e3; cases e4; exact c12
    | 13, e1, e2, e3, e4 => by cases e1; cases e2; cases e3; cases e4; exact c13
    | 14, e1, e2, e3, e4 => by cases e1; cases e2; cases e3; cases e4; exact c14
    | 15, e1, e2, e3, e4 => by cases e1; cases e2; cases e3; cases e4; exact c15
    | 16, e1, e2, e3, e4 => by cases e1; cases e2; cases e3; cases e4; exact c16
    | 17, e1, e2, e3, e4 => by cases e1; cases e2; cases e3; cases e4; exact c17
    | 18, e1, e2, e3, e4 => by cases e1; cases e2; cases e3; cases e4; exact c18
    | 19, e1, e2, e3, e4 => by cases e1; cases e2; cases e3; cases e4; exact c19
    | 20, e1, e2, e3, e4 => by cases e1; cases e2; cases e3; cases e4; exact c20
    | 21, e1, e2, e3, e4 => by cases e1; cases e2; cases e3; cases e4; exact c21
    | 22, e1, e2, e3, e4 => by cases e1; cases e2; cases e3; cases e4; exact c22
    | 23, e1, e2, e3, e4 => by cases e1; cases e2; cases e3; cases e4; exact c23
    | 24, e1, e2, e3, e4 => by cases e1; cases e2; cases e3; cases e4; exact c24
    | 25, e1, e2, e3, e4 => by cases e1; cases e2; cases e3; cases e4; exact c25
    | 26, e1, e2, e3, e4 => by cases e1; cases e2; cases e3; cases e4; exact c26
    | 27, e1, e2, e3, e4 => by cases e1; cases e2; cases e3; cases e4; exact c27
    | 28, e1, e2, e3, e4 => by cases e1; cases e2; cases e3; cases e4; exact c28
    | 29, e1, e2, e3, e4 => by cases e1; cases e2; cases e3; cases e4; exact c29
    | 30, e1, e2, e3, e4 => by cases e1; cases e2; cases e3; cases e4; exact c30
    | 31, e1, e2, e3, e4 => by cases e1; cases e2; cases e3; cases e4; exact c31
    | 32, e1, e2, e3, e4 => by cases e1; cases e2; cases e3; cases e4; exact c32
    | 33, e1, e2, e3, e4 => by cases e1; cases e2; cases e3; cases e4; exact c33
    | 34, e1, e2, e3, e4 => by cases e1; cases e2; cases e3; cases e4; exact c34
    | 35, e1, e2, e3, e4 => by cases e1; cases e2; cases e3; cases e4; exact c35
    | 36, e1, e2, e3, e4 => by cases e1; cases e2; cases e3; cases e4; exact c36
    | 37, e1, e2, e3, e4 => by cases e1; cases e2; cases e3; cases e4; exact c37
    | 38, e1, e2, e3, e4 => by cases e1; cases e2; cases e3; cases e4; exact c38
    | 39, e1, e2, e3, e4 => by cases e1; cases e2; cases e3; cases e4; exact c39
    | (i + 40), e1, _, _, _ => by simp [P, names] at e1
  bind := by
    intro hd hh
    simp only [fn, List.mem_cons, List.not_mem_nil, or_false] at hh
    rcases hh with rfl | rfl | rfl | rfl | rfl | rfl | rfl | rfl | rfl | rfl | rfl | rfl | rfl | rfl | rfl | rfl | rfl | rfl | rfl | rfl | rfl | rfl | rfl | rfl | rfl | rfl | rfl | rfl | rfl | rfl | rfl | rfl | rfl | rfl | rfl | rfl | rfl | rfl | rfl | rfl
    · exact b0
    · exact b1
    · exact b2
    · exact b3
    · exact b4
    · exact b5
    · exact b6
    · exact b7
    · exact b8
    · exact b9
    · exact b10
    · exact b11
    · exact b12
    · exact b13
    · exact b14
    · exact b15
    · exact b16
    · exact b17
    · exact b18
    · exact b19
    · exact b20
    · exact b21
    · exact b22
    · exact b23
    · exact b24
    · exact b25
    · exact b26
    · exact b27
    · exact b28
    · exact b29
    · exact b30
    · exact b31
    · exact b32
    · exact b33
    · exact b34
    · exact b35
    · exact b36
    · exact b37
    · exact b38
    · exact b39

/-! ### the head -/
def fa : List He.Fa := faOf P
abbrev rowR : PySem.W.OpenRow := PySem.W.OpenLaw.row rw
abbrev hk : PySem.W.Hook := He.hookD 5 fa fn
def ob (s : PySem.W.SharedT) : He.AlD := He.obsDG 5 fa fn (HandSHeadRun.getT s)
theorem ob_eq (s : PySem.W.SharedT) : ob s = hk.obs s.abs := He.obsDG_eq (HandSHeadRun.getT_eq s)
def loose : List Str := (pg.main.scope.names.filterMap fun q => if q.2 == .local && !(q.1 == ("law" : Str)) then some q.1 else none)
theorem run (w : World) : HandSHeadRun.RunEq rowR (PySem.W.view rowR.prog [49]) hk ob 4000 loose w := by
  intro os
  kernel_rfl
open PySem.W PySem.Calls PyProof.Rows in
theorem holds (val : ∀ ns : List Int, ns.length ≤ 63 → ∃ h', callI T 64 39 [.scr (ns.map D.int)] [] = some (.ok (.v (.bl true)) h')) : PySem.Challenge.rw_spanswaps_k02_whole_lots_of_cells.Holds := by
  w_on; o_law
  refine HandSHeadRun.head_any (r := OpenLaw.row PySem.Challenge.rw_spanswaps_k02_whole_lots_of_cells) (q := view (OpenLaw.row PySem.Challenge.rw_spanswaps_k02_whole_lots_of_cells).prog [49]) (H := hk) (ob := ob) (M := 4000) (loose := loose) (d := HandSHeadRun.topDef (OpenLaw.row PySem.Challenge.rw_spanswaps_k02_whole_lots_of_cells).prog 49) (kwd := []) ob_eq
    (by kernel_rfl) (fun s => by kernel_rfl) run (by kernel_rfl) (by kernel_rfl) (by kernel_rfl) (by rfl) (by first | assumption | decide +kernel) (by decide +kernel) ⟨rfl, rfl, rfl, rfl, rfl, by decide +kernel⟩ ?hw ?hc
  case hw => w_witness2
  case hc =>
    refine L2.walk_ofE (l := PySem.Challenge.rw_spanswaps_k02_whole_lots_of_cells) (n := 63) (k := 64) (x := "script") (CX := fun _ _ _ _ _ _ => False) rfl (by decide) (by kernel_rfl) ⟨rfl, by decide, by decide⟩ ?F ?G
    case F =>
      intro w mg fa h Y G hmg0
      obtain ⟨K, KX, c⟩ := Y
      have hmg : mg ("law" : PySem.Str) = some (.ref fa) := by
        have e : (HandSHeadRun.topDef (OpenLaw.row PySem.Challenge.rw_spanswaps_k02_whole_lots_of_cells).prog 49).name = ("law" : PySem.Str) := by kernel_rfl
        rw [← e]
        exact hmg0
      exact law_end ok KX G c (k := 64) (f := 39) (n := 63) rfl rfl hmg val
    case G => exact fun _ _ _ _ z => z
end K02

/-! MP.Pur1: lots of cells, told by spans: plain facts, no program. -/
namespace MP

def In (ps : List (Int × Int)) (c : Int) : Prop := ∃ p ∈ ps, p.1 ≤ c ∧ c < p.1 + p.2
instance (ps : List (Int × Int)) (c : Int) : Decidable (In ps c) := inferInstanceAs (Decidable (∃ p ∈ ps, p.1 ≤ c ∧ c < p.1 + p.2))
theorem in_nil {c : Int} : In [] c ↔ False := by simp [In]
theorem in_cons {p : Int × Int} {ps : List (Int × Int)} {c : Int} : In (p :: ps) c ↔ (p.1 ≤ c ∧ c < p.1 + p.2) ∨ In ps c := by simp [In]
theorem in_app {ps qs : List (Int × Int)} {c : Int} : In (ps ++ qs) c ↔ In ps c ∨ In qs c := by
  unfold In
  constructor
  · rintro ⟨p, hp, q⟩
    rcases List.mem_append.mp hp with h | h
    · exact .inl ⟨p, h, q⟩
    · exact .inr ⟨p, h, q⟩
  · rintro (⟨p, hp, q⟩ | ⟨p, hp, q⟩)
    · exact ⟨p, List.mem_append_left _ hp, q⟩
    · exact ⟨p, List.mem_append_right _ hp, q⟩
theorem in_one {p : Int × Int} {c : Int} : In [p] c ↔ p.1 ≤ c ∧ c < p.1 + p.2 := by simp [In]
theorem in_perm {ps qs : List (Int × Int)} (h : ps.Perm qs) (c : Int) : In ps c ↔ In qs c := by
  unfold In
  constructor
  · rintro ⟨p, hp, q⟩; exact ⟨p, h.mem_iff.mp hp, q⟩
  · rintro ⟨p, hp, q⟩; exact ⟨p, h.mem_iff.mpr hp, q⟩
-- spans far from one another, in sequence
structure Lot (ps : List (Int × Int)) : Prop where
  pos : ∀ p ∈ ps, 0 < p.2
  gap : ps.Pairwise fun p q => p.1 + p.2 < q.1
theorem Lot.nil : Lot [] := ⟨by simp, .nil⟩
theorem Lot.tail {p : Int × Int} {ps : List (Int × Int)} (h : Lot (p :: ps)) : Lot ps := ⟨fun q hq => h.pos q (by simp [hq]), (List.pairwise_cons.mp h.gap).2⟩
theorem Lot.head {p : Int × Int} {ps : List (Int × Int)} (h : Lot (p :: ps)) : 0 < p.2 ∧ ∀ q ∈ ps, p.1 + p.2 < q.1 := ⟨h.pos p (by simp), (List.pairwise_cons.mp h.gap).1⟩
theorem Lot.snoc {p : Int × Int} {ps : List (Int × Int)} (h : Lot ps) (hp : 0 < p.2) (hg : ∀ q ∈ ps, q.1 + q.2 < p.1) : Lot (ps ++ [p]) := by
  refine ⟨fun q hq => ?_, List.pairwise_append.mpr ⟨h.gap, by simp, fun a ha b hb => ?_⟩⟩
  · rcases List.mem_append.mp hq with z | z
    · exact h.pos q z
    · simp only [List.mem_singleton] at z
      rw [z]
      exact hp
  · simp only [List.mem_singleton] at hb
    rw [hb]
    exact hg a ha
theorem Lot.init {p : Int × Int} {ps : List (Int × Int)} (h : Lot (ps ++ [p])) : Lot ps ∧ 0 < p.2 ∧ ∀ q ∈ ps, q.1 + q.2 < p.1 := by
  obtain ⟨a, b, c⟩ := List.pairwise_append.mp h.gap
  exact ⟨⟨fun q hq => h.pos q (by simp [hq]), a⟩, h.pos p (by simp), fun q hq => c q hq p (by simp)⟩
theorem Lot.drop {ps : List (Int × Int)} (h : Lot ps) (n : Nat) : Lot (ps.drop n) := ⟨fun p hp => h.pos p (List.mem_of_mem_drop hp), h.gap.drop⟩
theorem Lot.take {ps : List (Int × Int)} (h : Lot ps) (n : Nat) : Lot (ps.take n) := ⟨fun p hp => h.pos p (List.mem_of_mem_take hp), h.gap.take⟩
-- the cells tell the spans
theorem Lot.uniq : ∀ {ps qs : List (Int × Int)}, Lot ps → Lot qs → (∀ c, In ps c ↔ In qs c) → ps = qs
  | [], [], _, _, _ => rfl
  | [], q :: qs, _, h, e => by
    exfalso
    have := (e q.1).mpr (in_cons.mpr (.inl ⟨Int.le_refl _, by have := h.head.1; omega⟩))
    exact in_nil.mp this
  | p :: ps, [], h, _, e => by
    exfalso
    have := (e p.1).mp (in_cons.mpr (.inl ⟨Int.le_refl _, by have := h.head.1; omega⟩))
    exact in_nil.mp this
  | p :: ps, q :: qs, h, g, e => by
    obtain ⟨h1, h2⟩ := h.head
    obtain ⟨g1, g2⟩ := g.head
    have low : ∀ {p : Int × Int} {ps : List (Int × Int)} {c : Int}, 0 < p.2 → (∀ q ∈ ps, p.1 + p.2 < q.1) → In (p :: ps) c → p.1 ≤ c := fun {p ps c} h1 h2 hc => by
      rcases in_cons.mp hc with z | ⟨r, hr, z⟩
      · exact z.1
      · have := h2 r hr
        omega
    have e1 : p.1 = q.1 := by
      have a := low h1 h2 ((e q.1).mpr (in_cons.mpr (.inl ⟨Int.le_refl _, by omega⟩)))
      have b := low g1 g2 ((e p.1).mp (in_cons.mpr (.inl ⟨Int.le_refl _, by omega⟩)))
      omega
    have out : ∀ {p : Int × Int} {ps : List (Int × Int)}, (∀ q ∈ ps, p.1 + p.2 < q.1) → ¬ In (p :: ps) (p.1 + p.2) := fun {p ps} h2 hc => by
      rcases in_cons.mp hc with z | ⟨r, hr, z⟩
      · omega
      · have := h2 r hr
        omega
    have e2 : p.2 = q.2 := by
      rcases Int.lt_trichotomy p.2 q.2 with z | z | z
      · exact absurd ((e (p.1 + p.2)).mpr (in_cons.mpr (.inl ⟨by omega, by omega⟩))) (out h2)
      · exact z
      · exact absurd ((e (q.1 + q.2)).mp (in_cons.mpr (.inl ⟨by omega, by omega⟩))) (out g2)
    have e3 : p = q := Prod.ext e1 e2
    subst e3
    rw [Lot.uniq h.tail g.tail fun c => ?_]
    have a := e c
    rw [in_cons, in_cons] at a
    by_cases z : p.1 ≤ c ∧ c < p.1 + p.2
    · constructor
      · rintro ⟨r, hr, y⟩
        have := h2 r hr
        omega
      · rintro ⟨r, hr, y⟩
        have := g2 r hr
        omega
    · simpa [z] using a
-- bounds by cells
theorem Lot.bounds {ps : List (Int × Int)} (h : Lot ps) {lo hi : Int} (hb : ∀ c, In ps c → lo ≤ c ∧ c < hi) : ∀ p ∈ ps, lo ≤ p.1 ∧ p.1 + p.2 ≤ hi := fun p hp => by
  have h1 := h.pos p hp
  have a := hb p.1 ⟨p, hp, by omega, by omega⟩
  have b := hb (p.1 + p.2 - 1) ⟨p, hp, by omega, by omega⟩
  omega
theorem Lot.len : ∀ {ps : List (Int × Int)}, Lot ps → ∀ {lo hi : Int}, lo ≤ hi → (∀ p ∈ ps, lo ≤ p.1 ∧ p.1 + p.2 ≤ hi) → (ps.length : Int) ≤ hi - lo
  | [], _, lo, hi, hl, _ => by simp; omega
  | p :: ps, h, lo, hi, hl, hb => by
    obtain ⟨h1, h2⟩ := h.head
    have b := hb p (by simp)
    have := Lot.len h.tail (lo := p.1 + p.2) (hi := hi) b.2 fun q hq => ⟨by have := h2 q hq; omega, (hb q (by simp [hq])).2⟩
    simp only [List.length_cons]
    omega
-- moved
def mv (far : Int) (ps : List (Int × Int)) : List (Int × Int) := ps.map fun p => (p.1 + far, p.2)
theorem in_mv {far : Int} {ps : List (Int × Int)} {c : Int} : In (mv far ps) c ↔ In ps (c - far) := by
  unfold In mv
  constructor
  · rintro ⟨p, hp, q⟩
    obtain ⟨r, hr, rfl⟩ := List.mem_map.mp hp
    simp only at q
    exact ⟨r, hr, by omega, by omega⟩
  · rintro ⟨p, hp, q⟩
    exact ⟨_, List.mem_map.mpr ⟨p, hp, rfl⟩, by simp only; omega, by simp only; omega⟩
theorem Lot.mv {ps : List (Int × Int)} (h : Lot ps) (far : Int) : Lot (mv far ps) := by
  refine ⟨fun p hp => ?_, List.pairwise_map.mpr (h.gap.imp fun {a b} z => by simp only; omega)⟩
  obtain ⟨r, hr, rfl⟩ := List.mem_map.mp hp
  exact h.pos r hr
theorem mv_mv (a b : Int) (ps : List (Int × Int)) : mv a (mv b ps) = mv (b + a) ps := by
  unfold mv
  rw [List.map_map]
  refine List.map_congr_left fun p _ => ?_
  simp only [Function.comp]
  rw [Int.add_assoc]
theorem mv_zero (ps : List (Int × Int)) : mv 0 ps = ps := by
  unfold mv
  simp
theorem mv_len (a : Int) (ps : List (Int × Int)) : (mv a ps).length = ps.length := by simp [mv]

/-! ### single cells -/
def rgI (a n : Int) : List Int := (List.range n.toNat).map fun (k : Nat) => a + (k : Int)
def cells : List (Int × Int) → List Int
  | [] => []
  | p :: ps => rgI p.1 p.2 ++ cells ps
theorem mem_rg {a n c : Int} : c ∈ rgI a n ↔ a ≤ c ∧ c < a + n := by
  unfold rgI
  rw [List.mem_map]
  constructor
  · rintro ⟨k, hk, rfl⟩
    have := List.mem_range.mp hk
    omega
  · rintro ⟨h1, h2⟩
    exact ⟨(c - a).toNat, List.mem_range.mpr (by omega), by omega⟩
theorem rg_len (a n : Int) : (rgI a n).length = n.toNat := by simp [rgI]
theorem mem_cells : ∀ {ps : List (Int × Int)} {c : Int}, c ∈ cells ps ↔ In ps c
  | [], c => by simp [cells, in_nil]
  | p :: ps, c => by rw [cells, List.mem_append, mem_rg, mem_cells, in_cons]
theorem cells_app : ∀ (ps qs : List (Int × Int)), cells (ps ++ qs) = cells ps ++ cells qs
  | [], _ => rfl
  | p :: ps, qs => by rw [List.cons_append, cells, cells, cells_app, List.append_assoc]
theorem cells_len : ∀ {ps : List (Int × Int)}, (∀ p ∈ ps, 0 ≤ p.2) → ((cells ps).length : Int) = (ps.map (·.2)).sum
  | [], _ => rfl
  | p :: ps, h => by
    have h1 := h p (by simp)
    have h2 := cells_len (ps := ps) fun q hq => h q (by simp [hq])
    rw [cells, List.length_append, rg_len, List.map_cons, List.sum_cons]
    omega
theorem rg_sorted (a n : Int) : (rgI a n).Pairwise (· < ·) := by
  unfold rgI
  rw [List.pairwise_map]
  exact List.pairwise_lt_range.imp fun {i j} h => by omega
theorem cells_sorted : ∀ {ps : List (Int × Int)}, Lot ps → (cells ps).Pairwise (· < ·)
  | [], _ => .nil
  | p :: ps, h => by
    obtain ⟨h1, h2⟩ := h.head
    refine List.pairwise_append.mpr ⟨rg_sorted _ _, cells_sorted h.tail, fun a ha b hb => ?_⟩
    have := mem_rg.mp ha
    obtain ⟨q, hq, z⟩ := mem_cells.mp hb
    have := h2 q hq
    omega
-- a cell more, in sequence
def addC (f : List (Int × Int)) (c : Int) : List (Int × Int) := match f.getLast? with
  | some p => if p.1 + p.2 = c then f.dropLast ++ [(p.1, p.2 + 1)] else f ++ [(c, 1)]
  | none => f ++ [(c, 1)]
theorem snoc_of {α : Type} {f : List α} {p : α} (h : f.getLast? = some p) : f = f.dropLast ++ [p] := by
  have hn : f ≠ [] := by rintro rfl; cases h
  rw [List.getLast?_eq_some_getLast hn, Option.some.injEq] at h
  rw [← h, List.dropLast_concat_getLast]
theorem addC_lot {f : List (Int × Int)} {c : Int} (h : Lot f) (hc : ∀ d, In f d → d < c) : Lot (addC f c) ∧ ∀ d, In (addC f c) d ↔ In f d ∨ d = c := by
  unfold addC
  cases e : f.getLast? with
  | none =>
    have e' : f = [] := List.getLast?_eq_none_iff.mp e
    subst e'
    refine ⟨Lot.nil.snoc (show (0 : Int) < 1 by decide) (by simp), fun d => ?_⟩
    rw [in_app, in_one]
    simp only
    constructor
    · rintro (z | z)
      · exact .inl z
      · exact .inr (by omega)
    · rintro (z | z)
      · exact .inl z
      · exact .inr (by omega)
  | some p =>
    have ef := snoc_of e
    rw [ef] at h
    obtain ⟨i1, i2, i3⟩ := h.init
    have pe : ∀ d, In f d ↔ In f.dropLast d ∨ (p.1 ≤ d ∧ d < p.1 + p.2) := fun d => by
      conv => lhs; rw [ef]
      rw [in_app, in_one]
    have lst : p.1 + p.2 - 1 < c := hc _ ((pe _).mpr (.inr ⟨by omega, by omega⟩))
    simp only
    by_cases hz : p.1 + p.2 = c
    · rw [if_pos hz]
      refine ⟨i1.snoc (by simp only; omega) i3, fun d => ?_⟩
      rw [in_app, in_one, pe d]
      simp only
      constructor
      · rintro (z | z)
        · exact .inl (.inl z)
        · by_cases y : d = c
          · exact .inr y
          · exact .inl (.inr (by omega))
      · rintro ((z | z) | z)
        · exact .inl z
        · exact .inr (by omega)
        · exact .inr (by omega)
    · rw [if_neg hz]
      rw [← ef] at h
      refine ⟨h.snoc (show (0 : Int) < 1 by decide) fun q hq => ?_, fun d => ?_⟩
      · have h1 := h.pos q hq
        rw [ef] at hq
        rcases List.mem_append.mp hq with z | z
        · have := i3 q z
          omega
        · simp only [List.mem_singleton] at z
          subst z
          omega
      · rw [in_app, in_one]
        simp only
        constructor
        · rintro (z | z)
          · exact .inl z
          · exact .inr (by omega)
        · rintro (z | z)
          · exact .inl z
          · exact .inr (by omega)
def leanC (cs : List Int) : List (Int × Int) := cs.foldl addC []
theorem leanC_go : ∀ {cs : List Int} {f : List (Int × Int)}, Lot f → cs.Pairwise (· < ·) → (∀ c ∈ cs, ∀ d, In f d → d < c) → Lot (cs.foldl addC f) ∧ ∀ d, In (cs.foldl addC f) d ↔ In f d ∨ d ∈ cs
  | [], f, h, _, _ => ⟨h, fun d => by simp⟩
  | c :: cs, f, h, hs, hc => by
    obtain ⟨a, b⟩ := List.pairwise_cons.mp hs
    obtain ⟨l1, l2⟩ := addC_lot h (hc c (by simp))
    obtain ⟨m1, m2⟩ := leanC_go l1 b fun c' hc' d hd => by
      rcases (l2 d).mp hd with z | z
      · exact hc c' (by simp [hc']) d z
      · rw [z]
        exact a c' hc'
    refine ⟨m1, fun d => ?_⟩
    rw [List.foldl_cons, m2 d, l2 d, List.mem_cons, or_assoc]
theorem leanC_lot {cs : List Int} (hs : cs.Pairwise (· < ·)) : Lot (leanC cs) ∧ ∀ d, In (leanC cs) d ↔ d ∈ cs := by
  obtain ⟨a, b⟩ := leanC_go Lot.nil hs (by intro c _ d hd; exact (in_nil.mp hd).elim)
  exact ⟨a, fun d => by rw [leanC, b d, in_nil, false_or]⟩
-- strictly rising lists with the same members
theorem rise_uniq : ∀ {l m : List Int}, l.Pairwise (· < ·) → m.Pairwise (· < ·) → (∀ c, c ∈ l ↔ c ∈ m) → l = m
  | [], [], _, _, _ => rfl
  | [], b :: m, _, _, e => absurd ((e b).mpr (by simp)) (by simp)
  | a :: l, [], _, _, e => absurd ((e a).mp (by simp)) (by simp)
  | a :: l, b :: m, h, g, e => by
    obtain ⟨h1, h2⟩ := List.pairwise_cons.mp h
    obtain ⟨g1, g2⟩ := List.pairwise_cons.mp g
    have e1 : a = b := by
      rcases List.mem_cons.mp ((e a).mp (by simp)) with z | z
      · exact z
      · rcases List.mem_cons.mp ((e b).mpr (by simp)) with y | y
        · exact y.symm
        · have := h1 b y
          have := g1 a z
          omega
    subst e1
    rw [rise_uniq h2 g2 fun c => ?_]
    have q := e c
    rw [List.mem_cons, List.mem_cons] at q
    by_cases z : c = a
    · subst z
      constructor
      · intro y; have := h1 c y; omega
      · intro y; have := g1 c y; omega
    · simpa [z] using q
theorem rise_len : ∀ {l : List Int}, l.Pairwise (· < ·) → ∀ {lo hi : Int}, lo ≤ hi → (∀ c ∈ l, lo ≤ c ∧ c < hi) → (l.length : Int) ≤ hi - lo
  | [], _, lo, hi, hl, _ => by simp; omega
  | a :: l, h, lo, hi, hl, hb => by
    obtain ⟨h1, h2⟩ := List.pairwise_cons.mp h
    have b := hb a (by simp)
    have := rise_len h2 (lo := a + 1) (hi := hi) (by omega) fun c hc => ⟨by have := h1 c hc; omega, (hb c (by simp [hc])).2⟩
    simp only [List.length_cons]
    omega
-- sorted, no two alike
theorem sort_rise {ks : List Int} (h : ks.Nodup) : (sortBy leI ks).Pairwise (· < ·) := by
  have p := sortBy_perm leI ks
  have s := sortBy_sorted leI_tot leI_tr ks
  have n : (sortBy leI ks).Nodup := p.nodup_iff.mpr h
  refine List.Pairwise.imp₂ (fun a b h1 h2 => ?_) s n
  simp only [leI, decide_eq_true_eq] at h1
  omega
end MP

/-! What the law's defs compute. -/
namespace K02
open MP

def MOST : Int := 10 ^ 61
theorem g0 : T.get 0 = some (.int MOST) := by
  unfold MOST
  rfl
theorem g1 : T.get 1 = some (.int 5000) := rfl
theorem MOST_pos : 10 ^ 60 + 1000 < MOST := by decide +kernel
theorem s0 (k : Nat) (i : Int) (h : Heap) : callI T (k + 1) 0 [.int i] h = some (.ok (.v (.bl true)) h) := by
  rw [call_of t0 rfl]
  simp [d0]
  exact gc_bl _ _
theorem s1 (k : Nat) (v lo hi : Int) (h : Heap) : callI T (k + 2) 1 [.int v, .int lo, .int hi] h = some (.ok (.v (.bl (decide (lo ≤ v ∧ v ≤ hi)))) h) := by
  rw [call_of t1 rfl]
  by_cases c : lo ≤ v
  · simp [d1, s0, c]
    exact gc_bl _ _
  · simp [d1, s0, c]
    exact gc_bl _ _
theorem s2 (k : Nat) (a b : Int) (h : Heap) : callI T (k + 1) 2 [.tup [.int a, .int b]] h = some (.ok (.v (.int (a + b))) h) := by
  rw [call_of t2 rfl]
  simp [d2]
  exact gc_int _ _
def SpOk (p : Int × Int) : Prop := 0 ≤ p.1 ∧ 1 ≤ p.2 ∧ p.1 + p.2 ≤ MOST
theorem s3 (k : Nat) (p : Int × Int) (h : Heap) (hp : SpOk p) : callI T (k + 3) 3 [pairD p] h = some (.ok (.v (.bl true)) h) := by
  obtain ⟨h1, h2, h3⟩ := hp
  have c1 : (0 ≤ p.1 ∧ p.1 ≤ MOST) := ⟨h1, by omega⟩
  have c2 : (1 ≤ p.2 ∧ p.2 ≤ MOST) := ⟨h2, by omega⟩
  rw [call_of t3 rfl]
  simp [d3, pairD, s1, s2, g0, c1, c2, h3, look]
  exact gc_bl _ _
-- spans as they stand
abbrev sp (ps : List (Int × Int)) : List D := ps.map pairD
theorem cl_sp (n : Nat) (ps : List (Int × Int)) : clL n (sp ps) = true := by
  induction ps with
  | nil => rfl
  | cons p ps ih => simp only [List.map_cons, clL, pairD, cl, ih, Bool.and_self]
theorem dok_sp (n : Nat) (ps : List (Int × Int)) : dokL (n + 1) (sp ps) = true := by
  induction ps with
  | nil => simp
  | cons p ps ih => simp [pairD]; simpa [pairD] using ih
theorem eqD_sp : ∀ (ps qs : List (Int × Int)), eqDL (sp ps) (sp qs) = decide (ps = qs)
  | [], [] => by simp
  | [], _ :: _ => by simp
  | _ :: _, [] => by simp
  | p :: ps, q :: qs => by
    have := eqD_sp ps qs
    simp only [sp] at this
    simp only [List.map_cons, eqDL_cons, this, List.cons.injEq, Bool.decide_and]
    congr 1
    obtain ⟨a, b⟩ := p
    obtain ⟨c, d⟩ := q
    simp [pairD]
structure LotB (ps : List (Int × Int)) : Prop extends Lot ps where
  ok : ∀ p ∈ ps, SpOk p
  few : ps.length ≤ 5000
theorem s4 (k : Nat) (ps : List (Int × Int)) (h : Heap) (hp : ∀ p ∈ ps, SpOk p) (hl : ps.length ≤ 5000) : callI T (k + 4) 4 [.tup (sp ps)] h = some (.ok (.v (.bl true)) h) := by
  rw [call_of t4 rfl]
  have hl2 : ps.length ≤ 16777216 := by omega
  have hl3 : (ps.length : Int) ≤ 5000 := by omega
  have a : ∀ x ∈ sp ps, lcF (sp ps, none) (.slot 1) (wipes [some (.tup (sp ps)), none] [1]) (tests (callI T (k + 3)) T.get []) (eval (callI T (k + 3)) T.get e4_1) x h = some (.ok (some (.bl true)) h) := fun x hx => by
    obtain ⟨p, hpp, rfl⟩ := List.mem_map.mp hx
    simp [lcF, wipes, s3 k p h (hp p hpp), still_none, e4_1]
  have b := lcGo_map (fun _ => some (.bl true)) _ a
  rw [List.filterMap_eq_map'] at b
  have bb : bools ((sp ps).map fun _ => D.bl true) = some ((sp ps).map fun _ => true) := bools_mapf _ _ _ fun _ => rfl
  simp only [List.map_map] at bb b
  simp only [sp, List.map_map] at b
  simp [d4, g1, b, hl2, hl3, bi, bb, all_tt]
  exact gc_bl _ _
theorem zip_sp : ∀ (ps : List (Int × Int)), List.zipWith (fun x y => D.tup [x, y]) (ps.map pairD) (ps.map pairD).tail = (ps.zip ps.tail).map fun q => D.tup [pairD q.1, pairD q.2]
  | [] => rfl
  | [p] => rfl
  | p :: q :: ps => by
    have := zip_sp (q :: ps)
    simp only [List.map_cons, List.tail_cons, List.zipWith_cons_cons, List.zip_cons_cons] at this ⊢
    rw [this]
theorem zip_gap : ∀ {ps : List (Int × Int)}, ps.Pairwise (fun p q => p.1 + p.2 < q.1) → ∀ q ∈ ps.zip ps.tail, q.1.1 + q.1.2 < q.2.1
  | [], _, q, h => by simp at h
  | [p], _, q, h => by simp at h
  | p :: r :: ps, g, q, h => by
    obtain ⟨g1, g2⟩ := List.pairwise_cons.mp g
    simp only [List.tail_cons, List.zip_cons_cons, List.mem_cons] at h
    rcases h with rfl | h
    · exact g1 r (by simp)
    · exact zip_gap g2 q (by simpa using h)
@[simp] theorem cut_1 (l : List D) : cutZ l (some 1) none = l.tail := by
  unfold cutZ cutAt
  simp
  cases l with
  | nil => rfl
  | cons a l => simp
theorem s14 (k : Nat) (ps : List (Int × Int)) (h : Heap) (hp : LotB ps) : callI T (k + 5) 14 [.tup (sp ps)] h = some (.ok (.v (.bl true)) h) := by
  rw [call_of t14 rfl]
  have a : ∀ x ∈ (ps.zip ps.tail).map fun q => D.tup [pairD q.1, pairD q.2], lcF ((ps.zip ps.tail).map fun q => D.tup [pairD q.1, pairD q.2], none) (.tup [.slot 1, .slot 2]) (wipes [some (.tup (sp ps)), none, none] [1, 2]) (tests (callI T (k + 4)) T.get []) (eval (callI T (k + 4)) T.get e14_1) x h = some (.ok (some (.bl true)) h) := fun x hx => by
    obtain ⟨q, hq, rfl⟩ := List.mem_map.mp hx
    have c := zip_gap hp.gap q hq
    simp [lcF, wipes, still_none, e14_1, pairD, s2, c]
  have b := lcGo_map (fun _ => some (.bl true)) _ a
  rw [List.filterMap_eq_map', List.map_map] at b
  have bb : bools ((ps.zip ps.tail).map ((fun _ => D.bl true) ∘ fun q => D.tup [pairD q.1, pairD q.2])) = some ((ps.zip ps.tail).map fun _ => true) := bools_mapf _ _ _ fun _ => rfl
  have hz2 : ps.length ≤ 16777217 := by have := hp.few; omega
  simp [d14, s4 k ps h hp.ok hp.few, zip_sp, b, bb, bi, all_tt, hz2]
  exact gc_bl _ _
theorem s15 (k : Nat) (ps : List (Int × Int)) (h : Heap) (hp : LotB ps) : callI T (k + 6) 15 [.tup (sp ps)] h = some (.ok (.v .non) h) := by
  rw [call_of t15 rfl]
  simp [d15, s14 k ps h hp]
  exact gc_non _
theorem s16 (k : Nat) (ps qs : List (Int × Int)) (h : Heap) (hp : LotB ps) (hq : LotB qs) : callI T (k + 7) 16 [.tup (sp ps), .tup (sp qs)] h = some (.ok (.v .non) h) := by
  rw [call_of t16 rfl]
  simp [d16, s15 k ps h hp, s15 k qs h hq]
  exact gc_non _
theorem s17 (k : Nat) (c : Int) (h : Heap) (h1 : 0 ≤ c) (h2 : c ≤ MOST) : callI T (k + 3) 17 [.int c] h = some (.ok (.v .non) h) := by
  rw [call_of t17 rfl]
  have b : 0 ≤ c ∧ c ≤ MOST := ⟨h1, h2⟩
  simp [d17, s1, g0, b]
  exact gc_non _
theorem s18 (k : Nat) (l : List D) (h : Heap) (hl : l.length ≤ 5000) (hc : clL h.length l = true) : callI T (k + 1) 18 [.tup l] h = some (.ok (.v (.tup l)) h) := by
  rw [call_of t18 rfl]
  have b : ¬ (5000 : Int) < l.length := by omega
  have b2 : l.length ≤ 16777216 := by omega
  simp [d18, g1, b, bi, b2]
  exact gc_tup hc
theorem s18l (k : Nat) (l : List D) (h : Heap) (hl : l.length ≤ 5000) (hc : clL h.length l = true) : callI T (k + 1) 18 [.lst l] h = some (.ok (.v (.tup l)) h) := by
  rw [call_of t18 rfl]
  have b : ¬ (5000 : Int) < l.length := by omega
  have b2 : l.length ≤ 16777216 := by omega
  simp [d18, g1, b, bi, b2]
  exact gc_tup hc
end K02

/-! What the law's defs compute: lots. -/
namespace K02
open MP

-- the last of a list that is changed
theorem last_or (f : List (Int × Int)) : f = [] ∨ ∃ g p, f = g ++ [p] := by
  cases e : f.getLast? with
  | none => exact .inl (List.getLast?_eq_none_iff.mp e)
  | some p => exact .inr ⟨_, _, snoc_of e⟩
@[simp] theorem atN_last (n : Nat) : atN (n + 1) (-1) = some n := by
  unfold atN
  rw [if_neg (by decide), if_pos (by omega)]
  congr 1
  omega
@[simp] theorem eqDL_sn (l : List D) (x : D) : eqDL (l ++ [x]) [] = false := by cases l <;> rfl
@[simp] theorem one_le' (n : Nat) : (1 : Int) ≤ (n : Int) + 1 := by omega
@[simp] theorem back_n (n : Nat) : (-1 + ((n : Int) + 1)).toNat = n := by omega
@[simp] theorem set_map {α β : Type} (f : α → β) (g : List α) (x y : β) : (List.map f g ++ [x]).set g.length y = List.map f g ++ [y] := by
  have := set_end (g.map f) x y
  rwa [List.length_map] at this
theorem gc_tupA {h x : Heap} {l : List D} (c : clL h.length l = true) : gc h (.v (.tup l)) (h ++ x) = some (.ok (.v (.tup l)) h) := by
  rw [gc_v2 (oldOk_app _ _) rfl (show cl h.length (.tup l) = true from c), take_end]
theorem gc_locA {h : Heap} {l : List D} (c : clL h.length l = true) : gc h (.v (.loc h.length)) (h ++ [.lst l]) = some (.ok (.newL l) h) := by
  rw [gc_loc2 (l := l) (oldOk_app _ _) (Nat.le_refl _) (by simp) c, take_end]
theorem sortD_sp (ps : List (Int × Int)) : sortD (sp ps) = some (sp (sortBy leP ps)) := by
  have e : ∀ ps : List (Int × Int), pairs (sp ps) = some ps := fun ps => by
    induction ps with
    | nil => rfl
    | cons p ps ih => simp only [List.map_cons, pairD, pairs]; simp only [sp] at ih; rw [ih]; rfl
  unfold sortD
  cases ps with
  | nil => rfl
  | cons p ps =>
    have : MP.intsD (sp (p :: ps)) = none := rfl
    rw [this, e]
-- one span more, by their beginnings
def addS (f : List (Int × Int)) (p : Int × Int) : List (Int × Int) := match f.getLast? with
  | some q => if p.1 ≤ q.1 + q.2 then f.dropLast ++ [(q.1, (if q.1 + q.2 > p.1 + p.2 then q.1 + q.2 else p.1 + p.2) - q.1)] else f ++ [p]
  | none => f ++ [p]
theorem addS_len (f : List (Int × Int)) (p : Int × Int) : (addS f p).length ≤ f.length + 1 := by
  unfold addS
  split
  · split
    · simp only [List.length_append, List.length_dropLast, List.length_cons, List.length_nil]
      omega
    · simp
  · simp
theorem body5 (k : Nat) (f : List (Int × Int)) (p : Int × Int) (x z1 z2 z3 : Option D) (h : Heap) (hf : f.length < 16777216) : ∃ z, execs (callI T (k + 1)) T.get b5_1 [x, some (.loc h.length), some (.int p.1), some (.int p.2), z3] (h ++ [.lst (sp f)]) = some (.ok (.nx [x, some (.loc h.length), some (.int p.1), some (.int p.2), z]) (h ++ [.lst (sp (addS f p))])) := by
  rcases last_or f with rfl | ⟨g, q, rfl⟩
  · refine ⟨z3, ?_⟩
    simp [b5_1, addS, look, pairD]
  · have e : addS (g ++ [q]) p = if p.1 ≤ q.1 + q.2 then g ++ [(q.1, (if q.1 + q.2 > p.1 + p.2 then q.1 + q.2 else p.1 + p.2) - q.1)] else g ++ [q] ++ [p] := by
      unfold addS
      simp
    have hd := dok_sp 58 (g ++ [q])
    have hg : g.length + 1 < 16777216 := by simpa using hf
    rw [e]
    by_cases c : p.1 ≤ q.1 + q.2
    · refine ⟨some (.int (if q.1 + q.2 > p.1 + p.2 then q.1 + q.2 else p.1 + p.2)), ?_⟩
      simp [sp, pairD] at hd
      simp [b5_1, look, pairD, s2, c, hd]
    · refine ⟨z3, ?_⟩
      simp [sp, pairD] at hd
      simp [b5_1, look, pairD, s2, c, hd, hg]
theorem addS_lot {f : List (Int × Int)} {p : Int × Int} (h : Lot f) (hp : 0 < p.2) (hf : ∀ q ∈ f, q.1 ≤ p.1) : Lot (addS f p) ∧ (∀ d, In (addS f p) d ↔ In f d ∨ (p.1 ≤ d ∧ d < p.1 + p.2)) ∧ ∀ q ∈ addS f p, q.1 ≤ p.1 := by
  rcases last_or f with rfl | ⟨g, q, rfl⟩
  · refine ⟨Lot.nil.snoc hp (by simp), fun d => ?_, fun q hq => ?_⟩
    · show In [p] d ↔ _
      rw [in_one, in_nil, false_or]
    · have : q = p := by simpa [addS] using hq
      rw [this]
      exact Int.le_refl _
  · have e : addS (g ++ [q]) p = if p.1 ≤ q.1 + q.2 then g ++ [(q.1, (if q.1 + q.2 > p.1 + p.2 then q.1 + q.2 else p.1 + p.2) - q.1)] else g ++ [q] ++ [p] := by
      unfold addS
      simp
    obtain ⟨i1, i2, i3⟩ := h.init
    have hq := hf q (by simp)
    rw [e]
    split
    · rename_i c
      generalize hm : (if q.1 + q.2 > p.1 + p.2 then q.1 + q.2 else p.1 + p.2) = m
      have hm1 : q.1 + q.2 ≤ m ∧ p.1 + p.2 ≤ m ∧ (m = q.1 + q.2 ∨ m = p.1 + p.2) := by
        rw [← hm]
        split <;> omega
      refine ⟨i1.snoc (by simp only; omega) i3, fun d => ?_, fun r hr => ?_⟩
      · rw [in_app, in_one, in_app, in_one, or_assoc]
        simp only
        have : (q.1 ≤ d ∧ d < q.1 + (m - q.1)) ↔ ((q.1 ≤ d ∧ d < q.1 + q.2) ∨ (p.1 ≤ d ∧ d < p.1 + p.2)) := by omega
        rw [this]
      · rcases List.mem_append.mp hr with z | z
        · exact hf r (by simp [z])
        · simp only [List.mem_singleton] at z
          rw [z]
          exact hq
    · rename_i c
      refine ⟨h.snoc hp fun r hr => ?_, fun d => ?_, fun r hr => ?_⟩
      · rcases List.mem_append.mp hr with z | z
        · have := i3 r z
          omega
        · simp only [List.mem_singleton] at z
          subst z
          omega
      · rw [in_app, in_one]
      · rcases List.mem_append.mp hr with z | z
        · exact hf r z
        · simp only [List.mem_singleton] at z
          rw [z]
          exact Int.le_refl _
def leanS (ps : List (Int × Int)) : List (Int × Int) := (sortBy leP ps).foldl addS []
theorem foldS : ∀ {ps f : List (Int × Int)}, Lot f → (∀ p ∈ ps, 0 < p.2) → ps.Pairwise (fun p q => p.1 ≤ q.1) → (∀ p ∈ ps, ∀ q ∈ f, q.1 ≤ p.1) → Lot (ps.foldl addS f) ∧ ∀ d, In (ps.foldl addS f) d ↔ In f d ∨ In ps d
  | [], f, h, _, _, _ => ⟨h, fun d => by simp [in_nil]⟩
  | p :: ps, f, h, hp, hs, hf => by
    obtain ⟨a, b⟩ := List.pairwise_cons.mp hs
    obtain ⟨l1, l2, l3⟩ := addS_lot h (hp p (by simp)) (hf p (by simp))
    obtain ⟨m1, m2⟩ := foldS l1 (fun q hq => hp q (by simp [hq])) b fun q hq r hr => Int.le_trans (l3 r hr) (a q hq)
    refine ⟨m1, fun d => ?_⟩
    rw [List.foldl_cons, m2 d, l2 d, in_cons, or_assoc]
theorem leanS_lot {ps : List (Int × Int)} (hp : ∀ p ∈ ps, 0 < p.2) : Lot (leanS ps) ∧ ∀ d, In (leanS ps) d ↔ In ps d := by
  have pm := sortBy_perm leP ps
  obtain ⟨a, b⟩ := foldS (ps := sortBy leP ps) Lot.nil (fun p h => hp p (pm.mem_iff.mp h)) ((sortBy_sorted leP_tot leP_tr ps).imp fun {a b} h => by rw [leP_iff] at h; omega) (by intro p _ q hq; simp at hq)
  exact ⟨a, fun d => by rw [leanS, b d, in_nil, false_or]; exact in_perm pm d⟩
theorem foldS_len : ∀ (ps f : List (Int × Int)), (ps.foldl addS f).length ≤ f.length + ps.length
  | [], f => by simp
  | p :: ps, f => by
    have := foldS_len ps (addS f p)
    have := addS_len f p
    simp only [List.foldl_cons, List.length_cons]
    omega
theorem take_snoc {α β : Type} (step : β → α → β) (l : List α) (b : β) {i : Nat} {x : α} (hx : l[i]? = some x) : (l.take (i + 1)).foldl step b = step ((l.take i).foldl step b) x := by
  rw [List.take_add_one, hx]
  simp
theorem sp_get {ps : List (Int × Int)} {i : Nat} {x : D} (h : (sp ps)[i]? = some x) : ∃ p, ps[i]? = some p ∧ x = .tup [.int p.1, .int p.2] := by
  rw [List.getElem?_map] at h
  cases c : ps[i]? with
  | none => rw [c] at h; cases h
  | some p =>
    rw [c] at h
    cases h
    exact ⟨p, rfl, rfl⟩
theorem s5 (k : Nat) (ps : List (Int × Int)) (h : Heap) (hl : ps.length < 16777216) : callI T (k + 2) 5 [.tup (sp ps)] h = some (.ok (.v (.tup (sp (leanS ps)))) h) := by
  rw [call_of t5 rfl]
  obtain ⟨g', h', e, q1, q2⟩ := forGo_go (its := (sp (sortBy leP ps), none)) (f := forF (.tup [.slot 2, .slot 3]) (execs (callI T (k + 1)) T.get b5_1)) (g := [some (.tup (sp ps)), some (.loc h.length), none, none, none]) (h := h ++ [.lst (sp [])])
    (fun i g h1 => (∃ z1 z2 z3, g = [some (.tup (sp ps)), some (.loc h.length), z1, z2, z3]) ∧ h1 = h ++ [.lst (sp (((sortBy leP ps).take i).foldl addS []))]) ⟨⟨none, none, none, rfl⟩, by simp⟩ (by
      rintro i x g h1 hx ⟨⟨z1, z2, z3, rfl⟩, rfl⟩
      obtain ⟨p, hp, rfl⟩ := sp_get hx
      have hlen := foldS_len ((sortBy leP ps).take i) []
      have hl2 := (sortBy_perm leP ps).length_eq
      obtain ⟨z, e⟩ := body5 k (((sortBy leP ps).take i).foldl addS []) p (some (.tup (sp ps))) z1 z2 z3 h (by simp only [List.length_nil, List.length_take] at hlen; omega)
      rw [take_snoc _ _ _ hp]
      refine ⟨_, _, ?_, still_none _ _, ⟨some (.int p.1), some (.int p.2), z, rfl⟩, rfl⟩
      simp only [forF, assign, assigns, List.set_cons_zero, List.set_cons_succ]
      exact e)
  obtain ⟨z1, z2, z3, rfl⟩ := q1
  subst q2
  simp only [List.take_length, List.length_map] at e
  have hle : (leanS ps).length ≤ 16777216 := by
    have := foldS_len (sortBy leP ps) []
    have hl2 := (sortBy_perm leP ps).length_eq
    simp only [List.length_nil] at this
    unfold leanS
    omega
  have ee : (sortBy leP ps).foldl addS [] = leanS ps := rfl
  simp only [ee] at e
  have sd := sortD_sp ps
  simp only [sp, List.map_nil] at sd e
  simp [d5, bi, sp, sd, e, hle]
  exact gc_tupA (cl_sp _ _)
end K02

/-! What the law's defs compute: shared cells. -/
namespace K02
open MP
theorem drop_at {α : Type} {l : List α} {i : Nat} {a : α} (e : l[i]? = some a) : l.drop i = a :: l.drop (i + 1) := by
  obtain ⟨hi, rfl⟩ := List.getElem?_eq_some_iff.mp e
  exact List.drop_eq_getElem_cons hi
def mx (i j : Int) : Int := if j > i then j else i
def mn (i j : Int) : Int := if j < i then j else i
theorem mx_or (i j : Int) : i ≤ mx i j ∧ j ≤ mx i j ∧ (mx i j = i ∨ mx i j = j) := by unfold mx; split <;> omega
theorem mn_or (i j : Int) : mn i j ≤ i ∧ mn i j ≤ j ∧ (mn i j = i ∨ mn i j = j) := by unfold mn; split <;> omega
structure ShI (one other : List (Int × Int)) (i j : Nat) (f : List (Int × Int)) : Prop where
  lot : Lot f
  tell : ∀ c, (In one c ∧ In other c) ↔ In f c ∨ (In (one.drop i) c ∧ In (other.drop j) c)
  far : ∀ p ∈ f, ∀ a ∈ one.drop i, ∀ b ∈ other.drop j, p.1 + p.2 < mx a.1 b.1
  few : f.length ≤ i + j
def shF (a b : Int × Int) (f : List (Int × Int)) : List (Int × Int) := if mx a.1 b.1 < mn (a.1 + a.2) (b.1 + b.2) then f ++ [(mx a.1 b.1, mn (a.1 + a.2) (b.1 + b.2) - mx a.1 b.1)] else f
theorem sh_f {one other : List (Int × Int)} (h1 : Lot one) (h2 : Lot other) {i j : Nat} {f : List (Int × Int)} (I : ShI one other i j f) {a b : Int × Int} (ea : one[i]? = some a) (eb : other[j]? = some b) :
    Lot (shF a b f) ∧ (∀ c, In (shF a b f) c ↔ In f c ∨ (a.1 ≤ c ∧ c < a.1 + a.2 ∧ b.1 ≤ c ∧ c < b.1 + b.2)) ∧ (∀ p ∈ shF a b f, p ∈ f ∨ p.1 + p.2 = mn (a.1 + a.2) (b.1 + b.2)) ∧ (shF a b f).length ≤ i + j + 1 := by
  have da := drop_at ea
  have db := drop_at eb
  have m1 := mx_or a.1 b.1
  have m2 := mn_or (a.1 + a.2) (b.1 + b.2)
  have hf := I.few
  unfold shF
  split
  · rename_i c
    refine ⟨I.lot.snoc (by simp only; omega) fun q hq => I.far q hq a (by rw [da]; simp) b (by rw [db]; simp), fun d => ?_, fun p hp => ?_, by simp; omega⟩
    · rw [in_app, in_one]
      simp only
      have : (mx a.1 b.1 ≤ d ∧ d < mx a.1 b.1 + (mn (a.1 + a.2) (b.1 + b.2) - mx a.1 b.1)) ↔ (a.1 ≤ d ∧ d < a.1 + a.2 ∧ b.1 ≤ d ∧ d < b.1 + b.2) := by omega
      rw [this]
    · rcases List.mem_append.mp hp with z | z
      · exact .inl z
      · simp only [List.mem_singleton] at z
        subst z
        exact .inr (by simp only; omega)
  · rename_i c
    refine ⟨I.lot, fun d => ?_, fun p hp => .inl hp, by omega⟩
    constructor
    · exact .inl
    · rintro (z | z)
      · exact z
      · omega
theorem sh_a {one other : List (Int × Int)} (h1 : Lot one) (h2 : Lot other) {i j : Nat} {f : List (Int × Int)} (I : ShI one other i j f) {a b : Int × Int} (ea : one[i]? = some a) (eb : other[j]? = some b) (hc : a.1 + a.2 < b.1 + b.2) : ShI one other (i + 1) j (shF a b f) := by
  have da := drop_at ea
  have db := drop_at eb
  have m2 := mn_or (a.1 + a.2) (b.1 + b.2)
  obtain ⟨l1, l2, l3, l4⟩ := sh_f h1 h2 I ea eb
  have L1 := h1.drop i
  have L2 := h2.drop j
  rw [da] at L1
  rw [db] at L2
  obtain ⟨a1, a2⟩ := L1.head
  obtain ⟨b1, b2⟩ := L2.head
  refine ⟨l1, fun c => ?_, fun p hp x hx y hy => ?_, by omega⟩
  · rw [I.tell c, l2 c, da, db, in_cons, in_cons]
    constructor
    · rintro (z | ⟨z | z, y⟩)
      · exact .inl (.inl z)
      · rcases y with y | ⟨q, hq, y⟩
        · exact .inl (.inr (by omega))
        · have := b2 q hq
          omega
      · exact .inr ⟨z, y⟩
    · rintro ((z | z) | ⟨z, y⟩)
      · exact .inl z
      · exact .inr ⟨.inl (by omega), .inl (by omega)⟩
      · exact .inr ⟨.inr z, y⟩
  · rcases l3 p hp with z | z
    · exact I.far p z x (by rw [da]; simp [hx]) y hy
    · have := a2 x hx
      have := mx_or x.1 y.1
      omega
theorem sh_b {one other : List (Int × Int)} (h1 : Lot one) (h2 : Lot other) {i j : Nat} {f : List (Int × Int)} (I : ShI one other i j f) {a b : Int × Int} (ea : one[i]? = some a) (eb : other[j]? = some b) (hc : ¬ a.1 + a.2 < b.1 + b.2) : ShI one other i (j + 1) (shF a b f) := by
  have da := drop_at ea
  have db := drop_at eb
  have m2 := mn_or (a.1 + a.2) (b.1 + b.2)
  obtain ⟨l1, l2, l3, l4⟩ := sh_f h1 h2 I ea eb
  have L1 := h1.drop i
  have L2 := h2.drop j
  rw [da] at L1
  rw [db] at L2
  obtain ⟨a1, a2⟩ := L1.head
  obtain ⟨b1, b2⟩ := L2.head
  refine ⟨l1, fun c => ?_, fun p hp x hx y hy => ?_, by omega⟩
  · rw [I.tell c, l2 c, da, db, in_cons, in_cons]
    constructor
    · rintro (z | ⟨y, z | z⟩)
      · exact .inl (.inl z)
      · rcases y with y | ⟨q, hq, y⟩
        · exact .inl (.inr (by omega))
        · have := a2 q hq
          omega
      · exact .inr ⟨y, z⟩
    · rintro ((z | z) | ⟨y, z⟩)
      · exact .inl z
      · exact .inr ⟨.inl (by omega), .inl (by omega)⟩
      · exact .inr ⟨y, .inr z⟩
  · rcases l3 p hp with z | z
    · exact I.far p z x hx y (by rw [db]; simp [hy])
    · have := b2 y hy
      have := mx_or x.1 y.1
      omega
@[simp] theorem map_get {α β : Type} (f : α → β) (l : List α) (i : Nat) : (List.map f l)[i]? = l[i]?.map f := by simp
theorem body6 (k : Nat) (one other f : List (Int × Int)) (i j : Nat) (h : Heap) (z5 z6 : Option D) {a b : Int × Int} (ea : one[i]? = some a) (eb : other[j]? = some b) (hf : f.length < 16777216) :
    ∃ y5 y6, execs (callI T (k + 1)) T.get b6_2 [some (.tup (sp one)), some (.tup (sp other)), some (.loc h.length), some (.int i), some (.int j), z5, z6] (h ++ [.lst (sp f)]) =
      some (.ok (.nx [some (.tup (sp one)), some (.tup (sp other)), some (.loc h.length), some (.int (if a.1 + a.2 < b.1 + b.2 then (i : Int) + 1 else i)), some (.int (if a.1 + a.2 < b.1 + b.2 then (j : Int) else j + 1)), y5, y6]) (h ++ [.lst (sp (shF a b f))])) := by
  refine ⟨some (.int (mx a.1 b.1)), some (.int (mn (a.1 + a.2) (b.1 + b.2))), ?_⟩
  have e1 : (if a.1 < b.1 then b.1 else a.1) = mx a.1 b.1 := rfl
  have e2 : (if b.1 + b.2 < a.1 + a.2 then b.1 + b.2 else a.1 + a.2) = mn (a.1 + a.2) (b.1 + b.2) := rfl
  by_cases c1 : mx a.1 b.1 < mn (a.1 + a.2) (b.1 + b.2)
  · by_cases c2 : a.1 + a.2 < b.1 + b.2
    · simp [b6_2, ea, eb, pairD, s2, sp, e1, e2, c1, c2, shF, hf]
    · simp [b6_2, ea, eb, pairD, s2, sp, e1, e2, c1, c2, shF, hf]
  · by_cases c2 : a.1 + a.2 < b.1 + b.2
    · simp [b6_2, ea, eb, pairD, s2, sp, e1, e2, c1, c2, shF, hf]
    · simp [b6_2, ea, eb, pairD, s2, sp, e1, e2, c1, c2, shF, hf]
theorem get_lt {α : Type} {l : List α} {i : Nat} (h : i < l.length) : ∃ a, l[i]? = some a := ⟨_, List.getElem?_eq_getElem h⟩
theorem s6 (k : Nat) (one other : List (Int × Int)) (h : Heap) (h1 : Lot one) (h2 : Lot other) (n1 : one.length ≤ 5000) (n2 : other.length ≤ 5000) :
    ∃ f, callI T (k + 2) 6 [.tup (sp one), .tup (sp other)] h = some (.ok (.v (.tup (sp f))) h) ∧ Lot f ∧ ∀ c, In f c ↔ In one c ∧ In other c := by
  obtain ⟨fl, h', e, q⟩ := whileD_inv (c := tst (eval (callI T (k + 1)) T.get w6_1)) (f := execs (callI T (k + 1)) T.get b6_2)
    (fun m g h1 => ∃ i j f z5 z6, g = [some (.tup (sp one)), some (.tup (sp other)), some (.loc h.length), some (.int (i : Nat)), some (.int (j : Nat)), z5, z6] ∧ h1 = h ++ [.lst (sp f)] ∧ ShI one other i j f ∧ i ≤ one.length ∧ j ≤ other.length ∧ m = one.length + other.length - i - j)
    (fun _ _ => False) (fun g h1 => ∃ f z3 z4 z5 z6, g = [some (.tup (sp one)), some (.tup (sp other)), some (.loc h.length), z3, z4, z5, z6] ∧ h1 = h ++ [.lst (sp f)] ∧ Lot f ∧ (∀ c, In f c ↔ In one c ∧ In other c) ∧ f.length ≤ 16777216) (by
      rintro m g h1 ⟨i, j, f, z5, z6, rfl, rfl, I, hi, hj, rfl⟩
      have few := I.few
      by_cases c1 : i < one.length
      · by_cases c2 : j < other.length
        · obtain ⟨a, ea⟩ := get_lt c1
          obtain ⟨b, eb⟩ := get_lt c2
          refine ⟨true, _, by simp [tst, w6_1, sp, c1, c2]; rfl, ?_⟩
          obtain ⟨y5, y6, e⟩ := body6 k one other f i j h z5 z6 ea eb (by omega)
          simp only [if_true]
          refine ⟨_, _, e, ?_⟩
          simp only
          by_cases c3 : a.1 + a.2 < b.1 + b.2
          · exact ⟨one.length + other.length - (i + 1) - j, by omega, i + 1, j, _, y5, y6, by simp [c3], rfl, sh_a h1 h2 I ea eb c3, by omega, by omega, rfl⟩
          · exact ⟨one.length + other.length - i - (j + 1), by omega, i, j + 1, _, y5, y6, by simp [c3], rfl, sh_b h1 h2 I ea eb c3, by omega, by omega, rfl⟩
        · have e0 : other.drop j = [] := List.drop_eq_nil_of_le (by omega)
          refine ⟨false, _, by simp [tst, w6_1, sp, c1, c2]; rfl, ?_⟩
          simp only [Bool.false_eq_true, if_false]
          exact ⟨f, _, _, _, _, rfl, rfl, I.lot, fun c => by rw [I.tell c, e0, in_nil]; simp, by omega⟩
      · have e0 : one.drop i = [] := List.drop_eq_nil_of_le (by omega)
        refine ⟨false, _, by simp [tst, w6_1, sp, c1]; rfl, ?_⟩
        simp only [Bool.false_eq_true, if_false]
        exact ⟨f, _, _, _, _, rfl, rfl, I.lot, fun c => by rw [I.tell c, e0, in_nil]; simp, by omega⟩) _ _ _ ⟨0, 0, [], none, none, rfl, rfl, ⟨Lot.nil, fun c => by simp [in_nil], by simp, by simp⟩, by omega, by omega, rfl⟩
  cases fl with
  | nx g =>
    obtain ⟨f, z3, z4, z5, z6, rfl, rfl, lf, tell, few⟩ := q
    refine ⟨f, ?_, lf, tell⟩
    rw [call_of t6 rfl]
    simp only [Int.natCast_zero, List.map_nil] at e
    simp only [sp] at e
    simp [d6, sp, e, bi, few]
    exact gc_tupA (cl_sp _ _)
  | rt r => exact q.elim
  | bk _ => exact q.elim
  | ct _ => exact q.elim
end K02

/-! What the law's defs compute: cells of one lot alone. -/
namespace K02
open MP
-- what lies behind is left
theorem wh71 (k : Nat) (other : List (Int × Int)) (x0 x2 x4 : Option D) (here : Int) (x6 x7 : Option D) (h : Heap) (n2 : other.length ≤ 5000) (spot : Nat) (hs : spot ≤ other.length) :
    ∃ s : Nat, whileD (tst (eval (callI T (k + 1)) T.get w7_1)) (execs (callI T (k + 1)) T.get b7_2) [x0, some (.tup (sp other)), x2, some (.int spot), x4, some (.int here), x6, x7] h = some (.ok (.nx [x0, some (.tup (sp other)), x2, some (.int s), x4, some (.int here), x6, x7]) h) ∧
      s ≤ other.length ∧ ∀ b ∈ other.take s, b ∈ other.take spot ∨ b.1 + b.2 ≤ here := by
  obtain ⟨fl, h', e, q⟩ := whileD_inv (c := tst (eval (callI T (k + 1)) T.get w7_1)) (f := execs (callI T (k + 1)) T.get b7_2)
    (fun m g h1 => ∃ s : Nat, g = [x0, some (.tup (sp other)), x2, some (.int s), x4, some (.int here), x6, x7] ∧ h1 = h ∧ s ≤ other.length ∧ (∀ b ∈ other.take s, b ∈ other.take spot ∨ b.1 + b.2 ≤ here) ∧ m = other.length - s)
    (fun _ _ => False) (fun g h1 => ∃ s : Nat, g = [x0, some (.tup (sp other)), x2, some (.int s), x4, some (.int here), x6, x7] ∧ h1 = h ∧ s ≤ other.length ∧ (∀ b ∈ other.take s, b ∈ other.take spot ∨ b.1 + b.2 ≤ here)) (by
      rintro m g h1 ⟨s, rfl, rfl, hl, hb, rfl⟩
      by_cases c : s < other.length
      · obtain ⟨b, eb⟩ := get_lt c
        have eB := (List.getElem?_eq_some_iff.mp eb).2
        by_cases c2 : b.1 + b.2 ≤ here
        · refine ⟨true, _, by simp [tst, w7_1, sp, c, eB, pairD, s2, c2]; rfl, ?_⟩
          rw [if_pos rfl]
          refine ⟨.nx [x0, some (.tup (sp other)), x2, some (.int ((s + 1 : Nat) : Int)), x4, some (.int here), x6, x7], h1, by simp [b7_2], ?_⟩
          refine ⟨other.length - (s + 1), by omega, s + 1, rfl, rfl, by omega, fun y hy => ?_, rfl⟩
          rw [List.take_add_one, eb] at hy
          rcases List.mem_append.mp hy with z | z
          · exact hb y z
          · have : y = b := by simpa using z
            rw [this]
            exact .inr c2
        · refine ⟨false, _, by simp [tst, w7_1, sp, c, eB, pairD, s2, c2]; rfl, ?_⟩
          rw [if_neg Bool.false_ne_true]
          exact ⟨s, rfl, rfl, hl, hb⟩
      · refine ⟨false, _, by simp [tst, w7_1, sp, c]; rfl, ?_⟩
        rw [if_neg Bool.false_ne_true]
        exact ⟨s, rfl, rfl, hl, hb⟩) _ _ _ ⟨spot, rfl, rfl, hs, fun b hb => .inl hb, rfl⟩
  cases fl with
  | nx g =>
    obtain ⟨s, rfl, rfl, a, b⟩ := q
    exact ⟨s, e, a, b⟩
  | rt r => exact q.elim
  | bk _ => exact q.elim
  | ct _ => exact q.elim
-- the turns within one span
structure LeI (other f0 : List (Int × Int)) (here0 stop : Int) (n : Nat) (here : Int) (f : List (Int × Int)) : Prop where
  lot : Lot f
  ge : here0 ≤ here
  tell : ∀ c, In f c ↔ In f0 c ∨ (here0 ≤ c ∧ c < here ∧ c < stop ∧ ¬ In other c)
  past : ∀ b ∈ other.take n, b.1 + b.2 ≤ here
  gap : ∀ p ∈ f, p.1 + p.2 < here
theorem in_split {ps : List (Int × Int)} (n : Nat) {c : Int} : In ps c ↔ In (ps.take n) c ∨ In (ps.drop n) c := by
  rw [← in_app, List.take_append_drop]
theorem Lot.from {ps : List (Int × Int)} (h : Lot ps) {n : Nat} {b : Int × Int} (e : ps[n]? = some b) : 0 < b.2 ∧ ∀ x ∈ ps.drop (n + 1), b.1 + b.2 < x.1 := by
  have := h.drop n
  rw [drop_at e] at this
  exact this.head
theorem le_step {other f0 f : List (Int × Int)} {here0 stop here : Int} {n : Nat} (h2 : Lot other) (I : LeI other f0 here0 stop n here f) {b : Int × Int} (eb : other[n]? = some b) (hc : b.1 < stop) :
    LeI other f0 here0 stop (n + 1) (mx here (b.1 + b.2)) (if b.1 > here then f ++ [(here, b.1 - here)] else f) := by
  obtain ⟨b1, b2⟩ := Lot.from h2 eb
  have m := mx_or here (b.1 + b.2)
  have ins : ∀ c, In other c ↔ In (other.take n) c ∨ (b.1 ≤ c ∧ c < b.1 + b.2) ∨ In (other.drop (n + 1)) c := fun c => by
    rw [in_split n, drop_at eb, in_cons]
  have t1 : ∀ c, In (other.take n) c → c < here := fun c ⟨p, hp, z⟩ => by
    have := I.past p hp
    omega
  have t2 : ∀ c, In (other.drop (n + 1)) c → b.1 + b.2 < c := fun c ⟨p, hp, z⟩ => by
    have := b2 p hp
    omega
  have hp' : ∀ x ∈ other.take (n + 1), x.1 + x.2 ≤ mx here (b.1 + b.2) := fun x hx => by
    rw [List.take_add_one, eb] at hx
    rcases List.mem_append.mp hx with z | z
    · have := I.past x z
      omega
    · have : x = b := by simpa using z
      rw [this]
      omega
  have ge := I.ge
  split
  · rename_i c1
    refine ⟨I.lot.snoc (by simp only; omega) I.gap, by omega, fun c => ?_, hp', fun p hp => ?_⟩
    · rw [in_app, in_one, I.tell c, or_assoc]
      simp only
      constructor
      · rintro (z | z | z)
        · exact .inl z
        · exact .inr ⟨z.1, by omega, z.2.2.1, z.2.2.2⟩
        · refine .inr ⟨by omega, by omega, by omega, fun y => ?_⟩
          rcases (ins c).mp y with y | y | y
          · have := t1 c y
            omega
          · omega
          · have := t2 c y
            omega
      · rintro (z | ⟨z1, z2, z3, z4⟩)
        · exact .inl z
        · by_cases y : c < here
          · exact .inr (.inl ⟨z1, y, z3, z4⟩)
          · refine .inr (.inr ?_)
            have : ¬ (b.1 ≤ c ∧ c < b.1 + b.2) := fun y => z4 ((ins c).mpr (.inr (.inl y)))
            omega
    · rcases List.mem_append.mp hp with z | z
      · have := I.gap p z
        omega
      · simp only [List.mem_singleton] at z
        subst z
        simp only
        omega
  · rename_i c1
    refine ⟨I.lot, by omega, fun c => ?_, hp', fun p hp => ?_⟩
    · rw [I.tell c]
      constructor
      · rintro (z | z)
        · exact .inl z
        · exact .inr ⟨z.1, by omega, z.2.2.1, z.2.2.2⟩
      · rintro (z | ⟨z1, z2, z3, z4⟩)
        · exact .inl z
        · refine .inr ⟨z1, ?_, z3, z4⟩
          have : ¬ (b.1 ≤ c ∧ c < b.1 + b.2) := fun y => z4 ((ins c).mpr (.inr (.inl y)))
          omega
    · have := I.gap p hp
      omega
-- cells in few
def Near (lo : Int) (f : List (Int × Int)) : Prop := ∀ c, In f c → lo ≤ c ∧ c < lo + 1000
theorem near_len {lo : Int} {f : List (Int × Int)} (h : Lot f) (n : Near lo f) : f.length ≤ 1000 := by
  have := h.len (lo := lo) (hi := lo + 1000) (by omega) (h.bounds n)
  omega
theorem LeI.near {other f0 f : List (Int × Int)} {here0 stop here lo : Int} {n : Nat} (I : LeI other f0 here0 stop n here f) (n0 : Near lo f0) (l1 : lo ≤ here0) (l2 : stop ≤ lo + 1000) : Near lo f := fun c hc => by
  rcases (I.tell c).mp hc with z | z
  · exact n0 c z
  · omega
theorem wh73 (k : Nat) (other f0 : List (Int × Int)) (x0 x3 x4 : Option D) (here0 stop lo : Int) (h : Heap) (n2 : other.length ≤ 5000) (h2 : Lot other) (n0 : Near lo f0) (l1 : lo ≤ here0) (l2 : stop ≤ lo + 1000) (spot : Nat) (hs : spot ≤ other.length) (I0 : LeI other f0 here0 stop spot here0 f0) :
    ∃ (n : Nat) (here : Int) (f : List (Int × Int)), whileD (tst (eval (callI T (k + 1)) T.get w7_3)) (execs (callI T (k + 1)) T.get b7_4) [x0, some (.tup (sp other)), some (.loc h.length), x3, x4, some (.int here0), some (.int stop), some (.int spot)] (h ++ [.lst (sp f0)]) =
        some (.ok (.nx [x0, some (.tup (sp other)), some (.loc h.length), x3, x4, some (.int here), some (.int stop), some (.int n)]) (h ++ [.lst (sp f)])) ∧
      LeI other f0 here0 stop n here f ∧ ∀ x ∈ other.drop n, stop ≤ x.1 := by
  obtain ⟨fl, h', e, q⟩ := whileD_inv (c := tst (eval (callI T (k + 1)) T.get w7_3)) (f := execs (callI T (k + 1)) T.get b7_4)
    (fun m g h1 => ∃ (n : Nat) (here : Int) (f : List (Int × Int)), g = [x0, some (.tup (sp other)), some (.loc h.length), x3, x4, some (.int here), some (.int stop), some (.int n)] ∧ h1 = h ++ [.lst (sp f)] ∧ n ≤ other.length ∧ LeI other f0 here0 stop n here f ∧ m = other.length - n)
    (fun _ _ => False) (fun g h1 => ∃ (n : Nat) (here : Int) (f : List (Int × Int)), g = [x0, some (.tup (sp other)), some (.loc h.length), x3, x4, some (.int here), some (.int stop), some (.int n)] ∧ h1 = h ++ [.lst (sp f)] ∧ LeI other f0 here0 stop n here f ∧ ∀ x ∈ other.drop n, stop ≤ x.1) (by
      rintro m g h1 ⟨n, here, f, rfl, rfl, hl, I, rfl⟩
      by_cases c : n < other.length
      · obtain ⟨b, eb⟩ := get_lt c
        have eB := (List.getElem?_eq_some_iff.mp eb).2
        by_cases c2 : b.1 < stop
        · refine ⟨true, _, by simp [tst, w7_3, sp, c, eB, pairD, c2]; rfl, ?_⟩
          rw [if_pos rfl]
          have hf := near_len I.lot (I.near n0 l1 l2)
          have hf2 : f.length < 16777216 := by omega
          have em : (if here < b.1 + b.2 then b.1 + b.2 else here) = mx here (b.1 + b.2) := rfl
          refine ⟨.nx [x0, some (.tup (sp other)), some (.loc h.length), x3, x4, some (.int (mx here (b.1 + b.2))), some (.int stop), some (.int ((n + 1 : Nat) : Int))], h ++ [.lst (sp (if b.1 > here then f ++ [(here, b.1 - here)] else f))], ?_, ?_⟩
          · by_cases c3 : here < b.1
            · simp [b7_4, sp, eb, pairD, s2, c3, hf2, em]
            · simp [b7_4, sp, eb, pairD, s2, c3, hf2, em]
          · exact ⟨other.length - (n + 1), by omega, n + 1, _, _, rfl, rfl, by omega, le_step h2 I eb c2, rfl⟩
        · refine ⟨false, _, by simp [tst, w7_3, sp, c, eB, pairD, c2]; rfl, ?_⟩
          rw [if_neg Bool.false_ne_true]
          refine ⟨n, here, f, rfl, rfl, I, fun x hx => ?_⟩
          obtain ⟨b1, b2⟩ := Lot.from h2 eb
          rw [drop_at eb] at hx
          rcases List.mem_cons.mp hx with rfl | hx
          · omega
          · have := b2 x hx
            omega
      · refine ⟨false, _, by simp [tst, w7_3, sp, c]; rfl, ?_⟩
        rw [if_neg Bool.false_ne_true]
        refine ⟨n, here, f, rfl, rfl, I, fun x hx => ?_⟩
        rw [List.drop_eq_nil_of_le (by omega)] at hx
        cases hx) _ _ _ ⟨spot, here0, f0, rfl, rfl, hs, I0, rfl⟩
  cases fl with
  | nx g =>
    obtain ⟨n, here, f, rfl, rfl, a, b⟩ := q
    exact ⟨n, here, f, e, a, b⟩
  | rt r => exact q.elim
  | bk _ => exact q.elim
  | ct _ => exact q.elim
-- behind a span
theorem le_last {other f0 f : List (Int × Int)} {here0 stop here : Int} {n : Nat} (I : LeI other f0 here0 stop n here f) (hx : ∀ x ∈ other.drop n, stop ≤ x.1) (hs : here0 < stop) :
    Lot (if here < stop then f ++ [(here, stop - here)] else f) ∧ (∀ c, In (if here < stop then f ++ [(here, stop - here)] else f) c ↔ In f0 c ∨ (here0 ≤ c ∧ c < stop ∧ ¬ In other c)) := by
  have ge := I.ge
  split
  · rename_i c1
    refine ⟨I.lot.snoc (by simp only; omega) I.gap, fun c => ?_⟩
    rw [in_app, in_one, I.tell c, or_assoc]
    simp only
    constructor
    · rintro (z | z | z)
      · exact .inl z
      · exact .inr ⟨z.1, z.2.2.1, z.2.2.2⟩
      · refine .inr ⟨by omega, by omega, fun y => ?_⟩
        rcases (in_split n).mp y with ⟨p, hp, y⟩ | ⟨p, hp, y⟩
        · have := I.past p hp
          omega
        · have := hx p hp
          omega
    · rintro (z | ⟨z1, z2, z3⟩)
      · exact .inl z
      · by_cases y : c < here
        · exact .inr (.inl ⟨z1, y, z2, z3⟩)
        · exact .inr (.inr (by omega))
  · rename_i c1
    refine ⟨I.lot, fun c => ?_⟩
    rw [I.tell c]
    constructor
    · rintro (z | z)
      · exact .inl z
      · exact .inr ⟨z.1, z.2.2.1, z.2.2.2⟩
    · rintro (z | ⟨z1, z2, z3⟩)
      · exact .inl z
      · exact .inr ⟨z1, by omega, z2, z3⟩
theorem s7 (k : Nat) (one other : List (Int × Int)) (h : Heap) (lo : Int) (h1 : Lot one) (h2 : Lot other) (n1 : Near lo one) (n2 : other.length ≤ 5000) :
    ∃ f, callI T (k + 2) 7 [.tup (sp one), .tup (sp other)] h = some (.ok (.v (.tup (sp f))) h) ∧ Lot f ∧ ∀ c, In f c ↔ In one c ∧ ¬ In other c := by
  obtain ⟨g', h', e, q⟩ := forGo_go (its := (sp one, none)) (f := forF (.slot 4) (execs (callI T (k + 1)) T.get b7_5)) (g := [some (.tup (sp one)), some (.tup (sp other)), some (.loc h.length), some (.int ((0 : Nat) : Int)), none, none, none, none]) (h := h ++ [.lst (sp [])])
    (fun i g h1 => ∃ (s : Nat) (f : List (Int × Int)) (z4 z5 z6 z7 : Option D), g = [some (.tup (sp one)), some (.tup (sp other)), some (.loc h.length), some (.int s), z4, z5, z6, z7] ∧ h1 = h ++ [.lst (sp f)] ∧ Lot f ∧ s ≤ other.length ∧
      (∀ c, In f c ↔ In (one.take i) c ∧ ¬ In other c) ∧ (∀ a ∈ one.drop i, (∀ p ∈ f, p.1 + p.2 < a.1) ∧ ∀ b ∈ other.take s, b.1 + b.2 ≤ a.1)) ⟨0, [], none, none, none, none, rfl, rfl, Lot.nil, by omega, fun c => by simp [in_nil], fun a _ => by simp⟩ (by
      rintro i x g hh hx ⟨s, f, z4, z5, z6, z7, rfl, rfl, lf, hs, tell, far⟩
      obtain ⟨a, ea, rfl⟩ := sp_get hx
      obtain ⟨a1, a2⟩ := Lot.from h1 ea
      have da := drop_at ea
      obtain ⟨f1, f2⟩ := far a (by rw [da]; simp)
      have na : In one a.1 := (in_split i).mpr (.inr (by rw [da]; exact in_cons.mpr (.inl ⟨by omega, by omega⟩)))
      have nb : In one (a.1 + a.2 - 1) := (in_split i).mpr (.inr (by rw [da]; exact in_cons.mpr (.inl ⟨by omega, by omega⟩)))
      have na' := n1 _ na
      have nb' := n1 _ nb
      have nf : Near lo f := fun c hc => n1 c ((in_split i).mpr (.inl ((tell c).mp hc).1))
      obtain ⟨s', w1, hs', past⟩ := wh71 k other (some (.tup (sp one))) (some (.loc h.length)) (some (.tup [.int a.1, .int a.2])) a.1 (some (.int (a.1 + a.2))) z7 (h ++ [.lst (sp f)]) n2 s hs
      have past' : ∀ b ∈ other.take s', b.1 + b.2 ≤ a.1 := fun b hb => (past b hb).elim (f2 b) id
      have I0 : LeI other f a.1 (a.1 + a.2) s' a.1 f := ⟨lf, Int.le_refl _, fun c => by
        constructor
        · exact .inl
        · rintro (z | z)
          · exact z
          · omega, past', f1⟩
      obtain ⟨n, here, f3, w2, I3, hx3⟩ := wh73 k other f (some (.tup (sp one))) (some (.int s')) (some (.tup [.int a.1, .int a.2])) a.1 (a.1 + a.2) lo h n2 h2 nf na'.1 (by omega) s' hs' I0
      obtain ⟨l4, t4⟩ := le_last I3 hx3 (by omega)
      have hl3 := near_len I3.lot (I3.near nf na'.1 (by omega))
      have hl4 : f3.length < 16777216 := by omega
      refine ⟨[some (.tup (sp one)), some (.tup (sp other)), some (.loc h.length), some (.int s'), some (.tup [.int a.1, .int a.2]), some (.int here), some (.int (a.1 + a.2)), some (.int n)], h ++ [.lst (sp (if here < a.1 + a.2 then f3 ++ [(here, a.1 + a.2 - here)] else f3))], ?_, still_none _ _, s', _, _, _, _, _, rfl, rfl, l4, hs', fun c => ?_, fun x hx => ?_⟩
      · by_cases c1 : here < a.1 + a.2
        · simp [forF, b7_5, s2, w1, w2, c1, hl4, pairD]
        · simp [forF, b7_5, s2, w1, w2, c1, hl4, pairD]
      · rw [t4 c, tell c, List.take_add_one, ea]
        simp only [Option.toList_some]
        rw [in_app, in_one]
        constructor
        · rintro (z | z)
          · exact ⟨.inl z.1, z.2⟩
          · exact ⟨.inr ⟨z.1, z.2.1⟩, z.2.2⟩
        · rintro ⟨z | z, y⟩
          · exact .inl ⟨z, y⟩
          · exact .inr ⟨z.1, z.2, y⟩
      · have a3 := a2 x hx
        refine ⟨fun p hp => ?_, fun b hb => ?_⟩
        · have pp := l4.pos p hp
          rcases (t4 (p.1 + p.2 - 1)).mp ⟨p, hp, by omega, by omega⟩ with ⟨q, hq, z⟩ | z
          · have := f1 q hq
            omega
          · omega
        · have := past' b hb
          omega)
  obtain ⟨s, f, z4, z5, z6, z7, rfl, rfl, lf, hs, tell, far⟩ := q
  simp only [List.length_map, List.take_length] at tell
  refine ⟨f, ?_, lf, tell⟩
  have hl := near_len lf fun c hc => n1 c ((tell c).mp hc).1
  have hl2 : f.length ≤ 16777216 := by omega
  rw [call_of t7 rfl]
  simp only [Int.natCast_zero, List.map_nil] at e
  simp only [sp] at e
  simp [d7, sp, e, bi, hl2]
  exact gc_tupA (cl_sp _ _)
end K02

/-! What the law's defs compute: sizes, ranks, first cells. -/
namespace K02
open MP
theorem lcGo_mapf {α : Type} {f : D → Heap → Res (Option D)} {h : Heap} (e : α → D) (v : α → Option D) : ∀ (l : List α), (∀ a ∈ l, f (e a) h = some (.ok (v a) h)) → lcGo f (l.map e) h = some (.ok (l.filterMap v) h)
  | [], _ => rfl
  | a :: l, hf => by
    rw [List.map_cons, lcGo, hf a (by simp)]
    have ih := lcGo_mapf e v l fun y hy => hf y (by simp [hy])
    cases c : v a with
    | none => simp only [ih, List.filterMap_cons, c]
    | some y => simp only [ih, List.filterMap_cons, c]
def size (ps : List (Int × Int)) : Int := (ps.map (·.2)).sum
theorem s8 (k : Nat) (ps : List (Int × Int)) (h : Heap) (hl : ps.length ≤ 5000) : callI T (k + 1) 8 [.tup (sp ps)] h = some (.ok (.v (.int (size ps))) h) := by
  rw [call_of t8 rfl]
  have b := lcGo_mapf (f := lcF (sp ps, none) (.tup [.slot 1, .slot 2]) (wipes [some (.tup (sp ps)), none, none] [1, 2]) (tests (callI T k) T.get []) (eval (callI T k) T.get e8_1)) (h := h) pairD (fun p => some (.int p.2)) ps fun p hp => by
    simp [lcF, wipes, still_none, e8_1, pairD]
  rw [List.filterMap_eq_map'] at b
  have hl2 : ps.length ≤ 16777216 := by omega
  have bb := ints_mapf ps (fun p => D.int p.2) (fun p => p.2) fun _ => rfl
  have e : (ps.map fun p => p.2).sum = size ps := rfl
  simp only [sp] at b
  simp [d8, sp, b, hl2, bi, bb, e]
  exact gc_int _ _
def rk : List (Int × Int) → Int → Int
  | [], _ => 0
  | p :: ps, c => (if p.1 < c then mn p.2 (c - p.1) else 0) + rk ps c
theorem rk_ns (c : Int) : ∀ ps : List (Int × Int), ∃ ns : List Int, (ps.filterMap fun p => if p.1 < c then some (D.int (mn p.2 (c - p.1))) else none) = ns.map D.int ∧ ns.sum = rk ps c ∧ ns.length ≤ ps.length
  | [] => ⟨[], rfl, rfl, Nat.le_refl _⟩
  | p :: ps => by
    obtain ⟨ns, e1, e2, e3⟩ := rk_ns c ps
    by_cases z : p.1 < c
    · refine ⟨mn p.2 (c - p.1) :: ns, ?_, ?_, by simp only [List.length_cons]; omega⟩
      · simp only [List.filterMap_cons, if_pos z, e1, List.map_cons]
      · simp only [List.sum_cons, rk, if_pos z, e2]
    · refine ⟨ns, ?_, ?_, by simp only [List.length_cons]; omega⟩
      · simp only [List.filterMap_cons, if_neg z, e1]
      · simp only [rk, if_neg z, e2]
        omega
theorem s9 (k : Nat) (ps : List (Int × Int)) (c : Int) (h : Heap) (hl : ps.length ≤ 5000) : callI T (k + 1) 9 [.tup (sp ps), .int c] h = some (.ok (.v (.int (rk ps c))) h) := by
  rw [call_of t9 rfl]
  have b := lcGo_mapf (f := lcF (sp ps, none) (.tup [.slot 2, .slot 3]) (wipes [some (.tup (sp ps)), some (.int c), none, none] [2, 3]) (tests (callI T k) T.get [.cmp .lt (.var 2) (.var 1)]) (eval (callI T k) T.get e9_1)) (h := h) pairD (fun p => if p.1 < c then some (.int (mn p.2 (c - p.1))) else none) ps fun p hp => by
    by_cases z : p.1 < c
    · have em : (if c - p.1 < p.2 then c - p.1 else p.2) = mn p.2 (c - p.1) := rfl
      simp [lcF, wipes, still_none, e9_1, pairD, z, em]
    · simp [lcF, wipes, still_none, e9_1, pairD, z]
  obtain ⟨ns, e1, e2, e3⟩ := rk_ns c ps
  rw [e1] at b
  have hl2 : ns.length ≤ 16777216 := by omega
  have bb := ints_map ns
  simp only [sp] at b
  simp [d9, sp, b, hl2, bi, bb, e2]
  exact gc_int _ _
theorem any_in (ps : List (Int × Int)) (c : Int) : (ps.any fun p => decide (p.1 ≤ c ∧ c < p.1 + p.2)) = decide (In ps c) := by
  rw [Bool.eq_iff_iff, List.any_eq_true, decide_eq_true_eq]
  simp only [decide_eq_true_eq, In]
theorem s10 (k : Nat) (ps : List (Int × Int)) (c : Int) (h : Heap) (hl : ps.length ≤ 5000) : callI T (k + 1) 10 [.tup (sp ps), .int c] h = some (.ok (.v (.bl (decide (In ps c)))) h) := by
  rw [call_of t10 rfl]
  have b := lcGo_mapf (f := lcF (sp ps, none) (.tup [.slot 2, .slot 3]) (wipes [some (.tup (sp ps)), some (.int c), none, none] [2, 3]) (tests (callI T k) T.get []) (eval (callI T k) T.get e10_1)) (h := h) pairD (fun p => some (.bl (decide (p.1 ≤ c ∧ c < p.1 + p.2)))) ps fun p hp => by
    by_cases z : p.1 ≤ c
    · simp [lcF, wipes, still_none, e10_1, pairD, z]
    · simp [lcF, wipes, still_none, e10_1, pairD, z]
  rw [List.filterMap_eq_map'] at b
  have hl2 : ps.length ≤ 16777216 := by omega
  have bb := bools_mapf ps (fun p => D.bl (decide (p.1 ≤ c ∧ c < p.1 + p.2))) (fun p => decide (p.1 ≤ c ∧ c < p.1 + p.2)) fun _ => rfl
  have ea := any_in ps c
  have ev : eval (callI T k) T.get (.bi .any (.of (.lc e10_1 (.tup [(.slot 2), (.slot 3)]) (.of (.var 0)) [] [2, 3]))) [some (.tup (sp ps)), some (.int c), none, none] h = some (.ok (.v (.bl (decide (In ps c)))) h) := by
    simp only [eval, items, bd_ok, List.getElem?_cons_zero, R.frz_v, seqIt, List.length_map, b, hl2, lim_val, if_true, R.frz_newL, bi, bb, Option.map_some, ofO_some, List.any_map]
    have e2 : (ps.any (id ∘ fun p => decide (p.1 ≤ c ∧ c < p.1 + p.2))) = decide (In ps c) := ea
    rw [e2]
  simp only [d10, execs, exec, start, List.map_cons, List.map_nil, List.length_cons, List.length_nil, List.replicate, List.cons_append, List.nil_append, ev, bd_ok, endI_rt]
  exact gc_bl _ _
-- the cell at a place
def cellAt : List (Int × Int) → Int → Option Int
  | [], _ => none
  | p :: ps, i => if i < p.2 then some (p.1 + i) else cellAt ps (i - p.2)
theorem go11 (k : Nat) (its : Items) (x0 : Option D) (h : Heap) (hs : still its h = true) (c : Int) : ∀ (ps : List (Int × Int)) (i : Int) (z2 z3 : Option D), cellAt ps i = some c →
    forGo its (forF (.tup [.slot 2, .slot 3]) (execs (callI T k) T.get b11_1)) (sp ps) [x0, some (.int i), z2, z3] h = some (.ok (.rt (.v (.int c))) h)
  | [], i, z2, z3, e => by cases e
  | p :: ps, i, z2, z3, e => by
    simp only [cellAt] at e
    by_cases z : i < p.2
    · rw [if_pos z] at e
      cases e
      simp [forGo, forF, pairD, b11_1, z]
    · rw [if_neg z] at e
      have ih := go11 k its x0 h hs c ps (i - p.2) (some (.int p.1)) (some (.int p.2)) e
      simp only [sp] at ih
      simp [forGo, forF, pairD, b11_1, z, hs]
      simpa [pairD, b11_1, forF] using ih
theorem s11 (k : Nat) (ps : List (Int × Int)) (i c : Int) (h : Heap) (e : cellAt ps i = some c) : callI T (k + 1) 11 [.tup (sp ps), .int i] h = some (.ok (.v (.int c)) h) := by
  rw [call_of t11 rfl]
  have q := go11 k (sp ps, none) (some (.tup (sp ps))) h (still_none _ _) c ps i none none e
  simp only [sp] at q
  simp [d11, sp, q]
  exact gc_int _ _
theorem cellAt_cells : ∀ {ps : List (Int × Int)} {i : Int}, (∀ p ∈ ps, 0 ≤ p.2) → 0 ≤ i → cellAt ps i = (cells ps)[i.toNat]?
  | [], i, _, _ => by simp [cellAt, cells]
  | p :: ps, i, hp, hi => by
    have h1 := hp p (by simp)
    rw [cellAt, cells]
    by_cases z : i < p.2
    · rw [if_pos z, List.getElem?_append_left (by rw [rg_len]; omega)]
      unfold rgI
      rw [List.getElem?_map, List.getElem?_range (by omega)]
      simp only [Option.map_some, Option.some.injEq]
      omega
    · rw [if_neg z, List.getElem?_append_right (by rw [rg_len]; omega), cellAt_cells (fun q hq => hp q (by simp [hq])) (by omega), rg_len]
      congr 1
      omega
-- the first cells
def firstC : List (Int × Int) → Int → List (Int × Int)
  | [], _ => []
  | p :: ps, m => if m > 0 then (p.1, mn p.2 m) :: firstC ps (m - mn p.2 m) else firstC ps m
theorem firstC_len : ∀ (ps : List (Int × Int)) (m : Int), (firstC ps m).length ≤ ps.length
  | [], m => Nat.le_refl _
  | p :: ps, m => by
    rw [firstC]
    split
    · have := firstC_len ps (m - mn p.2 m)
      simp only [List.length_cons]
      omega
    · have := firstC_len ps m
      simp only [List.length_cons]
      omega
theorem go12 (k : Nat) (its : Items) (x0 : Option D) (h : Heap) (h2 : its.2 = none) : ∀ (ps : List (Int × Int)) (m : Int) (f : List (Int × Int)) (z3 z4 : Option D), f.length + ps.length < 16777216 →
    ∃ z1 y3 y4, forGo its (forF (.tup [.slot 3, .slot 4]) (execs (callI T k) T.get b12_1)) (sp ps) [x0, some (.int m), some (.loc h.length), z3, z4] (h ++ [.lst (sp f)]) = some (.ok (.nx [x0, z1, some (.loc h.length), y3, y4]) (h ++ [.lst (sp (f ++ firstC ps m))]))
  | [], m, f, z3, z4, _ => ⟨_, _, _, by simp [forGo, firstC]; exact ⟨rfl, rfl, rfl⟩⟩
  | p :: ps, m, f, z3, z4, hl => by
    have st : ∀ h, still its h = true := fun h => by
      unfold still
      rw [h2]
    simp only [List.length_cons] at hl
    have hf : f.length < 16777216 := by omega
    have em : (if m < p.2 then m else p.2) = mn p.2 m := rfl
    rw [firstC]
    by_cases z : m > 0
    · obtain ⟨z1, y3, y4, e⟩ := go12 k its x0 h h2 ps (m - mn p.2 m) (f ++ [(p.1, mn p.2 m)]) (some (.int p.1)) (some (.int p.2)) (by simp; omega)
      refine ⟨z1, y3, y4, ?_⟩
      rw [if_pos z]
      simp only [List.append_assoc, List.cons_append, List.nil_append] at e
      rw [← e]
      simp [forGo, forF, pairD, b12_1, z, hf, em, st, sp]
    · obtain ⟨z1, y3, y4, e⟩ := go12 k its x0 h h2 ps m f (some (.int p.1)) (some (.int p.2)) (by omega)
      refine ⟨z1, y3, y4, ?_⟩
      rw [if_neg z, ← e]
      simp [forGo, forF, pairD, b12_1, z, st, sp]
theorem s12 (k : Nat) (ps : List (Int × Int)) (m : Int) (h : Heap) (hl : ps.length ≤ 5000) : callI T (k + 1) 12 [.tup (sp ps), .int m] h = some (.ok (.v (.tup (sp (firstC ps m)))) h) := by
  rw [call_of t12 rfl]
  obtain ⟨z1, y3, y4, e⟩ := go12 k (sp ps, none) (some (.tup (sp ps))) h rfl ps m [] none none (by simp; omega)
  have hl2 : (firstC ps m).length ≤ 16777216 := by have := firstC_len ps m; omega
  simp only [sp, List.map_nil, List.nil_append] at e
  simp [d12, sp, e, bi, hl2]
  exact gc_tupA (cl_sp _ _)
end K02

/-! Triples of two lots side by side. -/
namespace K02
open MP
abbrev Tr := Int × Int × Int
def trD (t : Tr) : D := .tup [.int t.1, .int t.2.1, .int t.2.2]
abbrev ts (f : List Tr) : List D := f.map trD
theorem cl_ts (n : Nat) (ps : List Tr) : clL n (ts ps) = true := by
  induction ps with
  | nil => rfl
  | cons p ps ih => simp only [List.map_cons, clL, trD, cl, ih, Bool.and_self]
theorem dok_ts (n : Nat) (ps : List Tr) : dokL (n + 1) (ts ps) = true := by
  induction ps with
  | nil => simp
  | cons p ps ih => simp [trD]; simpa [trD] using ih
theorem eqD_ts : ∀ (ps qs : List Tr), eqDL (ts ps) (ts qs) = decide (ps = qs)
  | [], [] => by simp
  | [], _ :: _ => by simp
  | _ :: _, [] => by simp
  | p :: ps, q :: qs => by
    have := eqD_ts ps qs
    simp only [ts] at this
    simp only [List.map_cons, eqDL_cons, this, List.cons.injEq, Bool.decide_and]
    congr 1
    obtain ⟨a, b, c⟩ := p
    obtain ⟨d, e, f⟩ := q
    simp [trD]
def Glue (t u : Tr) : Prop := t.1 + t.2.2 = u.1 ∧ t.2.1 + t.2.2 = u.2.1
instance (t u : Tr) : Decidable (Glue t u) := inferInstanceAs (Decidable (_ ∧ _))
structure Canon (f : List Tr) : Prop where
  pos : ∀ t ∈ f, 0 < t.2.2
  sep : ∀ i t u, f[i]? = some t → f[i + 1]? = some u → ¬ Glue t u
theorem Canon.nil : Canon [] := ⟨by simp, by simp⟩
theorem Canon.tail {t : Tr} {f : List Tr} (h : Canon (t :: f)) : Canon f := ⟨fun u hu => h.pos u (by simp [hu]), fun i t u a b => h.sep (i + 1) t u (by simpa using a) (by simpa using b)⟩
theorem Canon.snoc {t : Tr} {f : List Tr} (h : Canon f) (hp : 0 < t.2.2) (hl : ∀ l, f.getLast? = some l → ¬ Glue l t) : Canon (f ++ [t]) := by
  refine ⟨fun u hu => ?_, fun i a b ea eb => ?_⟩
  · rcases List.mem_append.mp hu with z | z
    · exact h.pos u z
    · have : u = t := by simpa using z
      rw [this]
      exact hp
  · rcases Nat.lt_trichotomy (i + 1) f.length with z | z | z
    · rw [List.getElem?_append_left (by omega)] at ea
      rw [List.getElem?_append_left z] at eb
      exact h.sep i a b ea eb
    · rw [List.getElem?_append_left (by omega)] at ea
      rw [List.getElem?_append_right (by omega)] at eb
      have e0 : i + 1 - f.length = 0 := by omega
      rw [e0] at eb
      have : t = b := by simpa using eb
      subst this
      refine hl a ?_
      rw [List.getLast?_eq_getElem?, show f.length - 1 = i by omega]
      exact ea
    · rw [List.getElem?_eq_none (by simp; omega)] at eb
      cases eb
theorem Canon.init {t : Tr} {f : List Tr} (h : Canon (f ++ [t])) : Canon f ∧ 0 < t.2.2 ∧ ∀ l, f.getLast? = some l → ¬ Glue l t := by
  refine ⟨⟨fun u hu => h.pos u (by simp [hu]), fun i a b ea eb => ?_⟩, h.pos t (by simp), fun l e => ?_⟩
  · have hi : i + 1 < f.length := by
      rcases Nat.lt_or_ge (i + 1) f.length with z | z
      · exact z
      · rw [List.getElem?_eq_none z] at eb; cases eb
    exact h.sep i a b (by rw [List.getElem?_append_left (by omega)]; exact ea) (by rw [List.getElem?_append_left hi]; exact eb)
  · rw [List.getLast?_eq_getElem?] at e
    have hi : f.length - 1 < f.length := by
      rcases Nat.lt_or_ge (f.length - 1) f.length with z | z
      · exact z
      · rw [List.getElem?_eq_none z] at e; cases e
    refine h.sep (f.length - 1) l t (by rw [List.getElem?_append_left hi]; exact e) ?_
    rw [List.getElem?_append_right (by omega), show f.length - 1 + 1 - f.length = 0 by omega]
    rfl
-- the pairs that triples tell
def pr (t : Tr) : List (Int × Int) := (List.range t.2.2.toNat).map fun (k : Nat) => (t.1 + (k : Int), t.2.1 + (k : Int))
def ex : List Tr → List (Int × Int)
  | [] => []
  | t :: f => pr t ++ ex f
theorem ex_app : ∀ (f g : List Tr), ex (f ++ g) = ex f ++ ex g
  | [], _ => rfl
  | t :: f, g => by rw [List.cons_append, ex, ex, ex_app, List.append_assoc]
theorem pr_len (t : Tr) : (pr t).length = t.2.2.toNat := by simp [pr]
theorem pr_get (t : Tr) {i : Nat} (h : i < t.2.2.toNat) : (pr t)[i]? = some (t.1 + (i : Int), t.2.1 + (i : Int)) := by
  unfold pr
  rw [List.getElem?_map, List.getElem?_range h]
  rfl
theorem pr_zip (t : Tr) : pr t = (rgI t.1 t.2.2).zip (rgI t.2.1 t.2.2) := by
  unfold pr rgI
  rw [List.zip_map']
theorem ex_head {t : Tr} {f : List Tr} (h : 0 < t.2.2) : (ex (t :: f))[0]? = some (t.1, t.2.1) := by
  rw [ex, List.getElem?_append_left (by rw [pr_len]; omega), pr_get t (by omega)]
  simp
theorem Canon.cut {t u : Tr} {f g : List Tr} (hf : Canon (t :: f)) (hu : 0 < u.2.2) (e1 : t.1 = u.1) (e2 : t.2.1 = u.2.1) (e : ex (t :: f) = ex (u :: g)) : ¬ t.2.2 < u.2.2 := fun z => by
  have ht := hf.pos t (by simp)
  have a : (ex (u :: g))[t.2.2.toNat]? = some (u.1 + t.2.2, u.2.1 + t.2.2) := by
    rw [ex, List.getElem?_append_left (by rw [pr_len]; omega), pr_get u (by omega), Int.toNat_of_nonneg (by omega)]
  rw [← e, ex, List.getElem?_append_right (by rw [pr_len]; omega), pr_len, Nat.sub_self] at a
  cases f with
  | nil => cases a
  | cons v f =>
    rw [ex_head (hf.tail.pos v (by simp)), Option.some.injEq, Prod.mk.injEq] at a
    exact hf.sep 0 t v rfl rfl ⟨by omega, by omega⟩
theorem Canon.uniq : ∀ {f g : List Tr}, Canon f → Canon g → ex f = ex g → f = g
  | [], [], _, _, _ => rfl
  | [], u :: g, _, h, e => by
    have := ex_head (f := g) (h.pos u (by simp))
    rw [← e] at this
    cases this
  | t :: f, [], h, _, e => by
    have := ex_head (f := f) (h.pos t (by simp))
    rw [e] at this
    cases this
  | t :: f, u :: g, hf, hg, e => by
    have a := ex_head (f := f) (hf.pos t (by simp))
    have b := ex_head (f := g) (hg.pos u (by simp))
    rw [e, b, Option.some.injEq, Prod.mk.injEq] at a
    have c1 := Canon.cut hf (hg.pos u (by simp)) a.1.symm a.2.symm e
    have c2 := Canon.cut hg (hf.pos t (by simp)) a.1 a.2 e.symm
    have et : t = u := Prod.ext a.1.symm (Prod.ext a.2.symm (by omega))
    subst et
    rw [ex, ex] at e
    rw [Canon.uniq hf.tail hg.tail (List.append_cancel_left e)]
-- a pair more
def addT (f : List Tr) (q : Int × Int) : List Tr := match f.getLast? with
  | some l => if l.1 + l.2.2 = q.1 ∧ l.2.1 + l.2.2 = q.2 then f.dropLast ++ [(l.1, l.2.1, l.2.2 + 1)] else f ++ [(q.1, q.2, 1)]
  | none => f ++ [(q.1, q.2, 1)]
theorem addT_len (f : List Tr) (p : Int × Int) : (addT f p).length ≤ f.length + 1 := by
  unfold addT
  split
  · split
    · simp only [List.length_append, List.length_dropLast, List.length_cons, List.length_nil]
      omega
    · simp
  · simp
theorem pr_one (c g : Int) : pr (c, g, 1) = [(c, g)] := by
  simp [pr]
theorem pr_more (c g w : Int) (h : 0 < w) : pr (c, g, w + 1) = pr (c, g, w) ++ [(c + w, g + w)] := by
  unfold pr
  simp only
  rw [show (w + 1).toNat = w.toNat + 1 by omega, List.range_succ, List.map_append]
  simp only [List.map_cons, List.map_nil]
  rw [Int.toNat_of_nonneg (by omega)]
theorem lastT_or (f : List Tr) : f = [] ∨ ∃ g p, f = g ++ [p] := by
  cases e : f.getLast? with
  | none => exact .inl (List.getLast?_eq_none_iff.mp e)
  | some p => exact .inr ⟨_, _, snoc_of e⟩
theorem addT_sn (g : List Tr) (l : Tr) (q : Int × Int) : addT (g ++ [l]) q = if l.1 + l.2.2 = q.1 ∧ l.2.1 + l.2.2 = q.2 then g ++ [(l.1, l.2.1, l.2.2 + 1)] else g ++ [l] ++ [(q.1, q.2, 1)] := by
  unfold addT
  simp
theorem addT_ok {f : List Tr} (h : Canon f) (q : Int × Int) : Canon (addT f q) ∧ ex (addT f q) = ex f ++ [q] := by
  rcases lastT_or f with rfl | ⟨g, l, rfl⟩
  · refine ⟨Canon.nil.snoc (show (0 : Int) < 1 by decide) (by simp), ?_⟩
    show ex [(q.1, q.2, 1)] = _
    simp only [ex, pr_one]
    rfl
  · obtain ⟨c1, c2, c3⟩ := h.init
    rw [addT_sn]
    split
    · rename_i z
      refine ⟨c1.snoc (by simp only; omega) c3, ?_⟩
      obtain ⟨a, b, w⟩ := l
      simp only [ex_app, ex, pr_more _ _ _ c2, List.append_nil, List.append_assoc]
      simp only at z
      rw [z.1, z.2]
    · rename_i z
      refine ⟨h.snoc (show (0 : Int) < 1 by decide) fun l' e => ?_, ?_⟩
      · have : l' = l := by simpa using e.symm
        subst this
        exact z
      · simp only [ex_app, ex, pr_one]
        rfl
theorem body37 (k : Nat) (f : List Tr) (p : Int × Int) (x y : Option D) (h : Heap) (hf : f.length < 16777216) : execs (callI T k) T.get b37_1 [x, y, some (.loc h.length), some (.int p.1), some (.int p.2)] (h ++ [.lst (ts f)]) = some (.ok (.nx [x, y, some (.loc h.length), some (.int p.1), some (.int p.2)]) (h ++ [.lst (ts (addT f p))])) := by
  rcases lastT_or f with rfl | ⟨g, q, rfl⟩
  · simp [b37_1, addT, look, trD]
  · have hd := dok_ts 58 (g ++ [q])
    have hg : g.length + 1 < 16777216 := by simpa using hf
    rw [addT_sn]
    simp [ts, trD] at hd
    by_cases c : q.1 + q.2.2 = p.1
    · by_cases c2 : q.2.1 + q.2.2 = p.2
      · simp [b37_1, look, trD, c, c2, hd]
      · simp [b37_1, look, trD, c, c2, hd, hg]
    · simp [b37_1, look, trD, c, hd, hg]
-- pieces side by side
def rem (ps : List (Int × Int)) (i : Nat) (d : Int) : List Int := match ps.drop i with
  | [] => []
  | p :: r => rgI (p.1 + d) (p.2 - d) ++ cells r
structure PaI (one other : List (Int × Int)) (i j : Nat) (d e : Int) (f : List Tr) : Prop where
  canon : Canon f
  tell : ex f ++ (rem one i d).zip (rem other j e) = (cells one).zip (cells other)
  len : (rem one i d).length = (rem other j e).length
  d0 : 0 ≤ d ∧ ∀ p, one[i]? = some p → d < p.2
  e0 : 0 ≤ e ∧ ∀ p, other[j]? = some p → e < p.2
  sep : ∀ l p q, f.getLast? = some l → one[i]? = some p → other[j]? = some q → ¬ Glue l (p.1 + d, q.1 + e, 1)
  few : f.length ≤ i + j
theorem rem_at {ps : List (Int × Int)} {i : Nat} {p : Int × Int} (e : ps[i]? = some p) (d : Int) : rem ps i d = rgI (p.1 + d) (p.2 - d) ++ cells (ps.drop (i + 1)) := by
  unfold rem
  rw [drop_at e]
theorem rem_none {ps : List (Int × Int)} {i : Nat} (h : ps.length ≤ i) (d : Int) : rem ps i d = [] := by
  unfold rem
  rw [List.drop_eq_nil_of_le h]
theorem rem_zero (ps : List (Int × Int)) (i : Nat) : rem ps i 0 = cells (ps.drop i) := by
  unfold rem
  cases ps.drop i with
  | nil => rfl
  | cons p r => simp [cells]
theorem rg_split (a n m : Int) (h0 : 0 ≤ m) (h : m ≤ n) : rgI a n = rgI a m ++ rgI (a + m) (n - m) := by
  unfold rgI
  rw [show n.toNat = m.toNat + (n - m).toNat by omega, List.range_add, List.map_append, List.map_map]
  congr 1
  refine List.map_congr_left fun k _ => ?_
  simp only [Function.comp, Int.natCast_add, Int.toNat_of_nonneg h0]
  omega
-- a step on one side
def nxI (ps : List (Int × Int)) (i : Nat) (d m : Int) (p : Int × Int) : Nat × Int := if d + m = p.2 then (i + 1, 0) else (i, d + m)
theorem rem_step {ps : List (Int × Int)} {i : Nat} {p : Int × Int} (hl : Lot ps) (e : ps[i]? = some p) {d m : Int} (hd : 0 ≤ d) (hm : 0 < m) (hle : m ≤ p.2 - d) :
    rem ps i d = rgI (p.1 + d) m ++ rem ps (nxI ps i d m p).1 (nxI ps i d m p).2 ∧ 0 ≤ (nxI ps i d m p).2 ∧ (∀ q, ps[(nxI ps i d m p).1]? = some q → (nxI ps i d m p).2 < q.2 ∧ p.1 + d + m ≤ q.1 + (nxI ps i d m p).2 ∧ (d + m = p.2 → p.1 + d + m < q.1 + (nxI ps i d m p).2)) ∧ i ≤ (nxI ps i d m p).1 ∧ (nxI ps i d m p).1 ≤ i + 1 := by
  unfold nxI
  split
  · rename_i z
    refine ⟨?_, Int.le_refl _, fun q hq => ?_, by simp, by simp⟩
    · rw [rem_at e, rem_zero, show p.2 - d = m by omega]
    · obtain ⟨a1, a2⟩ := Lot.from hl e
      have hm : q ∈ ps.drop (i + 1) := by
        rw [drop_at hq]
        simp
      have := a2 q hm
      have := hl.pos q (List.mem_of_getElem? hq)
      simp only
      omega
  · rename_i z
    refine ⟨?_, by simp only; omega, fun q hq => ?_, by simp, by simp⟩
    · rw [rem_at e, rem_at e, rg_split (p.1 + d) (p.2 - d) m (by omega) hle, List.append_assoc]
      congr 2
      · simp only
        rw [show p.1 + d + m = p.1 + (d + m) by omega, show p.2 - d - m = p.2 - (d + m) by omega]
    · simp only at hq ⊢
      rw [e] at hq
      cases hq
      omega
theorem pa_step {one other : List (Int × Int)} (h1 : Lot one) (h2 : Lot other) {i j : Nat} {d e : Int} {f : List Tr} (I : PaI one other i j d e f) {a b : Int × Int} (ea : one[i]? = some a) (eb : other[j]? = some b) :
    PaI one other (nxI one i d (mn (a.2 - d) (b.2 - e)) a).1 (nxI other j e (mn (a.2 - d) (b.2 - e)) b).1 (nxI one i d (mn (a.2 - d) (b.2 - e)) a).2 (nxI other j e (mn (a.2 - d) (b.2 - e)) b).2 (f ++ [(a.1 + d, b.1 + e, mn (a.2 - d) (b.2 - e))]) ∧
      (nxI one i d (mn (a.2 - d) (b.2 - e)) a).1 + (nxI other j e (mn (a.2 - d) (b.2 - e)) b).1 ≥ i + j + 1 := by
  have hd := I.d0.2 a ea
  have he := I.e0.2 b eb
  have hm := mn_or (a.2 - d) (b.2 - e)
  obtain ⟨r1, r2, r3, r4, r5⟩ := rem_step h1 ea (d := d) (m := mn (a.2 - d) (b.2 - e)) I.d0.1 (by omega) (by omega)
  obtain ⟨s1, s2, s3, s4, s5⟩ := rem_step h2 eb (d := e) (m := mn (a.2 - d) (b.2 - e)) I.e0.1 (by omega) (by omega)
  have more : (nxI one i d (mn (a.2 - d) (b.2 - e)) a).1 + (nxI other j e (mn (a.2 - d) (b.2 - e)) b).1 ≥ i + j + 1 := by
    unfold nxI
    split <;> split <;> simp only <;> omega
  have few := I.few
  have pos : 0 < mn (a.2 - d) (b.2 - e) := by omega
  have len := I.len
  have tell := I.tell
  rw [r1, s1] at len tell
  generalize hM : mn (a.2 - d) (b.2 - e) = m at *
  rw [List.length_append, List.length_append, rg_len, rg_len] at len
  refine ⟨⟨I.canon.snoc pos fun l hl z => I.sep l a b hl ea eb ⟨z.1, z.2⟩, ?_, by omega, ⟨r2, fun p hp => (r3 p hp).1⟩, ⟨s2, fun p hp => (s3 p hp).1⟩, fun l p q hl hp hq z => ?_, by simp only [List.length_append, List.length_cons, List.length_nil]; omega⟩, more⟩
  · rw [List.zip_append (by rw [rg_len, rg_len])] at tell
    rw [ex_app, ex, ex, List.append_nil, pr_zip, List.append_assoc]
    exact tell
  · have el : l = (a.1 + d, b.1 + e, m) := by simpa using hl.symm
    subst el
    obtain ⟨z1, z2⟩ := z
    simp only at z1 z2
    have p3 := r3 p hp
    have q3 := s3 q hq
    rcases hm.2.2 with y | y
    · have := p3.2.2 (by omega)
      omega
    · have := q3.2.2 (by omega)
      omega
theorem body13 (k : Nat) (one other : List (Int × Int)) (f : List Tr) (i j : Nat) (d e : Int) (h : Heap) (z : Option D) {a b : Int × Int} (ea : one[i]? = some a) (eb : other[j]? = some b) (hf : f.length < 16777216) :
    ∃ y, execs (callI T k) T.get b13_2 [some (.tup (sp one)), some (.tup (sp other)), some (.loc h.length), some (.int i), some (.int d), some (.int j), some (.int e), z] (h ++ [.lst (ts f)]) =
      some (.ok (.nx [some (.tup (sp one)), some (.tup (sp other)), some (.loc h.length), some (.int (nxI one i d (mn (a.2 - d) (b.2 - e)) a).1), some (.int (nxI one i d (mn (a.2 - d) (b.2 - e)) a).2), some (.int (nxI other j e (mn (a.2 - d) (b.2 - e)) b).1), some (.int (nxI other j e (mn (a.2 - d) (b.2 - e)) b).2), y])
        (h ++ [.lst (ts (f ++ [(a.1 + d, b.1 + e, mn (a.2 - d) (b.2 - e))]))])) := by
  refine ⟨some (.int (mn (a.2 - d) (b.2 - e))), ?_⟩
  have em : (if b.2 - e < a.2 - d then b.2 - e else a.2 - d) = mn (a.2 - d) (b.2 - e) := rfl
  generalize hM : mn (a.2 - d) (b.2 - e) = m at *
  unfold nxI
  by_cases c1 : d + m = a.2
  · by_cases c2 : e + m = b.2
    · simp [b13_2, sp, ea, eb, pairD, trD, em, c1, c2, hf, look]
    · simp [b13_2, sp, ea, eb, pairD, trD, em, c1, c2, hf, look]
  · by_cases c2 : e + m = b.2
    · simp [b13_2, sp, ea, eb, pairD, trD, em, c1, c2, hf, look]
    · simp [b13_2, sp, ea, eb, pairD, trD, em, c1, c2, hf, look]
theorem s13 (k : Nat) (one other : List (Int × Int)) (h : Heap) (h1 : Lot one) (h2 : Lot other) (n1 : one.length ≤ 1000) (n2 : other.length ≤ 1000) (hl : (cells one).length = (cells other).length) :
    ∃ f, callI T (k + 1) 13 [.tup (sp one), .tup (sp other)] h = some (.ok (.newL (ts f)) h) ∧ Canon f ∧ ex f = (cells one).zip (cells other) ∧ f.length ≤ 5000 := by
  obtain ⟨fl, h', e, q⟩ := whileD_inv (c := tst (eval (callI T k) T.get w13_1)) (f := execs (callI T k) T.get b13_2)
    (fun m g h1 => ∃ (i j : Nat) (d e : Int) (f : List Tr) (z : Option D), g = [some (.tup (sp one)), some (.tup (sp other)), some (.loc h.length), some (.int i), some (.int d), some (.int j), some (.int e), z] ∧ h1 = h ++ [.lst (ts f)] ∧ PaI one other i j d e f ∧ i ≤ one.length ∧ j ≤ other.length ∧ m = one.length + other.length - i - j)
    (fun _ _ => False) (fun g h1 => ∃ (f : List Tr) (z3 z4 z5 z6 z7 : Option D), g = [some (.tup (sp one)), some (.tup (sp other)), some (.loc h.length), z3, z4, z5, z6, z7] ∧ h1 = h ++ [.lst (ts f)] ∧ Canon f ∧ ex f = (cells one).zip (cells other) ∧ f.length ≤ 5000) (by
      rintro m g hh ⟨i, j, d, e, f, z, rfl, rfl, I, hi, hj, rfl⟩
      have few := I.few
      by_cases c1 : i < one.length
      · obtain ⟨a, ea⟩ := get_lt c1
        have c2 : j < other.length := by
          rcases Nat.lt_or_ge j other.length with z | z
          · exact z
          · exfalso
            have := I.len
            rw [rem_at ea, rem_none z, List.length_append, rg_len] at this
            have := I.d0.2 a ea
            simp only [List.length_nil] at *
            omega
        obtain ⟨b, eb⟩ := get_lt c2
        refine ⟨true, _, by simp [tst, w13_1, sp, c1]; rfl, ?_⟩
        rw [if_pos rfl]
        obtain ⟨y, e2⟩ := body13 k one other f i j d e h z ea eb (by omega)
        refine ⟨_, _, e2, ?_⟩
        obtain ⟨I2, more⟩ := pa_step h1 h2 I ea eb
        have b1 : (nxI one i d (mn (a.2 - d) (b.2 - e)) a).1 ≤ i + 1 := by unfold nxI; split <;> simp
        have b2 : (nxI other j e (mn (a.2 - d) (b.2 - e)) b).1 ≤ j + 1 := by unfold nxI; split <;> simp
        exact ⟨one.length + other.length - (nxI one i d (mn (a.2 - d) (b.2 - e)) a).1 - (nxI other j e (mn (a.2 - d) (b.2 - e)) b).1, by omega, _, _, _, _, _, _, rfl, rfl, I2, by omega, by omega, rfl⟩
      · refine ⟨false, _, by simp [tst, w13_1, sp, c1]; rfl, ?_⟩
        rw [if_neg Bool.false_ne_true]
        have tell := I.tell
        rw [rem_none (by omega), List.zip_nil_left, List.append_nil] at tell
        exact ⟨f, _, _, _, _, _, rfl, rfl, I.canon, tell, by omega⟩) _ _ _ ⟨0, 0, 0, 0, [], none, rfl, rfl, ⟨Canon.nil, by rw [rem_zero, rem_zero]; rfl, by rw [rem_zero, rem_zero]; exact hl, ⟨Int.le_refl _, fun p hp => h1.pos p (List.mem_of_getElem? hp)⟩, ⟨Int.le_refl _, fun p hp => h2.pos p (List.mem_of_getElem? hp)⟩, fun l p q e => by simp at e, by simp⟩, by omega, by omega, rfl⟩
  cases fl with
  | nx g =>
    obtain ⟨f, z3, z4, z5, z6, z7, rfl, rfl, a, b, c⟩ := q
    refine ⟨f, ?_, a, b, c⟩
    rw [call_of t13 rfl]
    simp only [Int.natCast_zero, List.map_nil] at e
    simp only [sp] at e
    simp [d13, sp, e]
    exact gc_locA (cl_ts _ _)
  | rt r => exact q.elim
  | bk _ => exact q.elim
  | ct _ => exact q.elim
end K02

/-! The law's own single cells. -/
namespace K02
open MP
def kd (ks : List Int) : List (Sum Int PySem.Str × D) := ks.map fun k => (Sum.inl k, D.bl true)
def addK (ks : List Int) (k : Int) : List Int := if k ∈ ks then ks else ks ++ [k]
theorem putD_kd (ks : List Int) (k : Int) : putD (kd ks) (.inl k) (.bl true) = kd (addK ks k) := by
  have ea : ((kd ks).any fun kv => decide (kv.1 = Sum.inl k)) = decide (k ∈ ks) := by
    unfold kd
    rw [List.any_map, Bool.eq_iff_iff, List.any_eq_true, decide_eq_true_eq]
    simp
  unfold putD addK
  rw [ea]
  by_cases z : k ∈ ks
  · simp only [z, decide_true, if_true]
    unfold kd
    rw [List.map_map]
    refine List.map_congr_left fun j _ => ?_
    simp only [Function.comp]
    split <;> rfl
  · simp only [z, decide_false, Bool.false_eq_true, if_false]
    unfold kd
    rw [List.map_append]
    rfl
structure Keys (ks : List Int) (P : Int → Prop) : Prop where
  nd : ks.Nodup
  mem : ∀ c, c ∈ ks ↔ P c
  rng : ∀ c ∈ ks, 0 ≤ c ∧ c < 60
theorem Keys.len {ks : List Int} {P : Int → Prop} (h : Keys ks P) : ks.length ≤ 60 := by
  have a := sort_rise h.nd
  have p := sortBy_perm leI ks
  have b := rise_len a (lo := 0) (hi := 60) (by decide) fun c hc => h.rng c (p.mem_iff.mp hc)
  rw [p.length_eq] at b
  omega
theorem Keys.add {ks : List Int} {P : Int → Prop} (h : Keys ks P) {k : Int} (h0 : 0 ≤ k) (h1 : k < 60) : Keys (addK ks k) fun c => P c ∨ c = k := by
  unfold addK
  split
  · rename_i z
    refine ⟨h.nd, fun c => ?_, h.rng⟩
    rw [h.mem c]
    constructor
    · exact .inl
    · rintro (y | y)
      · exact y
      · rw [y]; exact (h.mem k).mp z
  · rename_i z
    refine ⟨?_, fun c => ?_, fun c hc => ?_⟩
    · rw [List.nodup_append]
      refine ⟨h.nd, by simp, fun a ha b hb => ?_⟩
      simp only [List.mem_singleton] at hb
      rintro rfl
      rw [hb] at ha
      exact z ha
    · rw [List.mem_append, h.mem c, List.mem_singleton]
    · rcases List.mem_append.mp hc with y | y
      · exact h.rng c y
      · simp only [List.mem_singleton] at y
        omega
theorem Keys.congr {ks : List Int} {P Q : Int → Prop} (h : Keys ks P) (e : ∀ c, P c ↔ Q c) : Keys ks Q := ⟨h.nd, fun c => (h.mem c).trans (e c), h.rng⟩
theorem range_at {a b : Int} {i : Nat} {x : D} (h : (rangeD a b)[i]? = some x) : x = .int (a + i) ∧ i < (b - a).toNat := by
  unfold rangeD at h
  rw [List.getElem?_map] at h
  cases c : (List.range (b - a).toNat)[i]? with
  | none => rw [c] at h; cases h
  | some z =>
    rw [c] at h
    cases h
    obtain ⟨hl, hz⟩ := List.getElem?_eq_some_iff.mp c
    simp at hl hz
    subst hz
    exact ⟨rfl, by omega⟩
theorem in33a (k : Nat) (x0 x2 x3 x4 x5 : Option D) (h : Heap) (a b : Int) (ks : List Int) (P : Int → Prop) (K : Keys ks P) (h0 : 0 ≤ a) (h1 : a ≤ b) (h2 : b ≤ 60) :
    ∃ ks' y, forGo (rangeD a b, none) (forF (.slot 4) (execs (callI T k) T.get b33_1)) (rangeD a b) [x0, some (.loc h.length), x2, x3, x4, x5] (h ++ [.dic (kd ks)]) = some (.ok (.nx [x0, some (.loc h.length), x2, x3, y, x5]) (h ++ [.dic (kd ks')])) ∧ Keys ks' fun c => P c ∨ (a ≤ c ∧ c < b) := by
  obtain ⟨g', h', e, ks', y, rfl, rfl, K'⟩ := forGo_go (its := (rangeD a b, none)) (f := forF (.slot 4) (execs (callI T k) T.get b33_1)) (g := [x0, some (.loc h.length), x2, x3, x4, x5]) (h := h ++ [.dic (kd ks)])
    (fun i g hh => ∃ ks' y, g = [x0, some (.loc h.length), x2, x3, y, x5] ∧ hh = h ++ [.dic (kd ks')] ∧ Keys ks' fun c => P c ∨ (a ≤ c ∧ c < a + i)) ⟨ks, x4, rfl, rfl, K.congr fun c => ⟨.inl, fun z => z.resolve_right (by omega)⟩⟩ (by
      rintro i x g hh hx ⟨ks', y, rfl, rfl, K'⟩
      obtain ⟨rfl, hi⟩ := range_at hx
      have hl := K'.len
      have hl2 : (kd ks').length < 16777216 := by simp [kd]; omega
      refine ⟨[x0, some (.loc h.length), x2, x3, some (.int (a + i)), x5], h ++ [.dic (kd (addK ks' (a + i)))], ?_, still_none _ _, _, _, rfl, rfl, (K'.add (k := a + i) (by omega) (by omega)).congr fun c => or_assoc.trans (or_congr Iff.rfl (by omega))⟩
      simp [forF, b33_1, hl2, putD_kd])
  refine ⟨ks', y, e, K'.congr fun c => or_congr Iff.rfl ?_⟩
  rw [rangeD_len]
  omega
-- what may be walked as spans
def Seq (x : D) (ps : List (Int × Int)) : Prop := x = .tup (sp ps) ∨ x = .lst (sp ps)
theorem Seq.it {x : D} {ps : List (Int × Int)} (h : Seq x ps) (hh : Heap) : seqIt x hh = some (.ok (sp ps, none) hh) := by
  rcases h with rfl | rfl <;> rfl
theorem in33b (k : Nat) (x0 x5 : Option D) (h : Heap) (ps : List (Int × Int)) (hp : ∀ p ∈ ps, 0 ≤ p.1 ∧ 0 ≤ p.2 ∧ p.1 + p.2 ≤ 60) :
    ∃ ks y2 y3 y4, forGo (sp ps, none) (forF (.tup [.slot 2, .slot 3]) (execs (callI T k) T.get b33_2)) (sp ps) [x0, some (.loc h.length), none, none, none, x5] (h ++ [.dic []]) = some (.ok (.nx [x0, some (.loc h.length), y2, y3, y4, x5]) (h ++ [.dic (kd ks)])) ∧ Keys ks (In ps) := by
  obtain ⟨g', h', e, ks', y2, y3, y4, rfl, rfl, K'⟩ := forGo_go (its := (sp ps, none)) (f := forF (.tup [.slot 2, .slot 3]) (execs (callI T k) T.get b33_2)) (g := [x0, some (.loc h.length), none, none, none, x5]) (h := h ++ [.dic []])
    (fun i g hh => ∃ ks y2 y3 y4, g = [x0, some (.loc h.length), y2, y3, y4, x5] ∧ hh = h ++ [.dic (kd ks)] ∧ Keys ks (In (ps.take i))) ⟨[], none, none, none, rfl, rfl, ⟨by simp, fun c => by simp [in_nil], by simp⟩⟩ (by
      rintro i x g hh hx ⟨ks, y2, y3, y4, rfl, rfl, K⟩
      obtain ⟨p, ep, rfl⟩ := sp_get hx
      have b := hp p (List.mem_of_getElem? ep)
      obtain ⟨ks', y, e, K'⟩ := in33a k x0 (some (.int p.1)) (some (.int p.2)) y4 x5 h p.1 (p.1 + p.2) ks _ K b.1 (by omega) b.2.2
      refine ⟨_, _, ?_, still_none _ _, ks', some (.int p.1), some (.int p.2), y, rfl, rfl, K'.congr fun c => ?_⟩
      · have S1 : small p.1 = true := decide_eq_true (by omega)
        have S2 : small (p.1 + p.2) = true := decide_eq_true (by omega)
        simp [forF, b33_2, S1, S2, e]
      · rw [List.take_add_one, ep]
        simp only [Option.toList_some]
        rw [in_app, in_one])
  refine ⟨ks', y2, y3, y4, e, K'.congr fun c => ?_⟩
  rw [List.length_map, List.take_length]
theorem body33 (k : Nat) (f : List (Int × Int)) (c : Int) (x0 x1 x2 x3 : Option D) (h : Heap) (hf : f.length < 16777216) : execs (callI T k) T.get b33_3 [x0, x1, x2, x3, some (.int c), some (.loc h.length)] (h ++ [.lst (sp f)]) = some (.ok (.nx [x0, x1, x2, x3, some (.int c), some (.loc h.length)]) (h ++ [.lst (sp (addC f c))])) := by
  rcases last_or f with rfl | ⟨g, q, rfl⟩
  · simp [b33_3, addC, look, pairD]
  · have hd := dok_sp 58 (g ++ [q])
    have hg : g.length + 1 < 16777216 := by simpa using hf
    have e : addC (g ++ [q]) c = if q.1 + q.2 = c then g ++ [(q.1, q.2 + 1)] else g ++ [q] ++ [(c, 1)] := by
      unfold addC
      simp
    rw [e]
    simp [sp, pairD] at hd
    by_cases z : q.1 + q.2 = c
    · simp [b33_3, look, pairD, z, hd]
    · simp [b33_3, look, pairD, z, hd, hg]
theorem addC_len (f : List (Int × Int)) (p : Int) : (addC f p).length ≤ f.length + 1 := by
  unfold addC
  split
  · split
    · simp only [List.length_append, List.length_dropLast, List.length_cons, List.length_nil]
      omega
    · simp
  · simp
theorem foldC_len : ∀ (l : List Int) (f : List (Int × Int)), (l.foldl addC f).length ≤ f.length + l.length
  | [], f => by simp
  | p :: ps, f => by
    have := foldC_len ps (addC f p)
    have := addC_len f p
    simp only [List.foldl_cons, List.length_cons]
    omega
theorem in33c (k : Nat) (x0 x1 x2 x3 x4 : Option D) (h : Heap) (cs : List Int) (hl : cs.length ≤ 60) :
    ∃ y, forGo (cs.map .int, none) (forF (.slot 4) (execs (callI T k) T.get b33_3)) (cs.map .int) [x0, x1, x2, x3, x4, some (.loc h.length)] (h ++ [.lst []]) = some (.ok (.nx [x0, x1, x2, x3, y, some (.loc h.length)]) (h ++ [.lst (sp (leanC cs))])) := by
  obtain ⟨g', h', e, y, rfl, rfl⟩ := forGo_go (its := (cs.map D.int, none)) (f := forF (.slot 4) (execs (callI T k) T.get b33_3)) (g := [x0, x1, x2, x3, x4, some (.loc h.length)]) (h := h ++ [.lst []])
    (fun i g hh => ∃ y, g = [x0, x1, x2, x3, y, some (.loc h.length)] ∧ hh = h ++ [.lst (sp ((cs.take i).foldl addC []))]) ⟨x4, rfl, rfl⟩ (by
      rintro i x g hh hx ⟨y, rfl, rfl⟩
      obtain ⟨c, ec, rfl⟩ : ∃ c, cs[i]? = some c ∧ .int c = x := by simpa using hx
      have hlen := foldC_len (cs.take i) []
      have b := body33 k ((cs.take i).foldl addC []) c x0 x1 x2 x3 h (by simp only [List.length_nil, List.length_take] at hlen; omega)
      refine ⟨_, _, ?_, still_none _ _, some (.int c), rfl, by rw [take_snoc _ _ _ ec]⟩
      simp only [forF, assign, List.set_cons_zero, List.set_cons_succ]
      exact b)
  refine ⟨y, ?_⟩
  simp only [List.length_map, List.take_length] at e
  exact e
theorem intKs_kd (ks : List Int) : intKs ((kd ks).map (·.1)) = some ks := by
  unfold kd
  rw [List.map_map]
  induction ks with
  | nil => rfl
  | cons k ks ih => simp only [List.map_cons, Function.comp, intKs]; rw [show (ks.map ((fun x : Sum Int PySem.Str × D => x.1) ∘ fun k => (Sum.inl k, D.bl true))) = ks.map ((fun x => x.fst) ∘ fun k => (Sum.inl k, D.bl true)) from rfl, ih]; rfl
theorem s33 (k : Nat) (x : D) (ps : List (Int × Int)) (h : Heap) (hs : Seq x ps) (hp : ∀ p ∈ ps, 0 ≤ p.1 ∧ 0 ≤ p.2 ∧ p.1 + p.2 ≤ 60) :
    ∃ f, callI T (k + 1) 33 [x] h = some (.ok (.newL (sp f)) h) ∧ Lot f ∧ ∀ c, In f c ↔ In ps c := by
  obtain ⟨ks, y2, y3, y4, e1, K⟩ := in33b k (some x) none h ps hp
  have pm := sortBy_perm leI ks
  have rs := sort_rise K.nd
  obtain ⟨l1, l2⟩ := leanC_lot rs
  have hl := K.len
  obtain ⟨y, e2⟩ := in33c k (some x) (some (.loc h.length)) y2 y3 y4 (h ++ [.dic (kd ks)]) (sortBy leI ks) (by rw [pm.length_eq]; exact hl)
  refine ⟨leanC (sortBy leI ks), ?_, l1, fun c => by rw [l2 c, pm.mem_iff, K.mem c]⟩
  rw [call_of t33 rfl]
  have x1 : exec (callI T k) T.get (d33.body.getD 0 .never) [some x, none, none, none, none, none] h = some (.ok (.nx [some x, some (.loc h.length), none, none, none, none]) (h ++ [.dic []])) := by
    simp [d33]
  have x2 : exec (callI T k) T.get (d33.body.getD 1 .never) [some x, some (.loc h.length), none, none, none, none] (h ++ [.dic []]) = some (.ok (.nx [some x, some (.loc h.length), y2, y3, y4, none]) (h ++ [.dic (kd ks)])) := by
    show exec _ _ (.for_ _ (.of (.var 0)) _) _ _ = _
    simp only [exec, items, eval, List.getElem?_cons_zero, bd_ok, R.frz_v, hs.it]
    exact e1
  have x3 : exec (callI T k) T.get (d33.body.getD 2 .never) [some x, some (.loc h.length), y2, y3, y4, none] (h ++ [.dic (kd ks)]) = some (.ok (.nx [some x, some (.loc h.length), y2, y3, y4, some (.loc (h ++ [O.dic (kd ks)]).length)]) (h ++ [.dic (kd ks)] ++ [.lst []])) := by
    simp [d33]
  have h64 : ks.length < 64 := by omega
  have dk : dicOf (h ++ [.dic (kd ks)] ++ [.lst []]) (.loc h.length) = some (kd ks) := by simp [dicOf]
  have x4 : exec (callI T k) T.get (d33.body.getD 3 .never) [some x, some (.loc h.length), y2, y3, y4, some (.loc (h ++ [O.dic (kd ks)]).length)] (h ++ [.dic (kd ks)] ++ [.lst []]) = some (.ok (.nx [some x, some (.loc h.length), y2, y3, y, some (.loc (h ++ [O.dic (kd ks)]).length)]) (h ++ [.dic (kd ks)] ++ [.lst (sp (leanC (sortBy leI ks)))])) := by
    show exec _ _ (.for_ _ (.of (.srtD (.var 1))) _) _ _ = _
    simp only [exec, items, eval, List.getElem?_cons_zero, List.getElem?_cons_succ, bd_ok, R.frz_v, srtDM, dk, intKs_kd, h64, if_true, R.frz_newL, seqIt]
    exact e2
  show endI h (execs _ _ (d33.body.drop 0) [some x, none, none, none, none, none] h) = _
  rw [execs_at 0 (by decide) x1, execs_at 1 (by decide) x2, execs_at 2 (by decide) x3, execs_at 3 (by decide) x4, execs_rt 4 (by decide) (show exec (callI T k) T.get (.ret (.var 5)) _ _ = some (.ok (.rt (.v (.loc (h ++ [O.dic (kd ks)]).length))) (h ++ [.dic (kd ks)] ++ [.lst (sp (leanC (sortBy leI ks)))])) by simp), endI_rt]
  rw [gc_loc2 (l := sp (leanC (sortBy leI ks))) (by rw [List.append_assoc]; exact oldOk_app _ _) (by simp) (by simp) (cl_sp _ _), List.append_assoc, take_end]
end K02

/-! The law's own single cells, on. -/
namespace K02
open MP
theorem range_rg (a n : Int) : rangeD a (a + n) = (rgI a n).map .int := by
  unfold rangeD rgI
  rw [List.map_map, show a + n - a = n by omega]
  rfl
theorem cells_take {ps : List (Int × Int)} {i : Nat} {p : Int × Int} (e : ps[i]? = some p) : cells (ps.take (i + 1)) = cells (ps.take i) ++ rgI p.1 p.2 := by
  rw [List.take_add_one, e]
  simp only [Option.toList_some]
  rw [cells_app]
  simp [cells]
theorem cells_mono : ∀ (ps : List (Int × Int)) (i : Nat), (cells (ps.take i)).length ≤ (cells ps).length := fun ps i => by
  have : cells ps = cells (ps.take i) ++ cells (ps.drop i) := by rw [← cells_app, List.take_append_drop]
  rw [this, List.length_append]
  omega
theorem s34 (k : Nat) (x : D) (ps : List (Int × Int)) (h : Heap) (hs : Seq x ps) (hp : ∀ p ∈ ps, -(2 ^ 60) < p.1 ∧ p.1 < 2 ^ 60 ∧ 0 ≤ p.2 ∧ p.2 < 2 ^ 60) (hl : (cells ps).length ≤ 16777216) :
    callI T (k + 1) 34 [x] h = some (.ok (.v (.lst ((cells ps).map .int))) h) := by
  obtain ⟨g', h', e, ⟨y2, y3, rfl⟩, eh⟩ := forGo_go (its := (sp ps, none)) (f := forF (.tup [.slot 2, .slot 3]) (execs (callI T k) T.get b34_1)) (g := [some x, some (.lst []), none, none]) (h := h)
    (fun i g hh => (∃ y2 y3, g = [some x, some (.lst ((cells (ps.take i)).map .int)), y2, y3]) ∧ hh = h) ⟨⟨none, none, by simp [cells]⟩, rfl⟩ (by
      rintro i x g hh hx ⟨⟨y2, y3, rfl⟩, rfl⟩
      obtain ⟨p, ep, rfl⟩ := sp_get hx
      obtain ⟨b1, b2, b3, b4⟩ := hp p (List.mem_of_getElem? ep)
      have S1 : small p.1 = true := decide_eq_true (by omega)
      have S2 : small (p.1 + p.2) = true := decide_eq_true (by omega)
      have m := cells_mono ps (i + 1)
      rw [cells_take ep, List.length_append] at m
      have hl1 : (rgI p.1 p.2).length ≤ 16777216 := by omega
      have hl2 : (cells (ps.take i)).length + (rgI p.1 p.2).length ≤ 16777216 := by omega
      rw [cells_take ep]
      refine ⟨_, _, ?_, still_none _ _, ⟨some (.int p.1), some (.int p.2), rfl⟩, rfl⟩
      simp [forF, b34_1, S1, S2, bi, range_rg, hl1, hl2])
  simp only [List.length_map, List.take_length] at e
  rw [eh] at e
  rw [call_of t34 rfl]
  have x1 : exec (callI T k) T.get (d34.body.getD 0 .never) [some x, none, none, none] h = some (.ok (.nx [some x, some (.lst []), none, none]) h) := by
    simp [d34]
  have x2 : exec (callI T k) T.get (d34.body.getD 1 .never) [some x, some (.lst []), none, none] h = some (.ok (.nx [some x, some (.lst ((cells ps).map .int)), y2, y3]) h) := by
    show exec _ _ (.for_ _ (.of (.var 0)) _) _ _ = _
    simp only [exec, items, eval, List.getElem?_cons_zero, bd_ok, R.frz_v, hs.it]
    exact e
  show endI h (execs _ _ (d34.body.drop 0) [some x, none, none, none] h) = _
  rw [execs_at 0 (by decide) x1, execs_at 1 (by decide) x2, execs_rt 2 (by decide) (show exec (callI T k) T.get (.ret (.var 1)) _ _ = some (.ok (.rt (.v (.lst ((cells ps).map .int)))) h) by simp), endI_rt]
  exact gc_lst (cl_ints _ _)
theorem s36 (k : Nat) (x : D) (ps : List (Int × Int)) (far : Int) (h : Heap) (hs : Seq x ps) (hl : ps.length ≤ 5000) : callI T (k + 1) 36 [x, .int far] h = some (.ok (.v (.tup (sp (mv far ps)))) h) := by
  rw [call_of t36 rfl]
  have b := lcGo_mapf (f := lcF (sp ps, none) (.tup [.slot 2, .slot 3]) (wipes [some x, some (.int far), none, none] [2, 3]) (tests (callI T k) T.get []) (eval (callI T k) T.get e36_1)) (h := h) pairD (fun p => some (pairD (p.1 + far, p.2))) ps fun p hp => by
    simp [lcF, wipes, still_none, e36_1, pairD]
  rw [List.filterMap_eq_map'] at b
  have em : (ps.map fun p => pairD (p.1 + far, p.2)) = sp (mv far ps) := by
    unfold mv sp
    rw [List.map_map]
    rfl
  rw [em] at b
  have hl2 : (sp (mv far ps)).length ≤ lim := by rw [List.length_map, mv_len, lim_val]; omega
  have ev : eval (callI T k) T.get (.bi .tuple (.of (.lc e36_1 (.tup [(.slot 2), (.slot 3)]) (.of (.var 0)) [] [2, 3]))) [some x, some (.int far), none, none] h = some (.ok (.v (.tup (sp (mv far ps)))) h) := by
    simp only [eval, items, bd_ok, List.getElem?_cons_zero, R.frz_v]
    rw [hs.it]
    simp only [bd_ok, b, hl2, if_true, R.frz_newL, seqIt, bi, ofO_some]
  simp only [d36, execs, exec, start, List.map_cons, List.map_nil, List.length_cons, List.length_nil, List.replicate, List.cons_append, List.nil_append, ev, bd_ok, endI_rt]
  exact gc_tup (cl_sp _ _)
theorem zip_ints : ∀ (l m : List Int), List.zipWith (fun x y => D.tup [x, y]) (l.map .int) (m.map .int) = sp (l.zip m)
  | [], _ => by simp
  | _ :: _, [] => by simp
  | a :: l, b :: m => by
    have := zip_ints l m
    simp only [List.map_cons, List.zipWith_cons_cons, List.zip_cons_cons, this]
    rfl
theorem foldT : ∀ (l : List (Int × Int)) (f : List Tr), Canon f → Canon (l.foldl addT f) ∧ ex (l.foldl addT f) = ex f ++ l
  | [], f, h => ⟨h, by simp⟩
  | q :: l, f, h => by
    obtain ⟨a, b⟩ := addT_ok h q
    obtain ⟨c, d⟩ := foldT l _ a
    exact ⟨c, by rw [List.foldl_cons, d, b, List.append_assoc]; rfl⟩
theorem foldT_len : ∀ (l : List (Int × Int)) (f : List Tr), (l.foldl addT f).length ≤ f.length + l.length
  | [], f => by simp
  | p :: ps, f => by
    have := foldT_len ps (addT f p)
    have := addT_len f p
    simp only [List.foldl_cons, List.length_cons]
    omega
theorem s37 (k : Nat) (x y : D) (ps qs : List (Int × Int)) (h : Heap) (hx : Seq x ps) (hy : Seq y qs) (hp : ∀ p ∈ ps, -(2 ^ 60) < p.1 ∧ p.1 < 2 ^ 60 ∧ 0 ≤ p.2 ∧ p.2 < 2 ^ 60) (hq : ∀ p ∈ qs, -(2 ^ 60) < p.1 ∧ p.1 < 2 ^ 60 ∧ 0 ≤ p.2 ∧ p.2 < 2 ^ 60) (hl : (cells ps).length ≤ 5000) (hl2 : (cells qs).length ≤ 5000) :
    ∃ f, callI T (k + 2) 37 [x, y] h = some (.ok (.newL (ts f)) h) ∧ Canon f ∧ ex f = (cells ps).zip (cells qs) ∧ f.length ≤ 5000 := by
  have c1 := s34 k x ps h hx hp (by omega)
  have c2 := s34 k y qs h hy hq (by omega)
  obtain ⟨l, el⟩ : ∃ l, l = (cells ps).zip (cells qs) := ⟨_, rfl⟩
  have ll : l.length ≤ 5000 := by rw [el, List.length_zip]; omega
  obtain ⟨g', h', e, ⟨y3, y4, rfl⟩, rfl⟩ := forGo_go (its := (sp l, none)) (f := forF (.tup [.slot 3, .slot 4]) (execs (callI T (k + 1)) T.get b37_1)) (g := [some x, some y, some (.loc h.length), none, none]) (h := h ++ [.lst []])
    (fun i g hh => (∃ y3 y4, g = [some x, some y, some (.loc h.length), y3, y4]) ∧ hh = h ++ [.lst (ts ((l.take i).foldl addT []))]) ⟨⟨none, none, rfl⟩, rfl⟩ (by
      rintro i z g hh hz ⟨⟨y3, y4, rfl⟩, rfl⟩
      obtain ⟨p, ep, rfl⟩ := sp_get hz
      have hlen := foldT_len (l.take i) []
      have b := body37 (k + 1) ((l.take i).foldl addT []) p (some x) (some y) h (by simp only [List.length_nil, List.length_take] at hlen; omega)
      refine ⟨_, _, ?_, still_none _ _, ⟨some (.int p.1), some (.int p.2), rfl⟩, by rw [take_snoc _ _ _ ep]⟩
      simp only [forF, assign, assigns, List.set_cons_zero, List.set_cons_succ]
      exact b)
  simp only [List.length_map, List.take_length] at e
  obtain ⟨f1, f2⟩ := foldT l [] Canon.nil
  refine ⟨l.foldl addT [], ?_, f1, by rw [f2, ← el]; rfl, by have := foldT_len l []; simp only [List.length_nil] at this; omega⟩
  rw [call_of t37 rfl]
  have x1 : exec (callI T (k + 1)) T.get (d37.body.getD 0 .never) [some x, some y, none, none, none] h = some (.ok (.nx [some x, some y, some (.loc h.length), none, none]) (h ++ [.lst []])) := by
    simp [d37]
  have c1' := s34 k x ps (h ++ [.lst []]) hx hp (by omega)
  have c2' := s34 k y qs (h ++ [.lst []]) hy hq (by omega)
  have x2 : exec (callI T (k + 1)) T.get (d37.body.getD 1 .never) [some x, some y, some (.loc h.length), none, none] (h ++ [.lst []]) = some (.ok (.nx [some x, some y, some (.loc h.length), y3, y4]) (h ++ [.lst (ts (l.foldl addT []))])) := by
    show exec _ _ (.for_ _ (.zip (.call 34 [(.var 0)]) (.call 34 [(.var 1)])) _) _ _ = _
    simp only [exec, items, eval, evals, List.getElem?_cons_zero, List.getElem?_cons_succ, bd_ok, R.frz_v, c1', c2', zipIt, zip_ints, ← el]
    exact e
  show endI h (execs _ _ (d37.body.drop 0) [some x, some y, none, none, none] h) = _
  rw [execs_at 0 (by decide) x1, execs_at 1 (by decide) x2, execs_rt 2 (by decide) (show exec (callI T (k + 1)) T.get (.ret (.var 2)) _ _ = some (.ok (.rt (.v (.loc h.length))) (h ++ [.lst (ts (l.foldl addT []))])) by simp), endI_rt]
  exact gc_locA (cl_ts _ _)
/-! ### with checks -/
theorem s19 (k : Nat) (ps : List (Int × Int)) (h : Heap) (hp : ∀ p ∈ ps, SpOk p) (hl : ps.length ≤ 5000) : callI T (k + 5) 19 [.tup (sp ps)] h = some (.ok (.v (.tup (sp (leanS ps)))) h) := by
  rw [call_of t19 rfl]
  simp [d19, s4 k ps h hp hl, s5 (k + 2) ps h (by omega)]
  exact gc_tup (cl_sp _ _)
theorem s20 (k : Nat) (ps qs : List (Int × Int)) (h : Heap) (hp : LotB ps) (hq : LotB qs) (hl : (leanS (ps ++ qs)).length ≤ 5000) : callI T (k + 8) 20 [.tup (sp ps), .tup (sp qs)] h = some (.ok (.v (.tup (sp (leanS (ps ++ qs))))) h) := by
  rw [call_of t20 rfl]
  have f1 := hp.few
  have f2 := hq.few
  have a := s5 (k + 5) (ps ++ qs) h (by simp; omega)
  have b := s18 (k + 6) (sp (leanS (ps ++ qs))) h (by simpa using hl) (cl_sp _ _)
  have c : ps.length + qs.length ≤ 16777216 := by omega
  simp only [sp, List.map_append] at a b
  simp [d20, s16 k ps qs h hp hq, c, a, b]
  exact gc_tup (cl_sp _ _)
theorem s21 (k : Nat) (ps qs : List (Int × Int)) (h : Heap) (lo : Int) (hp : LotB ps) (hq : LotB qs) (hn : Near lo ps) : ∃ f, callI T (k + 8) 21 [.tup (sp ps), .tup (sp qs)] h = some (.ok (.v (.tup (sp f))) h) ∧ Lot f ∧ ∀ c, In f c ↔ In ps c ∧ In qs c := by
  obtain ⟨f, e, l, t⟩ := s6 (k + 5) ps qs h hp.toLot hq.toLot hp.few hq.few
  refine ⟨f, ?_, l, t⟩
  rw [call_of t21 rfl]
  have hl := near_len l fun c hc => hn c ((t c).mp hc).1
  have b := s18 (k + 6) (sp f) h (by simp; omega) (cl_sp _ _)
  simp [d21, s16 k ps qs h hp hq, e, b]
  exact gc_tup (cl_sp _ _)
theorem s22 (k : Nat) (ps qs : List (Int × Int)) (h : Heap) (lo : Int) (hp : LotB ps) (hq : LotB qs) (hn : Near lo ps) : ∃ f, callI T (k + 8) 22 [.tup (sp ps), .tup (sp qs)] h = some (.ok (.v (.tup (sp f))) h) ∧ Lot f ∧ ∀ c, In f c ↔ In ps c ∧ ¬ In qs c := by
  obtain ⟨f, e, l, t⟩ := s7 (k + 5) ps qs h lo hp.toLot hq.toLot hn hq.few
  refine ⟨f, ?_, l, t⟩
  rw [call_of t22 rfl]
  have hl := near_len l fun c hc => hn c ((t c).mp hc).1
  have b := s18 (k + 6) (sp f) h (by simp; omega) (cl_sp _ _)
  simp [d22, s16 k ps qs h hp hq, e, b]
  exact gc_tup (cl_sp _ _)
theorem s23 (k : Nat) (ps qs : List (Int × Int)) (h : Heap) (hp : LotB ps) (hq : LotB qs) : ∃ b, callI T (k + 8) 23 [.tup (sp ps), .tup (sp qs)] h = some (.ok (.v (.bl b)) h) ∧ (b = true ↔ ∀ c, ¬ (In ps c ∧ In qs c)) := by
  obtain ⟨f, e, l, t⟩ := s6 (k + 5) ps qs h hp.toLot hq.toLot hp.few hq.few
  refine ⟨decide (f = []), ?_, ?_⟩
  · rw [call_of t23 rfl]
    have hd := dok_sp 58 f
    have he := eqD_sp f []
    simp only [sp, List.map_nil] at hd he
    simp [d23, s16 k ps qs h hp hq, e, look, hd, he]
    exact gc_bl _ _
  · rw [decide_eq_true_eq]
    constructor
    · rintro rfl c hc
      exact in_nil.mp ((t c).mpr hc)
    · intro n
      cases f with
      | nil => rfl
      | cons p f =>
        exfalso
        exact n p.1 ((t p.1).mp (in_cons.mpr (.inl ⟨Int.le_refl _, by have := l.head.1; omega⟩)))
theorem s24 (k : Nat) (ps : List (Int × Int)) (h : Heap) (hp : LotB ps) : callI T (k + 7) 24 [.tup (sp ps)] h = some (.ok (.v (.int (size ps))) h) := by
  rw [call_of t24 rfl]
  simp [d24, s15 k ps h hp, s8 (k + 5) ps h hp.few]
  exact gc_int _ _
theorem s25 (k : Nat) (ps : List (Int × Int)) (c : Int) (h : Heap) (hp : LotB ps) (h1 : 0 ≤ c) (h2 : c ≤ MOST) : callI T (k + 7) 25 [.tup (sp ps), .int c] h = some (.ok (.v (.bl (decide (In ps c)))) h) := by
  rw [call_of t25 rfl]
  simp [d25, s15 k ps h hp, s17 (k + 3) c h h1 h2, s10 (k + 5) ps c h hp.few]
  exact gc_bl _ _
theorem s26 (k : Nat) (ps : List (Int × Int)) (c : Int) (h : Heap) (hp : LotB ps) (h1 : 0 ≤ c) (h2 : c ≤ MOST) : callI T (k + 7) 26 [.tup (sp ps), .int c] h = some (.ok (.v (.int (rk ps c))) h) := by
  rw [call_of t26 rfl]
  simp [d26, s15 k ps h hp, s17 (k + 3) c h h1 h2, s9 (k + 5) ps c h hp.few]
  exact gc_int _ _
theorem s27 (k : Nat) (ps : List (Int × Int)) (i c : Int) (h : Heap) (hp : LotB ps) (h1 : 0 ≤ i) (h2 : i < size ps) (e : cellAt ps i = some c) : callI T (k + 7) 27 [.tup (sp ps), .int i] h = some (.ok (.v (.int c)) h) := by
  rw [call_of t27 rfl]
  have b : 0 ≤ i ∧ i ≤ size ps - 1 := ⟨h1, by omega⟩
  simp [d27, s15 k ps h hp, s8 (k + 5) ps h hp.few, s1, b, s11 (k + 5) ps i c h e]
  exact gc_int _ _
theorem s28 (k : Nat) (ps : List (Int × Int)) (m : Int) (h : Heap) (hp : LotB ps) (h1 : 0 ≤ m) (h2 : m ≤ size ps) : callI T (k + 7) 28 [.tup (sp ps), .int m] h = some (.ok (.v (.tup (sp (firstC ps m)))) h) := by
  rw [call_of t28 rfl]
  have b : 0 ≤ m ∧ m ≤ size ps := ⟨h1, h2⟩
  simp [d28, s15 k ps h hp, s8 (k + 5) ps h hp.few, s1, b, s12 (k + 5) ps m h hp.few]
  exact gc_tup (cl_sp _ _)
theorem s29 (k : Nat) (ps qs : List (Int × Int)) (h : Heap) (hp : LotB ps) (hq : LotB qs) (n1 : ps.length ≤ 1000) (n2 : qs.length ≤ 1000) (hl : size ps = size qs) : ∃ f, callI T (k + 8) 29 [.tup (sp ps), .tup (sp qs)] h = some (.ok (.v (.tup (ts f))) h) ∧ Canon f ∧ ex f = (cells ps).zip (cells qs) := by
  have lp := cells_len (ps := ps) fun p h => Int.le_of_lt (hp.pos p h)
  have lq := cells_len (ps := qs) fun p h => Int.le_of_lt (hq.pos p h)
  have hl' : (cells ps).length = (cells qs).length := by
    unfold size at hl
    omega
  obtain ⟨f, e, a, b, c⟩ := s13 (k + 6) ps qs h hp.toLot hq.toLot n1 n2 hl'
  refine ⟨f, ?_, a, b⟩
  rw [call_of t29 rfl]
  have d := s18l (k + 6) (ts f) h (by simpa using c) (cl_ts _ _)
  simp [d29, s16 k ps qs h hp hq, s8 (k + 6) ps h hp.few, s8 (k + 6) qs h hq.few, hl, look, e, d]
  exact gc_tup (cl_ts _ _)
end K02

/-! Lots and their single cells: what the law compares. -/
namespace K02
open MP
structure Small (L : List (Int × Int)) : Prop extends Lot L where
  rng : ∀ c, In L c → 0 ≤ c ∧ c < 60
def Far (far : Int) : Prop := 0 ≤ far ∧ far ≤ 10 ^ 60
theorem Small.bnd {L : List (Int × Int)} (h : Small L) : ∀ p ∈ L, 0 ≤ p.1 ∧ p.1 + p.2 ≤ 60 := h.bounds h.rng
theorem Small.len {L : List (Int × Int)} (h : Small L) : L.length ≤ 60 := by
  have := Lot.len h.toLot (lo := 0) (hi := 60) (by decide) h.bnd
  omega
theorem Small.lotB {L : List (Int × Int)} (h : Small L) {far : Int} (hf : Far far) : LotB (mv far L) := by
  refine ⟨h.toLot.mv far, fun p hp => ?_, by rw [mv_len]; have := h.len; omega⟩
  obtain ⟨q, hq, rfl⟩ := List.mem_map.mp hp
  have b := h.bnd q hq
  have c := h.pos q hq
  have m := MOST_pos
  obtain ⟨f1, f2⟩ := hf
  exact ⟨by simp only; omega, by simp only; omega, by simp only; omega⟩
theorem Small.near {L : List (Int × Int)} (h : Small L) (far : Int) : Near far (mv far L) := fun c hc => by
  have := h.rng _ (in_mv.mp hc)
  omega
theorem Small.pos' {L : List (Int × Int)} (h : Small L) : ∀ p ∈ L, 0 ≤ p.2 := fun p hp => Int.le_of_lt (h.pos p hp)
theorem Small.mid {L : List (Int × Int)} (h : Small L) : ∀ p ∈ L, -(2 ^ 60) < p.1 ∧ p.1 < 2 ^ 60 ∧ 0 ≤ p.2 ∧ p.2 < 2 ^ 60 := fun p hp => by
  have := h.bnd p hp
  have := h.pos p hp
  omega
theorem Small.cells_len {L : List (Int × Int)} (h : Small L) : (cells L).length ≤ 60 := by
  have := rise_len (cells_sorted h.toLot) (lo := 0) (hi := 60) (by decide) fun c hc => h.rng c (mem_cells.mp hc)
  omega
theorem size_mv (far : Int) (L : List (Int × Int)) : size (mv far L) = size L := by
  unfold size mv
  rw [List.map_map]
  rfl
theorem Small.size {L : List (Int × Int)} (h : Small L) : size L = (cells L).length := (MP.cells_len h.pos').symm
theorem rk_mv (far c : Int) : ∀ L : List (Int × Int), rk (mv far L) (c + far) = rk L c
  | [] => rfl
  | p :: L => by
    have := rk_mv far c L
    unfold mv at this ⊢
    simp only [List.map_cons, rk, this]
    have e : c + far - (p.1 + far) = c - p.1 := by omega
    rw [e]
    by_cases z : p.1 < c
    · rw [if_pos z, if_pos (by omega)]
    · rw [if_neg z, if_neg (by omega)]
theorem rg_below (a n c : Int) (hn : 0 ≤ n) : (((rgI a n).filter fun x => decide (x < c)).length : Int) = if a < c then mn n (c - a) else 0 := by
  have m := mn_or n (c - a)
  split
  · rename_i z
    have e : (rgI a n).filter (fun x => decide (x < c)) = rgI a (mn n (c - a)) := by
      refine rise_uniq ((rg_sorted a n).filter _) (rg_sorted _ _) fun x => ?_
      rw [List.mem_filter, mem_rg, mem_rg, decide_eq_true_eq]
      omega
    rw [e, rg_len]
    omega
  · rename_i z
    have e : (rgI a n).filter (fun x => decide (x < c)) = [] := by
      rw [List.filter_eq_nil_iff]
      intro x hx
      have := mem_rg.mp hx
      simp only [decide_eq_true_eq]
      omega
    rw [e]
    rfl
theorem rk_cells (c : Int) : ∀ {L : List (Int × Int)}, (∀ p ∈ L, 0 ≤ p.2) → rk L c = ((cells L).filter fun x => decide (x < c)).length
  | [], _ => rfl
  | p :: L, h => by
    have a := rg_below p.1 p.2 c (h p (by simp))
    have b := rk_cells c (L := L) fun q hq => h q (by simp [hq])
    rw [rk, cells, List.filter_append, List.length_append, Int.natCast_add, a, b]
theorem cellAt_mv (far : Int) : ∀ (L : List (Int × Int)) (i : Int), cellAt (mv far L) i = (cellAt L i).map (· + far)
  | [], _ => rfl
  | p :: L, i => by
    have := cellAt_mv far L (i - p.2)
    unfold mv at this ⊢
    simp only [List.map_cons, cellAt, this]
    split
    · simp only [Option.map_some, Option.some.injEq]
      omega
    · rfl
theorem firstC_mv (far : Int) : ∀ (L : List (Int × Int)) (m : Int), firstC (mv far L) m = mv far (firstC L m)
  | [], _ => rfl
  | p :: L, m => by
    have a := firstC_mv far L (m - mn p.2 m)
    have b := firstC_mv far L m
    unfold mv at a b ⊢
    simp only [List.map_cons, firstC, a, b]
    split <;> rfl
theorem firstC_mem : ∀ {L : List (Int × Int)} {m : Int} {q : Int × Int}, (∀ p ∈ L, 0 < p.2) → q ∈ firstC L m → 0 < q.2 ∧ ∃ p ∈ L, q.1 = p.1 ∧ q.2 ≤ p.2
  | [], _, _, _, h => by cases h
  | p :: L, m, q, hp, h => by
    rw [firstC] at h
    have p1 := hp p (by simp)
    have mm := mn_or p.2 m
    split at h
    · rcases List.mem_cons.mp h with rfl | h
      · exact ⟨by simp only; omega, p, by simp, rfl, mm.1⟩
      · obtain ⟨a, r, hr, b⟩ := firstC_mem (fun x hx => hp x (by simp [hx])) h
        exact ⟨a, r, by simp [hr], b⟩
    · obtain ⟨a, r, hr, b⟩ := firstC_mem (fun x hx => hp x (by simp [hx])) h
      exact ⟨a, r, by simp [hr], b⟩
theorem firstC_lot : ∀ {L : List (Int × Int)} {m : Int}, Lot L → Lot (firstC L m)
  | [], _, _ => Lot.nil
  | p :: L, m, h => by
    obtain ⟨h1, h2⟩ := h.head
    have mm := mn_or p.2 m
    rw [firstC]
    split
    · have ih := firstC_lot (m := m - mn p.2 m) h.tail
      refine ⟨fun q hq => ?_, List.pairwise_cons.mpr ⟨fun q hq => ?_, ih.gap⟩⟩
      · rcases List.mem_cons.mp hq with rfl | hq
        · simp only
          omega
        · exact ih.pos q hq
      · obtain ⟨_, r, hr, e, _⟩ := firstC_mem h.tail.pos hq
        have := h2 r hr
        simp only
        omega
    · exact firstC_lot h.tail
theorem rg_take (a n : Int) (k : Nat) : (rgI a n).take k = rgI a (min n k) := by
  unfold rgI
  rw [← List.map_take, List.take_range]
  congr 2
  omega
theorem firstC_zero : ∀ (L : List (Int × Int)) (m : Int), m ≤ 0 → firstC L m = []
  | [], _, _ => rfl
  | p :: L, m, h => by rw [firstC, if_neg (by omega), firstC_zero L m h]
theorem firstC_cells : ∀ {L : List (Int × Int)} {m : Int}, (∀ p ∈ L, 0 ≤ p.2) → 0 ≤ m → cells (firstC L m) = (cells L).take m.toNat
  | [], m, _, _ => by simp [firstC, cells]
  | p :: L, m, h, hm => by
    have p1 := h p (by simp)
    have mm := mn_or p.2 m
    rw [firstC]
    split
    · rename_i z
      have ih := firstC_cells (L := L) (m := m - mn p.2 m) (fun q hq => h q (by simp [hq])) (by omega)
      simp only [cells]
      rw [List.take_append, rg_len, rg_take, ih]
      congr 1
      · congr 1
        omega
      · congr 1
        omega
    · have e : m = 0 := by omega
      subst e
      rw [firstC_zero L 0 (Int.le_refl _)]
      simp [cells]
theorem Small.first {L : List (Int × Int)} (h : Small L) (m : Int) : Small (firstC L m) := by
  refine ⟨firstC_lot h.toLot, fun c ⟨q, hq, z⟩ => ?_⟩
  obtain ⟨_, r, hr, e1, e2⟩ := firstC_mem h.pos hq
  exact h.rng c ⟨r, hr, by omega, by omega⟩
-- cells one by one
def ones (cs : List Int) : List (Int × Int) := cs.map fun c => (c, 1)
theorem in_ones {cs : List Int} {c : Int} : In (ones cs) c ↔ c ∈ cs := by
  unfold In ones
  constructor
  · rintro ⟨p, hp, z⟩
    obtain ⟨d, hd, rfl⟩ := List.mem_map.mp hp
    simp only at z
    have : c = d := by omega
    rw [this]
    exact hd
  · intro h
    exact ⟨_, List.mem_map.mpr ⟨c, h, rfl⟩, by simp only; omega, by simp only; omega⟩
theorem ones_ok {cs : List Int} (h : ∀ c ∈ cs, 0 ≤ c ∧ c < 60) : ∀ p ∈ ones cs, 0 ≤ p.1 ∧ 0 ≤ p.2 ∧ p.1 + p.2 ≤ 60 := fun p hp => by
  obtain ⟨d, hd, rfl⟩ := List.mem_map.mp hp
  have := h d hd
  simp only
  omega
theorem sp_ones (cs : List Int) : sp (ones cs) = cs.map fun c => D.tup [.int c, .int 1] := by
  unfold sp ones
  rw [List.map_map]
  rfl
theorem filterMap_if {α β : Type} (P : α → Bool) (f : α → β) : ∀ l : List α, (l.filterMap fun a => if P a = true then some (f a) else none) = (l.filter P).map f
  | [] => rfl
  | a :: l => by
    have := filterMap_if P f l
    by_cases z : P a = true
    · rw [List.filterMap_cons, if_pos z, this, List.filter_cons, if_pos z, List.map_cons]
    · rw [List.filterMap_cons, if_neg z, this, List.filter_cons, if_neg z]
theorem mem_ints (c : Int) (l : List Int) (h : Heap) : mem (.int c) (.lst (l.map .int)) h = some (decide (c ∈ l)) := by
  have a : (l.map D.int).all flat = true := by
    rw [List.all_map, List.all_eq_true]
    exact fun _ _ => rfl
  have b : (l.map D.int).any (fun z => eqD z (.int c)) = decide (c ∈ l) := by
    rw [List.any_map, Bool.eq_iff_iff, List.any_eq_true, decide_eq_true_eq]
    simp
  simp only [mem, seqOf, a, flat, Bool.and_self, if_true, b]
-- comparing what was told
theorem uniq_mv {one L : List (Int × Int)} {far : Int} (h1 : Lot one) (h2 : Lot L) (e : ∀ c, In one c ↔ In L (c - far)) : one = mv far L :=
  Lot.uniq h1 (h2.mv far) fun c => by rw [e c, in_mv]
theorem in_back {L : List (Int × Int)} {far c : Int} : In (mv far L) (c + far) ↔ In L c := by
  rw [in_mv, show c + far - far = c by omega]
end K02

/-! What is drawn. -/
namespace K02
open MP
theorem rollOk : RollOk T 31 := fun k h0 h p n t d hn h1 h2 => roll_spec (A := 86028157) (M1 := 2305843009213693951) (Bc := 179) (M2 := 2305843009213693907) (C := 15485867) (Ev := 65579) t31 (by decide) d hn h1 h2
theorem s30 (k : Nat) (ns : List Int) (h : Heap) (i : Nat) (hi : i < 2 ^ 32) : ∃ a b, callI T (k + 1) 30 [.scr (ns.map .int), .int i] h = some (.ok (.newL [.int a, .int b, .int 0]) h) ∧ 0 ≤ a ∧ a < 2 ^ 2000 ∧ 0 ≤ b ∧ b < 2 ^ 200 :=
  dice_spec (K1 := 149) (K2 := 53) (M := 2305843009213693921) (K4 := 67) (K5 := 743) (K6 := 37) (K7 := 29) t30 (by decide) ns h i hi
theorem s32 (k : Nat) {h0 h : Heap} {p n : Nat} (d : Dice h0 p n h) (hn : (n : Int) < 2 ^ 100) {l : List Int} (hl : 0 < l.length) (hl2 : l.length < 2 ^ 64) :
    ∃ x h', callI T (k + 2) 32 [.loc p, .lst (l.map .int)] h = some (.ok (.v (.int x)) h') ∧ x ∈ l ∧ Dice h0 p (n + 1) h' := by
  obtain ⟨x, h', e, hx, d'⟩ := pick_spec (k := k) t32 rollOk d hn (l := l.map .int) (by simpa using hl) (by simp; omega) fun x hx => by
    obtain ⟨i, hi, rfl⟩ := List.mem_map.mp hx
    exact ⟨rfl, rfl⟩
  obtain ⟨i, hi, rfl⟩ := List.mem_map.mp hx
  exact ⟨i, h', e, hi, d'⟩
def DrOk (ps : List (Int × Int)) : Prop := ps.length ≤ 7 ∧ ∀ p ∈ ps, 0 ≤ p.1 ∧ 1 ≤ p.2 ∧ p.1 + p.2 ≤ 60
theorem s35 (k : Nat) {h0 h : Heap} {p n : Nat} (d : Dice h0 p n h) (hn : (n : Int) < 2 ^ 90) : ∃ ps h', callI T (k + 2) 35 [.loc p] h = some (.ok (.v (.tup (sp ps))) h') ∧ DrOk ps ∧ Dice h0 p (n + 20) h' := by
  obtain ⟨r, h1, e1, r0, r1, d1⟩ := rollOk k h0 h p n 8 d (by omega) (by decide) (by decide)
  obtain ⟨l, h', e, ⟨ps, rfl, hl, hp⟩, d'⟩ := lcGo_inv (f := lcF (rangeD 0 r, none) (.slot 1) (wipes [some (.loc p), none] [1]) (tests (callI T (k + 1)) T.get []) (eval (callI T (k + 1)) T.get e35_1))
    (fun i acc h => (∃ ps : List (Int × Int), acc = sp ps ∧ ps.length = i ∧ ∀ p ∈ ps, 0 ≤ p.1 ∧ 1 ≤ p.2 ∧ p.1 + p.2 ≤ 60) ∧ Dice h0 p (n + 1 + 2 * i) h) (rangeD 0 r) (h := h1) ⟨⟨[], rfl, rfl, by simp⟩, d1⟩ (by
      rintro i x acc h hx ⟨⟨ps, rfl, hl, hp⟩, d⟩
      obtain ⟨rfl, hi⟩ := range_at hx
      have hi8 : i < 8 := by omega
      obtain ⟨a, h2, e2, a0, a1, d2⟩ := rollOk k h0 h p _ 55 d (by omega) (by decide) (by decide)
      obtain ⟨b, h3, e3, b0, b1, d3⟩ := rollOk k h0 h2 p _ 6 d2 (by omega) (by decide) (by decide)
      refine ⟨some (pairD (a, 1 + b)), h3, ?_, ⟨ps ++ [(a, 1 + b)], by simp, by simp [hl], fun q hq => ?_⟩, d3.mono (by omega)⟩
      · simp [lcF, wipes, still_none, e35_1, e2, e3, pairD]
      · rcases List.mem_append.mp hq with z | z
        · exact hp q z
        · have : q = (a, 1 + b) := by simpa using z
          subst this
          simp only
          omega)
  rw [rangeD_len] at hl d'
  have hl7 : ps.length ≤ 7 := by omega
  refine ⟨ps, h', ?_, ⟨hl7, hp⟩, d'.mono (by omega)⟩
  rw [call_of t35 rfl]
  have S : small r = true := decide_eq_true (by omega)
  have hl2 : ps.length ≤ 16777216 := by omega
  have hl3 : (sp ps).length ≤ 16777216 := by simpa using hl2
  simp only [sp] at e
  simp [d35, e1, S, e, hl2, bi]
  rw [gc_v2 (d.oldOk d') rfl (show cl h.length (.tup (sp ps)) = true from cl_sp _ _), d.take d']
-- what comprehensions give
theorem lcIn (k : Nat) (g : Env) (h : Heap) (l m : List Int) (h8 : g.length = 21) (h5 : g[5]? = some (some (.lst (m.map .int)))) :
    lcGo (lcF (l.map .int, none) (.slot 8) (wipes g [8]) (tests (callI T k) T.get [(.cmp .mem (.var 8) (.var 5))]) (eval (callI T k) T.get e38_1)) (l.map .int) h = some (.ok ((l.filter fun c => decide (c ∈ m)).map .int) h) := by
  rw [lcGo_mapf D.int (fun c => if decide (c ∈ m) = true then some (.int c) else none) l fun c hc => ?_, filterMap_if]
  have a8 : 8 < g.length := by omega
  by_cases z : c ∈ m
  · simp [lcF, wipes, still_none, e38_1, mem_ints, a8, h5, z]
  · simp [lcF, wipes, still_none, e38_1, mem_ints, a8, h5, z]
theorem lcOut (k : Nat) (g : Env) (h : Heap) (l m : List Int) (h8 : g.length = 21) (h5 : g[5]? = some (some (.lst (m.map .int)))) :
    lcGo (lcF (l.map .int, none) (.slot 8) (wipes g [8]) (tests (callI T k) T.get [(.cmp .nmem (.var 8) (.var 5))]) (eval (callI T k) T.get e38_3)) (l.map .int) h = some (.ok ((l.filter fun c => decide (c ∉ m)).map .int) h) := by
  rw [lcGo_mapf D.int (fun c => if decide (c ∉ m) = true then some (.int c) else none) l fun c hc => ?_, filterMap_if]
  have a8 : 8 < g.length := by omega
  by_cases z : c ∈ m
  · simp [lcF, wipes, still_none, e38_3, mem_ints, a8, h5, z]
  · simp [lcF, wipes, still_none, e38_3, mem_ints, a8, h5, z]
theorem lcOne2 (k : Nat) (g : Env) (h : Heap) (l : List Int) (h8 : g.length = 21) :
    lcGo (lcF (l.map .int, none) (.slot 8) (wipes g [8]) (tests (callI T k) T.get []) (eval (callI T k) T.get e38_2)) (l.map .int) h = some (.ok (sp (ones l)) h) := by
  rw [lcGo_mapf D.int (fun c => some (.tup [.int c, .int 1])) l fun c hc => ?_, List.filterMap_eq_map', sp_ones]
  have a8 : 8 < g.length := by omega
  simp [lcF, wipes, still_none, e38_2, a8]
theorem lcOne4 (k : Nat) (g : Env) (h : Heap) (l : List Int) (h8 : g.length = 21) :
    lcGo (lcF (l.map .int, none) (.slot 8) (wipes g [8]) (tests (callI T k) T.get []) (eval (callI T k) T.get e38_4)) (l.map .int) h = some (.ok (sp (ones l)) h) := by
  rw [lcGo_mapf D.int (fun c => some (.tup [.int c, .int 1])) l fun c hc => ?_, List.filterMap_eq_map', sp_ones]
  have a8 : 8 < g.length := by omega
  simp [lcF, wipes, still_none, e38_4, a8]
theorem lcOne6 (k : Nat) (g : Env) (h : Heap) (l : List Int) (h8 : g.length = 21) :
    lcGo (lcF (l.map .int, none) (.slot 17) (wipes g [17]) (tests (callI T k) T.get []) (eval (callI T k) T.get e38_6)) (l.map .int) h = some (.ok (sp (ones l)) h) := by
  rw [lcGo_mapf D.int (fun c => some (.tup [.int c, .int 1])) l fun c hc => ?_, List.filterMap_eq_map', sp_ones]
  have a8 : 17 < g.length := by omega
  simp [lcF, wipes, still_none, e38_6, a8]
theorem lcLess (k : Nat) (g : Env) (h : Heap) (l : List Int) (c : Int) (h8 : g.length = 21) (h5 : g[8]? = some (some (.int c))) :
    lcGo (lcF (l.map .int, none) (.slot 17) (wipes g [17]) (tests (callI T k) T.get [(.cmp .lt (.var 17) (.var 8))]) (eval (callI T k) T.get e38_5)) (l.map .int) h = some (.ok ((l.filter fun x => decide (x < c)).map fun _ => .int 1) h) := by
  rw [lcGo_mapf D.int (fun x => if decide (x < c) = true then some (.int 1) else none) l fun x hc => ?_, filterMap_if]
  have a8 : 17 < g.length := by omega
  by_cases z : x < c
  · simp [lcF, wipes, still_none, e38_5, a8, h5, z]
  · simp [lcF, wipes, still_none, e38_5, a8, h5, z]
def mvT (far : Int) (f : List Tr) : List Tr := f.map fun t => (t.1 + far, t.2.1 + far, t.2.2)
theorem lcT (k : Nat) (g : Env) (h : Heap) (f : List Tr) (far : Int) (h8 : g.length = 21) (h5 : g[3]? = some (some (.int far))) :
    lcGo (lcF (ts f, none) (.tup [.slot 18, .slot 19, .slot 20]) (wipes g [18, 19, 20]) (tests (callI T k) T.get []) (eval (callI T k) T.get e38_7)) (ts f) h = some (.ok (ts (mvT far f)) h) := by
  rw [lcGo_mapf trD (fun t => some (trD (t.1 + far, t.2.1 + far, t.2.2))) f fun x hc => ?_, List.filterMap_eq_map']
  · congr 2
    unfold mvT ts
    rw [List.map_map]
    rfl
  have a1 : 18 < g.length := by omega
  have a2 : 19 < g.length := by omega
  have a3 : 20 < g.length := by omega
  simp [lcF, wipes, still_none, e38_7, a1, a2, a3, h5, trD]
theorem Canon.mv {f : List Tr} (h : Canon f) (far : Int) : Canon (mvT far f) := by
  refine ⟨fun t ht => ?_, fun i t u a b => ?_⟩
  · obtain ⟨s, hs, rfl⟩ := List.mem_map.mp ht
    exact h.pos s hs
  · unfold mvT at a b
    rw [List.getElem?_map] at a b
    cases ca : f[i]? with
    | none => rw [ca] at a; cases a
    | some s =>
      cases cb : f[i + 1]? with
      | none => rw [cb] at b; cases b
      | some v =>
        rw [ca] at a
        rw [cb] at b
        cases a
        cases b
        intro z
        refine h.sep i s v ca cb ⟨?_, ?_⟩
        · have := z.1
          simp only at this
          omega
        · have := z.2
          simp only at this
          omega
def mvP (far : Int) (l : List (Int × Int)) : List (Int × Int) := l.map fun p => (p.1 + far, p.2 + far)
theorem ex_mv (far : Int) : ∀ f : List Tr, ex (mvT far f) = mvP far (ex f)
  | [] => rfl
  | t :: f => by
    have := ex_mv far f
    unfold mvT mvP at this ⊢
    simp only [List.map_cons, ex, this, List.map_append]
    congr 1
    unfold pr
    rw [List.map_map]
    refine List.map_congr_left fun k _ => ?_
    simp only [Function.comp, Prod.mk.injEq]
    omega
theorem cells_mv (far : Int) : ∀ L : List (Int × Int), cells (mv far L) = (cells L).map (· + far)
  | [] => rfl
  | p :: L => by
    have := cells_mv far L
    unfold MP.mv at this ⊢
    simp only [List.map_cons, cells, this, List.map_append]
    congr 1
    unfold rgI
    rw [List.map_map]
    refine List.map_congr_left fun k _ => ?_
    simp only [Function.comp]
    omega
theorem zip_mv (far : Int) (L M : List (Int × Int)) : (cells (mv far L)).zip (cells (mv far M)) = mvP far ((cells L).zip (cells M)) := by
  rw [cells_mv, cells_mv]
  unfold mvP
  rw [List.zip_map]
  rfl
end K02

set_option maxHeartbeats 8000000
/-! One round of the law. -/
namespace K02
open MP
theorem leanLaw (k : Nat) (x : D) (ps : List (Int × Int)) (hs : Seq x ps) (hp : ∀ p ∈ ps, 0 ≤ p.1 ∧ 0 ≤ p.2 ∧ p.1 + p.2 ≤ 60) :
    ∃ f, (∀ h : Heap, callI T (k + 1) 33 [x] h = some (.ok (.newL (sp f)) h)) ∧ Small f ∧ ∀ c, In f c ↔ In ps c := by
  obtain ⟨f, _, l, t⟩ := s33 k x ps [] hs hp
  have sm : Small f := ⟨l, fun c hc => by
    obtain ⟨q, hq, z⟩ := (t c).mp hc
    have := hp q hq
    omega⟩
  refine ⟨f, fun h => ?_, sm, t⟩
  obtain ⟨f', e', l', t'⟩ := s33 k x ps h hs hp
  rw [Lot.uniq l l' fun c => by rw [t c, t' c]]
  exact e'
theorem ne_same (l : List D) (h : Heap) (hd : dokL 59 l = true) (he : eqDL l l = true) : cmp .ne (.tup l) (.tup l) h = some false := by
  simp [look, hd, he]
theorem ne_sp (ps : List (Int × Int)) (h : Heap) : cmp .ne (.tup (sp ps)) (.tup (sp ps)) h = some false := ne_same _ _ (dok_sp 58 ps) (by rw [eqD_sp]; simp)
def e0 (p : Nat) : Env := [some (.loc p), none, none, none, none, none, none, none, none, none, none, none, none, none, none, none, none, none, none, none, none]
-- what a round knows
structure Ctx (k : Nat) (far : Int) (ps qs L M J : List (Int × Int)) : Prop where
  far : Far far
  dps : DrOk ps
  dqs : DrOk qs
  sl : Small L
  sm : Small M
  sj : Small J
  inl : ∀ c, In L c ↔ In ps c
  inm : ∀ c, In M c ↔ In qs c
  inj : ∀ c, In J c ↔ In ps c ∨ In qs c
  cl : ∀ h : Heap, callI T (k + 8) 33 [.tup (sp ps)] h = some (.ok (.newL (sp L)) h)
  cm : ∀ h : Heap, callI T (k + 8) 33 [.tup (sp qs)] h = some (.ok (.newL (sp M)) h)
  cj : ∀ h : Heap, callI T (k + 8) 33 [.tup (sp ps ++ sp qs)] h = some (.ok (.newL (sp J)) h)
theorem ctx_of (k : Nat) {far : Int} {ps qs : List (Int × Int)} (hf : Far far) (hp : DrOk ps) (hq : DrOk qs) : ∃ L M J, Ctx k far ps qs L M J := by
  have ok : ∀ {ps : List (Int × Int)}, DrOk ps → ∀ p ∈ ps, 0 ≤ p.1 ∧ 0 ≤ p.2 ∧ p.1 + p.2 ≤ 60 := fun h p hp => by
    have := h.2 p hp
    omega
  obtain ⟨L, a1, a2, a3⟩ := leanLaw (k + 7) _ ps (.inl rfl) (ok hp)
  obtain ⟨M, b1, b2, b3⟩ := leanLaw (k + 7) _ qs (.inl rfl) (ok hq)
  obtain ⟨J, c1, c2, c3⟩ := leanLaw (k + 7) _ (ps ++ qs) (.inl rfl) fun p h => (List.mem_append.mp h).elim (ok hp p) (ok hq p)
  refine ⟨L, M, J, hf, hp, hq, a2, b2, c2, a3, b3, fun c => by rw [c3 c, in_app], a1, b1, fun h => ?_⟩
  have := c1 h
  simp only [sp, List.map_append] at this ⊢
  exact this
section
variable {k : Nat} {far : Int} {ps qs L M J : List (Int × Int)}
theorem DrOk.sp {ps : List (Int × Int)} (h : DrOk ps) {far : Int} (hf : Far far) : (∀ p ∈ mv far ps, SpOk p) ∧ (mv far ps).length ≤ 5000 := by
  refine ⟨fun p hp => ?_, by rw [mv_len]; have := h.1; omega⟩
  obtain ⟨q, hq, rfl⟩ := List.mem_map.mp hp
  have b := h.2 q hq
  have m := MOST_pos
  obtain ⟨f1, f2⟩ := hf
  exact ⟨by simp only; omega, by simp only; omega, by simp only; omega⟩
theorem DrOk.pos {ps : List (Int × Int)} (h : DrOk ps) {far : Int} : ∀ p ∈ mv far ps, 0 < p.2 := fun p hp => by
  obtain ⟨q, hq, rfl⟩ := List.mem_map.mp hp
  have b := h.2 q hq
  simp only
  omega
theorem lot_mv {ps L : List (Int × Int)} {far : Int} (hp : DrOk ps) (sl : Small L) (inl : ∀ c, In L c ↔ In ps c) : leanS (mv far ps) = mv far L := by
  obtain ⟨a, b⟩ := leanS_lot (ps := mv far ps) hp.pos
  exact uniq_mv a sl.toLot fun c => by rw [b c, in_mv, inl]
def g2 (p : Nat) (far : Int) (ps qs L M : List (Int × Int)) : Env := [some (.loc p), some (.tup (sp ps)), some (.tup (sp qs)), some (.int far), some (.lst ((cells L).map .int)), some (.lst ((cells M).map .int)), none, none, none, none, none, none, none, none, none, none, none, none, none, none, none]
def g3 (p : Nat) (far : Int) (ps qs L M : List (Int × Int)) : Env := [some (.loc p), some (.tup (sp ps)), some (.tup (sp qs)), some (.int far), some (.lst ((cells L).map .int)), some (.lst ((cells M).map .int)), some (.tup (sp (mv far L))), some (.tup (sp (mv far M))), none, none, none, none, none, none, none, none, none, none, none, none, none]
theorem x0 {h h1 h2 : Heap} {p : Nat} (e1 : callI T (k + 8) 35 [.loc p] h = some (.ok (.v (.tup (sp ps))) h1)) (e2 : callI T (k + 8) 35 [.loc p] h1 = some (.ok (.v (.tup (sp qs))) h2)) :
    exec (callI T (k + 8)) T.get (d38.body.getD 0 .never) (e0 p) h = some (.ok (.nx [some (.loc p), some (.tup (sp ps)), some (.tup (sp qs)), none, none, none, none, none, none, none, none, none, none, none, none, none, none, none, none, none, none]) h2) := by
  simp [d38, e0, e1, e2]
theorem x1 {h1 h2 : Heap} {p : Nat} (e : callI T (k + 8) 32 [.loc p, .lst ([0, 10 ^ 60].map .int)] h1 = some (.ok (.v (.int far)) h2)) :
    exec (callI T (k + 8)) T.get (d38.body.getD 1 .never) [some (.loc p), some (.tup (sp ps)), some (.tup (sp qs)), none, none, none, none, none, none, none, none, none, none, none, none, none, none, none, none, none, none] h1 = some (.ok (.nx [some (.loc p), some (.tup (sp ps)), some (.tup (sp qs)), some (.int far), none, none, none, none, none, none, none, none, none, none, none, none, none, none, none, none, none]) h2) := by
  have p1 : powOk 10 60 = true := by decide +kernel
  simp at e
  simp [d38, p1, e]
theorem x2 (C : Ctx k far ps qs L M J) (h : Heap) (p : Nat) :
    exec (callI T (k + 8)) T.get (d38.body.getD 2 .never) [some (.loc p), some (.tup (sp ps)), some (.tup (sp qs)), some (.int far), none, none, none, none, none, none, none, none, none, none, none, none, none, none, none, none, none] h = some (.ok (.nx (g2 p far ps qs L M)) h) := by
  have a := s34 (k + 7) (.lst (sp L)) L h (.inr rfl) C.sl.mid (by have := C.sl.cells_len; omega)
  have b := s34 (k + 7) (.lst (sp M)) M h (.inr rfl) C.sm.mid (by have := C.sm.cells_len; omega)
  have c1 := C.cl h
  have c2 := C.cm h
  show exec _ _ (.asg (.tup [(.slot 4), (.slot 5)]) (.tup [(.call 34 [(.call 33 [(.var 1)])]), (.call 34 [(.call 33 [(.var 2)])])])) _ _ = _
  simp only [exec, eval, evals, List.getElem?_cons_zero, List.getElem?_cons_succ, bd_ok, R.frz_v, R.frz_newL, c1, c2, a, b, tupM, List.length_cons, List.length_nil]
  rfl
theorem x3 (C : Ctx k far ps qs L M J) (h : Heap) (p : Nat) : exec (callI T (k + 8)) T.get (d38.body.getD 3 .never) (g2 p far ps qs L M) h = some (.ok (.nx (g3 p far ps qs L M)) h) := by
  have a := s36 (k + 7) (.tup (sp ps)) ps far h (.inl rfl) (by have := C.dps.1; omega)
  have b := s36 (k + 7) (.tup (sp qs)) qs far h (.inl rfl) (by have := C.dqs.1; omega)
  have c := s19 (k + 3) (mv far ps) h (C.dps.sp C.far).1 (C.dps.sp C.far).2
  have d := s19 (k + 3) (mv far qs) h (C.dqs.sp C.far).1 (C.dqs.sp C.far).2
  rw [lot_mv C.dps C.sl C.inl] at c
  rw [lot_mv C.dqs C.sm C.inm] at d
  simp [d38, g2, g3, a, b, c, d]
theorem x4 (C : Ctx k far ps qs L M J) (h : Heap) (p : Nat) : exec (callI T (k + 8)) T.get (d38.body.getD 4 .never) (g3 p far ps qs L M) h = some (.ok (.nx (g3 p far ps qs L M)) h) := by
  have a := C.cl h
  have b := s36 (k + 7) (.lst (sp L)) L far h (.inr rfl) (by have := C.sl.len; omega)
  have c := s14 (k + 3) (mv far L) h (C.sl.lotB C.far)
  have d := ne_sp (mv far L) h
  show exec _ _ (.if_ (.or (.cmp .ne (.var 6) (.call 36 [(.call 33 [(.var 1)]), (.var 3)])) (.cmp .notN (.call 14 [(.var 6)]) (.c (.bl true)))) [.ret (.c (.bl false))] []) _ _ = _
  simp only [exec, execs, eval, evals, g3, List.getElem?_cons_zero, List.getElem?_cons_succ, bd_ok, R.frz_v, R.frz_newL, a, b, c, cmpM, d, boolR, tru_bl]
  simp
theorem x5 (C : Ctx k far ps qs L M J) (h : Heap) (p : Nat) : exec (callI T (k + 8)) T.get (d38.body.getD 5 .never) (g3 p far ps qs L M) h = some (.ok (.nx (g3 p far ps qs L M)) h) := by
  have a := C.cj h
  have b := s36 (k + 7) (.lst (sp J)) J far h (.inr rfl) (by have := C.sj.len; omega)
  have ep : leanS (mv far L ++ mv far M) = mv far J := by
    obtain ⟨u, v⟩ := leanS_lot (ps := mv far L ++ mv far M) fun q hq => (List.mem_append.mp hq).elim ((C.sl.toLot.mv far).pos q) ((C.sm.toLot.mv far).pos q)
    exact uniq_mv u C.sj.toLot fun c => by rw [v c, in_app, in_mv, in_mv, C.inl, C.inm, C.inj]
  have c := s20 k (mv far L) (mv far M) h (C.sl.lotB C.far) (C.sm.lotB C.far) (by rw [ep, mv_len]; have := C.sj.len; omega)
  rw [ep] at c
  have d := ne_sp (mv far J) h
  have l2 : (sp ps).length + (sp qs).length ≤ lim := by
    have := C.dps.1
    have := C.dqs.1
    rw [lim_val]
    simp
    omega
  show exec _ _ (.if_ (.cmp .ne (.call 20 [(.var 6), (.var 7)]) (.call 36 [(.call 33 [(.bin .add (.var 1) (.var 2))]), (.var 3)])) [.ret (.c (.bl false))] []) _ _ = _
  simp only [exec, execs, eval, evals, g3, List.getElem?_cons_zero, List.getElem?_cons_succ, bd_ok, R.frz_v, R.frz_newL, bin, if_pos l2, a, b, c, cmpM, d, boolR, tru_bl]
def both (L M : List (Int × Int)) : List Int := (cells L).filter fun c => decide (c ∈ cells M)
def rest (L M : List (Int × Int)) : List Int := (cells L).filter fun c => decide (c ∉ cells M)
def g6 (p : Nat) (far : Int) (ps qs L M : List (Int × Int)) : Env := [some (.loc p), some (.tup (sp ps)), some (.tup (sp qs)), some (.int far), some (.lst ((cells L).map .int)), some (.lst ((cells M).map .int)), some (.tup (sp (mv far L))), some (.tup (sp (mv far M))), none, some (.lst ((both L M).map .int)), none, none, none, none, none, none, none, none, none, none, none]
def g8 (p : Nat) (far : Int) (ps qs L M : List (Int × Int)) : Env := [some (.loc p), some (.tup (sp ps)), some (.tup (sp qs)), some (.int far), some (.lst ((cells L).map .int)), some (.lst ((cells M).map .int)), some (.tup (sp (mv far L))), some (.tup (sp (mv far M))), none, some (.lst ((both L M).map .int)), some (.lst ((rest L M).map .int)), none, none, none, none, none, none, none, none, none, none]
theorem both_len (C : Ctx k far ps qs L M J) : (both L M).length ≤ 60 := Nat.le_trans (List.length_filter_le _ _) C.sl.cells_len
theorem rest_len (C : Ctx k far ps qs L M J) : (rest L M).length ≤ 60 := Nat.le_trans (List.length_filter_le _ _) C.sl.cells_len
theorem cell_rng {L : List (Int × Int)} (h : Small L) : ∀ c ∈ cells L, 0 ≤ c ∧ c < 60 := fun c hc => h.rng c (mem_cells.mp hc)
theorem x6 (C : Ctx k far ps qs L M J) (h : Heap) (p : Nat) : exec (callI T (k + 8)) T.get (d38.body.getD 6 .never) (g3 p far ps qs L M) h = some (.ok (.nx (g6 p far ps qs L M)) h) := by
  have a := lcIn (k + 8) (g3 p far ps qs L M) h (cells L) (cells M) rfl rfl
  have e : (cells L).filter (fun c => decide (c ∈ cells M)) = both L M := rfl
  rw [e] at a
  have l2 : ((both L M).map D.int).length ≤ lim := by rw [List.length_map, lim_val]; have := both_len C; omega
  show exec _ _ (.asg (.slot 9) (.lc e38_1 (.slot 8) (.of (.var 4)) [(.cmp .mem (.var 8) (.var 5))] [8])) _ _ = _
  simp only [exec, eval, items]
  simp only [g3, List.getElem?_cons_zero, List.getElem?_cons_succ, bd_ok, R.frz_v, seqIt]
  simp only [g3] at a
  simp only [a, bd_ok, if_pos l2, R.frz_newL]
  rfl
theorem x8 (C : Ctx k far ps qs L M J) (h : Heap) (p : Nat) : exec (callI T (k + 8)) T.get (d38.body.getD 8 .never) (g6 p far ps qs L M) h = some (.ok (.nx (g8 p far ps qs L M)) h) := by
  have a := lcOut (k + 8) (g6 p far ps qs L M) h (cells L) (cells M) rfl rfl
  have e : (cells L).filter (fun c => decide (c ∉ cells M)) = rest L M := rfl
  rw [e] at a
  have l2 : ((rest L M).map D.int).length ≤ lim := by rw [List.length_map, lim_val]; have := rest_len C; omega
  show exec _ _ (.asg (.slot 10) (.lc e38_3 (.slot 8) (.of (.var 4)) [(.cmp .nmem (.var 8) (.var 5))] [8])) _ _ = _
  simp only [exec, eval, items]
  simp only [g6, List.getElem?_cons_zero, List.getElem?_cons_succ, bd_ok, R.frz_v, seqIt]
  simp only [g6] at a
  simp only [a, bd_ok, if_pos l2, R.frz_newL]
  rfl
theorem x7 (C : Ctx k far ps qs L M J) (h : Heap) (p : Nat) : exec (callI T (k + 8)) T.get (d38.body.getD 7 .never) (g6 p far ps qs L M) h = some (.ok (.nx (g6 p far ps qs L M)) h) := by
  have rng : ∀ c ∈ both L M, 0 ≤ c ∧ c < 60 := fun c hc => cell_rng C.sl c (List.mem_filter.mp hc).1
  obtain ⟨B, b1, b2, b3⟩ := leanLaw (k + 7) (.lst (sp (ones (both L M)))) (ones (both L M)) (.inr rfl) (ones_ok rng)
  have inb : ∀ c, In B c ↔ In L c ∧ In M c := fun c => by rw [b3 c, in_ones, both, List.mem_filter, mem_cells, decide_eq_true_eq, mem_cells]
  obtain ⟨f, f1, f2, f3⟩ := s21 k (mv far L) (mv far M) h far (C.sl.lotB C.far) (C.sm.lotB C.far) (C.sl.near far)
  have ef : f = mv far B := uniq_mv f2 b2.toLot fun c => by rw [f3 c, in_mv, in_mv, inb]
  subst ef
  obtain ⟨t, t1, t2⟩ := s23 k (mv far L) (mv far M) h (C.sl.lotB C.far) (C.sm.lotB C.far)
  have et : t = decide (both L M = []) := by
    rw [Bool.eq_iff_iff, t2, decide_eq_true_eq, List.eq_nil_iff_forall_not_mem]
    constructor
    · intro q c hc
      have := (inb c).mp ((b3 c).mpr (in_ones.mpr hc))
      exact q (c + far) ⟨in_back.mpr this.1, in_back.mpr this.2⟩
    · intro q c hc
      exact q (c - far) (in_ones.mp ((b3 _).mp ((inb _).mpr ⟨in_mv.mp hc.1, in_mv.mp hc.2⟩)))
  have c1 := s36 (k + 7) (.lst (sp B)) B far h (.inr rfl) (by have := b2.len; omega)
  have l2 : (sp (ones (both L M))).length ≤ lim := by rw [List.length_map, ones, List.length_map, lim_val]; have := both_len C; omega
  have lc := lcOne2 (k + 8) (g6 p far ps qs L M) h (both L M) rfl
  have n1 := ne_sp (mv far B) h
  have n2 : cmp .eq (.lst ((both L M).map .int)) (.lst []) h = some (decide (both L M = [])) := by
    have a := dokL_ints 59 (both L M)
    have b := eqDL_ints (both L M) []
    rw [List.map_nil] at b
    simp [look, a, b]
  have n3 : cmp .ne (.bl t) (.bl (decide (both L M = []))) h = some false := by
    rw [et]
    simp [look, eqD]
  have bb := b1 h
  show exec _ _ (.if_ (.or (.cmp .ne (.call 21 [(.var 6), (.var 7)]) (.call 36 [(.call 33 [(.lc e38_2 (.slot 8) (.of (.var 9)) [] [8])]), (.var 3)])) (.cmp .ne (.call 23 [(.var 6), (.var 7)]) (.cmp .eq (.var 9) (.lst [])))) [.ret (.c (.bl false))] []) _ _ = _
  simp only [exec, execs, eval, evals, items]
  simp only [g6] at lc ⊢
  simp only [List.getElem?_cons_zero, List.getElem?_cons_succ, bd_ok, R.frz_v, R.frz_newL, seqIt, lc, if_pos l2, f1, bb, c1, t1, cmpM, n1, n2, n3, boolR, tru_bl, lstM, List.length_nil, lim_val, Nat.zero_le, if_true]
end
end K02

/-! One round of the law, on. -/
namespace K02
open MP
theorem ne_int (a : Int) (h : Heap) : cmp .ne (.int a) (.int a) h = some false := by simp [look]
theorem ne_bl (a : Bool) (h : Heap) : cmp .ne (.bl a) (.bl a) h = some false := by simp [look, eqD]
section
variable {k : Nat} {far : Int} {ps qs L M J : List (Int × Int)}
def gA (p : Nat) (far : Int) (ps qs L M : List (Int × Int)) (z8 z11 z12 z13 z14 z15 z16 : Option D) : Env := [some (.loc p), some (.tup (sp ps)), some (.tup (sp qs)), some (.int far), some (.lst ((cells L).map .int)), some (.lst ((cells M).map .int)), some (.tup (sp (mv far L))), some (.tup (sp (mv far M))), z8, some (.lst ((both L M).map .int)), some (.lst ((rest L M).map .int)), z11, z12, z13, z14, z15, z16, none, none, none, none]
theorem seq_len (l : List Int) (h : Heap) : MP.b1 .len (.lst (l.map .int)) h = some (.int l.length) := by simp
theorem x9 (C : Ctx k far ps qs L M J) (h : Heap) (p : Nat) : exec (callI T (k + 8)) T.get (d38.body.getD 9 .never) (g8 p far ps qs L M) h = some (.ok (.nx (gA p far ps qs L M none none none none none none none)) h) := by
  have rng : ∀ c ∈ rest L M, 0 ≤ c ∧ c < 60 := fun c hc => cell_rng C.sl c (List.mem_filter.mp hc).1
  obtain ⟨B, b1', b2, b3⟩ := leanLaw (k + 7) (.lst (sp (ones (rest L M)))) (ones (rest L M)) (.inr rfl) (ones_ok rng)
  have inb : ∀ c, In B c ↔ In L c ∧ ¬ In M c := fun c => by rw [b3 c, in_ones, rest, List.mem_filter, mem_cells, decide_eq_true_eq, mem_cells]
  obtain ⟨f, f1, f2, f3⟩ := s22 k (mv far L) (mv far M) h far (C.sl.lotB C.far) (C.sm.lotB C.far) (C.sl.near far)
  have ef : f = mv far B := uniq_mv f2 b2.toLot fun c => by rw [f3 c, in_mv, in_mv, inb]
  subst ef
  have c1 := s36 (k + 7) (.lst (sp B)) B far h (.inr rfl) (by have := b2.len; omega)
  have t1 := s24 (k + 1) (mv far L) h (C.sl.lotB C.far)
  rw [size_mv, C.sl.size] at t1
  have l2 : (sp (ones (rest L M))).length ≤ lim := by rw [List.length_map, ones, List.length_map, lim_val]; have := rest_len C; omega
  have lc := lcOne4 (k + 8) (g8 p far ps qs L M) h (rest L M) rfl
  have n1 := ne_sp (mv far B) h
  have n2 := ne_int (cells L).length h
  have n3 := seq_len (cells L) h
  have bb := b1' h
  show exec _ _ (.if_ (.or (.cmp .ne (.call 22 [(.var 6), (.var 7)]) (.call 36 [(.call 33 [(.lc e38_4 (.slot 8) (.of (.var 10)) [] [8])]), (.var 3)])) (.cmp .ne (.call 24 [(.var 6)]) (.b1 .len (.var 4)))) [.ret (.c (.bl false))] []) _ _ = _
  simp only [exec, execs, eval, evals, items]
  simp only [g8] at lc ⊢
  simp only [List.getElem?_cons_zero, List.getElem?_cons_succ, bd_ok, R.frz_v, R.frz_newL, seqIt, lc, if_pos l2, f1, bb, c1, t1, cmpM, n1, n2, b1M, n3, valR, boolR, tru_bl]
  rfl
theorem x10 {h1 h2 : Heap} {p : Nat} {c : Int} (e : callI T (k + 8) 31 [.loc p, .int 65] h1 = some (.ok (.v (.int c)) h2)) : exec (callI T (k + 8)) T.get (d38.body.getD 10 .never) (gA p far ps qs L M none none none none none none none) h1 = some (.ok (.nx (gA p far ps qs L M (some (.int c)) none none none none none none)) h2) := by
  simp [d38, gA, e]
theorem x11 (C : Ctx k far ps qs L M J) (h : Heap) (p : Nat) {c : Int} (c0 : 0 ≤ c) (c1 : c < 65) : exec (callI T (k + 8)) T.get (d38.body.getD 11 .never) (gA p far ps qs L M (some (.int c)) none none none none none none) h = some (.ok (.nx (gA p far ps qs L M (some (.int c)) none none none none none none)) h) := by
  have m := MOST_pos
  obtain ⟨fa, fb⟩ := C.far
  have a := s25 (k + 1) (mv far L) (c + far) h (C.sl.lotB C.far) (by omega) (by omega)
  have b := s26 (k + 1) (mv far L) (c + far) h (C.sl.lotB C.far) (by omega) (by omega)
  rw [rk_mv, rk_cells c C.sl.pos'] at b
  have ea : decide (In (mv far L) (c + far)) = decide (c ∈ cells L) := by
    rw [Bool.eq_iff_iff, decide_eq_true_eq, decide_eq_true_eq, in_back, mem_cells]
  rw [ea] at a
  have lc := lcLess (k + 8) (gA p far ps qs L M (some (.int c)) none none none none none none) h (cells L) c rfl rfl
  have fl : ((cells L).filter fun x => decide (x < c)).length ≤ lim := Nat.le_trans (List.length_filter_le _ _) (by have := C.sl.cells_len; rw [lim_val]; omega)
  have n1 := ne_bl (decide (c ∈ cells L)) h
  have n2 := ne_int ((cells L).filter fun x => decide (x < c)).length h
  have n3 := mem_ints c (cells L) h
  have n4 : MP.b1 .len (.lst (((cells L).filter fun x => decide (x < c)).map fun _ => D.int 1)) h = some (.int ((cells L).filter fun x => decide (x < c)).length) := by simp
  show exec _ _ (.if_ (.or (.cmp .ne (.call 25 [(.var 6), (.bin .add (.var 8) (.var 3))]) (.cmp .mem (.var 8) (.var 4))) (.cmp .ne (.call 26 [(.var 6), (.bin .add (.var 8) (.var 3))]) (.b1 .len (.lc e38_5 (.slot 17) (.of (.var 4)) [(.cmp .lt (.var 17) (.var 8))] [17])))) [.ret (.c (.bl false))] []) _ _ = _
  have n3' : cmp .mem (.int c) (.lst ((cells L).map .int)) h = some (decide (c ∈ cells L)) := n3
  simp only [exec, execs, eval, evals, items]
  simp only [gA] at lc ⊢
  simp only [List.getElem?_cons_zero, List.getElem?_cons_succ, bd_ok, R.frz_v, R.frz_newL, seqIt, bin, a, b, cmpM, n3', boolR, n1, tru_bl, lc, List.length_map, if_pos fl, b1M, n4, valR, n2]
theorem ne_nil (l : List Int) (h : Heap) : cmp .ne (.lst (l.map .int)) (.lst []) h = some (decide (l ≠ [])) := by
  have a := dokL_ints 59 l
  have b := eqDL_ints l []
  rw [List.map_nil] at b
  simp [look, a, b]
theorem x12 (C : Ctx k far ps qs L M J) {h0 h : Heap} {p n : Nat} (d : Dice h0 p n h) (hn : (n : Int) < 2 ^ 90) {c : Int} : ∃ z h', exec (callI T (k + 8)) T.get (d38.body.getD 12 .never) (gA p far ps qs L M (some (.int c)) none none none none none none) h = some (.ok (.nx (gA p far ps qs L M (some (.int c)) z none none none none none)) h') ∧ Dice h0 p (n + 1) h' := by
  have nn := ne_nil (cells L) h
  by_cases e : cells L = []
  · refine ⟨none, h, ?_, d.mono (by omega)⟩
    show exec _ _ (.if_ (.cmp .ne (.var 4) (.lst [])) [.asg (.slot 11) (.call 31 [(.var 0), (.b1 .len (.var 4))]), .if_ (.cmp .ne (.call 27 [(.var 6), (.var 11)]) (.bin .add (.ix (.var 4) (.var 11)) (.var 3))) [.ret (.c (.bl false))] []] []) _ _ = _
    have nn' : cmp .ne (.lst ((cells L).map .int)) (.lst []) h = some false := by rw [nn, e]; rfl
    simp only [exec, execs, eval, evals, gA, List.getElem?_cons_zero, List.getElem?_cons_succ, bd_ok, R.frz_v, R.frz_newL, lstM, List.length_nil, lim_val, Nat.zero_le, if_true, cmpM, nn', boolR, tru_bl]
  · have nn' : cmp .ne (.lst ((cells L).map .int)) (.lst []) h = some true := by rw [nn]; simp [e]
    have hl : 0 < (cells L).length := List.length_pos_iff.mpr e
    have hl2 := C.sl.cells_len
    obtain ⟨i, h', e1, i0, i1, d'⟩ := rollOk (k + 7) h0 h p n (cells L).length d (by omega) (by omega) (by
      have : (60 : Int) < 2 ^ 9000 := by decide +kernel
      omega)
    have hi : i.toNat < (cells L).length := by omega
    have ca : cellAt (mv far L) i = some ((cells L)[i.toNat] + far) := by
      rw [cellAt_mv, cellAt_cells C.sl.pos' i0, List.getElem?_eq_getElem hi]
      rfl
    have c1 := s27 (k + 1) (mv far L) i _ h' (C.sl.lotB C.far) i0 (by rw [size_mv, C.sl.size]; exact i1) ca
    have n2 := ne_int ((cells L)[i.toNat] + far) h'
    have n3 := seq_len (cells L) h
    have n4 : ixD h' (.lst ((cells L).map .int)) (.int i) = some (.int (cells L)[i.toNat]) := by
      simp only [ixD, seqOf]
      rw [atZ_nn _ i0, List.getElem?_map, List.getElem?_eq_getElem hi]
      rfl
    refine ⟨some (.int i), h', ?_, d'⟩
    show exec _ _ (.if_ (.cmp .ne (.var 4) (.lst [])) [.asg (.slot 11) (.call 31 [(.var 0), (.b1 .len (.var 4))]), .if_ (.cmp .ne (.call 27 [(.var 6), (.var 11)]) (.bin .add (.ix (.var 4) (.var 11)) (.var 3))) [.ret (.c (.bl false))] []] []) _ _ = _
    simp only [exec, execs, eval, evals, gA, List.getElem?_cons_zero, List.getElem?_cons_succ, bd_ok, R.frz_v, R.frz_newL, lstM, List.length_nil, lim_val, Nat.zero_le, if_true, cmpM, nn', boolR, tru_bl, b1M, n3, valR, e1, assign, List.set_cons_zero, List.set_cons_succ, c1, ixM, n4, bin, n2]
theorem x13 {h1 h2 : Heap} {p : Nat} {z8 z11 : Option D} {m : Int} (e : callI T (k + 8) 31 [.loc p, .int ((cells L).length + 1)] h1 = some (.ok (.v (.int m)) h2)) : exec (callI T (k + 8)) T.get (d38.body.getD 13 .never) (gA p far ps qs L M z8 z11 none none none none none) h1 = some (.ok (.nx (gA p far ps qs L M z8 z11 (some (.int m)) none none none none)) h2) := by
  simp [d38, gA, e]
theorem cut_to (l : List Int) {m : Int} (h : 0 ≤ m) : cutZ (l.map D.int) none (some m) = (l.take m.toNat).map .int := by
  unfold cutZ cutAt
  simp only [if_neg (show ¬ m < 0 by omega), List.drop_zero, Nat.sub_zero, List.map_take]
  rw [List.length_map]
  rcases Nat.le_total m.toNat l.length with z | z
  · rw [Nat.min_eq_left z]
  · rw [Nat.min_eq_right z, List.take_of_length_le (by simp), List.take_of_length_le (by simpa using z)]
theorem first_of (C : Ctx k far ps qs L M J) {L' : List (Int × Int)} (sl : Small L') (m : Int) (h : Heap) (m0 : 0 ≤ m) (m1 : m ≤ (cells L').length) : callI T (k + 8) 28 [.tup (sp (mv far L')), .int m] h = some (.ok (.v (.tup (sp (mv far (firstC L' m))))) h) := by
  have a := s28 (k + 1) (mv far L') m h (sl.lotB C.far) m0 (by rw [size_mv, sl.size]; exact m1)
  rw [firstC_mv] at a
  exact a
theorem x14 (C : Ctx k far ps qs L M J) (h : Heap) (p : Nat) {z8 z11 : Option D} {m : Int} (m0 : 0 ≤ m) (m1 : m ≤ (cells L).length) : exec (callI T (k + 8)) T.get (d38.body.getD 14 .never) (gA p far ps qs L M z8 z11 (some (.int m)) none none none none) h = some (.ok (.nx (gA p far ps qs L M z8 z11 (some (.int m)) none none none none)) h) := by
  have rng : ∀ c ∈ (cells L).take m.toNat, 0 ≤ c ∧ c < 60 := fun c hc => cell_rng C.sl c (List.mem_of_mem_take hc)
  obtain ⟨B, b1', b2, b3⟩ := leanLaw (k + 7) (.lst (sp (ones ((cells L).take m.toNat)))) (ones ((cells L).take m.toNat)) (.inr rfl) (ones_ok rng)
  have f1 := first_of C C.sl m h m0 m1
  have ef : firstC L m = B := Lot.uniq (C.sl.first m).toLot b2.toLot fun c => by rw [b3 c, in_ones, ← mem_cells, firstC_cells C.sl.pos' m0]
  rw [ef] at f1
  have c1 := s36 (k + 7) (.lst (sp B)) B far h (.inr rfl) (by have := b2.len; omega)
  have l2 : (sp (ones ((cells L).take m.toNat))).length ≤ lim := by
    rw [List.length_map, ones, List.length_map, lim_val, List.length_take]
    have := C.sl.cells_len
    omega
  have lc := lcOne6 (k + 8) (gA p far ps qs L M z8 z11 (some (.int m)) none none none none) h ((cells L).take m.toNat) rfl
  have n1 := ne_sp (mv far B) h
  have bb := b1' h
  have ct := cut_to (cells L) m0
  show exec _ _ (.if_ (.cmp .ne (.call 28 [(.var 6), (.var 12)]) (.call 36 [(.call 33 [(.lc e38_6 (.slot 17) (.of (.slice (.var 4) false true (.c .non) (.var 12))) [] [17])]), (.var 3)])) [.ret (.c (.bl false))] []) _ _ = _
  simp only [exec, execs, eval, evals, items]
  simp only [gA] at lc ⊢
  simp only [List.getElem?_cons_zero, List.getElem?_cons_succ, bd_ok, R.frz_v, R.frz_newL, partM, Bool.false_eq_true, if_false, if_true, sliceM, seqOf, ct, seqIt, lc, if_pos l2, f1, bb, c1, cmpM, n1, boolR, tru_bl]
def few (L M : List (Int × Int)) : Int := if ((cells M).length : Int) < (cells L).length then (cells M).length else (cells L).length
theorem few_ok (L M : List (Int × Int)) : 0 ≤ few L M ∧ few L M ≤ (cells L).length ∧ few L M ≤ (cells M).length := by
  unfold few
  split <;> omega
theorem x15 (h : Heap) (p : Nat) {z8 z11 z12 : Option D} : exec (callI T (k + 8)) T.get (d38.body.getD 15 .never) (gA p far ps qs L M z8 z11 z12 none none none none) h = some (.ok (.nx (gA p far ps qs L M z8 z11 z12 (some (.int (few L M))) none none none)) h) := by
  simp [d38, gA, few]
theorem x16 (C : Ctx k far ps qs L M J) (h : Heap) (p : Nat) {z8 z11 z12 : Option D} : exec (callI T (k + 8)) T.get (d38.body.getD 16 .never) (gA p far ps qs L M z8 z11 z12 (some (.int (few L M))) none none none) h = some (.ok (.nx (gA p far ps qs L M z8 z11 z12 (some (.int (few L M))) (some (.tup (sp (mv far (firstC L (few L M)))))) (some (.tup (sp (mv far (firstC M (few L M)))))) none)) h) := by
  obtain ⟨a, b, c⟩ := few_ok L M
  have f1 := first_of C C.sl (few L M) h a b
  have f2 := first_of C C.sm (few L M) h a c
  simp [d38, gA, f1, f2]
theorem x17 (C : Ctx k far ps qs L M J) (h : Heap) (p : Nat) {z8 z11 z12 z13 : Option D} : ∃ f : List Tr, exec (callI T (k + 8)) T.get (d38.body.getD 17 .never) (gA p far ps qs L M z8 z11 z12 z13 (some (.tup (sp (mv far (firstC L (few L M)))))) (some (.tup (sp (mv far (firstC M (few L M)))))) none) h = some (.ok (.nx (gA p far ps qs L M z8 z11 z12 z13 (some (.tup (sp (mv far (firstC L (few L M)))))) (some (.tup (sp (mv far (firstC M (few L M)))))) (some (.lst (ts f))))) h) ∧ Canon f ∧ ex f = (cells (firstC L (few L M))).zip (cells (firstC M (few L M))) ∧ f.length ≤ 5000 := by
  have s1 := C.sl.first (few L M)
  have s2 := C.sm.first (few L M)
  obtain ⟨f, a, b, c, d⟩ := s37 (k + 6) (.tup (sp (firstC L (few L M)))) (.tup (sp (firstC M (few L M)))) _ _ h (.inl rfl) (.inl rfl) s1.mid s2.mid (by have := s1.cells_len; omega) (by have := s2.cells_len; omega)
  have e1 := s36 (k + 7) (.tup (sp (mv far (firstC L (few L M))))) (mv far (firstC L (few L M))) (0 - far) h (.inl rfl) (by rw [mv_len]; have := s1.len; omega)
  have e2 := s36 (k + 7) (.tup (sp (mv far (firstC M (few L M))))) (mv far (firstC M (few L M))) (0 - far) h (.inl rfl) (by rw [mv_len]; have := s2.len; omega)
  rw [mv_mv, show far + (0 - far) = 0 by omega, mv_zero] at e1 e2
  refine ⟨f, ?_, b, c, d⟩
  show exec _ _ (.asg (.slot 16) (.call 37 [(.call 36 [(.var 14), (.bin .sub (.c (.int 0)) (.var 3))]), (.call 36 [(.var 15), (.bin .sub (.c (.int 0)) (.var 3))])])) _ _ = _
  simp only [exec, eval, evals, gA, List.getElem?_cons_zero, List.getElem?_cons_succ, bd_ok, R.frz_v, bin, e1, e2, a, R.frz_newL]
  rfl
theorem x18 (C : Ctx k far ps qs L M J) (h : Heap) (p : Nat) {z8 z11 z12 z13 : Option D} {f : List Tr} (cf : Canon f) (ef : ex f = (cells (firstC L (few L M))).zip (cells (firstC M (few L M)))) (fl : f.length ≤ 5000) :
    exec (callI T (k + 8)) T.get (d38.body.getD 18 .never) (gA p far ps qs L M z8 z11 z12 z13 (some (.tup (sp (mv far (firstC L (few L M)))))) (some (.tup (sp (mv far (firstC M (few L M)))))) (some (.lst (ts f)))) h = some (.ok (.rt (.v (.bl true))) h) := by
  have s1 := C.sl.first (few L M)
  have s2 := C.sm.first (few L M)
  obtain ⟨a, b, c⟩ := few_ok L M
  have len : size (mv far (firstC L (few L M))) = size (mv far (firstC M (few L M))) := by
    rw [size_mv, size_mv, s1.size, s2.size, firstC_cells C.sl.pos' a, firstC_cells C.sm.pos' a, List.length_take, List.length_take]
    omega
  obtain ⟨g, g1, g2, g3⟩ := s29 k _ _ h (s1.lotB C.far) (s2.lotB C.far) (by rw [mv_len]; have := s1.len; omega) (by rw [mv_len]; have := s2.len; omega) len
  have eg : g = mvT far f := Canon.uniq g2 (cf.mv far) (by rw [g3, ex_mv, zip_mv, ef])
  subst eg
  have lc := lcT (k + 8) (gA p far ps qs L M z8 z11 z12 z13 (some (.tup (sp (mv far (firstC L (few L M)))))) (some (.tup (sp (mv far (firstC M (few L M)))))) (some (.lst (ts f)))) h f far rfl rfl
  have l2 : (ts (mvT far f)).length ≤ lim := by rw [List.length_map, mvT, List.length_map, lim_val]; omega
  have eq1 : cmp .eq (.tup (ts (mvT far f))) (.tup (ts (mvT far f))) h = some true := by
    have d := dok_ts 58 (mvT far f)
    have e := eqD_ts (mvT far f) (mvT far f)
    simp only [ts] at d e ⊢
    simp [look, d, e]
  show exec _ _ (.ret (.cmp .eq (.call 29 [(.var 14), (.var 15)]) (.bi .tuple (.of (.lc e38_7 (.tup [(.slot 18), (.slot 19), (.slot 20)]) (.of (.var 16)) [] [18, 19, 20]))))) _ _ = _
  simp only [exec, eval, evals, items]
  simp only [gA] at lc ⊢
  simp only [List.getElem?_cons_zero, List.getElem?_cons_succ, bd_ok, R.frz_v, R.frz_newL, seqIt, lc, if_pos l2, g1, bi, ofO_some, cmpM, eq1, boolR]
end
theorem s38 (k : Nat) {h0 h : Heap} {p n : Nat} (hp : p < h0.length) (d : Dice h0 p n h) (hn : (n : Int) < 2 ^ 80) : ∃ h', callI T (k + 9) 38 [.loc p] h = some (.ok (.v (.bl true)) h') ∧ Dice h0 p (n + 100) h' := by
  obtain ⟨ps, h1, e1, dps, d1⟩ := s35 (k + 6) d (by omega)
  obtain ⟨qs, h2, e2, dqs, d2⟩ := s35 (k + 6) d1 (by omega)
  obtain ⟨far, h3, e3, hf, d3⟩ := s32 (k + 6) d2 (by omega) (l := [0, 10 ^ 60]) (by decide) (by decide)
  have hfar : Far far := by
    simp only [List.mem_cons, List.not_mem_nil, or_false] at hf
    rcases hf with rfl | rfl
    · exact ⟨by decide, by decide⟩
    · exact ⟨by decide, by decide⟩
  obtain ⟨L, M, J, C⟩ := ctx_of k hfar dps dqs
  obtain ⟨c, h4, e4, c0, c1, d4⟩ := rollOk (k + 7) h0 h3 p _ 65 d3 (by omega) (by decide) (by
    have : (65 : Int) < 2 ^ 9000 := by decide +kernel
    omega)
  obtain ⟨z, h5, e5, d5⟩ := x12 C d4 (by omega) (c := c)
  obtain ⟨m, h6, e6, m0, m1, d6⟩ := rollOk (k + 7) h0 h5 p _ ((cells L).length + 1) d5 (by omega) (by omega) (by
    have : (65 : Int) < 2 ^ 9000 := by decide +kernel
    have := C.sl.cells_len
    omega)
  obtain ⟨f, e7, f1, f2, f3⟩ := x17 C h6 p (z8 := some (.int c)) (z11 := z) (z12 := some (.int m)) (z13 := some (.int (few L M)))
  refine ⟨h6, ?_, d6.mono (by omega)⟩
  rw [call_of t38 rfl]
  show endI h (execs _ _ (d38.body.drop 0) (e0 p) h) = _
  rw [execs_at 0 (by decide) (x0 e1 e2), execs_at 1 (by decide) (x1 e3), execs_at 2 (by decide) (x2 C h3 p), execs_at 3 (by decide) (x3 C h3 p), execs_at 4 (by decide) (x4 C h3 p), execs_at 5 (by decide) (x5 C h3 p), execs_at 6 (by decide) (x6 C h3 p), execs_at 7 (by decide) (x7 C h3 p), execs_at 8 (by decide) (x8 C h3 p), execs_at 9 (by decide) (x9 C h3 p),
    execs_at 10 (by decide) (x10 e4), execs_at 11 (by decide) (x11 C h4 p c0 c1), execs_at 12 (by decide) e5, execs_at 13 (by decide) (x13 e6), execs_at 14 (by decide) (x14 C h6 p m0 (by omega)), execs_at 15 (by decide) (x15 h6 p), execs_at 16 (by decide) (x16 C h6 p), execs_at 17 (by decide) e7, execs_rt 18 (by decide) (x18 C h6 p f1 f2 f3), endI_rt,
    gc_v2 (d.oldOk d6) rfl rfl, d.take d6]
end K02

/-! The law. -/
namespace K02
open MP
/-! ### values near lots -/
def NoLot (d : D) : Prop := ∀ (k : Nat) (h : Heap), callI T (k + 5) 14 [d] h = some (.ok (.v (.bl false)) h)
theorem noLot_4 {d : D} (e : ∀ (k : Nat) (h : Heap), callI T (k + 4) 4 [d] h = some (.ok (.v (.bl false)) h)) : NoLot d := fun k h => by
  rw [call_of t14 rfl]
  simp [d14, e]
  exact gc_bl _ _
theorem no_non : NoLot .non := noLot_4 fun k h => by
  rw [call_of t4 rfl]
  simp [d4]
  exact gc_bl _ _
theorem no_int (i : Int) : NoLot (.int i) := noLot_4 fun k h => by
  rw [call_of t4 rfl]
  simp [d4]
  exact gc_bl _ _
theorem no_str (i : PySem.Str) : NoLot (.str i) := noLot_4 fun k h => by
  rw [call_of t4 rfl]
  simp [d4]
  exact gc_bl _ _
theorem no_lst (l : List D) : NoLot (.lst l) := noLot_4 fun k h => by
  rw [call_of t4 rfl]
  simp [d4]
  exact gc_bl _ _
theorem no_dic (a : List (Sum Int PySem.Str)) (b : List D) : NoLot (.dic a b) := noLot_4 fun k h => by
  rw [call_of t4 rfl]
  simp [d4]
  exact gc_bl _ _
-- a tuple whose one item is no span
def NoSp (d : D) : Prop := ∀ (k : Nat) (h : Heap), callI T (k + 3) 3 [d] h = some (.ok (.v (.bl false)) h)
theorem no_one {d : D} (e : NoSp d) : NoLot (.tup [d]) := noLot_4 fun k h => by
  rw [call_of t4 rfl]
  simp [d4, g1, lcGo, lcF, wipes, still_none, e4_1, e k, bi, bools]
  exact gc_bl _ _
theorem sp_int (i : Int) : NoSp (.int i) := fun k h => by
  rw [call_of t3 rfl]
  simp [d3]
  exact gc_bl _ _
theorem sp_len {l : List D} (hl : l.length ≠ 2) : NoSp (.tup l) := fun k h => by
  have : ((l.length : Nat) : Int) ≠ 2 := by omega
  rw [call_of t3 rfl]
  simp [d3, look, this]
  exact gc_bl _ _
theorem s1b (k : Nat) (b : Bool) (lo hi : D) (h : Heap) : callI T (k + 2) 1 [.bl b, lo, hi] h = some (.ok (.v (.bl false)) h) := by
  have a : callI T (k + 1) 0 [.bl b] h = some (.ok (.v (.bl false)) h) := by
    rw [call_of t0 rfl]
    simp [d0]
    exact gc_bl _ _
  rw [call_of t1 rfl]
  simp [d1, a]
  exact gc_bl _ _
theorem s1s (k : Nat) (b : PySem.Str) (lo hi : D) (h : Heap) : callI T (k + 2) 1 [.str b, lo, hi] h = some (.ok (.v (.bl false)) h) := by
  have a : callI T (k + 1) 0 [.str b] h = some (.ok (.v (.bl false)) h) := by
    rw [call_of t0 rfl]
    simp [d0]
    exact gc_bl _ _
  rw [call_of t1 rfl]
  simp [d1, a]
  exact gc_bl _ _
theorem sp_bl (b : Bool) (x : D) : NoSp (.tup [.bl b, x]) := fun k h => by
  rw [call_of t3 rfl]
  simp [d3, look, s1b, g0]
  exact gc_bl _ _
theorem sp_str (i : Int) (s : PySem.Str) : NoSp (.tup [.int i, .str s]) := fun k h => by
  rw [call_of t3 rfl]
  by_cases c : 0 ≤ i ∧ i ≤ MOST
  · simp [d3, look, s1s, s1, g0, c]
    exact gc_bl _ _
  · simp [d3, look, s1s, s1, g0, c]
    exact gc_bl _ _
theorem sp_bad (p : Int × Int) (hp : ¬ (0 ≤ p.1 ∧ 1 ≤ p.2 ∧ p.1 + p.2 ≤ MOST)) (h2 : p.2 ≤ MOST) (h1 : p.1 ≤ MOST) : NoSp (.tup [.int p.1, .int p.2]) := fun k h => by
  rw [call_of t3 rfl]
  by_cases c : 0 ≤ p.1
  · have c1 : 0 ≤ p.1 ∧ p.1 ≤ MOST := ⟨c, h1⟩
    by_cases e : 1 ≤ p.2
    · have e1 : 1 ≤ p.2 ∧ p.2 ≤ MOST := ⟨e, h2⟩
      have e2 : ¬ p.1 + p.2 ≤ MOST := fun z => hp ⟨c, e, z⟩
      simp [d3, look, s1, s2, g0, c1, e1, e2]
      exact gc_bl _ _
    · simp [d3, look, s1, s2, g0, c1, e]
      exact gc_bl _ _
  · simp [d3, look, s1, s2, g0, c]
    exact gc_bl _ _
theorem no_pair (p q : Int × Int) (hp : SpOk p) (hq : SpOk q) (hg : ¬ p.1 + p.2 < q.1) : NoLot (.tup [.tup [.int p.1, .int p.2], .tup [.int q.1, .int q.2]]) := fun k h => by
  have a := s4 k [p, q] h (by
    intro r hr
    simp only [List.mem_cons, List.not_mem_nil, or_false] at hr
    rcases hr with rfl | rfl
    · exact hp
    · exact hq) (by simp)
  simp only [sp, List.map_cons, List.map_nil, pairD] at a
  rw [call_of t14 rfl]
  simp [d14, a, lcGo, lcF, wipes, still_none, e14_1, s2, hg, bi, bools]
  exact gc_bl _ _
def odd1 : List D := [.non, .int 0, .lst [.tup [.int 0, .int 1]], .tup [.tup [.int 0, .int 0]], .tup [.tup [.int (-1), .int 2]], .tup [.tup [.int 0, .int 2], .tup [.int 2, .int 1]], .tup [.tup [.int 3, .int 1], .tup [.int 0, .int 1]], .tup [.tup [.int 0, .int 3], .tup [.int 2, .int 2]], .tup [.tup [.int 0]], .tup [.int 0, .int 1]]
def odd2 : List D := [.tup [.tup [.bl true, .int 1]], .tup [.tup [.int 0, .str (PySem.Str.ofString "1")]], .tup [.tup [.int (10 ^ 61), .int 1]], .tup [.tup [.int 0, .int 1], .tup [.int 0, .int 1]], .dic [] [], .str (PySem.Str.ofString "01"), .tup [.tup [.int 0, .int 1, .int 2]]]
theorem no_two {d : D} (l : List D) (e : NoSp d) (o : ∀ x ∈ l, NoSp x) : NoLot (.tup [.int 0, .int 1]) := noLot_4 fun k h => by
  have a := sp_int 0 k
  have b := sp_int 1 k
  rw [call_of t4 rfl]
  simp [d4, g1, lcGo, lcF, wipes, still_none, e4_1, a, b, bi, bools]
  exact gc_bl _ _
theorem odd_no : ∀ d ∈ odd1 ++ odd2, NoLot d := by
  have m := MOST_pos
  have m2 : MOST = 10 ^ 61 := rfl
  have ok : ∀ a b : Int, 0 ≤ a → 1 ≤ b → a + b ≤ 100 → SpOk (a, b) := fun a b h1 h2 h3 => ⟨h1, h2, by simp only; omega⟩
  intro d hd
  simp only [odd1, odd2, List.cons_append, List.nil_append, List.mem_cons, List.not_mem_nil, or_false] at hd
  rcases hd with rfl | rfl | rfl | rfl | rfl | rfl | rfl | rfl | rfl | rfl | rfl | rfl | rfl | rfl | rfl | rfl | rfl
  · exact no_non
  · exact no_int 0
  · exact no_lst _
  · exact no_one (sp_bad (0, 0) (by simp) (by simp only; omega) (by simp only; omega))
  · exact no_one (sp_bad (-1, 2) (by simp) (by simp only; omega) (by simp only; omega))
  · exact no_pair (0, 2) (2, 1) (ok _ _ (by decide) (by decide) (by decide)) (ok _ _ (by decide) (by decide) (by decide)) (by decide)
  · exact no_pair (3, 1) (0, 1) (ok _ _ (by decide) (by decide) (by decide)) (ok _ _ (by decide) (by decide) (by decide)) (by decide)
  · exact no_pair (0, 3) (2, 2) (ok _ _ (by decide) (by decide) (by decide)) (ok _ _ (by decide) (by decide) (by decide)) (by decide)
  · exact no_one (sp_len (by simp))
  · exact no_two [] (sp_int 0) (by simp)
  · exact no_one (sp_bl _ _)
  · exact no_one (sp_str _ _)
  · exact no_one (sp_bad (10 ^ 61, 1) (by rw [m2]; simp) (by simp only; omega) (by simp only; omega))
  · exact no_pair (0, 1) (0, 1) (ok _ _ (by decide) (by decide) (by decide)) (ok _ _ (by decide) (by decide) (by decide)) (by decide)
  · exact no_dic _ _
  · exact no_str _
  · exact no_one (sp_len (by simp))
/-! ### rounds -/
theorem turn_ok (k : Nat) {h0 : Heap} {p : Nat} (hp : p < h0.length) (x0 x1 x2 z0 z5 : Option D) (d : Dice h0 p 0 h0) :
    ∃ z h', forGo (rangeD 0 3, none) (forF (.slot 4) (execs (callI T (k + 9)) T.get b39_1)) (rangeD 0 3) [x0, x1, x2, some (.loc p), z0, z5] h0 = some (.ok (.nx [x0, x1, x2, some (.loc p), z, z5]) h') := by
  obtain ⟨g', h', e, ⟨z, rfl⟩, _⟩ := forGo_go (its := (rangeD 0 3, none)) (f := forF (.slot 4) (execs (callI T (k + 9)) T.get b39_1)) (g := [x0, x1, x2, some (.loc p), z0, z5]) (h := h0)
    (fun i g h => (∃ z, g = [x0, x1, x2, some (.loc p), z, z5]) ∧ Dice h0 p (100 * i) h) ⟨⟨z0, rfl⟩, d⟩ (by
      rintro i y g h hx ⟨⟨z, rfl⟩, d⟩
      obtain ⟨rfl, hi⟩ := range_at hx
      have hi3 : i < 3 := by simpa using hi
      obtain ⟨h1, e1, d1⟩ := s38 k hp d (by omega)
      exact ⟨[x0, x1, x2, some (.loc p), some (.int (0 + i)), z5], h1, by simp [forF, b39_1, e1], still_none _ _, ⟨_, rfl⟩, d1⟩)
  exact ⟨z, h', e⟩
theorem spots_ok (k : Nat) (ns : List Int) (m : Int) (hm : m ≤ 64) (x1 : Option D) :
    ∃ z2 z3 z4 h', forGo (rangeD 0 m, none) (forF (.slot 2) (execs (callI T (k + 9)) T.get b39_2)) (rangeD 0 m) [some (.scr (ns.map .int)), x1, none, none, none, none] [] = some (.ok (.nx [some (.scr (ns.map .int)), x1, z2, z3, z4, none]) h') := by
  obtain ⟨g', h', e, z2, z3, z4, rfl⟩ := forGo_go (its := (rangeD 0 m, none)) (f := forF (.slot 2) (execs (callI T (k + 9)) T.get b39_2)) (g := [some (.scr (ns.map .int)), x1, none, none, none, none]) (h := [])
    (fun i g h => ∃ z2 z3 z4, g = [some (.scr (ns.map .int)), x1, z2, z3, z4, none]) ⟨none, none, none, rfl⟩ (by
      rintro i y g h hx ⟨z2, z3, z4, rfl⟩
      obtain ⟨rfl, hi⟩ := range_at hx
      obtain ⟨a, b, e, a1, a2, b1, b2⟩ := s30 (k + 8) ns h i (by omega)
      have d0 : Dice (h ++ [.lst [.int a, .int b, .int 0]]) h.length 0 (h ++ [.lst [.int a, .int b, .int 0]]) := ⟨rfl, fun _ _ => rfl, a, b, 0, get_end _ _, a1, a2, b1, b2, by decide, by decide⟩
      obtain ⟨z, h', e2⟩ := turn_ok k (h0 := h ++ [.lst [.int a, .int b, .int 0]]) (by simp) (some (.scr (ns.map .int))) x1 (some (.int (0 + i))) z4 none d0
      refine ⟨[some (.scr (ns.map .int)), x1, some (.int (0 + i)), some (.loc h.length), z, none], h', ?_, still_none _ _, _, _, _, rfl⟩
      have S3 : small 3 = true := by decide
      have z0 : (0 : Int) + i = i := by omega
      rw [z0] at e2 ⊢
      simp [forF, b39_2, e, S3, e2])
  exact ⟨z2, z3, z4, h', e⟩
theorem val (ns : List Int) (hn : ns.length ≤ 63) : ∃ h', callI T 64 39 [.scr (ns.map .int)] [] = some (.ok (.v (.bl true)) h') := by
  obtain ⟨m, hm, hm2, em⟩ : ∃ m : Int, m ≤ 64 ∧ small m = true ∧ ∀ x1 : Option D, eval (callI T 63) T.get (.b2 .max (.c (.int 1)) (.b2 .min (.c (.int 6)) (.b1 .len (.var 0)))) [some (.scr (ns.map .int)), x1, none, none, none, none] [] = some (.ok (.v (.int m)) []) := by
    refine ⟨if (if (ns.length : Int) < 6 then (ns.length : Int) else 6) > 1 then (if (ns.length : Int) < 6 then (ns.length : Int) else 6) else 1, by split <;> split <;> omega, ?_, fun x1 => by simp⟩
    unfold small
    exact decide_eq_true (by split <;> split <;> omega)
  obtain ⟨z2, z3, z4, h', e⟩ := spots_ok 54 ns m hm (some (.lst (odd1 ++ odd2)))
  refine ⟨h'.take 0, ?_⟩
  have p1 : powOk 10 61 = true := by decide +kernel
  have x0 : exec (callI T 63) T.get (d39.body.getD 0 .never) [some (.scr (ns.map .int)), none, none, none, none, none] [] = some (.ok (.nx [some (.scr (ns.map .int)), some (.lst odd1), none, none, none, none]) []) := by
    simp [d39, odd1]
  have x1 : exec (callI T 63) T.get (d39.body.getD 1 .never) [some (.scr (ns.map .int)), some (.lst odd1), none, none, none, none] [] = some (.ok (.nx [some (.scr (ns.map .int)), some (.lst (odd1 ++ odd2)), none, none, none, none]) []) := by
    simp [d39, odd1, odd2, p1]
  have x2 : exec (callI T 63) T.get (d39.body.getD 2 .never) [some (.scr (ns.map .int)), some (.lst (odd1 ++ odd2)), none, none, none, none] [] = some (.ok (.nx [some (.scr (ns.map .int)), some (.lst (odd1 ++ odd2)), z2, z3, z4, none]) h') := by
    show exec _ _ (.for_ (.slot 2) (.range1 (.b2 .max (.c (.int 1)) (.b2 .min (.c (.int 6)) (.b1 .len (.var 0))))) b39_2) _ _ = _
    simp only [exec, items, em, bd_ok, R.frz_v, range1It, hm2, if_true]
    exact e
  have lc := lcGo_mapf (f := lcF (odd1 ++ odd2, none) (.slot 5) (wipes [some (.scr (ns.map .int)), some (.lst (odd1 ++ odd2)), z2, z3, z4, none] [5]) (tests (callI T 63) T.get [(.cmp .notN (.call 14 [(.var 5)]) (.c (.bl false)))]) (eval (callI T 63) T.get e39_3)) (h := h') id (fun _ => none) (odd1 ++ odd2) fun d hd => by
    have := odd_no d hd 58 h'
    simp [lcF, wipes, still_none, this]
  have x3 : exec (callI T 63) T.get (d39.body.getD 3 .never) [some (.scr (ns.map .int)), some (.lst (odd1 ++ odd2)), z2, z3, z4, none] h' = some (.ok (.nx [some (.scr (ns.map .int)), some (.lst (odd1 ++ odd2)), z2, z3, z4, none]) h') := by
    show exec _ _ (.if_ (.cmp .ne (.lc e39_3 (.slot 5) (.of (.var 1)) [(.cmp .notN (.call 14 [(.var 5)]) (.c (.bl false)))] [5]) (.lst [])) [.ret (.c (.bl false))] []) _ _ = _
    rw [List.map_id] at lc
    have fm : List.filterMap (fun _ => none) (odd1 ++ odd2) = ([] : List D) := by simp
    rw [fm] at lc
    simp only [exec, eval, items, List.getElem?_cons_zero, List.getElem?_cons_succ, bd_ok, R.frz_v, seqIt, lc, evals, lstM, List.length_nil, lim_val, Nat.zero_le, if_true, R.frz_newL]
    simp [look]
  have l0 : LotB [] := ⟨Lot.nil, by simp, by simp⟩
  have l1 : LotB [(10 ^ 61 - 1, 1)] := ⟨Lot.nil.snoc (show (0 : Int) < 1 by decide) (by simp), by
    intro p hp
    simp only [List.mem_cons, List.not_mem_nil, or_false] at hp
    subst hp
    exact ⟨by decide, by decide, by decide +kernel⟩, by simp⟩
  have q0 := s14 58 [] h' l0
  have q1 := s14 58 _ h' l1
  obtain ⟨f, q2, f1, f2⟩ := s29 55 [] [] h' l0 l0 (by simp) (by simp) rfl
  have f0 : f = [] := Canon.uniq f1 Canon.nil (by rw [f2]; rfl)
  subst f0
  simp only [sp, ts, List.map_cons, List.map_nil, pairD] at q0 q1 q2
  have x4 : exec (callI T 63) T.get (d39.body.getD 4 .never) [some (.scr (ns.map .int)), some (.lst (odd1 ++ odd2)), z2, z3, z4, none] h' = some (.ok (.rt (.v (.bl true))) h') := by
    simp at q1
    simp [d39, q0, q2, p1, q1, look]
  rw [call_of t39 rfl]
  show endI [] (execs _ _ (d39.body.drop 0) [some (.scr (ns.map .int)), none, none, none, none, none] []) = _
  rw [execs_at 0 (by decide) x0, execs_at 1 (by decide) x1, execs_at 2 (by decide) x2, execs_at 3 (by decide) x3, execs_rt 4 (by decide) x4, endI_rt, gc_v2 ⟨Nat.zero_le _, fun i hi => absurd hi (by simp)⟩ rfl rfl]
  rfl
end K02

theorem PySem.Challenge.cw_spanswaps_k02_whole_lots_of_cells_holds : PySem.Challenge.rw_spanswaps_k02_whole_lots_of_cells.Holds := by
  exact K02.holds K02.val
